import PyProof.Rows.All
import Wide.All
import OpenK.AllK
import Wide.FinOn
import HandS.ForMost
import HandS.IsInst
import HandS.Walk
import HandS.Style
import HandS.Wide
import HandS.StrMore
import HandS.TryOnly
import HandS.TryMany
import HandS.More
import HandS.Star
import HandS.Deep
import HandS.TupMul
import HandS.DictComp
import HandS.WordsDict
import PyProof.Rows.SetFrom
import HandS.ExcOwn
import KE.KExcSuper
import HandS.Zip
import KE.GoesEnum
import HandS.TupLen
import HandS.TupAny
import HandS.DictTup
import KE.KDictPairs
import KE.SortData
import HandS.Conv
import HandS.Defaults
import PySem.Challenge.RW_wireshell_k20_nodes_that_are_made_and_ta
set_option Elab.async false
set_option maxRecDepth 100000
set_option maxHeartbeats 4000000
set_option linter.all false
/-! ## The prelude: promises of defs under which no repr is under way, combined rules (one a construct, whatever the kinds), readings step by step -/
namespace Mine
open PySem PySem.Spec PyProof.Rows L2
set_option linter.all false
abbrev St := L2.St

/-! ### names of the top -/
/-- a constant of the top -/
def GK (mg : Str → Option Value) (x : Str) (v : V) : Prop := ∃ u, mg x = some u ∧ RelV v u
theorem pe_gk {X : Cx} {x : Str} {v : V} {pos : Pos} (hg : Gl X x) (h : GK X.mg x v) (hd : (x == ("__debug__" : Str)) = false := by decide) : PE X (.Name x pos) (tC v) := by
  obtain ⟨u, hm, r⟩ := h
  exact pe_glob hg hm r hd

/-! ### a def's promise where no repr is under way -/
/-- room for k calls, no repr under way -/
structure Rm (k : Nat) (A : Around) : Prop where
  r : Room k A
  g : A.guards = some []
theorem Rm.mono {j k : Nat} {A : Around} (h : Rm k A) (l : j ≤ k) : Rm j A := ⟨h.r.mono l, h.g⟩
theorem Rm.down {k : Nat} {A : Around} (h : Rm (k + 1) A) (env : Env) : Rm k (A.deeper env) := ⟨h.r.deeper env, h.g⟩
theorem Rm.hu {k : Nat} {A : Around} (h : Rm k A) : A.units + 1 < cLine := hu_of h.r
theorem Rm.u65 {k : Nat} {A : Around} (h : Rm k A) : A.units + 65 < cLine := by
  have := h.r.un
  omega
/-- the promise itself -/
def Keeps (P : Program) (w : World) (K : PySem.W.Frag) (mg : Str → Option Value) (base : Heap) (CX : CXT) (k : Nat) (f : Addr) (fd : FuncData) (ps : List Str) (sp : Sp) : Prop :=
  (∀ vs H Q E, sp vs H Q E → vs.length = ps.length) ∧
  ∀ (A : Around) (outer : List Env) (s : Shared) (H : Hp) (args : Args) (us : List Value) (vs : List V) (Q : VK) (E : XK),
    Rm k A → Env0 P w K mg base A outer s H → BindsTo s fd args (ps.zip us) → Vals vs us → sp vs H Q E →
      codeAny (model P w) A (.call (.ref f) args) (CR CX outer P w H s Q E) s
/-- a def of the text keeps it, if its body's reading holds at each entry -/
theorem keeps_core {CX : CXT} {P : Program} {w : World} {K : PySem.W.Frag} {mg : Str → Option Value} {base : Heap} {k : Nat} {x qual : Str} {st : Stmt} {f : Addr} {oc dV kV doc pm cdv ct : Value} {od an : Option Addr} {osl : Array (Option Value)} {N ps : List Str} {sp : Sp}
    (lk : K.lookup f = some ⟨oc, od, .func (PySem.W.fnOf x qual (defArgs st) (defBody st) (defScope st) dV kV doc pm an cdv ct), osl⟩) (hcd : PySem.W.codeIn K cdv qual = true) (S : FnScope N ps (defScope st)) (len : ∀ vs H Q E, sp vs H Q E → vs.length = ps.length)
    (body : ∀ (cdv : Value) (A : Around) (outer : List Env) (s : Shared) (H : Hp) (vs : List V) (Q : VK) (E : XK), Rm k (A.deeper (envOfC qual (defScope st) s.heap.objs.size f cdv)) → sp vs H Q E →
      ∃ t, PSs (cxOf CX P w K mg base N qual (defScope st) f cdv A outer s H E) (defBody st) t ∧ t { nx := fun _ H' => Q .non H', rt := Q } (start N vs) H) :
    Keeps P w K mg base CX (k + 1) f (PySem.W.fnOf x qual (defArgs st) (defBody st) (defScope st) dV kV doc pm an cdv ct) ps sp := by
  refine And.intro len ?_
  intro A outer s H args us vs Q E hr e0 hb rv hsp
  have kp : ∀ b o, base.get? b = some o → s.heap.get? b = some o := fun b o e => (e0.bs b o e).1
  have inK : K.In s.heap := PySem.W.Frag.In.keeps e0.mod.kin kp
  have kinds : ∀ q ∈ ps.zip us, (defScope st).names.lookup q.1 = some .local ∨
      ((defScope st).names.lookup q.1 = some .cell ∧ ((cellsFrom (s.heap.objs.size + 1) (defScope st).names []).lookup q.1).isSome = true) := by
    intro q hq
    have hmem := (List.of_mem_zip (show (q.1, q.2) ∈ ps.zip us from hq)).1
    cases S.par q.1 hmem with
    | inl h => exact Or.inl h
    | inr h => exact Or.inr ⟨h, PySem.W.cellsFrom_some _ _ _ (Or.inl h)⟩
  refine codeAny_call_function hr.r.depth (inK _ _ lk) rfl S.co S.gen rfl (PySem.W.codeRec_of inK hcd) ?_
  refine hb _ _ _ _ ?_
  refine wpAny_newFunctionEnv_cells S.kind kinds ?_
  rintro env rfl s1 x1
  refine And.intro (Heap.NoLimit.keeps e0.mod.nolimit fun b o e => x1.toInCall.keep b o (kp b o e)) ?_
  refine codeAny_func ?_
  obtain ⟨t, pt, red⟩ := body cdv A outer s H vs Q E (hr.down _) hsp
  have I0 := inv_start (CX := CX) (E := E) (K := K) (mg := mg) S hr.r.hd e0 (len vs H Q E hsp) rv x1
  refine wpAny_mono (pt.run [] s1 _ H _ I0 red) ?_ (fun _ _ h => h)
  intro fl s2 hfl
  cases fl with
  | ret u =>
    obtain ⟨v, σ2, H2, J, r2, q2⟩ := hfl
    exact ⟨v, H2, J.os, J.bare, J.base, J.hok, r2, q2⟩
  | next =>
    obtain ⟨σ2, H2, J, q2⟩ := hfl
    exact ⟨V.non, H2, J.os, J.bare, J.base, J.hok, rfl, q2⟩
  | brk =>
    obtain ⟨σ2, H2, J, q2⟩ := hfl
    exact False.elim q2
  | cont =>
    obtain ⟨σ2, H2, J, q2⟩ := hfl
    exact False.elim q2

/-- a def of the text keeps it, if its body's reading holds at each entry -/
theorem keeps_of {CX : CXT} {P : Program} {w : World} {K : PySem.W.Frag} {mg : Str → Option Value} {base : Heap} {k : Nat} {x qual : Str} {st : Stmt} {f : Addr} {fd : FuncData} {N ps : List Str} {sp : Sp}
    (F : Fun K x qual st f fd) (S : FnScope N ps (defScope st)) (len : ∀ vs H Q E, sp vs H Q E → vs.length = ps.length)
    (body : ∀ (cdv : Value) (A : Around) (outer : List Env) (s : Shared) (H : Hp) (vs : List V) (Q : VK) (E : XK), Rm k (A.deeper (envOfC qual (defScope st) s.heap.objs.size f cdv)) → sp vs H Q E →
      ∃ t, PSs (cxOf CX P w K mg base N qual (defScope st) f cdv A outer s H E) (defBody st) t ∧ t { nx := fun _ H' => Q .non H', rt := Q } (start N vs) H) :
    Keeps P w K mg base CX (k + 1) f fd ps sp := by
  obtain ⟨_, _, kV, doc, pm, an, cdv, ct, _, rfl, lk, hcd⟩ := F.ex
  exact keeps_core lk hcd S len body

/-- where nothing that is raised leaves it -/
theorem keeps0_of {P : Program} {w : World} {K : PySem.W.Frag} {mg : Str → Option Value} {base : Heap} {k : Nat} {x qual : Str} {st : Stmt} {f : Addr} {fd : FuncData} {N ps : List Str} {sp : Sp}
    (F : Fun K x qual st f fd) (S : FnScope N ps (defScope st)) (len : ∀ vs H Q E, sp vs H Q E → vs.length = ps.length)
    (body : ∀ (cdv : Value) (A : Around) (outer : List Env) (s : Shared) (H : Hp) (vs : List V) (Q : VK) (E : XK), Rm k (A.deeper (envOfC qual (defScope st) s.heap.objs.size f cdv)) → sp vs H Q E →
      ∃ t, PSs (cxOf CX0 P w K mg base N qual (defScope st) f cdv A outer s H E).nox (defBody st) t ∧ t { nx := fun _ H' => Q .non H', rt := Q } (start N vs) H) :
    Keeps P w K mg base CX0 (k + 1) f fd ps sp := by
  refine keeps_of F S len ?_
  intro cdv A outer s H vs Q E hr hsp
  obtain ⟨t, h1, h2⟩ := body cdv A outer s H vs Q E hr hsp
  exact ⟨t, h1.nox, h2⟩

/-! ### defs of the top, by name -/
/-- a def of the top -/
def DefAt (K : PySem.W.Frag) (mg : Str → Option Value) (x : Str) (ps : List Str) (st : Stmt) : Prop :=
  ∃ (f : Addr) (fd : FuncData), Fun K x x st f fd ∧ mg x = some (.ref f) ∧ Binds K fd ps [] ∧ ∀ (s : Shared) (us : List Value), us.length = ps.length → BindsTo s fd ⟨us, []⟩ (ps.zip us)
theorem DefAt.mk {K : PySem.W.Frag} {mg : Str → Option Value} {x : Str} {ps : List Str} {st : Stmt} {f : Addr} {oc : Value} {od an : Option Addr} {osl : Array (Option Value)} {kV doc pm cdv ct : Value}
    (l : K.lookup f = some ⟨oc, od, .func (PySem.W.fnOf x x (defArgs st) (defBody st) (defScope st) .none kV doc pm an cdv ct), osl⟩) (c : PySem.W.codeIn K cdv x = true) (k : PySem.W.keepIn K (.ref f) = true) (hm : mg x = some (.ref f))
    (b : ∀ (kV doc pm : Value) (an : Option Addr) (cdv ct : Value) (us : List Value), us.length = ps.length → bindArgs (PySem.W.fnOf x x (defArgs st) (defBody st) (defScope st) .none kV doc pm an cdv ct) ⟨us, []⟩ = pure (ps.zip us)) : DefAt K mg x ps st := by
  have F := fun_mk (st := st) l c k
  exact ⟨f, _, F, hm, F.binds b, fun s us hl => .of_eq (b _ _ _ _ _ _ us hl)⟩
/-- a def of the top that keeps a promise -/
def Cal (P : Program) (w : World) (K : PySem.W.Frag) (mg : Str → Option Value) (base : Heap) (CX : CXT) (k : Nat) (x : Str) (st : Stmt) (ps : List Str) (sp : Sp) : Prop :=
  ∃ (f : Addr) (fd : FuncData), Fun K x x st f fd ∧ mg x = some (.ref f) ∧ Binds K fd ps [] ∧ Keeps P w K mg base CX k f fd ps sp
theorem cal {P : Program} {w : World} {K : PySem.W.Frag} {mg : Str → Option Value} {base : Heap} {CX : CXT} {k : Nat} {x : Str} {st : Stmt} {ps : List Str} {sp : Sp} (D : DefAt K mg x ps st)
    (h : ∀ {f : Addr} {fd : FuncData}, Fun K x x st f fd → Keeps P w K mg base CX k f fd ps sp) : Cal P w K mg base CX k x st ps sp := by
  obtain ⟨f, fd, F, hm, B, _⟩ := D
  exact ⟨f, fd, F, hm, B, h F⟩
section
variable {X : Cx} {CX : CXT} {k : Nat} {ps : List Str} {sp : Sp} {E : XK} {x : Str} {st : Stmt} {p pos : Pos} {e : Expr} {es : List Expr} {t tk : TA} {kws : List Keyword}
/-- the callee runs, whatever way its arguments were bound -/
theorem run_keeps {pins : List (Addr × Obj)} {σ : St} {H : Hp} {s : Shared} {Q : VK} {args : List Value} {kwargs : List (Str × Value)} {us : List Value} {vs : List V} {f : Addr} {fd : FuncData} (O : Keeps X.prog X.w X.K X.mg X.base CX k f fd ps sp)
    (hr : Rm k X.A) (hx : Passes CX X E) (I : Inv X pins σ H s) (b : BindsTo s fd ⟨args, kwargs⟩ (ps.zip us)) (r : Vals vs us) (h : sp vs H Q E) :
    wpAny (model X.prog X.w) X.A (call (.ref f) args kwargs) (EP X pins σ Q) X.xe s := by
  have run := O.2 X.A X.stack s H ⟨args, kwargs⟩ us vs Q E hr I.env0 b r h
  refine wpAny_call (codeAny_mono run ?_)
  intro res s2 hres
  match res, hres with
  | .error e, hres => exact hx pins σ H s e s2 I hres
  | .ok (.ret u), hres => exact I.after hres
theorem pe_cal (C : Cal X.prog X.w X.K X.mg X.base CX k x st ps sp) (hr : Rm k X.A) (hg : Gl X x) (hx : Passes CX X E) (ha : PA X (e :: es) t)
    (hdb : (x == ("__debug__" : Str)) = false := by decide) (he : starEach (e :: es) X.env = (false, eval e X.env) :: starEach es X.env := by rfl) (hpl : (backTo pos (starEach es X.env)).any (·.1) = false := by rfl) :
    PE X (.Call (.Name x p) (e :: es) [] pos) (tCall sp [] E t) := by
  obtain ⟨f, fd, F, hm, B, O⟩ := C
  constructor
  intro pins s σ H Q I h
  refine wpAny_Call_Name_kw (ld_glob I hg hm ?_ hdb)
  refine PySem.W.callWith_K (h₀ := X.base) I.ok.mod.kin F.kp (thn (ha.run pos pins s σ H _ I h) ?_) he hpl
  rintro us s1 ⟨vs, H1, I1, r, q⟩
  refine And.intro I1.kIn ?_
  have q' : sp vs H1 Q E := by
    have q0 : sp (vs ++ []) H1 Q E := q
    rwa [List.append_nil] at q0
  have hl : (us ++ []).length = ps.length := by
    rw [List.append_nil, ← Vals.length r]
    exact O.1 _ _ _ _ q'
  have b := B s1 us I1.kIn hl
  rw [List.append_nil] at b
  exact run_keeps O hr hx I1 b r q'
theorem pe_cal0 (C : Cal X.prog X.w X.K X.mg X.base CX k x st ps sp) (hr : Rm k X.A) (hg : Gl X x) (hx : Passes CX X E)
    (hdb : (x == ("__debug__" : Str)) = false := by decide) : PE X (.Call (.Name x p) [] [] pos) (tCall sp [] E tNil) := by
  obtain ⟨f, fd, F, hm, B, O⟩ := C
  constructor
  intro pins s σ H Q I h
  have q' : sp [] H Q E := h
  refine wpAny_Call_Name_kw (ld_glob I hg hm ?_ hdb)
  have b := B s [] I.kIn (show ([] ++ [] : List Value).length = ps.length from O.1 _ _ _ _ q')
  exact PySem.W.callWith_K0 I.kIn F.kp (run_keeps (us := []) O hr hx I b .nil q')
/-- positional values, then the keywords' values by their places -/
def gK {α : Type} (pm : List Nat) (us ws : List α) : List α := us ++ pm.filterMap fun i => ws[i]?
theorem gK_rel {pm : List Nat} {vs : List V} {us : List Value} {zs : List V} {ws : List Value} (r : Vals vs us) (q : Vals zs ws) : Vals (gK pm vs zs) (gK pm us ws) := by
  unfold gK
  refine Vals.append r ?_
  induction pm with
  | nil => exact .nil
  | cons i pm ih =>
    rw [List.filterMap_cons, List.filterMap_cons]
    cases e : zs[i]? with
    | none => rw [Vals.none_of q e]; exact ih
    | some z =>
      obtain ⟨u, e1, e2⟩ := Vals.get q e
      rw [e1]
      exact .cons e2 ih
def KwOk (x : Str) (st : Stmt) (ps : List Str) (n : Nat) (ks : List Str) (pm : List Nat) : Prop :=
  ∀ (kV doc pmv : Value) (an : Option Addr) (cdv ct : Value) (us ws : List Value), us.length = n → ws.length = ks.length →
    bindArgs (PySem.W.fnOf x x (defArgs st) (defBody st) (defScope st) .none kV doc pmv an cdv ct) ⟨us, ks.zip ws⟩ = pure (ps.zip (gK pm us ws))
def tCalK (n m : Nat) (pm : List Nat) (sp : Sp) (E : XK) (t tk : TA) : TE := fun σ H Q => t σ H fun vs H1 => tk σ H1 fun zs H2 => vs.length = n ∧ zs.length = m ∧ sp (gK pm vs zs) H2 Q E
theorem kw_binds {K : PySem.W.Frag} {f : Addr} {fd : FuncData} {n : Nat} {ks : List Str} {pm : List Nat} (F : Fun K x x st f fd) (hb : KwOk x st ps n ks pm) (s : Shared) {us ws : List Value} (h1 : us.length = n) (h2 : ws.length = ks.length) :
    BindsTo s fd ⟨us, ks.zip ws⟩ (ps.zip (gK pm us ws)) := by
  obtain ⟨_, _, kV, doc, pmv, an, cdv, ct, _, rfl, _, _⟩ := F.ex
  exact .of_eq (hb kV doc pmv an cdv ct us ws h1 h2)
theorem pe_calK {n : Nat} {ks : List Str} {pm : List Nat} (C : Cal X.prog X.w X.K X.mg X.base CX k x st ps sp) (hr : Rm k X.A) (hg : Gl X x) (hb : KwOk x st ps n ks pm) (hx : Passes CX X E)
    (ha : PA X (e :: es) t) (hkw : PK X kws tk) (hall : (backToKw pos (keywordEach kws X.env)).all (·.1.isSome) = true := by rfl) (hks : (backToKw pos (keywordEach kws X.env)).filterMap (·.1) = ks := by rfl)
    (hdb : (x == ("__debug__" : Str)) = false := by decide) (he : starEach (e :: es) X.env = (false, eval e X.env) :: starEach es X.env := by rfl)
    (hpl : ((backTo pos (starEach (e :: es) X.env)).any (·.1) || (backToKw pos (keywordEach kws X.env)).any (·.1.isNone)) = false := by rfl) :
    PE X (.Call (.Name x p) (e :: es) kws pos) (tCalK n ks.length pm sp E t tk) := by
  obtain ⟨f, fd, F, hm, B, O⟩ := C
  constructor
  intro pins s σ H Q I h
  refine wpAny_Call_Name_kw (ld_glob I hg hm ?_ hdb)
  refine PySem.W.callWith_KW (h₀ := X.base) I.ok.mod.kin F.kp hall (thn (ha.run pos pins s σ H _ I h) ?_) hpl he
  rintro us s1 ⟨vs, H1, I1, r, q⟩
  refine thn (hkw.run pos pins s1 σ H1 _ I1 q) ?_
  rintro ws s2 ⟨zs, H2, I2, rz, l1, l2, q2⟩
  refine And.intro I2.kIn ?_
  rw [hks]
  exact run_keeps O hr hx I2 (kw_binds F hb s2 (by have := Vals.length r; simpa [this] using l1) (by rw [← Vals.length rz]; exact l2)) (gK_rel r rz) q2
theorem pe_calK0 {ks : List Str} {pm : List Nat} (C : Cal X.prog X.w X.K X.mg X.base CX k x st ps sp) (hr : Rm k X.A) (hg : Gl X x) (hb : KwOk x st ps 0 ks pm) (hx : Passes CX X E)
    (hkw : PK X kws tk) (hall : (backToKw pos (keywordEach kws X.env)).all (·.1.isSome) = true := by rfl) (hks : (backToKw pos (keywordEach kws X.env)).filterMap (·.1) = ks := by rfl)
    (hdb : (x == ("__debug__" : Str)) = false := by decide)
    (hpl : ((backTo pos (starEach [] X.env)).any (·.1) || (backToKw pos (keywordEach kws X.env)).any (·.1.isNone)) = false := by rfl) :
    PE X (.Call (.Name x p) [] kws pos) (tCalK 0 ks.length pm sp E tNil tk) := by
  obtain ⟨f, fd, F, hm, B, O⟩ := C
  constructor
  intro pins s σ H Q I h
  refine wpAny_Call_Name_kw (ld_glob I hg hm ?_ hdb)
  refine PySem.W.callWith_KW0 (h₀ := X.base) I.ok.mod.kin F.kp hall ?_ hpl
  have h' : tk σ H fun zs H2 => ([] : List V).length = 0 ∧ zs.length = ks.length ∧ sp (gK pm [] zs) H2 Q E := h
  refine thn (hkw.run pos pins s σ H _ I h') ?_
  rintro ws s2 ⟨zs, H2, I2, rz, l1, l2, q2⟩
  refine And.intro I2.kIn ?_
  rw [hks]
  exact run_keeps (us := gK pm [] ws) O hr hx I2 (kw_binds F hb s2 (us := []) rfl (by rw [← Vals.length rz]; exact l2)) (gK_rel .nil rz) q2
end
/-! ### ways that meet again: what follows is shown once -/
def tMeet (t u : TS) : TS := fun D σ H => ∃ M : St → Hp → Prop, t { D with nx := M } σ H ∧ ∀ σ' H', M σ' H' → u D σ' H'
theorem pss_meet {X : Cx} {st : Stmt} {rest : List Stmt} {t u : TS} (h1 : PS X st t) (h2 : PSs X rest u) : PSs X (st :: rest) (tMeet t u) := by
  constructor
  rintro pins s σ H D I ⟨M, hM, hu⟩
  have first := h1.run pins s σ H { D with nx := M } I hM
  refine wpAny_execs_cons (thn first ?_)
  intro f s1 q
  match f, q with
  | .next, ⟨σ', H', I', q⟩ => exact h2.run pins s1 σ' H' D I' (hu σ' H' q)
  | .ret v, q => exact q
  | .brk, q => exact q
  | .cont, q => exact q
/-! ### promises by the number of parameters -/
abbrev sp1 (Φ : V → Hp → VK → Prop) : Sp := fun vs H Q _ => ∃ a, vs = [a] ∧ Φ a H Q
abbrev sp2 (Φ : V → V → Hp → VK → Prop) : Sp := fun vs H Q _ => ∃ a b, vs = [a, b] ∧ Φ a b H Q
abbrev sp3 (Φ : V → V → V → Hp → VK → Prop) : Sp := fun vs H Q _ => ∃ a b c, vs = [a, b, c] ∧ Φ a b c H Q
abbrev sp4 (Φ : V → V → V → V → Hp → VK → Prop) : Sp := fun vs H Q _ => ∃ a b c d, vs = [a, b, c, d] ∧ Φ a b c d H Q
abbrev sp5 (Φ : V → V → V → V → V → Hp → VK → Prop) : Sp := fun vs H Q _ => ∃ a b c d e, vs = [a, b, c, d, e] ∧ Φ a b c d e H Q
abbrev sp6 (Φ : V → V → V → V → V → V → Hp → VK → Prop) : Sp := fun vs H Q _ => ∃ a b c d e f, vs = [a, b, c, d, e, f] ∧ Φ a b c d e f H Q

/-! ### the law's call -/
theorem law_keeps {P : Program} {w : World} {K : PySem.W.Frag} {mg mb : Str → Option Value} {k : Nat} {fa a : Addr} {fd : FuncData} {x : Str} {sp : Sp} {s₁ : Shared} {vs : List Value} {ns : List Int}
    (kin : K.In s₁.heap) (gns : s₁.heap.Ns mainGlobals mg) (bns : s₁.heap.Ns builtinsNs mb) (bb : ∀ x : Str, x ≠ "__name__" → mb x = bootBuiltins x) (nl : s₁.heap.NoLimit) (ng : s₁.gens = #[])
    (obj : s₁.heap.get? a = some { cls := .type "list", data := .seq vs.toArray }) (his : IntsAre vs ns) (short : ns.length ≤ sizeLine) (room : Room k callerA)
    (F : ∀ base : Heap, K.In base → base.Ns mainGlobals mg → Keeps P w K mg base CX0 k fa fd [x] sp) (bind : ∀ (s : Shared) (u : Value), BindsTo s fd ⟨[u], []⟩ [(x, u)])
    (hsp : ∀ H : Hp, SqL K H a (ns.map V.int) → sp [.ref a] H (fun v _ => v = .bl true) fun _ _ _ => False) :
    codeAny (model P w) callerA (.call (.ref fa) ⟨[.ref a], []⟩) (fun r s' => r = .ok (.ret (.bool true)) ∧ OldK s₁.heap s'.heap ∧ s'.os = s₁.os ∧ AllBare s'.gens) s₁ := by
  have rv := vals_ints his
  have hlen := his.length
  let o₁ : Obj := { cls := .type "list", data := .seq vs.toArray }
  let H₁ : Hp := fun b => if b = a ∧ K.lookup a = none then some (.frz o₁ (.lst (ns.map V.int))) else none
  have hit : ∀ {b u}, H₁ b = some u → (b = a ∧ K.lookup a = none) ∧ u = .frz o₁ (.lst (ns.map V.int)) := by
    intro b u e
    by_cases c : b = a ∧ K.lookup a = none
    · rw [show H₁ b = _ from if_pos c] at e
      exact ⟨c, (Option.some.inj e).symm⟩
    · rw [show H₁ b = _ from if_neg c] at e
      cases e
  have seq : SqL K H₁ a (ns.map V.int) := by
    cases lk : K.lookup a with
    | none => exact Or.inl (Or.inr ⟨o₁, if_pos ⟨rfl, lk⟩⟩)
    | some o =>
      have e := (kin a o lk).symm.trans obj
      cases Option.some.inj e
      exact Or.inr ⟨_, vs.toArray, _, lk, rfl, rfl, rfl, (by rw [List.size_toArray, hlen]; exact short), (by simpa using rv)⟩
  have hok : HOk P w H₁ s₁.heap := by
    intro b u e
    obtain ⟨⟨rfl, _⟩, rfl⟩ := hit e
    exact ⟨obj, (by rw [List.length_map]; exact short), vs, _, rv, obj⟩
  have hid : ∀ {b o}, s₁.heap.get? b = some o → H₁ b = none → (hidT s₁.heap H₁).get? b = some o := fun e n => hidT_get e n
  have free : ∀ {b o es ep}, s₁.heap.get? b = some o → o.data = .dict es ep → H₁ b = none := by
    intro b o es ep e d
    cases q : H₁ b with
    | none => rfl
    | some u =>
      obtain ⟨⟨rfl, _⟩, _⟩ := hit q
      rw [obj] at e
      cases e
      cases d
  have nsOf : ∀ {b : Addr} {m : Str → Option Value}, s₁.heap.Ns b m → (hidT s₁.heap H₁).Ns b m := by
    rintro b m ⟨o, es, ep, e, d, r⟩
    exact ⟨o, es, ep, hid e (free e d), d, r⟩
  have kb : K.In (hidT s₁.heap H₁) := by
    intro b o e
    refine hid (kin b o e) ?_
    cases q : H₁ b with
    | none => rfl
    | some u =>
      obtain ⟨⟨rfl, n⟩, _⟩ := hit q
      rw [n] at e
      cases e
  have md : Mod K mg (hidT s₁.heap H₁) := by
    obtain ⟨mc, l1, l2⟩ := nl
    exact ⟨kb, nsOf gns, ⟨mb, nsOf bns, bb⟩, ⟨mc, nsOf l1, l2⟩⟩
  have e0 : Env0 P w K mg (hidT s₁.heap H₁) callerA [] s₁ H₁ :=
    ⟨rfl, md, fun _ _ e => of_hidT e, Nat.le_of_eq (hidT_size _ _), trivial, fun b hb => absurd (show b ∈ ([] : List Addr) from hb) List.not_mem_nil, hok, .of_eq ng⟩
  have run := (F _ kb (nsOf gns)).2 callerA [] s₁ H₁ ⟨[.ref a], []⟩ [.ref a] [.ref a] _ _ ⟨room, rfl⟩ e0 (bind s₁ (.ref a)) (.cons rfl .nil) (hsp H₁ seq)
  refine codeAny_mono run ?_
  intro res s2 hres
  match res, hres with
  | .error e, hres => exact hres.elim
  | .ok (.ret u), hres =>
    obtain ⟨v, H2, os, bare, un, hok2, rr, q⟩ := hres
    cases (show v = .bl true from q)
    cases (show u = Value.bool true from rr)
    refine ⟨rfl, OldK.of_keep ?_, os, bare⟩
    intro b o e
    cases q2 : H₁ b with
    | none => exact un.keep b o e q2 (fun z => absurd (show b ∈ ([] : List Addr) from z) List.not_mem_nil) List.not_mem_nil
    | some z =>
      have z2 := (hit q2).2
      subst z2
      have e1 := (hok b _ q2).1
      have e2 := (hok2 b _ (un.frzs b _ _ q2)).1
      rw [e] at e1
      cases Option.some.inj e1
      exact e2
/-- the goal that the head leaves, from the law's promise -/
theorem walk_keeps {l : PySem.W.OpenLaw} {n k : Nat} {q : Program} {loose : List Str} {XP : (Str → Option Value) → Heap → Prop} {YP : World → Heap → Prop} {d : DefRec} {K : Params → PySem.W.Frag} {sp : World → Sp} {x : Str}
    (hn : l.most = some n) (hn2 : n ≤ sizeLine) (hdf : d.params.defaults = []) (hr : Room k callerA) (hY : ∀ (w : World) (h : Heap), YP w h → (K w.params).In h)
    (F : ∀ (w : World) (mg : Str → Option Value) (fa : Addr) (h : Heap), (K w.params).In h → h.Ns mainGlobals mg → mg d.name = some (.ref fa) →
      ∃ fd : FuncData, (∀ (s : Shared) (u : Value), BindsTo s fd ⟨[u], []⟩ [(x, u)]) ∧ ∀ base : Heap, (K w.params).In base → base.Ns mainGlobals mg → Keeps l.prog w (K w.params) mg base CX0 k fa fd [x] (sp w))
    (hsp : ∀ (w : World) (H : Hp) (a : Addr) (ns : List Int), ns.length ≤ n → SqL (K w.params) H a (ns.map V.int) → sp w [.ref a] H (fun v _ => v = .bl true) fun _ _ _ => False) :
    PySem.W.WalkO q loose XP YP l.row.toRowW d [] (fun f vs => PySem.call f vs) := by
  refine Att.attach_call hn hdf ?_
  intro w s₀ s₁ mg mb fa o pm cd doc a vs ns G Y _ _ _ hmg obj his hl ng
  obtain ⟨fd, hb, hF⟩ := F w mg fa _ (hY w _ Y) G.T.g hmg
  exact law_keeps (hY w _ Y) G.T.g G.T.b G.T.builtins G.T.nolimit ng obj his (Nat.le_trans hl hn2) hr hF hb fun H hS => hsp w H a ns hl hS
end Mine

/-! ## Operators whatever the kinds -/
namespace Mine
open PySem PySem.Spec PyProof.Rows L2
set_option linter.all false
section
variable {X : Cx}
/-- lists put together, each whichever stands -/
def rCatS (K : PySem.W.Frag) : R2 := fun x y H Q => ∃ l b xs zs, x = .ref l ∧ y = .ref b ∧ SqL K H l xs ∧ SqL K H b zs ∧ xs.length + zs.length ≤ sizeLine ∧ ∀ p, H p = none → Q (.ref p) (upd H p (.lst (xs ++ zs)))
theorem op_catS : OpR X (binaryOp .Add) (rCatS X.K) := by
  intro pins s σ H x y v u Q I rx ry h
  obtain ⟨l, b, xs, zs, rfl, rfl, h1, h2, hz, q⟩ := h
  cases rx
  cases ry
  obtain ⟨its, r, p, _⟩ := I.list h1
  obtain ⟨its2, r2, p2, _⟩ := I.list h2
  obtain ⟨⟨cls, dd, data, sl⟩, ho, hc, n, hd⟩ := p.isList
  obtain ⟨⟨cls2, dd2, data2, sl2⟩, ho2, hc2, n2, hd2⟩ := p2.isList
  simp only at hc hd hc2 hd2
  subst hc hd hc2 hd2
  have lx := r.length
  have ly := r2.length
  have hs : its.toArray.size + its2.toArray.size ≤ sizeLine := by rw [List.size_toArray, List.size_toArray]; omega
  have e : its.toArray ++ its2.toArray = (its ++ its2).toArray := by simp
  refine concat_meets ⟨_, ho, rfl⟩ ⟨_, ho2, rfl⟩ noFill_list_add seq_list_add PySem.F.slot_list_add PySem.F.entry_list_add (PySem.F.args_list_add_2 _ _) (list_addW l b its.toArray its2.toArray n n2 dd dd2 sl sl2 hs) ⟨ho, ho2, ?_⟩
  rw [e]
  exact ⟨.ref _, _, I.lnew (t' := s.toks) (r.append r2) (by rw [List.length_append]; omega), rfl, q _ I.fresh⟩
def xAdd (K : PySem.W.Frag) : R2 := fun x y H Q => match x, y with
  | .int i, .int j => Q (.int (i + j)) H
  | .str a, .str b => a.length + b.length ≤ sizeLine ∧ Q (.str (a ++ b)) H
  | .ref a, .ref b => rCatS K (.ref a) (.ref b) H Q ∨ rCatA K (.ref a) (.ref b) H Q
  | _, _ => False
theorem oAdd₀ : OpR X (binaryOp .Add) (xAdd X.K) := by
  intro pins s σ H x y v u Q I rx ry h
  cases x <;> cases y <;> first
    | exact False.elim h
    | exact op_add pins s σ H _ _ v u Q I rx ry ⟨_, _, rfl, rfl, h⟩
    | exact op_add_str pins s σ H _ _ v u Q I rx ry ⟨_, _, rfl, rfl, h⟩
    | exact (OpR.or op_catS op_catA) pins s σ H _ _ v u Q I rx ry h
def xSub : R2 := fun x y H Q => match x, y with
  | .int i, .int j => Q (.int (i - j)) H
  | _, _ => False
theorem oSub : OpR X (binaryOp .Sub) xSub := by
  intro pins s σ H x y v u Q I rx ry h
  cases x <;> cases y <;> first
    | exact False.elim h
    | exact op_sub pins s σ H _ _ v u Q I rx ry ⟨_, _, rfl, rfl, h⟩
theorem mulI : OpR X (binaryOp .Mult) (rI IntMulOk fun i j => .int (i * j)) := opI fun _ _ _ _ _ _ _ hc q => mul_int q hc
theorem mulS : OpR X (binaryOp .Mult) (fun x y H Q => ∃ a k, x = .str a ∧ y = .int k ∧ MulOk a k ∧ Q (.str (Txt.mul a k)) H) := by
  intro pins s σ H x y v u Q I rx ry h
  obtain ⟨a, k, rfl, rfl, ok, q⟩ := h
  obtain ⟨t, rfl⟩ := rx
  obtain ⟨t', rfl⟩ := ry
  exact SB.mul ok fun t2 k2 => ⟨.str _, H, I.tok k2, ⟨_, rfl⟩, q⟩
def xMul (K : PySem.W.Frag) : R2 := fun x y H Q => match x, y with
  | .int i, .int j => IntMulOk i j ∧ Q (.int (i * j)) H
  | .str a, .int k => MulOk a k ∧ Q (.str (Txt.mul a k)) H
  | .ref a, .int k => rRep (.ref a) (.int k) H Q ∨ rRepT K (.ref a) (.int k) H Q
  | _, _ => False
theorem oMul₀ : OpR X (binaryOp .Mult) (xMul X.K) := by
  intro pins s σ H x y v u Q I rx ry h
  cases x <;> cases y <;> first
    | exact False.elim h
    | exact mulI pins s σ H _ _ v u Q I rx ry ⟨_, _, rfl, rfl, h⟩
    | exact mulS pins s σ H _ _ v u Q I rx ry ⟨_, _, rfl, rfl, h⟩
    | exact (OpR.or op_rep op_repT) pins s σ H _ _ v u Q I rx ry h
def xMod : R2 := fun x y H Q => match x, y with
  | .int i, .int j => 0 < j ∧ Q (.int (i % j)) H
  | _, _ => False
theorem oMod : OpR X (binaryOp .Mod) xMod := by
  intro pins s σ H x y v u Q I rx ry h
  cases x <;> cases y <;> first
    | exact False.elim h
    | exact op_mod pins s σ H _ _ v u Q I rx ry ⟨_, _, rfl, rfl, h⟩
def xDiv : R2 := fun x y H Q => match x, y with
  | .int i, .int j => CDivW i j ∧ Q (.int (i / j)) H
  | _, _ => False
theorem oDiv : OpR X (binaryOp .FloorDiv) xDiv := by
  intro pins s σ H x y v u Q I rx ry h
  cases x <;> cases y <;> first
    | exact False.elim h
    | exact op_fdivW pins s σ H _ _ v u Q I rx ry ⟨_, _, rfl, rfl, h⟩
def PowOk (i j : Int) : Prop := 0 ≤ j ∧ (Builtin.Int.intBits i : Int) * j ≤ 2 ^ 27
def xPow : R2 := fun x y H Q => match x, y with
  | .int i, .int j => PowOk i j ∧ Q (.int (i ^ j.toNat)) H
  | _, _ => False
theorem powI : OpR X (binaryOp .Pow) (rI PowOk fun i j => .int (i ^ j.toNat)) := opI fun _ _ _ _ _ _ _ hc q => pow_int hc.1 hc.2 q
theorem oPow : OpR X (binaryOp .Pow) xPow := by
  intro pins s σ H x y v u Q I rx ry h
  cases x <;> cases y <;> first
    | exact False.elim h
    | exact powI pins s σ H _ _ v u Q I rx ry ⟨_, _, rfl, rfl, h⟩
/-! ### comparisons -/
/-- two lists one of which is empty: their lengths tell -/
def rLen2 (K : PySem.W.Frag) (f : Bool → Bool) : R2 := fun x y H Q => ∃ p q xs ys, x = .ref p ∧ y = .ref q ∧ SqL K H p xs ∧ SqL K H q ys ∧ (xs = [] ∨ ys = []) ∧ Q (.bl (f (decide (xs.length = ys.length)))) H
theorem eqLen (hu : X.A.units < cLine) : OpR X (compareOp .Eq) (rLen2 X.K id) := by
  intro pins s σ H x y v u Q I rx ry h
  obtain ⟨p, q, xs, ys, rfl, rfl, hx, hy, he, k⟩ := h
  cases rx
  cases ry
  obtain ⟨ix, vx, px, _⟩ := I.list hx
  obtain ⟨iy, vy, py, _⟩ := I.list hy
  have lx := vx.length
  have ly := vy.length
  by_cases e : xs.length = ys.length
  · have x0 : ix.toArray.size = 0 := by rcases he with rfl | rfl <;> simp_all
    rw [decide_eq_true e] at k
    refine SeqAt.eq_listAt (e := fun _ => true) px.isList py.isList (by rw [List.size_toArray, List.size_toArray]; omega) hu (fun j h1 _ => by omega) ?_
    rw [x0]
    exact ⟨.bl _, H, I, rfl, k⟩
  · rw [decide_eq_false e] at k
    exact SeqAt.eq_list_lengthsAt px.isList py.isList (by rw [List.size_toArray, List.size_toArray]; simp; omega) hu ⟨.bl _, H, I, rfl, k⟩
theorem neLen (hu : X.A.units < cLine) : OpR X (compareOp .NotEq) (rLen2 X.K (!·)) := by
  intro pins s σ H x y v u Q I rx ry h
  obtain ⟨p, q, xs, ys, rfl, rfl, hx, hy, he, k⟩ := h
  cases rx
  cases ry
  obtain ⟨ix, vx, px, _⟩ := I.list hx
  obtain ⟨iy, vy, py, _⟩ := I.list hy
  have lx := vx.length
  have ly := vy.length
  by_cases e : xs.length = ys.length
  · have x0 : ix.toArray.size = 0 := by rcases he with rfl | rfl <;> simp_all
    rw [decide_eq_true e] at k
    refine SeqAt.RcNeAt.lists (e := fun _ => true) px.isList py.isList (by rw [List.size_toArray, List.size_toArray]; omega) hu (fun j h1 _ => by omega) _ _ _ _ ?_
    rw [x0]
    exact ⟨.bl _, H, I, rfl, k⟩
  · rw [decide_eq_false e] at k
    exact SeqAt.RcNeAt.lists_lengths px.isList py.isList (by rw [List.size_toArray, List.size_toArray]; simp; omega) hu _ _ _ _ ⟨.bl _, H, I, rfl, k⟩
def xEq (K : PySem.W.Frag) : R2 := fun x y H Q => (scal x y = true ∧ Q (.bl (decide (x = y))) H) ∨ rEqD K x y H Q ∨ rLen2 K id x y H Q
theorem oEq₀ (hu : X.A.units + 65 < cLine) : OpR X (compareOp .Eq) (xEq X.K) := OpR.or op_eq (OpR.or (op_eqD (by omega)) (eqLen (by omega)))
def xNe (K : PySem.W.Frag) : R2 := fun x y H Q => (scal x y = true ∧ Q (.bl (!decide (x = y))) H) ∨ rNeD K x y H Q ∨ rLen2 K (!·) x y H Q
theorem oNe₀ (hu : X.A.units + 65 < cLine) : OpR X (compareOp .NotEq) (xNe X.K) := OpR.or op_ne (OpR.or (op_neD (by omega)) (neLen (by omega)))
def xLt : R2 := fun x y H Q => match x, y with
  | .int i, .int j => Q (.bl (decide (i < j))) H
  | .str a, .str b => Q (.bl (decide (a.cps.toList < b.cps.toList))) H
  | _, _ => False
theorem oLt : OpR X (compareOp .Lt) xLt := by
  intro pins s σ H x y v u Q I rx ry h
  cases x <;> cases y <;> first
    | exact False.elim h
    | exact op_lt pins s σ H _ _ v u Q I rx ry ⟨_, _, rfl, rfl, h⟩
    | exact op_lt_str pins s σ H _ _ v u Q I rx ry ⟨_, _, rfl, rfl, h⟩
def xLe : R2 := fun x y H Q => match x, y with
  | .int i, .int j => Q (.bl (decide (i ≤ j))) H
  | .str a, .str b => Q (.bl (!decide (b.cps.toList < a.cps.toList))) H
  | _, _ => False
theorem oLe : OpR X (compareOp .LtE) xLe := by
  intro pins s σ H x y v u Q I rx ry h
  cases x <;> cases y <;> first
    | exact False.elim h
    | exact op_le pins s σ H _ _ v u Q I rx ry ⟨_, _, rfl, rfl, h⟩
    | exact op_le_str pins s σ H _ _ v u Q I rx ry ⟨_, _, rfl, rfl, h⟩
def xGt : R2 := fun x y H Q => match x, y with
  | .int i, .int j => Q (.bl (decide (j < i))) H
  | .str a, .str b => Q (.bl (decide (b.cps.toList < a.cps.toList))) H
  | _, _ => False
theorem oGt : OpR X (compareOp .Gt) xGt := by
  intro pins s σ H x y v u Q I rx ry h
  cases x <;> cases y <;> first
    | exact False.elim h
    | exact op_gt pins s σ H _ _ v u Q I rx ry ⟨_, _, rfl, rfl, h⟩
    | exact op_gt_str pins s σ H _ _ v u Q I rx ry ⟨_, _, rfl, rfl, h⟩
def xGe : R2 := fun x y H Q => match x, y with
  | .int i, .int j => Q (.bl (decide (j ≤ i))) H
  | .str a, .str b => Q (.bl (!decide (a.cps.toList < b.cps.toList))) H
  | _, _ => False
theorem oGe : OpR X (compareOp .GtE) xGe := by
  intro pins s σ H x y v u Q I rx ry h
  cases x <;> cases y <;> first
    | exact False.elim h
    | exact op_ge pins s σ H _ _ v u Q I rx ry ⟨_, _, rfl, rfl, h⟩
    | exact op_ge_str pins s σ H _ _ v u Q I rx ry ⟨_, _, rfl, rfl, h⟩
/-- a text stands in another one -/
def inS (a b : Str) : Bool := !(Builtin.Str.occurrences b a 0 b.length 1).isEmpty
theorem inS_sign (c : Nat) (z : Str) : inS ⟨#[c]⟩ z = decide (c ∈ z.cps.toList) := PySem.StrLaws.found_one z c
def xIn (K : PySem.W.Frag) : R2 := fun x y H Q => match y with
  | .str b => ∃ a, x = .str a ∧ Q (.bl (inS a b)) H
  | .ref p => rIn K false x (.ref p) H Q ∨ rInD K x (.ref p) H Q
  | _ => False
theorem oIn₀ (hu : X.A.units + 65 < cLine) : OpR X (compareOp .In) (xIn X.K) := by
  intro pins s σ H x y v u Q I rx ry h
  cases y with
  | str b =>
    obtain ⟨a, rfl, q⟩ := h
    exact op_in_str pins s σ H _ _ v u Q I rx ry ⟨_, _, rfl, rfl, q⟩
  | ref p => exact (OpR.or op_in_seq (op_inD hu)) pins s σ H _ _ v u Q I rx ry h
  | _ => exact False.elim h
def xNotIn (K : PySem.W.Frag) : R2 := fun x y H Q => match y with
  | .str b => ∃ a, x = .str a ∧ Q (.bl (!inS a b)) H
  | .ref p => rIn K true x (.ref p) H Q ∨ rNotInD K x (.ref p) H Q
  | _ => False
theorem oNotIn₀ (hu : X.A.units + 65 < cLine) : OpR X (compareOp .NotIn) (xNotIn X.K) := by
  intro pins s σ H x y v u Q I rx ry h
  cases y with
  | str b =>
    obtain ⟨a, rfl, q⟩ := h
    exact op_notin_str pins s σ H _ _ v u Q I rx ry ⟨_, _, rfl, rfl, q⟩
  | ref p => exact (OpR.or op_notIn_seq (op_notInD hu)) pins s σ H _ _ v u Q I rx ry h
  | _ => exact False.elim h
def xIs : R2 := fun x y H Q => (y = .non ∧ Q (.bl (decide (x = .non))) H) ∨ rIsB x y H Q
theorem oIs : OpR X (compareOp .Is) xIs := OpR.or op_isN op_isBl
def xIsNot : R2 := fun x y H Q => (y = .non ∧ Q (.bl (!decide (x = .non))) H) ∨ rNotB x y H Q
theorem oIsNot : OpR X (compareOp .IsNot) xIsNot := OpR.or op_notN op_notBl
/-! ### subscripts, slices, len, int, repr, what a for walks -/
def xIx (K : PySem.W.Frag) : R2 := fun x y H Q => match x, y with
  | .str z, .int i => ∃ c, z.length ≤ sizeLine ∧ atI z.cps.toList i = some c ∧ Q (.str ⟨#[c]⟩) H
  | .ref p, .int i => ∃ xs v, (SqL K H p xs ∨ SqT K H p xs) ∧ atI xs i = some v ∧ Q v H
  | _, _ => False
theorem ixX₀ : IxR X (xIx X.K) := by
  intro a b pins s σ H x y v u Q I rx ry h hs
  refine ix_seq a b pins s σ H x y v u Q I rx ry ?_ hs
  cases x <;> cases y <;> first
    | exact False.elim h
    | (obtain ⟨c, h1, h2, q⟩ := h; exact .inr (.inr ⟨_, _, c, rfl, rfl, h1, h2, q⟩))
    | (obtain ⟨xs, v, h1, h2, q⟩ := h
       rcases h1 with h1 | h1
       · exact .inl ⟨_, xs, _, v, rfl, rfl, h1, h2, q⟩
       · exact .inr (.inl ⟨_, xs, _, v, rfl, rfl, h1, h2, q⟩))
def xSl (K : PySem.W.Frag) : V → Option Int → Option Int → Hp → VK → Prop := fun x lo hi H Q => match x with
  | .str z => z.length ≤ sizeLine ∧ Q (.str (cutS z lo hi)) H
  | .ref p => rSlL K (.ref p) lo hi H Q ∨ rSlA K (.ref p) lo hi H Q
  | _ => False
theorem sX₀ : SlR X (xSl X.K) := by
  intro pins s σ H x v vl vu lo hi sl Q I rx hs pl pu h
  refine (SlR.or (SlR.or sl_list sl_tupA) sl_str) pins s σ H x v vl vu lo hi sl Q I rx hs pl pu ?_
  cases x with
  | str z => exact .inr ⟨z, rfl, h⟩
  | ref p => exact .inl h
  | _ => exact False.elim h
def xLen (K : PySem.W.Frag) : List V → Hp → VK → Prop := fun xs H Q => (∃ x n, xs = [x] ∧ LenV K x H n ∧ Q (.int (n : Int)) H) ∨ ∃ a kvs, xs = [V.ref a] ∧ H a = some (.dK kvs) ∧ Q (.int kvs.length) H
theorem call_lenX₀ : CallR X (.builtin "len") (xLen X.K) := fun pins s σ H xs us Q I r h => by
  rcases h with h | h
  · exact call_len pins s σ H xs us Q I r h
  · exact call_lenD pins s σ H xs us Q I r h
def xInt : List V → Hp → VK → Prop := fun xs H Q => match xs with
  | [.int i] => Q (.int i) H
  | [.bl k] => Q (.int (if k then 1 else 0)) H
  | [.str a] => ∃ n, PySem.intText? a = some n ∧ a.length ≤ 640 ∧ Q (.int n) H
  | _ => False
theorem call_intX : CallR X (.type "int") xInt := by
  intro pins s σ H xs us Q I r h
  match xs, h with
  | [.int i], h => exact call_int1 pins s σ H _ us Q I r (.inl ⟨i, rfl, h⟩)
  | [.bl k], h => exact call_int1 pins s σ H _ us Q I r (.inr ⟨k, rfl, h⟩)
  | [.str a], ⟨n, h1, h2, h3⟩ => exact call_int_str pins s σ H _ us Q I r ⟨a, n, rfl, h1, h2, h3⟩
def xMax : List V → Hp → VK → Prop := fun xs H Q => match xs with
  | [.int i, .int j] => Q (.int (max i j)) H
  | _ => False
theorem call_maxX (hc : X.calm = true) : CallR X (.builtin "max") xMax := by
  intro pins s σ H xs us Q I r h
  match xs, h with
  | [.int i, .int j], h =>
    refine call_max2 hc pins s σ H _ us Q I r ⟨i, j, rfl, ?_⟩
    have e : (if j > i then j else i) = max i j := by omega
    rw [e]
    exact h
def xMin : List V → Hp → VK → Prop := fun xs H Q => match xs with
  | [.int i, .int j] => Q (.int (min i j)) H
  | _ => False
theorem call_minX (hc : X.calm = true) : CallR X (.builtin "min") xMin := by
  intro pins s σ H xs us Q I r h
  match xs, h with
  | [.int i, .int j], h =>
    refine call_min2 hc pins s σ H _ us Q I r ⟨i, j, rfl, ?_⟩
    have e : (if j < i then j else i) = min i j := by omega
    rw [e]
    exact h
/-- what may be shown -/
def Shows (d : PyData) : Prop := d.showable = true ∧ d.hasDict = false ∧ d.depth ≤ 60 ∧ d.shown.length ≤ sizeLine
def xRepr (K : PySem.W.Frag) : List V → Hp → VK → Prop := fun xs H Q => ∃ x d, xs = [x] ∧ Dp K H x d ∧ Shows d ∧ Q (.str d.shown) H
theorem call_reprX₀ (hr : Rm 0 X.A) : CallR X (.builtin "repr") (xRepr X.K) := by
  intro pins s σ H xs us Q I r h
  obtain ⟨x, d, rfl, hd, ⟨h1, h2, h3, h4⟩, q⟩ := h
  obtain ⟨u, rfl, rx⟩ := vals1 r
  obtain ⟨as, rd⟩ := Dp.reads I d x u hd rx
  have hu := hr.r.un
  have hl : d.shown.length ≤ sizeLine := h4
  cases u with
  | ref a =>
    refine repr_of_reads' rd h1 (fun e => by rw [h2] at e; cases e) hr.g (by omega) (fun _ _ e => e) ?_ hl
    intro h' t tk keep
    exact ⟨.str _, H, I.kept keep, ⟨_, rfl⟩, q⟩
  | none => cases rd; exact P.repr_of_none ⟨.str _, H, I.tok _, ⟨_, rfl⟩, q⟩
  | bool b => cases rd; exact P.repr_of_bool ⟨.str _, H, I.tok _, ⟨_, by cases b <;> rfl⟩, q⟩
  | int i t =>
    cases rd
    refine P.repr_of_int ?_ ⟨.str _, H, I.tok _, ⟨_, rfl⟩, q⟩
    simpa [PyData.showable] using h1
  | str z t => cases rd; exact P.repr_of_str ⟨.str _, H, I.tok _, ⟨_, rfl⟩, q⟩ hl
  | _ => cases hd <;> cases rx <;> rename_i h <;> cases h
def xList (K : PySem.W.Frag) : List V → Hp → VK → Prop := fun xs H Q => ∃ p ys, xs = [.ref p] ∧ (SqL K H p ys ∨ SqT K H p ys) ∧ ∀ l, H l = none → Q (.ref l) (upd H l (.lst ys))
def xTup (K : PySem.W.Frag) : List V → Hp → VK → Prop := fun xs H Q => ∃ p ys, xs = [.ref p] ∧ ((SqL K H p ys ∧ ∀ l, H l = none → Q (.ref l) (upd H l (.tup ys))) ∨ (SqT K H p ys ∧ Q (.ref p) H))
def xSortDI : List V → Hp → VK → Prop := fun xs H Q => ∃ (a : Addr) (kvs : List (Key × V)) (ks : List Int), xs = [.ref a] ∧ Rd H a (.dK kvs) ∧ kvs.map (·.1) = ks.map Sum.inl ∧ ks.length < 64 ∧
  ∀ (ys : List Int) (p : Addr), ys.Perm ks → ys.Pairwise (· ≤ ·) → H p = none → Q (.ref p) (upd H p (.lst (ys.map V.int)))
/-! the same, the written part named -/
variable {K : PySem.W.Frag}
theorem oAdd (e : X.K = K := by rfl) : OpR X (binaryOp .Add) (xAdd K) := by
  subst e
  exact oAdd₀
theorem oMul (e : X.K = K := by rfl) : OpR X (binaryOp .Mult) (xMul K) := by
  subst e
  exact oMul₀
theorem oEq (hu : X.A.units + 65 < cLine) (e : X.K = K := by rfl) : OpR X (compareOp .Eq) (xEq K) := by
  subst e
  exact oEq₀ hu
theorem oNe (hu : X.A.units + 65 < cLine) (e : X.K = K := by rfl) : OpR X (compareOp .NotEq) (xNe K) := by
  subst e
  exact oNe₀ hu
theorem oIn (hu : X.A.units + 65 < cLine) (e : X.K = K := by rfl) : OpR X (compareOp .In) (xIn K) := by
  subst e
  exact oIn₀ hu
theorem oNotIn (hu : X.A.units + 65 < cLine) (e : X.K = K := by rfl) : OpR X (compareOp .NotIn) (xNotIn K) := by
  subst e
  exact oNotIn₀ hu
theorem ixX (e : X.K = K := by rfl) : IxR X (xIx K) := by
  subst e
  exact ixX₀
theorem sX (e : X.K = K := by rfl) : SlR X (xSl K) := by
  subst e
  exact sX₀
theorem call_lenX (e : X.K = K := by rfl) : CallR X (.builtin "len") (xLen K) := by
  subst e
  exact call_lenX₀
theorem call_reprX (hr : Rm 0 X.A) (e : X.K = K := by rfl) : CallR X (.builtin "repr") (xRepr K) := by
  subst e
  exact call_reprX₀ hr
theorem isiX (e : X.K = K := by rfl) : CallR X (.builtin "isinstance") (rIsi K) := by
  subst e
  exact call_isi
theorem isiTX (e : X.K = K := by rfl) : CallR X (.builtin "isinstance") (rIsiT K) := by
  subst e
  exact call_isiT
theorem allX (hc : X.calm = true) (e : X.K = K := by rfl) : CallR X (.builtin "all") (rAll K) := by
  subst e
  exact cr_all hc
theorem anyX (hc : X.calm = true) (e : X.K = K := by rfl) : CallR X (.builtin "any") (rAny K) := by
  subst e
  exact cr_any hc
/-- whatever a for walks: a list, a tuple, a text -/
def iAny (K : PySem.W.Frag) (te : TE) : TI := fun σ H R => iList K te σ H R ∨ iTup K te σ H R ∨ iStr te σ H R
theorem pi_any {tg e : Expr} {te : TE} (he : PE X e te) (ek : X.K = K := by rfl) : PI X tg e (iAny K te) := by
  subst ek
  refine ⟨fun pins s σ H R I h => ?_⟩
  rcases h with h | h | h
  · exact (pi_list he).run pins s σ H R I h
  · exact (pi_tup he).run pins s σ H R I h
  · exact (pi_str he).run pins s σ H R I h
theorem pe_bmX {o e : Expr} {es : List Expr} {to : TE} {t : TA} {name : Str} {apos cpos : Pos} {T id : String} {r : V → List V → Hp → VK → Prop} (pa : PlainAttrs T) (slot : Slot T name id) (hty : typeOf (.builtin id) = pure (.type "method_descriptor"))
    (hm : MtR X id r) (ho : PE X o to) (ha : PA X (e :: es) t) (ek : X.K = K := by rfl)
    (hbase : attributeBase o name X.env (eval o X.env) = eval o X.env := by rfl)
    (hfew : ((backTo cpos (starEach (e :: es) X.env)).all (fun x => !x.1) && (backToKw cpos (keywordEach [] X.env)).all (fun x => x.1.isSome) && decide ((e :: es).length + ([] : List Keyword).length + (if ([] : List Keyword).isEmpty then 0 else 1) < 30)) = true := by rfl)
    (hline : (apos.endLine == cpos.line) = true := by rfl) (hs : starEach (e :: es) X.env = (false, eval e X.env) :: starEach es X.env := by rfl) (hplain : (backTo cpos (starEach es X.env)).any (·.1) = false := by rfl) :
    PE X (.Call (.Attribute o name apos) (e :: es) [] cpos) (tBM K T r to t) := by
  subst ek
  exact pe_bm pa slot hty hm ho ha hbase hfew hline hs hplain
theorem pe_bm0X {o : Expr} {to : TE} {name : Str} {apos cpos : Pos} {T id : String} {r : V → List V → Hp → VK → Prop} (pa : PlainAttrs T) (slot : Slot T name id) (hty : typeOf (.builtin id) = pure (.type "method_descriptor"))
    (hm : MtR X id r) (ho : PE X o to) (ek : X.K = K := by rfl) (hbase : attributeBase o name X.env (eval o X.env) = eval o X.env := by rfl) (hline : (apos.endLine == cpos.line) = true := by rfl) :
    PE X (.Call (.Attribute o name apos) [] [] cpos) (tBM0 K T r to) := by
  subst ek
  exact pe_bm0 pa slot hty hm ho hbase hline
theorem pg_tupX {es : List Expr} {k : Nat} {t : TGs} {n : Nat} {pos : Pos} (hc : X.calm = true) (h : PGs X es t) (ek : X.K = K := by rfl)
    (hn : (assignEach es X.env).length = n := by rfl) (hst : (assignEach es X.env).findIdx? (·.1) = none := by rfl) : PG X (.Tuple es k pos) (gTup K n t) := by
  subst ek
  exact pg_tup hc h hn hst
theorem pi_enumX {e : Expr} {ta : TA} {p pos tpos : Pos} {elts : List Expr} {kk : Nat} (hg : Gl X "enumerate") (hm : X.mg "enumerate" = none) (ha : PA X [e] ta) (ek : X.K = K := by rfl)
    (hs : starEach [e] X.env = [(false, eval e X.env)] := by rfl) : PI X (.Tuple elts kk tpos) (.Call (.Name "enumerate" p) [e] [] pos) (iEnum K ta) := by
  subst ek
  exact pi_enum hg hm ha hs
theorem pi_zipX {e e2 : Expr} {ta : TA} {p pos tpos : Pos} {elts : List Expr} {kk : Nat} (hg : Gl X "zip") (hm : X.mg "zip" = none) (ha : PA X [e, e2] ta) (ek : X.K = K := by rfl)
    (hs : starEach [e, e2] X.env = (false, eval e X.env) :: starEach [e2] X.env := by rfl) (hpl : (backTo pos (starEach [e2] X.env)).any (·.1) = false := by rfl) :
    PI X (.Tuple elts kk tpos) (.Call (.Name "zip" p) [e, e2] [] pos) (iZip K ta) := by
  subst ek
  exact pi_zip hg hm ha hs hpl
/-- len(set(xs)), xs a list of ints -/
def dist (ns : List Int) : List Int := PyProof.Rows.firstMet (fun i => ns.getD i 0) ns.length
def tLenSetX (K : PySem.W.Frag) (ta : TE) : TE := fun σ H Q => ta σ H fun x H1 => ∃ (l : Addr) (ns : List Int), x = .ref l ∧ SqL K H1 l (ns.map V.int) ∧ ns.length ≤ 4000 ∧ Q (.int ((dist ns).length : Nat)) H1
theorem pe_lenSetX {a : Expr} {ta : TE} {p p2 q pos : Pos} (hg : Gl X "len") (hm : X.mg "len" = none) (hg2 : Gl X "set") (hm2 : X.mg "set" = none) (ha : PE X a ta) (hc : X.calm = true := by rfl) (ek : X.K = K := by rfl)
    (na : starEach [a] X.env = (false, eval a X.env) :: starEach [] X.env := by rfl) : PE X (.Call (.Name "len" p) [.Call (.Name "set" p2) [a] [] q] [] pos) (tLenSetX K ta) := by
  subst ek
  refine ⟨fun pins s σ H Q I h => ?_⟩
  refine Call_ (ld_blt I hg hm boot_len ?_)
  refine PyProof.Rows.callWith_builtin1 (PyProof.Rows.args_cons ?_ rfl) rfl rfl
  refine Call_ (ld_blt I hg2 hm2 boot_set ?_)
  refine PyProof.Rows.callWith_type1 (PyProof.Rows.args_cons (thn (ha.run pins s σ H _ I h) fun v s1 ⟨x, H1, I1, r1, q1⟩ => PyProof.Rows.args_nil ?_) na) na rfl
  obtain ⟨l, ns, rfl, hq, hl, q1⟩ := q1
  cases r1
  obtain ⟨its, r, pl, hz⟩ := I1.list hq
  have hlen : its.toArray.size = ns.length := by rw [List.size_toArray, ← r.length, List.length_map]
  have hb : (dist ns).length ≤ ns.length := firstMet_length_le _ _
  refine call_set_list (I1.ok.hd hc) pl.isList (by simpa using ints_vals r) (by rw [hlen]; unfold scanBound; omega) fun h' tk hS hk => ?_
  refine PyProof.Rows.args_nil ?_
  rw [hlen] at hS
  obtain ⟨o, es, ep, t, ho, hex, hd, _, _, _, hf, hn⟩ := hS
  have hn' : es.size = (dist ns).length := hn
  have I2 : Inv X pins σ H1 { s1 with heap := h', toks := tk } := I1.kept fun b o e => hk b o (Heap.lt_size e) e
  exact call_len_set ho hex hd hf (by rw [hn'] <;> omega) ⟨.int (dist ns).length, H1, I2.tok _, ⟨_, by rw [hn']⟩, q1⟩
theorem callListX (e : X.K = K := by rfl) : CallR X (.type "list") (xList K) := by
  subst e
  exact call_list_of
theorem callTupX (e : X.K = K := by rfl) : CallR X (.type "tuple") (xTup K) := by
  subst e
  exact call_tuple_of
/-- a, b, .. = a tuple or a list of that length -/
def gSeq (K : PySem.W.Frag) (n : Nat) (t : TGs) : TG := fun v σ H Q => gTup K n t v σ H Q ∨ gLst K n t v σ H Q
theorem pg_seqX {es : List Expr} {k : Nat} {t : TGs} {n : Nat} {pos : Pos} (hc : X.calm = true) (h : PGs X es t) (ek : X.K = K := by rfl)
    (hn : (assignEach es X.env).length = n := by rfl) (hst : (assignEach es X.env).findIdx? (·.1) = none := by rfl) : PG X (.Tuple es k pos) (gSeq K n t) := by
  subst ek
  refine ⟨fun pins s σ H v u Q I r hw => ?_⟩
  rcases hw with hw | hw
  · exact (pg_tup hc h hn hst).run pins s σ H v u Q I r hw
  · exact (pg_lst hc h hn hst).run pins s σ H v u Q I r hw
def xStrI : List V → Hp → VK → Prop := fun xs H Q => ∃ i, xs = [.int i] ∧ i.natAbs.log2 < 1920 ∧ Q (.str (toString i)) H
theorem callStrX : CallR X (.type "str") xStrI := call_str_int
theorem pe_revX {e : Expr} {te : TE} {k : Nat} {p1 p2 p3 pos : Pos} (he : PE X e te) (ek : X.K = K := by rfl) : PE X (.Subscript e (.Slice none none (some (.UnaryOp .USub (.Constant (.int 1) k p1) p2)) p3) pos) (tRevL K te) := by
  subst ek
  exact pe_revL he
theorem pa_starX {e : Expr} {es : List Expr} {te : TE} {t : TA} {p : Pos} (he : PE X e te) (hr : PA X es t) (ek : X.K = K := by rfl) (hs : starEach (.Starred e p :: es) X.env = (true, eval e X.env) :: starEach es X.env := by rfl) : PA X (.Starred e p :: es) (StX.tStar K te t) := by
  subst ek
  exact StX.pa_star he hr hs
end
end Mine

/-! ## Readings, step by step -/
namespace Mine
open PySem PySem.Spec PyProof.Rows L2
set_option linter.all false
theorem dec_i {a b : Int} : decide (V.int a = V.int b) = decide (a = b) := by
  rw [Bool.eq_iff_iff]
  simp
theorem dec_s {a b : Str} : decide (V.str a = V.str b) = decide (a = b) := by
  rw [Bool.eq_iff_iff]
  simp
theorem dec_b {a b : Bool} : decide (V.bl a = V.bl b) = (a == b) := by
  cases a <;> cases b <;> rfl
section
variable {σ σ' : St} {H : Hp} {Q : VK} {QB : Bool → Hp → Prop} {QA : List V → Hp → Prop} {QO : Option Int → Hp → Prop} {v x y : V} {i j : Nat} {ta tb tc te : TE} {r r' : R2} {t u : TT} {b : Bool} {K : PySem.W.Frag} {D : Ends} {g : TG} {s s' : TS} {tA tA' : TA} {to tl th : TO}
theorem rd_var (h : σ[i]? = some (some v)) (q : Q v H) : tVar i σ H Q := ⟨v, h, q⟩
theorem rd_c (q : Q v H) : tC v σ H Q := q
theorem rd_op (q : ta σ H fun x H1 => tb σ H1 fun y H2 => r x y H2 Q) : tOp r ta tb σ H Q := q
theorem rd_un {r : V → Hp → VK → Prop} (q : ta σ H fun x H1 => r x H1 Q) : tUn r ta σ H Q := q
theorem rd_test (q : te σ H fun x H' => ∃ k, x = .bl k ∧ QB k H') : tTest te σ H QB := q
theorem rd_tB (q : te σ H fun x H' => ∃ k, x = .bl k ∧ QB k H') : tB te σ H QB := q
theorem rd_bl {QB : Bool → Prop} (q : QB b) : ∃ k, V.bl b = .bl k ∧ QB k := ⟨b, rfl, q⟩
theorem rd_chain (q : ta σ H fun x H1 => tb σ H1 fun y H2 => r x y H2 fun z H3 => ∃ k, z = .bl k ∧ (if k = true then tc σ H3 fun w' H4 => r' y w' H4 Q else Q (.bl false) H3)) : tChain r r' ta tb tc σ H Q := q
theorem rd_ifE (q : t σ H fun c H1 => if c = true then ta σ H1 Q else tb σ H1 Q) : tIf t ta tb σ H Q := q
theorem rd_and (q : t σ H fun c H1 => if c = true then u σ H1 QB else QB false H1) : tAnd t u σ H QB := q
theorem rd_or (q : t σ H fun c H1 => if c = true then QB true H1 else u σ H1 QB) : tOr t u σ H QB := q
theorem rd_not (q : t σ H fun c H1 => QB (!c) H1) : tNot t σ H QB := q
theorem rd_andV (q : ta σ H fun x H1 => ∃ c, x = .bl c ∧ if c = true then tb σ H1 Q else Q (.bl false) H1) : tAndV ta tb σ H Q := q
theorem rd_orV (q : ta σ H fun x H1 => ∃ c, x = .bl c ∧ if c = true then Q (.bl true) H1 else tb σ H1 Q) : tOrV ta tb σ H Q := q
theorem rd_notV (q : ta σ H fun x H1 => ∃ c, x = .bl c ∧ Q (.bl (!c)) H1) : tNotV ta σ H Q := q
theorem rd_nil (q : QA [] H) : tNil σ H QA := q
theorem rd_cons (q : ta σ H fun x H1 => tA σ H1 fun xs H2 => QA (x :: xs) H2) : tCons ta tA σ H QA := q
theorem rd_lst (q : tA σ H fun xs H1 => xs.length ≤ sizeLine ∧ ∀ p, H1 p = none → Q (.ref p) (upd H1 p (.lst xs))) : tLst tA σ H Q := q
theorem rd_tup (q : tA σ H fun xs H1 => xs.length ≤ sizeLine ∧ ∀ p, H1 p = none → Q (.ref p) (upd H1 p (.tup xs))) : tTup tA σ H Q := q
theorem rd_new {A : Prop} {xs : List V} (h : Nat.ble xs.length 100000 = true) (q : A) : xs.length ≤ sizeLine ∧ A := ⟨Nat.le_trans (Nat.le_of_ble_eq_true h) (by decide), q⟩
theorem rd_call {sp : Sp} {ds : List V} {E : XK} (q : tA σ H fun vs H1 => sp (vs ++ ds) H1 Q E) : tCall sp ds E tA σ H Q := q
theorem rd_callK {n m : Nat} {pm : List Nat} {sp : Sp} {E : XK} (q : tA σ H fun vs H1 => tA' σ H1 fun zs H2 => vs.length = n ∧ zs.length = m ∧ sp (gK pm vs zs) H2 Q E) : tCalK n m pm sp E tA tA' σ H Q := q
theorem rd_sp1 {Φ : V → Hp → VK → Prop} {E : XK} {a : V} (q : Φ a H Q) : sp1 Φ ([a] ++ []) H Q E := ⟨a, rfl, q⟩
theorem rd_sp2 {Φ : V → V → Hp → VK → Prop} {E : XK} {a b : V} (q : Φ a b H Q) : sp2 Φ ([a, b] ++ []) H Q E := ⟨a, b, rfl, q⟩
theorem rd_sp3 {Φ : V → V → V → Hp → VK → Prop} {E : XK} {a b c : V} (q : Φ a b c H Q) : sp3 Φ ([a, b, c] ++ []) H Q E := ⟨a, b, c, rfl, q⟩
theorem rd_sp4 {Φ : V → V → V → V → Hp → VK → Prop} {E : XK} {a b c d : V} (q : Φ a b c d H Q) : sp4 Φ ([a, b, c, d] ++ []) H Q E := ⟨a, b, c, d, rfl, q⟩
theorem rd_k {A B C D : Prop} (h : A = True) (h' : B = True) (q : C) : A ∧ B ∧ C := ⟨h ▸ trivial, h' ▸ trivial, q⟩
theorem rd_cb {r : List V → Hp → VK → Prop} (q : tA σ H fun vs H1 => r vs H1 Q) : tCB r tA σ H Q := q
theorem rd_bm0 {T : String} {r : V → List V → Hp → VK → Prop} (q : te σ H fun x H1 => tyV K T x H1 ∧ r x [] H1 Q) : tBM0 K T r te σ H Q := q
theorem rd_bm {T : String} {r : V → List V → Hp → VK → Prop} (q : te σ H fun x H1 => tyV K T x H1 ∧ tA σ H1 fun xs H2 => r x xs H2 Q) : tBM K T r te tA σ H Q := q
theorem rd_m0 {r : V → List V → Hp → VK → Prop} (q : te σ H fun x H1 => (∃ a, x = .str a) ∧ r x [] H1 Q) : tM0 r te σ H Q := q
theorem rd_m1 {r : V → List V → Hp → VK → Prop} (q : te σ H fun x H1 => (∃ a, x = .str a) ∧ ta σ H1 fun y H2 => r x [y] H2 Q) : tM1 r te ta σ H Q := q
theorem rd_tyS {A : Prop} {a : Str} (q : A) : tyV K "str" (.str a) H ∧ A := ⟨rfl, q⟩
theorem rd_isS {A : Prop} {a : Str} (q : A) : (∃ z, V.str a = .str z) ∧ A := ⟨⟨a, rfl⟩, q⟩
theorem rd_tyL {A : Prop} {p : Addr} {xs : List V} (h : SqL K H p xs) (q : A) : tyV K "list" (.ref p) H ∧ A := ⟨.inl ⟨rfl, xs, h⟩, q⟩
theorem rd_sl {r : V → Option Int → Option Int → Hp → VK → Prop} (q : te σ H fun x H1 => tl σ H1 fun l H2 => th σ H2 fun u H3 => r x l u H3 Q) : L2.tSl r te tl th σ H Q := q
theorem rd_noPart (q : QO none H) : tNoPart σ H QO := q
theorem rd_part (q : te σ H fun x H1 => ∃ i, x = .int i ∧ QO (some i) H1) : tPart te σ H QO := q
theorem rd_int {QI : Int → Prop} {n : Int} (q : QI n) : ∃ i, V.int n = .int i ∧ QI i := ⟨n, rfl, q⟩
theorem rd_yes (q : QB true H) : tYes σ H QB := q
/-! statements -/
theorem rd_seq (q : s { D with nx := s' D } σ H) : tSeq s s' D σ H := q
theorem rd_meet (M : St → Hp → Prop) (h : s { D with nx := M } σ H) (k : ∀ σ' H', M σ' H' → s' D σ' H') : tMeet s s' D σ H := ⟨M, h, k⟩
theorem rd_next (q : D.nx σ H) : tNext D σ H := q
theorem rd_brk (q : D.bk σ H) : tBreak D σ H := q
theorem rd_cont (q : D.ct σ H) : tCont D σ H := q
theorem rd_asg (q : te σ H fun x H1 => g x σ H1 D.nx) : tAsg te g D σ H := q
theorem rd_gname {k : St → Hp → Prop} (e : σ.set i (some x) = σ') (q : k σ' H) : gName i x σ H k := by subst e; exact q
theorem rd_gtup {n : Nat} {t : TGs} {a : Addr} {xs : List V} {k : St → Hp → Prop} (h : SqT K H a xs) (e : xs.length = n) (q : t xs σ H k) : gSeq K n t (.ref a) σ H k := .inl ⟨a, xs, rfl, h, e, q⟩
theorem rd_glst {n : Nat} {t : TGs} {a : Addr} {xs : List V} {k : St → Hp → Prop} (h : SqL K H a xs) (e : xs.length = n) (q : t xs σ H k) : gSeq K n t (.ref a) σ H k := .inr ⟨a, xs, rfl, h, e, q⟩
theorem rd_gcons {t : TG} {u : TGs} {vs : List V} {k : St → Hp → Prop} (q : t v σ H fun σ' H' => u vs σ' H' k) : gCons t u (v :: vs) σ H k := ⟨v, vs, rfl, q⟩
theorem rd_gnil {k : St → Hp → Prop} (q : k σ H) : gNil [] σ H k := ⟨rfl, q⟩
theorem rd_gsub {t : TSet} {k : St → Hp → Prop} (q : ta σ H fun o H1 => tb σ H1 fun i H2 => t o i v H2 fun H3 => k σ H3) : gSub ta tb t v σ H k := q
theorem rd_par (q : tA σ H fun vs H1 => ∃ v w, vs = [v, w] ∧ D.nx ((σ.set i (some v)).set j (some w)) H1) : tPar i j tA D σ H := q
theorem rd_par2 {a b : V} (e : (σ.set i (some a)).set j (some b) = σ') (q : D.nx σ' H) : ∃ v w, [a, b] = [v, w] ∧ D.nx ((σ.set i (some v)).set j (some w)) H := ⟨a, b, rfl, by rw [e]; exact q⟩
theorem rd_drop (q : te σ H fun _ H1 => D.nx σ H1) : tDrop te D σ H := q
theorem rd_ret (q : te σ H D.rt) : tRet te D σ H := q
theorem rd_retN (q : D.rt .non H) : tRetN D σ H := q
theorem rd_ifS (q : t σ H fun b H1 => if b = true then s D σ H1 else s' D σ H1) : tIfS t s s' D σ H := q
theorem rd_aug {ti : TIp} (h : σ[i]? = some (some x)) (q : te σ H fun y H1 => ti x y H1 fun z H2 => D.nx (σ.set i (some z)) H2) : tAug i te ti D σ H := ⟨x, h, q⟩
theorem rd_ipI {f : Int → Int → Int} {a b : Int} (q : Q (.int (f a b)) H) : ipI f (.int a) (.int b) H Q := ⟨a, b, rfl, rfl, q⟩
/-! what is asked of values -/
theorem rd_addI {a b : Int} (q : Q (.int (a + b)) H) : xAdd K (.int a) (.int b) H Q := q
theorem rd_addS {a b : Str} (h : a.length + b.length ≤ sizeLine) (q : Q (.str (a ++ b)) H) : xAdd K (.str a) (.str b) H Q := ⟨h, q⟩
theorem rd_subI {a b : Int} (q : Q (.int (a - b)) H) : xSub (.int a) (.int b) H Q := q
theorem rd_mulI {a b : Int} (h : IntMulOk a b) (q : Q (.int (a * b)) H) : xMul K (.int a) (.int b) H Q := ⟨h, q⟩
theorem rd_modI {a b : Int} (h : 0 < b) (q : Q (.int (a % b)) H) : xMod (.int a) (.int b) H Q := ⟨h, q⟩
theorem rd_modL {a b : Int} (h : 0 < b) (q : ∀ z, 0 ≤ z → z < b → Q (.int z) H) : xMod (.int a) (.int b) H Q := ⟨h, q _ (Int.emod_nonneg _ (by omega)) (Int.emod_lt_of_pos _ h)⟩
theorem rd_divI {a b : Int} (h : CDivW a b) (q : Q (.int (a / b)) H) : xDiv (.int a) (.int b) H Q := ⟨h, q⟩
theorem rd_powI {a b : Int} (h : PowOk a b) (q : Q (.int (a ^ b.toNat)) H) : xPow (.int a) (.int b) H Q := ⟨h, q⟩
theorem rd_ltI {a b : Int} (q : Q (.bl (decide (a < b))) H) : xLt (.int a) (.int b) H Q := q
theorem rd_leI {a b : Int} (q : Q (.bl (decide (a ≤ b))) H) : xLe (.int a) (.int b) H Q := q
theorem rd_gtI {a b : Int} (q : Q (.bl (decide (b < a))) H) : xGt (.int a) (.int b) H Q := q
theorem rd_geI {a b : Int} (q : Q (.bl (decide (b ≤ a))) H) : xGe (.int a) (.int b) H Q := q
theorem rd_ltS {a b : Str} (q : Q (.bl (decide (a.cps.toList < b.cps.toList))) H) : xLt (.str a) (.str b) H Q := q
theorem rd_leS {a b : Str} (q : Q (.bl (!decide (b.cps.toList < a.cps.toList))) H) : xLe (.str a) (.str b) H Q := q
theorem rd_gtS {a b : Str} (q : Q (.bl (decide (b.cps.toList < a.cps.toList))) H) : xGt (.str a) (.str b) H Q := q
theorem rd_geS {a b : Str} (q : Q (.bl (!decide (a.cps.toList < b.cps.toList))) H) : xGe (.str a) (.str b) H Q := q
theorem rd_eqI {a b : Int} (q : Q (.bl (decide (a = b))) H) : xEq K (.int a) (.int b) H Q := .inl ⟨rfl, by rw [dec_i]; exact q⟩
theorem rd_eqS {a b : Str} (q : Q (.bl (decide (a = b))) H) : xEq K (.str a) (.str b) H Q := .inl ⟨rfl, by rw [dec_s]; exact q⟩
theorem rd_neI {a b : Int} (q : Q (.bl (!decide (a = b))) H) : xNe K (.int a) (.int b) H Q := .inl ⟨rfl, by rw [dec_i]; exact q⟩
theorem rd_neS {a b : Str} (q : Q (.bl (!decide (a = b))) H) : xNe K (.str a) (.str b) H Q := .inl ⟨rfl, by rw [dec_s]; exact q⟩
theorem rd_eqB {a b : Bool} (q : Q (.bl (a == b)) H) : xEq K (.bl a) (.bl b) H Q := .inl ⟨rfl, by rw [dec_b]; exact q⟩
theorem rd_neB {a b : Bool} (q : Q (.bl (a != b)) H) : xNe K (.bl a) (.bl b) H Q := .inl ⟨rfl, by rw [dec_b]; exact q⟩
theorem rd_inS {a b : Str} (q : Q (.bl (inS a b)) H) : xIn K (.str a) (.str b) H Q := ⟨a, rfl, q⟩
theorem rd_notInS {a b : Str} (q : Q (.bl (!inS a b)) H) : xNotIn K (.str a) (.str b) H Q := ⟨a, rfl, q⟩
theorem rd_inT {p : Addr} {xs : List V} (h : SqT K H p xs) (f : flatV x = true) (f' : xs.all flatV = true) (q : Q (.bl (inV x xs)) H) : xIn K x (.ref p) H Q := .inl ⟨p, xs, rfl, .inr h, f, f', q⟩
theorem rd_inL {p : Addr} {xs : List V} (h : SqL K H p xs) (f : flatV x = true) (f' : xs.all flatV = true) (q : Q (.bl (inV x xs)) H) : xIn K x (.ref p) H Q := .inl ⟨p, xs, rfl, .inl h, f, f', q⟩
theorem rd_notInT {p : Addr} {xs : List V} (h : SqT K H p xs) (f : flatV x = true) (f' : xs.all flatV = true) (q : Q (.bl (!inV x xs)) H) : xNotIn K x (.ref p) H Q := .inl ⟨p, xs, rfl, .inr h, f, f', q⟩
theorem rd_notInL {p : Addr} {xs : List V} (h : SqL K H p xs) (f : flatV x = true) (f' : xs.all flatV = true) (q : Q (.bl (!inV x xs)) H) : xNotIn K x (.ref p) H Q := .inl ⟨p, xs, rfl, .inl h, f, f', q⟩
theorem rd_eqNil {p q : Addr} {xs : List V} (h : SqL K H p xs) (h' : SqL K H q []) (k : Q (.bl xs.isEmpty) H) : xEq K (.ref p) (.ref q) H Q :=
  .inr (.inr ⟨p, q, xs, [], rfl, rfl, h, h', .inr rfl, by cases xs <;> exact k⟩)
theorem rd_neNil {p q : Addr} {xs : List V} (h : SqL K H p xs) (h' : SqL K H q []) (k : Q (.bl (!xs.isEmpty)) H) : xNe K (.ref p) (.ref q) H Q :=
  .inr (.inr ⟨p, q, xs, [], rfl, rfl, h, h', .inr rfl, by cases xs <;> exact k⟩)
theorem rd_eqD {d e : PyData} (hd : Dp K H x d) (he : Dp K H y e) (sd : SeqAt.shaped d = true) (se : SeqAt.shaped e = true) (q : Q (.bl (PyData.eqv d e)) H) : xEq K x y H Q := .inr (.inl ⟨d, e, hd, he, sd, se, q⟩)
theorem rd_neD {d e : PyData} (hd : Dp K H x d) (he : Dp K H y e) (sd : SeqAt.shaped d = true) (se : SeqAt.shaped e = true) (q : Q (.bl (!PyData.eqv d e)) H) : xNe K x y H Q := .inr (.inl ⟨d, e, hd, he, sd, se, q⟩)
theorem rd_is (q : Q (.bl (decide (x = .non))) H) : xIs x .non H Q := .inl ⟨rfl, q⟩
theorem rd_isNot (q : Q (.bl (!decide (x = .non))) H) : xIsNot x .non H Q := .inl ⟨rfl, q⟩
theorem rd_isB {a b : Bool} (q : Q (.bl (decide (a = b))) H) : xIs (.bl a) (.bl b) H Q := .inr ⟨a, b, rfl, rfl, q⟩
theorem rd_notB {a b : Bool} (q : Q (.bl (!decide (a = b))) H) : xIsNot (.bl a) (.bl b) H Q := .inr ⟨a, b, rfl, rfl, q⟩
theorem rd_revL {te : TE} (q : te σ H fun x H1 => ∃ a xs, x = .ref a ∧ SqL K H1 a xs ∧ ∀ p, H1 p = none → Q (.ref p) (upd H1 p (.lst xs.reverse))) : tRevL K te σ H Q := q
theorem rd_rev2 {p : Addr} {xs : List V} (h : SqL K H p xs) (q : ∀ l, H l = none → Q (.ref l) (upd H l (.lst xs.reverse))) : ∃ a xs, V.ref p = .ref a ∧ SqL K H a xs ∧ ∀ p, H p = none → Q (.ref p) (upd H p (.lst xs.reverse)) := ⟨p, xs, rfl, h, q⟩
theorem rd_star {te : TE} (q : te σ H fun y H1 => ∃ a xs, y = .ref a ∧ (SqT K H1 a xs ∨ SqL K H1 a xs) ∧ tA σ H1 fun vs H2 => QA (xs ++ vs) H2) : StX.tStar K te tA σ H QA := q
theorem rd_starL {p : Addr} {xs : List V} {N : List V → Prop} (h : SqL K H p xs) (q : N xs) : ∃ a ys, V.ref p = .ref a ∧ (SqT K H a ys ∨ SqL K H a ys) ∧ N ys := ⟨p, xs, rfl, .inr h, q⟩
theorem rd_starT {p : Addr} {xs : List V} {N : List V → Prop} (h : SqT K H p xs) (q : N xs) : ∃ a ys, V.ref p = .ref a ∧ (SqT K H a ys ∨ SqL K H a ys) ∧ N ys := ⟨p, xs, rfl, .inl h, q⟩
theorem rd_ixL {p : Addr} {xs : List V} {n : Int} (h : SqL K H p xs) (e : atI xs n = some v) (q : Q v H) : xIx K (.ref p) (.int n) H Q := ⟨xs, v, .inl h, e, q⟩
theorem rd_ixT {p : Addr} {xs : List V} {n : Int} (h : SqT K H p xs) (e : atI xs n = some v) (q : Q v H) : xIx K (.ref p) (.int n) H Q := ⟨xs, v, .inr h, e, q⟩
theorem rd_ixLU {p : Addr} {xs : List V} {n : Int} (e : atI xs n = some v) (q : Q v (upd H p (.lst xs))) : xIx K (.ref p) (.int n) (upd H p (.lst xs)) Q := rd_ixL (SqL.of upd_same) e q
theorem rd_ixTU {p : Addr} {xs : List V} {n : Int} (e : atI xs n = some v) (q : Q v (upd H p (.tup xs))) : xIx K (.ref p) (.int n) (upd H p (.tup xs)) Q := rd_ixT (SqT.of upd_same) e q
theorem rd_ixS {z : Str} {n : Int} {c : Nat} (h : z.length ≤ sizeLine) (e : atI z.cps.toList n = some c) (q : Q (.str ⟨#[c]⟩) H) : xIx K (.str z) (.int n) H Q := ⟨c, h, e, q⟩
theorem rd_slS {z : Str} {lo hi : Option Int} (h : z.length ≤ sizeLine) (q : Q (.str (cutS z lo hi)) H) : xSl K (.str z) lo hi H Q := ⟨h, q⟩
theorem rd_slL {p : Addr} {xs : List V} {lo hi : Option Int} (h : SqL K H p xs) (q : ∀ l, H l = none → Q (.ref l) (upd H l (.lst (cutV xs lo hi)))) : xSl K (.ref p) lo hi H Q := .inl ⟨p, xs, rfl, h, q⟩
theorem rd_lenS {z : Str} (h : z.length ≤ sizeLine) (q : Q (.int (z.length : Nat)) H) : xLen K [.str z] H Q := .inl ⟨_, _, rfl, ⟨h, rfl⟩, q⟩
theorem rd_lenL {p : Addr} {xs : List V} (h : SqL K H p xs) (q : Q (.int (xs.length : Nat)) H) : xLen K [.ref p] H Q := .inl ⟨_, _, rfl, .inl ⟨xs, h, rfl⟩, q⟩
theorem rd_lenT {p : Addr} {xs : List V} (h : SqT K H p xs) (q : Q (.int (xs.length : Nat)) H) : xLen K [.ref p] H Q := .inl ⟨_, _, rfl, .inr ⟨xs, h, rfl⟩, q⟩
theorem rd_intI {n : Int} (q : Q (.int n) H) : xInt [.int n] H Q := q
theorem rd_intB (q : Q (.int (if b then 1 else 0)) H) : xInt [.bl b] H Q := q
theorem rd_abs {n : Int} (q : Q (.int (if n < 0 then -n else n)) H) : ∃ i, [V.int n] = [.int i] ∧ Q (.int (if i < 0 then -i else i)) H := ⟨n, rfl, q⟩
theorem rd_max {n m : Int} (q : Q (.int (max n m)) H) : xMax [.int n, .int m] H Q := q
theorem rd_min {n m : Int} (q : Q (.int (min n m)) H) : xMin [.int n, .int m] H Q := q
theorem rd_repr {d : PyData} (h : Dp K H x d) (h' : Shows d) (q : Q (.str d.shown) H) : xRepr K [x] H Q := ⟨x, d, rfl, h, h', q⟩
theorem rd_isi {T : String} {t : Value} (ty : TyX K H x t) (e : PySem.W.kitOne K t (.type T) = some b) (q : Q (.bl b) H) : rIsi K [x, .ty T] H Q := ⟨x, .ty T, t, .type T, b, rfl, .ty T, ty, e, q⟩
theorem rd_isiS {z : Str} (q : Q (.bl true) H) : rIsi K [.str z, .ty "str"] H Q := rd_isi (b := true) (.base (.str z)) (kit_ty (by decide +kernel)) q
theorem rd_isiSN (q : Q (.bl false) H) : rIsi K [.non, .ty "str"] H Q := rd_isi (b := false) (.base .non) (kit_ty (by decide +kernel)) q
theorem rd_isiSI {n : Int} (q : Q (.bl false) H) : rIsi K [.int n, .ty "str"] H Q := rd_isi (b := false) (.base (.int n)) (kit_ty (by decide +kernel)) q
theorem rd_isiSB {c : Bool} (q : Q (.bl false) H) : rIsi K [.bl c, .ty "str"] H Q := rd_isi (b := false) (.base (.bl c)) (kit_ty (by decide +kernel)) q
theorem rd_isiI {n : Int} (q : Q (.bl true) H) : rIsi K [.int n, .ty "int"] H Q := rd_isi (b := true) (.base (.int n)) (kit_ty (by decide +kernel)) q
theorem rd_isiIB {c : Bool} (q : Q (.bl true) H) : rIsi K [.bl c, .ty "int"] H Q := rd_isi (b := true) (.base (.bl c)) (kit_ty (by decide +kernel)) q
theorem rd_isiIN (q : Q (.bl false) H) : rIsi K [.non, .ty "int"] H Q := rd_isi (b := false) (.base .non) (kit_ty (by decide +kernel)) q
theorem rd_isiIS {z : Str} (q : Q (.bl false) H) : rIsi K [.str z, .ty "int"] H Q := rd_isi (b := false) (.base (.str z)) (kit_ty (by decide +kernel)) q
theorem rd_isiB {c : Bool} (q : Q (.bl true) H) : rIsi K [.bl c, .ty "bool"] H Q := rd_isi (b := true) (.base (.bl c)) (kit_ty (by decide +kernel)) q
theorem rd_isiBI {n : Int} (q : Q (.bl false) H) : rIsi K [.int n, .ty "bool"] H Q := rd_isi (b := false) (.base (.int n)) (kit_ty (by decide +kernel)) q
theorem rd_rep {p : Addr} {xs : List V} {n : Int} (h : H p = some (.lst xs)) (h0 : 0 ≤ n) (h1 : n < 1000000) (hz : xs.length * n.toNat ≤ sizeLine) (q : ∀ l, H l = none → Q (.ref l) (upd H l (.lst (List.replicate n.toNat xs).flatten))) : xMul K (.ref p) (.int n) H Q :=
  .inl ⟨p, n, xs, rfl, rfl, h, by omega, by omega, hz, q⟩
theorem rd_repT {p : Addr} {xs : List V} {n : Int} (h : SqT K H p xs) (hn : xs ≠ []) (h0 : 2 ≤ n) (h1 : n ≤ 1000) (hz : xs.length ≤ 1000) (q : ∀ l, H l = none → Q (.ref l) (upd H l (.tup (List.replicate n.toNat xs).flatten))) : xMul K (.ref p) (.int n) H Q :=
  .inr ⟨p, n, xs, rfl, rfl, h, hn, h0, h1, hz, q⟩
theorem rd_inD {p : Addr} {d : PyData} {ds : List PyData} (hd : Dp K H x d) (he : Dp K H (.ref p) (.list ds)) (sd : SeqAt.shaped d = true) (se : SeqAt.shaped (.list ds) = true) (q : Q (.bl (ds.any fun z => PyData.eqv z d)) H) : xIn K x (.ref p) H Q := .inr ⟨d, ds, hd, he, sd, se, q⟩
theorem rd_notInD {p : Addr} {d : PyData} {ds : List PyData} (hd : Dp K H x d) (he : Dp K H (.ref p) (.list ds)) (sd : SeqAt.shaped d = true) (se : SeqAt.shaped (.list ds) = true) (q : Q (.bl (!ds.any fun z => PyData.eqv z d)) H) : xNotIn K x (.ref p) H Q := .inr ⟨d, ds, hd, he, sd, se, q⟩
theorem rd_lenD {p : Addr} {kvs : List (Key × V)} (h : H p = some (.dK kvs)) (q : Q (.int kvs.length) H) : xLen K [.ref p] H Q := .inr ⟨p, kvs, rfl, h, q⟩
theorem rd_catT {p l : Addr} {xs ys : List V} (h : SqT K H p xs) (h' : SqT K H l ys) (hx : xs ≠ []) (hy : ys ≠ []) (hz : xs.length + ys.length ≤ sizeLine) (q : ∀ r, H r = none → Q (.ref r) (upd H r (.tup (xs ++ ys)))) : xAdd K (.ref p) (.ref l) H Q := .inr ⟨p, l, xs, ys, rfl, rfl, h, h', hz, fun e => absurd e hx, fun _ e => absurd e hy, fun _ _ => q⟩
theorem rd_slT {p : Addr} {xs : List V} {lo hi : Option Int} (h : SqT K H p xs) (n : ¬ (HT.sIx xs.length 0 lo = 0 ∧ HT.sIx xs.length xs.length hi = xs.length)) (q : ∀ l, H l = none → Q (.ref l) (upd H l (.tup (cutV xs lo hi)))) : xSl K (.ref p) lo hi H Q := .inr ⟨p, xs, rfl, h, fun c => absurd c n, fun _ => q⟩
theorem rd_slTA {p : Addr} {xs : List V} {lo hi : Option Int} (h : H p = some (.tup xs)) (q : ∀ r H', (∀ a o, H a = some o → H' a = some o) → H' r = some (.tup (cutV xs lo hi)) → (r = p ∧ H' = H) ∨ (H r = none ∧ H' = upd H r (.tup (cutV xs lo hi))) → Q (.ref r) H') : xSl K (.ref p) lo hi H Q := by
  refine .inr ⟨p, xs, rfl, SqT.of h, fun c => ?_, fun _ r hr => ?_⟩
  · refine q p H (fun _ _ e => e) ?_ (.inl ⟨rfl, rfl⟩)
    rw [h]
    unfold cutV
    rw [c.1, c.2, List.drop_zero, Nat.sub_zero, List.take_length]
  · refine q r _ (fun a o e => ?_) upd_same (.inr ⟨hr, rfl⟩)
    rw [upd_ne (ne_of_none e hr)]
    exact e
theorem rd_catTA {p l : Addr} {xs ys : List V} (h : H p = some (.tup xs)) (h' : H l = some (.tup ys)) (hz : xs.length + ys.length ≤ sizeLine) (q : ∀ r H', (∀ a o, H a = some o → H' a = some o) → H' r = some (.tup (xs ++ ys)) → ((r = p ∨ r = l) ∧ H' = H) ∨ (H r = none ∧ H' = upd H r (.tup (xs ++ ys))) → Q (.ref r) H') : xAdd K (.ref p) (.ref l) H Q := by
  refine .inr ⟨p, l, xs, ys, rfl, rfl, SqT.of h, SqT.of h', hz, fun e => ?_, fun _ e => ?_, fun _ _ r hr => q r _ (fun a o e => by rw [upd_ne (ne_of_none e hr)]; exact e) upd_same (.inr ⟨hr, rfl⟩)⟩
  · exact q l H (fun _ _ e => e) (by rw [h', e, List.nil_append]) (.inl ⟨.inr rfl, rfl⟩)
  · exact q p H (fun _ _ e => e) (by rw [h, e, List.append_nil]) (.inl ⟨.inl rfl, rfl⟩)
theorem rd_lenSet {ta : TE} (q : ta σ H fun x H1 => ∃ (l : Addr) (ns : List Int), x = .ref l ∧ SqL K H1 l (ns.map V.int) ∧ ns.length ≤ 4000 ∧ Q (.int ((dist ns).length : Nat)) H1) : tLenSetX K ta σ H Q := q
theorem rd_isiT {p : Addr} {xs : List V} (h : H p = some (.tup xs)) (q : Q (.bl true) H) : rIsi K [.ref p, .ty "tuple"] H Q := rd_isi (b := true) (.base (.tup h)) (kit_ty (by decide +kernel)) q
theorem rd_isiL {p : Addr} {xs : List V} (h : H p = some (.lst xs)) (q : Q (.bl true) H) : rIsi K [.ref p, .ty "list"] H Q := rd_isi (b := true) (.base (.lst h)) (kit_ty (by decide +kernel)) q
theorem rd_mulS {z : Str} {n : Int} (hz : z.length ≤ 16) (hn : n ≤ 1048576) (h0 : 0 ≤ n) (q : Q (.str (Txt.mul z n)) H) : xMul K (.str z) (.int n) H Q := ⟨mulOk_of 16 1048576 hz hn (by omega) (by decide) (by decide), q⟩
theorem rd_catS {p l : Addr} {xs ys : List V} (h : SqL K H p xs) (h' : SqL K H l ys) (hz : xs.length + ys.length ≤ sizeLine) (q : ∀ r, H r = none → Q (.ref r) (upd H r (.lst (xs ++ ys)))) : xAdd K (.ref p) (.ref l) H Q :=
  .inl ⟨p, l, xs, ys, rfl, rfl, h, h', hz, q⟩
theorem rd_cat {p l : Addr} {xs ys : List V} (h : H p = some (.lst xs)) (h' : H l = some (.lst ys)) (hz : xs.length + ys.length ≤ sizeLine) (q : ∀ r, H r = none → Q (.ref r) (upd H r (.lst (xs ++ ys)))) : xAdd K (.ref p) (.ref l) H Q :=
  rd_catS (.of h) (.of h') hz q
theorem rd_wipe {s1 s2 : St} {ws : List Nat} {A : Prop} (h : wipe s1 ws = wipe s2 ws) (q : A) : wipe s1 ws = wipe s2 ws ∧ A := ⟨h, q⟩
theorem rd_split {a b : Str} (h : (b.length == 0) = false) (hz : a.length ≤ 1000000) (q : ∀ p, H p = none → Q (.ref p) (upd H p (.lst ((Txt.split a b).map V.str)))) :
    ∃ a' b', V.str a = .str a' ∧ [V.str b] = [.str b'] ∧ (b'.length == 0) = false ∧ a'.length + 2 ≤ sizeLine ∧ rNewStrs (Txt.split a' b') H Q := ⟨a, b, rfl, rfl, h, Nat.le_trans (Nat.add_le_add_right hz 2) (by decide), q⟩
theorem rd_app {p : Addr} {xs : List V} (h : H p = some (.lst xs)) (l : xs.length < sizeLine) (q : Q .non (upd H p (.lst (xs ++ [x])))) : rAppend (.ref p) [x] H Q := ⟨p, xs, x, rfl, rfl, h, l, q⟩
theorem rd_all {p : Addr} {bs : List Bool} (h : SqL K H p (bs.map V.bl)) (q : Q (.bl (bs.all id)) H) : rAll K [.ref p] H Q := ⟨p, bs, rfl, h, q⟩
theorem rd_any {p : Addr} {bs : List Bool} (h : SqL K H p (bs.map V.bl)) (q : Q (.bl (bs.any id)) H) : rAny K [.ref p] H Q := ⟨p, bs, rfl, h, q⟩
theorem rd_setL {p : Addr} {xs : List V} {n : Int} {j : Nat} {QH : Hp → Prop} (h : H p = some (.lst xs)) (e : ixN xs.length n = some j) (q : QH (upd H p (.lst (xs.set j v)))) : rSetL (.ref p) (.int n) v H QH := ⟨p, xs, n, j, rfl, rfl, h, e, q⟩
theorem rd_setLU {p : Addr} {xs : List V} {n : Int} {j : Nat} {QH : Hp → Prop} (e : ixN xs.length n = some j) (q : QH (upd (upd H p (.lst xs)) p (.lst (xs.set j v)))) : rSetL (.ref p) (.int n) v (upd H p (.lst xs)) QH := rd_setL upd_same e q
theorem rd_ite {A B : Prop} (h1 : b = true → A) (h2 : b = false → B) : if b = true then A else B := by
  cases b with
  | true => exact h1 rfl
  | false => exact h2 rfl
theorem rd_yT {A B : Prop} (h : A) : if true = true then A else B := by rw [if_pos rfl]; exact h
theorem rd_yF {A B : Prop} (h : A) : if (!false) = true then A else B := by rw [if_pos (show (!false) = true from rfl)]; exact h
theorem rd_nF {A B : Prop} (h : B) : if false = true then A else B := by rw [if_neg Bool.false_ne_true]; exact h
theorem rd_nT {A B : Prop} (h : B) : if (!true) = true then A else B := by rw [if_neg (by decide)]; exact h
theorem rd_yesI {A B : Prop} (e : b = true) (h : A) : if b = true then A else B := by rw [if_pos e]; exact h
theorem rd_noI {A B : Prop} (e : b = false) (h : B) : if b = true then A else B := by rw [if_neg (by rw [e]; decide)]; exact h
theorem rd_dput {td ty tv : TE} (q : tv σ H fun v H1 => td σ H1 fun x H2 => ty σ H2 fun y H3 => ∃ a H4, x = .ref a ∧ DPut H3 a y v H4 ∧ D.nx σ H4) : sDPut td ty tv D σ H := q
theorem rd_putI {p : Addr} {kvs : List (Key × V)} {n : Int} {N : Hp → Prop} (h : H p = some (.dK kvs)) (l : kvs.length < sizeLine) (q : N (upd H p (.dK (putK kvs (Sum.inl n) v)))) : ∃ a H4, V.ref p = .ref a ∧ DPut H a (.int n) v H4 ∧ N H4 :=
  ⟨p, _, rfl, DPut.k (k := Sum.inl n) h l, q⟩
theorem rd_putS {p : Addr} {kvs : List (Key × V)} {n : Str} {N : Hp → Prop} (h : H p = some (.dK kvs)) (l : kvs.length < sizeLine) (q : N (upd H p (.dK (putK kvs (Sum.inr n) v)))) : ∃ a H4, V.ref p = .ref a ∧ DPut H a (.str n) v H4 ∧ N H4 :=
  ⟨p, _, rfl, DPut.k (k := Sum.inr n) h l, q⟩
theorem rd_dnew (q : ∀ p, H p = none → Q (.ref p) (upd H p (.dK []))) : tDNewK σ H Q := q
theorem rd_sortDI {p : Addr} {kvs : List (Key × V)} {ks : List Int} (h : H p = some (.dK kvs)) (e : kvs.map (·.1) = ks.map Sum.inl) (l : ks.length < 64) (q : ∀ (ys : List Int) (r : Addr), ys.Perm ks → ys.Pairwise (· ≤ ·) → H r = none → Q (.ref r) (upd H r (.lst (ys.map V.int)))) :
    xSortDI [V.ref p] H Q := ⟨p, kvs, ks, rfl, .of h, e, l, q⟩
theorem rd_tupL {p : Addr} {ys : List V} (h : SqL K H p ys) (q : ∀ l, H l = none → Q (.ref l) (upd H l (.tup ys))) : xTup K [V.ref p] H Q := ⟨p, ys, rfl, .inl ⟨h, q⟩⟩
theorem rd_tupT {p : Addr} {ys : List V} (h : SqT K H p ys) (q : Q (.ref p) H) : xTup K [V.ref p] H Q := ⟨p, ys, rfl, .inr ⟨h, q⟩⟩
theorem rd_lstL {p : Addr} {ys : List V} (h : SqL K H p ys) (q : ∀ l, H l = none → Q (.ref l) (upd H l (.lst ys))) : xList K [V.ref p] H Q := ⟨p, ys, rfl, .inl h, q⟩
theorem rd_lstT {p : Addr} {ys : List V} (h : SqT K H p ys) (q : ∀ l, H l = none → Q (.ref l) (upd H l (.lst ys))) : xList K [V.ref p] H Q := ⟨p, ys, rfl, .inr h, q⟩
/-! loops -/
variable {a : Addr} {xs ys : List V} {z : Str} {tt : TT} {vs : List Nat}
/-- a turn of a while -/
def WhT (m : Nat) (W : Nat → St → Hp → Prop) (s : TS) (D : Ends) (σ : St) (H : Hp) : Prop := ∃ N : St → Hp → Prop, (∀ σ' H', N σ' H' → ∃ m', m' < m ∧ W m' σ' H') ∧ s { D with nx := N, ct := N, bk := D.nx } σ H
/-- while, by a word W over a number that falls -/
theorem rd_while {tc : TT} (W : Nat → St → Hp → Prop) (m0 : Nat) (h0 : W m0 σ H)
    (hs : ∀ m σ H, W m σ H → tc σ H fun b H1 => if b = true then WhT m W s D σ H1 else D.nx σ H1) : tWhile tc s D σ H := ⟨W, ⟨m0, h0⟩, hs⟩
theorem rd_turn {m : Nat} {W : Nat → St → Hp → Prop} (q : s { D with nx := fun σ' H' => ∃ m', m' < m ∧ W m' σ' H', ct := fun σ' H' => ∃ m', m' < m ∧ W m' σ' H', bk := D.nx } σ H) : WhT m W s D σ H := ⟨_, fun _ _ h => h, q⟩
/-- what stands behind the walked thing in a for's reading -/
def ForW (J : It) (g : TG) (tb : TS) (D : Ends) (σ : St) (H : Hp) : Prop := ∃ W : Nat → Nat → St → Hp → Prop, (∃ m, W 0 m σ H) ∧ ∀ i m σ H, W i m σ H →
  (J.stop i H ∧ D.nx σ H) ∨ (J.go i H ∧ ∃ N : St → Hp → Prop, (∀ σ' H', N σ' H' → ∃ m', m' < m ∧ W (i + 1) m' σ' H') ∧ ∀ x H', J.yld i H x H' → g x σ H' fun σ2 H2 => tb { D with nx := N, ct := N, bk := D.nx } σ2 H2)
theorem rd_forL (q : te σ H fun x H1 => ∃ a, x = .ref a ∧ (∃ xs, SqL K H1 a xs) ∧ ForW (Itl K a) g s D σ H1) : tFor (iAny K te) g s D σ H := .inl q
theorem rd_forT (q : te σ H fun x H1 => ∃ a, x = .ref a ∧ (∃ xs, SqT K H1 a xs) ∧ ForW (Itt K a) g s D σ H1) : tFor (iAny K te) g s D σ H := .inr (.inl q)
theorem rd_forS (q : te σ H fun v H1 => ∃ x, v = .str x ∧ ForW (Its x) g s D σ H1) : tFor (iAny K te) g s D σ H := .inr (.inr q)
theorem rd_forR (q : tA σ H fun vs H1 => ∃ j : Int, vs = [.int j] ∧ -(2 ^ 62) ≤ j ∧ j < 2 ^ 62 ∧ ForW (Itr 0 j.toNat) g s D σ H1) : tFor (iRng1 tA) g s D σ H := q
theorem rd_forR2 (q : tA σ H fun vs H1 => ∃ i j : Int, vs = [.int i, .int j] ∧ (-(2 ^ 62) ≤ i ∧ i < 2 ^ 62 ∧ -(2 ^ 62) ≤ j ∧ j < 2 ^ 62) ∧ ForW (Itr i (j - i).toNat) g s D σ H1) : tFor (iRng2 tA) g s D σ H := q
theorem rd_itL (h : SqL K H a xs) (Pv : Nat → St → Hp → Prop) (h0 : Pv 0 σ H) (hl : ∀ i σ H, i ≤ xs.length → Pv i σ H → SqL K H a xs)
    (hs : ∀ i x σ H, xs[i]? = some x → Pv i σ H → g x σ H fun σ2 H2 => s { D with nx := Pv (i + 1), ct := Pv (i + 1), bk := D.nx } σ2 H2) (hd : ∀ σ H, Pv xs.length σ H → D.nx σ H) :
    ∃ b, V.ref a = .ref b ∧ (∃ xs, SqL K H b xs) ∧ ForW (Itl K b) g s D σ H := ⟨a, rfl, ⟨xs, h⟩, for_list Pv h0 hl hs hd⟩
theorem rd_itT (h : SqT K H a xs) (Pv : Nat → St → Hp → Prop) (h0 : Pv 0 σ H) (hl : ∀ i σ H, i ≤ xs.length → Pv i σ H → SqT K H a xs)
    (hs : ∀ i x σ H, xs[i]? = some x → Pv i σ H → g x σ H fun σ2 H2 => s { D with nx := Pv (i + 1), ct := Pv (i + 1), bk := D.nx } σ2 H2) (hd : ∀ σ H, Pv xs.length σ H → D.nx σ H) :
    ∃ b, V.ref a = .ref b ∧ (∃ xs, SqT K H b xs) ∧ ForW (Itt K b) g s D σ H := ⟨a, rfl, ⟨xs, h⟩, for_tup Pv h0 hl hs hd⟩
theorem rd_itS (Pv : Nat → St → Hp → Prop) (h0 : Pv 0 σ H)
    (hs : ∀ i c σ H, z.cps[i]? = some c → Pv i σ H → g (.str ⟨#[c]⟩) σ H fun σ2 H2 => s { D with nx := Pv (i + 1), ct := Pv (i + 1), bk := D.nx } σ2 H2) (hd : ∀ σ H, Pv z.cps.size σ H → D.nx σ H) :
    ∃ x, V.str z = .str x ∧ ForW (Its x) g s D σ H := by
  refine ⟨z, rfl, for_it walk_str Pv h0 (fun _ _ _ _ _ => trivial) ?_ hd⟩
  rintro i x σ1 H1 H2 hi hP ⟨rfl, c, hc, rfl⟩
  exact hs i c σ1 H2 hc hP
theorem rd_itR {n : Int} (b0 : -(2 ^ 62) ≤ n) (b1 : n < 2 ^ 62) (Pv : Nat → St → Hp → Prop) (h0 : Pv 0 σ H)
    (hs : ∀ (i : Nat) σ H, (i : Int) < n → Pv i σ H → g (.int (i : Int)) σ H fun σ2 H2 => s { D with nx := Pv (i + 1), ct := Pv (i + 1), bk := D.nx } σ2 H2) (hd : ∀ σ H, Pv n.toNat σ H → D.nx σ H) :
    ∃ j : Int, [V.int n] = [.int j] ∧ -(2 ^ 62) ≤ j ∧ j < 2 ^ 62 ∧ ForW (Itr 0 j.toNat) g s D σ H := by
  refine ⟨n, rfl, b0, b1, for_range Pv h0 ?_ hd⟩
  intro i σ1 H1 hi hP
  rw [Int.zero_add]
  exact hs i σ1 H1 (by omega) hP
theorem rd_itR2 {m n : Int} (b : -(2 ^ 62) ≤ m ∧ m < 2 ^ 62 ∧ -(2 ^ 62) ≤ n ∧ n < 2 ^ 62) (Pv : Nat → St → Hp → Prop) (h0 : Pv 0 σ H)
    (hs : ∀ (i : Nat) σ H, m + (i : Int) < n → Pv i σ H → g (.int (m + (i : Int))) σ H fun σ2 H2 => s { D with nx := Pv (i + 1), ct := Pv (i + 1), bk := D.nx } σ2 H2) (hd : ∀ σ H, Pv (n - m).toNat σ H → D.nx σ H) :
    ∃ i j : Int, [V.int m, V.int n] = [.int i, .int j] ∧ (-(2 ^ 62) ≤ i ∧ i < 2 ^ 62 ∧ -(2 ^ 62) ≤ j ∧ j < 2 ^ 62) ∧ ForW (Itr i (j - i).toNat) g s D σ H :=
  ⟨m, n, rfl, b, for_range Pv h0 (fun i σ1 H1 hi hP => hs i σ1 H1 (by omega) hP) hd⟩
theorem rd_forE (q : tA σ H fun vs H1 => ∃ a xs, vs = [.ref a] ∧ SqL K H1 a xs ∧ ForW (Ite K a) g s D σ H1) : tFor (iEnum K tA) g s D σ H := q
theorem rd_forZ (q : tA σ H fun vs H1 => ∃ a b xs ys, vs = [.ref a, .ref b] ∧ SqL K H1 a xs ∧ SqL K H1 b ys ∧ ForW (Itz K a b) g s D σ H1) : tFor (iZip K tA) g s D σ H := q
theorem rd_itE (h : SqL K H a xs) (Pv : Nat → St → Hp → Prop) (h0 : Pv 0 σ H) (hl : ∀ i σ H, i ≤ xs.length → Pv i σ H → SqL K H a xs)
    (hs : ∀ i x T σ H, xs[i]? = some x → Pv i σ H → H T = none → g (.ref T) σ (upd H T (.tup [.int (i : Int), x])) fun σ2 H2 => s { D with nx := Pv (i + 1), ct := Pv (i + 1), bk := D.nx } σ2 H2) (hd : ∀ σ H, Pv xs.length σ H → D.nx σ H) :
    ∃ b ys, [V.ref a] = [.ref b] ∧ SqL K H b ys ∧ ForW (Ite K b) g s D σ H := by
  refine ⟨a, xs, rfl, h, for_it walk_enum Pv h0 hl ?_ hd⟩
  rintro i x σ1 H1 H2 hi hP ⟨T, u, y, rfl, hT, rfl, hu, hy⟩
  cases hu
  exact hs i y T σ1 H1 hy hP hT
theorem rd_itZ {b : Addr} (h : SqL K H a xs) (h' : SqL K H b ys) {n : Nat} (hn : n = min xs.length ys.length) (Pv : Nat → St → Hp → Prop) (h0 : Pv 0 σ H) (hl : ∀ i σ H, i ≤ n → Pv i σ H → SqL K H a xs ∧ SqL K H b ys)
    (hs : ∀ i x y T σ H, xs[i]? = some x → ys[i]? = some y → Pv i σ H → H T = none → g (.ref T) σ (upd H T (.tup [x, y])) fun σ2 H2 => s { D with nx := Pv (i + 1), ct := Pv (i + 1), bk := D.nx } σ2 H2) (hd : ∀ σ H, Pv n σ H → D.nx σ H) :
    ∃ c d us vs, [V.ref a, V.ref b] = [.ref c, .ref d] ∧ SqL K H c us ∧ SqL K H d vs ∧ ForW (Itz K c d) g s D σ H := by
  refine ⟨a, b, xs, ys, rfl, h, h', for_it (walk_zip hn) Pv h0 hl ?_ hd⟩
  rintro i x σ1 H1 H2 hi hP ⟨T, u, y, rfl, hT, rfl, hu, hy⟩
  exact hs i u y T σ1 H1 hu hy hP hT
/-- what stands behind the walked thing in a comprehension's reading -/
def LcW (J : It) (g : TG) (tt : TT) (te : TE) (vs : List Nat) (σ : St) (H1 : Hp) (Q : VK) : Prop := ∀ D, H1 D = none → ∃ W : Nat → Nat → Hp → Prop, (∃ m, W 0 m (upd H1 D (.lst []))) ∧ ∀ i m H, W i m H →
  (J.stop i H ∧ Q (.ref D) H) ∨ (J.go i H ∧ ∃ Nx : Hp → Prop, (∀ H', Nx H' → ∃ m', m' < m ∧ W (i + 1) m' H') ∧ ∀ x H', J.yld i H x H' → g x (wipe σ vs) H' fun σ2 H2 => wipe σ2 vs = wipe σ vs ∧ tt σ2 H2 fun b H3 =>
    if b = true then te σ2 H3 fun y H4 => ∃ acc, H4 D = some (.lst acc) ∧ acc.length < sizeLine ∧ Nx (upd H4 D (.lst (acc ++ [y]))) else Nx H3)
theorem rd_lcL (q : ta σ H fun x H1 => ∃ a, x = .ref a ∧ (∃ xs, SqL K H1 a xs) ∧ LcW (Itl K a) g tt te vs σ H1 Q) : tLc (iAny K ta) g tt te vs σ H Q := .inl q
theorem rd_lcT (q : ta σ H fun x H1 => ∃ a, x = .ref a ∧ (∃ xs, SqT K H1 a xs) ∧ LcW (Itt K a) g tt te vs σ H1 Q) : tLc (iAny K ta) g tt te vs σ H Q := .inr (.inl q)
theorem rd_lcS (q : ta σ H fun x H1 => ∃ z, x = .str z ∧ LcW (Its z) g tt te vs σ H1 Q) : tLc (iAny K ta) g tt te vs σ H Q := .inr (.inr q)
theorem rd_lcR (q : tA σ H fun ws H1 => ∃ j : Int, ws = [.int j] ∧ -(2 ^ 62) ≤ j ∧ j < 2 ^ 62 ∧ LcW (Itr 0 j.toNat) g tt te vs σ H1 Q) : tLc (iRng1 tA) g tt te vs σ H Q := q
theorem rd_lcR2 (q : tA σ H fun ws H1 => ∃ i j : Int, ws = [.int i, .int j] ∧ (-(2 ^ 62) ≤ i ∧ i < 2 ^ 62 ∧ -(2 ^ 62) ≤ j ∧ j < 2 ^ 62) ∧ LcW (Itr i (j - i).toNat) g tt te vs σ H1 Q) : tLc (iRng2 tA) g tt te vs σ H Q := q
/-- one turn of a comprehension: the target, the test, the element, the list grown at D -/
def LcT (g : TG) (tt : TT) (te : TE) (vs : List Nat) (σ : St) (D : Addr) (N : Hp → Prop) (x : V) (H : Hp) : Prop :=
  g x (wipe σ vs) H fun σ2 H2 => wipe σ2 vs = wipe σ vs ∧ tt σ2 H2 fun b H3 => if b = true then te σ2 H3 fun y H4 => ∃ acc, H4 D = some (.lst acc) ∧ acc.length < sizeLine ∧ N (upd H4 D (.lst (acc ++ [y]))) else N H3
theorem rd_lcT1 {D : Addr} {N : Hp → Prop} (q : g x (wipe σ vs) H fun σ2 H2 => wipe σ2 vs = wipe σ vs ∧ tt σ2 H2 fun b H3 => if b = true then te σ2 H3 fun y H4 => ∃ acc, H4 D = some (.lst acc) ∧ acc.length < sizeLine ∧ N (upd H4 D (.lst (acc ++ [y]))) else N H3) :
    LcT g tt te vs σ D N x H := q
/-- what holds between two turns: what stands stays by R, the list at D is what A says -/
theorem lc_by {J : It} {n : Nat} {G : Hp → Prop} {Y : Nat → Hp → V → Hp → Prop} (w : Walk J n G Y) (Pv : Addr → Nat → Hp → Prop) (h0 : ∀ D, H D = none → Pv D 0 (upd H D (.lst []))) (hG : ∀ D i H', H D = none → i ≤ n → Pv D i H' → G H')
    (hs : ∀ D i x H1 H2, H D = none → i < n → Pv D i H1 → Y i H1 x H2 → LcT g tt te vs σ D (Pv D (i + 1)) x H2) (hd : ∀ D H', H D = none → Pv D n H' → Q (.ref D) H') : LcW J g tt te vs σ H Q := by
  intro D hD
  exact lc_it w (Pv D) (h0 D hD) (fun i H' hi hP => hG D i H' hD hi hP) (fun i x H1 H2 hi hP hY => hs D i x H1 H2 hD hi hP hY) fun H' hP => hd D H' hD hP
theorem rd_clL (h : SqL K H a xs) (Pv : Addr → Nat → Hp → Prop) (h0 : ∀ D, H D = none → Pv D 0 (upd H D (.lst []))) (hG : ∀ D i H', H D = none → i ≤ xs.length → Pv D i H' → SqL K H' a xs)
    (hs : ∀ D i x H', H D = none → xs[i]? = some x → Pv D i H' → LcT g tt te vs σ D (Pv D (i + 1)) x H') (hd : ∀ D H', H D = none → Pv D xs.length H' → Q (.ref D) H') :
    ∃ b, V.ref a = .ref b ∧ (∃ xs, SqL K H b xs) ∧ LcW (Itl K b) g tt te vs σ H Q := by
  refine ⟨a, rfl, ⟨xs, h⟩, lc_by walk_list Pv h0 hG ?_ hd⟩
  rintro D i x H1 H2 hD hi hP ⟨rfl, hx⟩
  exact hs D i x H2 hD hx hP
theorem rd_clT (h : SqT K H a xs) (Pv : Addr → Nat → Hp → Prop) (h0 : ∀ D, H D = none → Pv D 0 (upd H D (.lst []))) (hG : ∀ D i H', H D = none → i ≤ xs.length → Pv D i H' → SqT K H' a xs)
    (hs : ∀ D i x H', H D = none → xs[i]? = some x → Pv D i H' → LcT g tt te vs σ D (Pv D (i + 1)) x H') (hd : ∀ D H', H D = none → Pv D xs.length H' → Q (.ref D) H') :
    ∃ b, V.ref a = .ref b ∧ (∃ xs, SqT K H b xs) ∧ LcW (Itt K b) g tt te vs σ H Q := by
  refine ⟨a, rfl, ⟨xs, h⟩, lc_by walk_tup Pv h0 hG ?_ hd⟩
  rintro D i x H1 H2 hD hi hP ⟨rfl, hx⟩
  exact hs D i x H2 hD hx hP
/-! dict comprehensions over a list -/
def DcT (g : TG) (tt : TT) (tk tv : TE) (vs : List Nat) (σ : St) (D : Addr) (N : Hp → Prop) (x : V) (H : Hp) : Prop :=
  g x (wipe σ vs) H fun σ2 H2 => wipe σ2 vs = wipe σ vs ∧ tt σ2 H2 fun b H3 => if b = true then tk σ2 H3 fun y H4 => tv σ2 H4 fun z H5 => ∃ kvs k, y = kV k ∧ H5 D = some (.dK kvs) ∧ kvs.length < sizeLine ∧ N (upd H5 D (.dK (putK kvs k z))) else N H3
theorem rd_dcT1 {tk tv : TE} {D : Addr} {N : Hp → Prop} (q : g x (wipe σ vs) H fun σ2 H2 => wipe σ2 vs = wipe σ vs ∧ tt σ2 H2 fun b H3 => if b = true then tk σ2 H3 fun y H4 => tv σ2 H4 fun z H5 => ∃ kvs k, y = kV k ∧ H5 D = some (.dK kvs) ∧ kvs.length < sizeLine ∧ N (upd H5 D (.dK (putK kvs k z))) else N H3) :
    DcT g tt tk tv vs σ D N x H := q
def DcW (J : It) (g : TG) (tt : TT) (tk tv : TE) (vs : List Nat) (σ : St) (H1 : Hp) (Q : VK) : Prop := ∀ D, H1 D = none → ∃ W : Nat → Nat → Hp → Prop, (∃ m, W 0 m (upd H1 D (.dK []))) ∧ ∀ i m H, W i m H →
  (J.stop i H ∧ Q (.ref D) H) ∨ (J.go i H ∧ ∃ Nx : Hp → Prop, (∀ H', Nx H' → ∃ m', m' < m ∧ W (i + 1) m' H') ∧ ∀ x H', J.yld i H x H' → DcT g tt tk tv vs σ D Nx x H')
theorem rd_dcL {tk tv : TE} (q : ta σ H fun x H1 => ∃ a, x = .ref a ∧ (∃ xs, SqL K H1 a xs) ∧ DcW (Itl K a) g tt tk tv vs σ H1 Q) : tDc (iAny K ta) g tt tk tv vs σ H Q := .inl q
theorem rd_ddL {tk tv : TE} (h : SqL K H a xs) (Pv : Addr → Nat → Hp → Prop) (h0 : ∀ D, H D = none → Pv D 0 (upd H D (.dK []))) (hG : ∀ D i H', H D = none → i ≤ xs.length → Pv D i H' → SqL K H' a xs)
    (hs : ∀ D i x H', H D = none → xs[i]? = some x → Pv D i H' → DcT g tt tk tv vs σ D (Pv D (i + 1)) x H') (hd : ∀ D H', H D = none → Pv D xs.length H' → Q (.ref D) H') :
    ∃ b, V.ref a = .ref b ∧ (∃ xs, SqL K H b xs) ∧ DcW (Itl K b) g tt tk tv vs σ H Q := by
  refine ⟨a, rfl, ⟨xs, h⟩, fun D hD => ⟨fun i m H' => m = xs.length - i ∧ i ≤ xs.length ∧ Pv D i H', ⟨xs.length, by simp, Nat.zero_le _, h0 D hD⟩, ?_⟩⟩
  rintro i m H' ⟨rfl, hi, p⟩
  have q := hG D i H' hD hi p
  have w := walk_list (K := K) (a := a) (xs := xs)
  by_cases hlt : i < xs.length
  · refine .inr ⟨w.goes i H' hlt q, Pv D (i + 1), fun H2 p' => ⟨xs.length - (i + 1), by omega, rfl, hlt, p'⟩, fun x H2 y => ?_⟩
    obtain ⟨e, hx⟩ := w.yields i H' x H2 hlt q y
    subst e
    exact hs D i x _ hD hx p
  · have e : i = xs.length := by omega
    subst e
    exact .inl ⟨w.stops H' q, hd D H' hD p⟩
theorem rd_lcE (q : tA σ H fun ws H1 => ∃ a xs, ws = [.ref a] ∧ SqL K H1 a xs ∧ LcW (Ite K a) g tt te vs σ H1 Q) : tLc (iEnum K tA) g tt te vs σ H Q := q
theorem rd_lcZ (q : tA σ H fun ws H1 => ∃ a b xs ys, ws = [.ref a, .ref b] ∧ SqL K H1 a xs ∧ SqL K H1 b ys ∧ LcW (Itz K a b) g tt te vs σ H1 Q) : tLc (iZip K tA) g tt te vs σ H Q := q
theorem rd_clE (h : SqL K H a xs) (Pv : Addr → Nat → Hp → Prop) (h0 : ∀ D, H D = none → Pv D 0 (upd H D (.lst []))) (hG : ∀ D i H', H D = none → i ≤ xs.length → Pv D i H' → SqL K H' a xs)
    (hs : ∀ D i x T H', H D = none → xs[i]? = some x → Pv D i H' → H' T = none → LcT g tt te vs σ D (Pv D (i + 1)) (.ref T) (upd H' T (.tup [.int (i : Int), x]))) (hd : ∀ D H', H D = none → Pv D xs.length H' → Q (.ref D) H') :
    ∃ b ys, [V.ref a] = [.ref b] ∧ SqL K H b ys ∧ LcW (Ite K b) g tt te vs σ H Q := by
  refine ⟨a, xs, rfl, h, lc_by walk_enum Pv h0 hG ?_ hd⟩
  rintro D i x H1 H2 hD hi hP ⟨T, u, y, rfl, hT, rfl, hu, hy⟩
  cases hu
  exact hs D i y T H1 hD hy hP hT
theorem rd_clZ {b : Addr} (h : SqL K H a xs) (h' : SqL K H b ys) {n : Nat} (hn : n = min xs.length ys.length) (Pv : Addr → Nat → Hp → Prop) (h0 : ∀ D, H D = none → Pv D 0 (upd H D (.lst []))) (hG : ∀ D i H', H D = none → i ≤ n → Pv D i H' → SqL K H' a xs ∧ SqL K H' b ys)
    (hs : ∀ D i x y T H', H D = none → xs[i]? = some x → ys[i]? = some y → Pv D i H' → H' T = none → LcT g tt te vs σ D (Pv D (i + 1)) (.ref T) (upd H' T (.tup [x, y]))) (hd : ∀ D H', H D = none → Pv D n H' → Q (.ref D) H') :
    ∃ c d us ws, [V.ref a, V.ref b] = [.ref c, .ref d] ∧ SqL K H c us ∧ SqL K H d ws ∧ LcW (Itz K c d) g tt te vs σ H Q := by
  refine ⟨a, b, xs, ys, rfl, h, h', lc_by (walk_zip hn) Pv h0 hG ?_ hd⟩
  rintro D i x H1 H2 hD hi hP ⟨T, u, y, rfl, hT, rfl, hu, hy⟩
  exact hs D i u y T H1 hD hu hy hP hT
theorem rd_clS (Pv : Addr → Nat → Hp → Prop) (h0 : ∀ D, H D = none → Pv D 0 (upd H D (.lst [])))
    (hs : ∀ D i c H', H D = none → z.cps[i]? = some c → Pv D i H' → LcT g tt te vs σ D (Pv D (i + 1)) (.str ⟨#[c]⟩) H') (hd : ∀ D H', H D = none → Pv D z.cps.size H' → Q (.ref D) H') :
    ∃ y, V.str z = .str y ∧ LcW (Its y) g tt te vs σ H Q := by
  refine ⟨z, rfl, lc_by walk_str Pv h0 (fun _ _ _ _ _ _ => trivial) ?_ hd⟩
  rintro D i x H1 H2 hD hi hP ⟨rfl, c, hc, rfl⟩
  exact hs D i c H2 hD hc hP
theorem rd_clR {n : Int} (b0 : -(2 ^ 62) ≤ n) (b1 : n < 2 ^ 62) (Pv : Addr → Nat → Hp → Prop) (h0 : ∀ D, H D = none → Pv D 0 (upd H D (.lst [])))
    (hs : ∀ D (i : Nat) H', H D = none → (i : Int) < n → Pv D i H' → LcT g tt te vs σ D (Pv D (i + 1)) (.int (i : Int)) H') (hd : ∀ D H', H D = none → Pv D n.toNat H' → Q (.ref D) H') :
    ∃ j : Int, [V.int n] = [.int j] ∧ -(2 ^ 62) ≤ j ∧ j < 2 ^ 62 ∧ LcW (Itr 0 j.toNat) g tt te vs σ H Q := by
  refine ⟨n, rfl, b0, b1, lc_by walk_range Pv h0 (fun _ _ _ _ _ _ => trivial) ?_ hd⟩
  rintro D i x H1 H2 hD hi hP ⟨rfl, rfl⟩
  show LcT g tt te vs σ D (Pv D (i + 1)) (V.int (0 + (i : Int))) H2
  rw [Int.zero_add]
  exact hs D i H2 hD (by omega) hP
theorem rd_clR2 {m n : Int} (b : -(2 ^ 62) ≤ m ∧ m < 2 ^ 62 ∧ -(2 ^ 62) ≤ n ∧ n < 2 ^ 62) (Pv : Addr → Nat → Hp → Prop) (h0 : ∀ D, H D = none → Pv D 0 (upd H D (.lst [])))
    (hs : ∀ D (i : Nat) H', H D = none → m + (i : Int) < n → Pv D i H' → LcT g tt te vs σ D (Pv D (i + 1)) (.int (m + (i : Int))) H') (hd : ∀ D H', H D = none → Pv D (n - m).toNat H' → Q (.ref D) H') :
    ∃ i j : Int, [V.int m, V.int n] = [.int i, .int j] ∧ (-(2 ^ 62) ≤ i ∧ i < 2 ^ 62 ∧ -(2 ^ 62) ≤ j ∧ j < 2 ^ 62) ∧ LcW (Itr i (j - i).toNat) g tt te vs σ H Q := by
  refine ⟨m, n, rfl, b, lc_by walk_range Pv h0 (fun _ _ _ _ _ _ => trivial) ?_ hd⟩
  rintro D i x H1 H2 hD hi hP ⟨rfl, rfl⟩
  exact hs D i H2 hD (by omega) hP
end
end Mine

/-! ## Texts and drawn things -/
namespace Mine
open PySem PySem.Spec PyProof.Rows L2
open TL (tl spl pre spl_nil spl_hit spl_miss split_spl)
set_option linter.all false
theorem len_tl (z : Str) : (tl z).length = z.length := by
  show z.cps.toList.length = z.cps.size
  simp
theorem str_ext {a b : Str} (h : tl a = tl b) : a = b := by
  obtain ⟨⟨a⟩⟩ := a
  obtain ⟨⟨b⟩⟩ := b
  have h' : a = b := h
  rw [h']
theorem tl_app (a b : Str) : tl (a ++ b) = tl a ++ tl b := by
  show (a ++ b).cps.toList = _
  rw [show (a ++ b).cps = a.cps ++ b.cps from rfl, Array.toList_append]
theorem len_app (a b : Str) : (a ++ b).length = a.length + b.length := by rw [← len_tl, tl_app, List.length_append, len_tl, len_tl]
theorem tl_cut (z : Str) (lo hi : Option Int) : tl (cutS z lo hi) = ((tl z).drop (HT.sIx z.length 0 lo)).take (HT.sIx z.length z.length hi - HT.sIx z.length 0 lo) := by
  show (cutS z lo hi).cps.toList = _
  unfold cutS
  simp
theorem tl_take (z : Str) (k : Nat) : tl (cutS z none (some (k : Int))) = (tl z).take k := by
  rw [tl_cut, HT.sIx_none, List.drop_zero, Nat.sub_zero, HT.sIx_nat]
  by_cases h : k ≤ z.length
  · rw [Nat.min_eq_left h]
  · rw [Nat.min_eq_right (by omega), List.take_of_length_le (by rw [len_tl]; exact Nat.le_refl _), List.take_of_length_le (by rw [len_tl]; omega)]
theorem tl_drop (z : Str) (k : Nat) : tl (cutS z (some (k : Int)) none) = (tl z).drop k := by
  rw [tl_cut, HT.sIx_none, HT.sIx_nat]
  by_cases h : k ≤ z.length
  · rw [Nat.min_eq_left h, List.take_of_length_le (by rw [List.length_drop, len_tl]; exact Nat.le_refl _)]
  · rw [Nat.min_eq_right (by omega), List.drop_of_length_le (by rw [len_tl]; exact Nat.le_refl _), List.take_nil, List.drop_of_length_le (by rw [len_tl]; omega)]
theorem cut_take {z : Str} {i : Int} (h0 : 0 ≤ i) : (cutS z none (some i)).length = min i.toNat z.length := by
  obtain ⟨k, rfl⟩ : ∃ k : Nat, i = (k : Int) := ⟨i.toNat, by omega⟩
  rw [← len_tl, tl_take, List.length_take, len_tl]
  rfl
theorem cut_drop {z : Str} {i : Int} (h0 : 0 ≤ i) : (cutS z (some i) none).length = z.length - i.toNat := by
  obtain ⟨k, rfl⟩ : ∃ k : Nat, i = (k : Int) := ⟨i.toNat, by omega⟩
  rw [← len_tl, tl_drop, List.length_drop, len_tl]
  rfl
/-- a text of at most so many signs -/
def strLe (L : Nat) : V → Bool
  | .str z => decide (z.length ≤ L)
  | _ => false
theorem strLe_str {L : Nat} {x : V} (h : strLe L x = true) : ∃ z, x = .str z ∧ z.length ≤ L := by
  cases x with
  | str z => exact ⟨z, rfl, of_decide_eq_true h⟩
  | _ => cases h
theorem atI_mem {xs : List V} {v : Int} (h0 : 0 ≤ v) (h1 : v < xs.length) : ∃ x, x ∈ xs ∧ atI xs v = some x := by
  obtain ⟨j, rfl⟩ : ∃ j : Nat, v = (j : Int) := ⟨v.toNat, by omega⟩
  have hj : j < xs.length := by omega
  exact ⟨xs[j], List.getElem_mem hj, atI_nat (List.getElem?_eq_getElem hj)⟩
/-- an item of a list, whichever -/
theorem pick {K : PySem.W.Frag} {p : Addr} {xs : List V} {v : Int} {H : Hp} {Q : VK} (h : SqL K H p xs) (h0 : 0 ≤ v) (h1 : v < xs.length) (q : ∀ x, x ∈ xs → Q x H) : xIx K (.ref p) (.int v) H Q := by
  obtain ⟨x, hx, e⟩ := atI_mem h0 h1
  exact rd_ixL h e (q x hx)
theorem pickT {K : PySem.W.Frag} {p : Addr} {xs : List V} {v : Int} {H : Hp} {Q : VK} (h : SqT K H p xs) (h0 : 0 ≤ v) (h1 : v < xs.length) (q : ∀ x, x ∈ xs → Q x H) : xIx K (.ref p) (.int v) H Q := by
  obtain ⟨x, hx, e⟩ := atI_mem h0 h1
  exact rd_ixT h e (q x hx)
theorem pickS {K : PySem.W.Frag} {p : Addr} {xs : List V} {v : Int} {H : Hp} {Q : VK} (L : Nat) (h : SqL K H p xs) (h0 : 0 ≤ v) (h1 : v < xs.length) (hL : xs.all (strLe L) = true) (q : ∀ z, z.length ≤ L → Q (.str z) H) : xIx K (.ref p) (.int v) H Q := by
  refine pick h h0 h1 fun x hx => ?_
  obtain ⟨z, rfl, hz⟩ := strLe_str (List.all_eq_true.mp hL x hx)
  exact q z hz
theorem join_le (sep : Str) (ys : List Str) (L : Nat) (h : ∀ y ∈ ys, y.length ≤ L) : (ys.map (·.length)).sum ≤ ys.length * L := by
  induction ys with
  | nil => exact Nat.zero_le _
  | cons y ys ih =>
    have h1 := h y List.mem_cons_self
    have h2 := ih fun z hz => h z (List.mem_cons_of_mem _ hz)
    rw [List.map_cons, List.sum_cons, List.length_cons, Nat.add_mul, Nat.one_mul]
    omega
theorem len_join (sep : Str) (ys : List Str) : (Txt.join sep ys).length ≤ (ys.map (·.length)).sum + ys.length * sep.length := by
  show (Builtin.Str.glued sep ys).length ≤ _
  rw [StrLaws.glued_eq_join]
  exact StrLaws.join_length_le sep ys
theorem spl_len {S : List Nat} : ∀ (l : List Nat) (k : Nat) (acc : List Nat), (∀ p ∈ spl S k acc l, p.length ≤ acc.length + l.length) ∧ (spl S k acc l).length ≤ l.length + 1
  | [], k, acc => by
    rw [spl_nil]
    exact ⟨fun p hp => by rw [List.mem_singleton.mp hp]; exact Nat.le_add_right _ _, Nat.le_refl _⟩
  | c :: r, 0, acc => by
    cases h : pre S (c :: r) with
    | true =>
      rw [spl_hit h]
      obtain ⟨h1, h2⟩ := spl_len (S := S) r (S.length - 1) []
      refine ⟨fun p hp => ?_, by rw [List.length_cons, List.length_cons]; omega⟩
      rcases List.mem_cons.mp hp with rfl | hp
      · exact Nat.le_add_right _ _
      · have := h1 p hp
        rw [List.length_nil] at this
        rw [List.length_cons]
        omega
    | false =>
      rw [spl_miss h]
      obtain ⟨h1, h2⟩ := spl_len (S := S) r 0 (acc ++ [c])
      refine ⟨fun p hp => ?_, by rw [List.length_cons]; omega⟩
      have := h1 p hp
      rw [List.length_append, List.length_singleton] at this
      rw [List.length_cons]
      omega
  | c :: r, k + 1, acc => by
    show (∀ p ∈ spl S k acc r, _) ∧ (spl S k acc r).length ≤ _
    obtain ⟨h1, h2⟩ := spl_len (S := S) r k acc
    refine ⟨fun p hp => ?_, by rw [List.length_cons]; omega⟩
    have := h1 p hp
    rw [List.length_cons]
    omega
/-- the parts of a text, the sign between them below 256 -/
theorem split_len {z y : Str} (hy : tl y ≠ []) (hk : y.cps.all (· < 256) = true) : (∀ w ∈ Txt.split z y, w.length ≤ z.length) ∧ (Txt.split z y).length ≤ z.length + 1 := by
  have k1 : Builtin.Str.strKind y = 1 := by
    unfold Builtin.Str.strKind
    rw [if_pos hk]
  have k2 : ¬ Builtin.Str.strKind z < Builtin.Str.strKind y := by
    rw [k1]
    unfold Builtin.Str.strKind
    split
    · omega
    · split <;> omega
  have e := split_spl z y hy k2
  obtain ⟨h1, h2⟩ := spl_len (S := tl y) (tl z) 0 []
  rw [← e] at h1 h2
  constructor
  · intro w hw
    have := h1 (tl w) (List.mem_map_of_mem hw)
    rw [List.length_nil, Nat.zero_add, len_tl, len_tl] at this
    exact this
  · rw [List.length_map, len_tl] at h2
    exact h2
theorem szOk {n : Nat} (h : n ≤ 1000000) : n ≤ sizeLine := Nat.le_trans h (by decide)
theorem szLt {n : Nat} (h : n ≤ 1000000) : n < sizeLine := Nat.lt_of_le_of_lt h (by decide)
/-- bools shown in a list -/
def bools (bs : List Bool) : PyData := .list (bs.map .bool)
theorem dp_bools {K : PySem.W.Frag} {H : Hp} : ∀ bs : List Bool, DpAll K H (bs.map V.bl) (bs.map .bool)
  | [] => .nil
  | b :: bs => .cons (.bl b) (dp_bools bs)
theorem _root_.L2.Same.new {H H' : Hp} {p : Addr} {o : HO} (a : Same H H') (h : H' p = none) : Same H (upd H' p o) := fun c u e => by
  rw [upd_ne (ne_of_none (a c u e) h)]
  exact a c u e
theorem _root_.L2.Same.put {H H' : Hp} {p : Addr} {o : HO} (a : Same H H') (h : H p = none) : Same H (upd H' p o) := fun c u e => by
  rw [upd_ne (ne_of_none e h)]
  exact a c u e
theorem _root_.L2.Same.there {H H' : Hp} {p : Addr} {o : HO} (k : Same (upd H p o) H') : H' p = some o := k p _ upd_same
theorem sm_tup {K : PySem.W.Frag} {H H' : Hp} {a : Addr} {xs : List V} (e : Same H H') (h : SqT K H a xs) : SqT K H' a xs := by
  rcases h with (h | ⟨o, h⟩) | h
  · exact .inl (.inl (e _ _ h))
  · exact .inl (.inr ⟨o, e _ _ h⟩)
  · exact .inr h
/-! ### comprehensions that change nothing: [f x for x in .. if p x] -/
section
variable {K : PySem.W.Frag} {J : It} {xs : List V} {G : Hp → Prop} {tt : TT} {te : TE} {vs : List Nat} {σ : St} {H : Hp} {Q : VK} {j : Nat} {a : Addr} {z : Str}
/-- reads and makes new things alone: b at the end -/
def Pt (t : TT) (σ : St) (H : Hp) (b : Bool) : Prop := ∀ H1, Same H H1 → ∀ QE : Bool → Hp → Prop, (∀ H2, Same H1 H2 → QE b H2) → t σ H1 QE
def Pe (t : TE) (σ : St) (H : Hp) (v : V) : Prop := ∀ H1, Same H H1 → ∀ QE : VK, (∀ H2, Same H1 H2 → QE v H2) → t σ H1 QE
theorem pt_yes : Pt tYes σ H true := fun H1 _ QE q => q H1 (Same.refl H1)
theorem lc_pure (w : Walk J xs.length G (YAt xs)) (hG : ∀ H', Same H H' → G H') (p : V → Bool) (f : V → V) (hw : ∀ x, wipe ((wipe σ vs).set j (some x)) vs = wipe σ vs) (hl : xs.length ≤ 1000000)
    (ht : ∀ x, x ∈ xs → Pt tt ((wipe σ vs).set j (some x)) H (p x)) (he : ∀ x, x ∈ xs → p x = true → Pe te ((wipe σ vs).set j (some x)) H (f x))
    (hd : ∀ D H', H D = none → Same H H' → H' D = some (.lst ((xs.filter p).map f)) → Q (.ref D) H') : LcW J (gName j) tt te vs σ H Q := by
  refine lc_by w (fun D i H' => Same H H' ∧ H' D = some (.lst (((xs.take i).filter p).map f))) (fun D hD => ⟨(Same.refl H).new hD, upd_same⟩) (fun D i H' _ _ h => hG H' h.1) ?_ (fun D H' hD h => hd D H' hD h.1 (by have := h.2; rwa [List.take_length] at this))
  rintro D i x H1 H2 hD hi ⟨hS, hD1⟩ ⟨rfl, hx⟩
  have mem : x ∈ xs := List.mem_of_getElem? hx
  have grow : xs.take (i + 1) = xs.take i ++ [x] := by rw [List.take_add_one, hx]; rfl
  refine ⟨hw x, ht x mem H2 hS _ fun H3 s3 => ?_⟩
  cases hp : p x with
  | true =>
    refine rd_yT (he x mem hp H3 (hS.trans s3) _ fun H4 s4 => ?_)
    refine ⟨_, s4 _ _ (s3 _ _ hD1), szLt ?_, ((hS.trans s3).trans s4).put hD, ?_⟩
    · rw [List.length_map]
      have h1 := List.length_filter_le p (xs.take i)
      rw [List.length_take] at h1
      omega
    · rw [upd_same, grow, List.filter_append, List.map_append]
      simp [hp]
  | false =>
    refine rd_nF ⟨hS.trans s3, ?_⟩
    rw [s3 _ _ hD1, grow, List.filter_append]
    simp [hp]
theorem rd_mapL (h : SqL K H a xs) (p : V → Bool) (f : V → V) (hw : ∀ x, wipe ((wipe σ vs).set j (some x)) vs = wipe σ vs) (hl : xs.length ≤ 1000000)
    (ht : ∀ x, x ∈ xs → Pt tt ((wipe σ vs).set j (some x)) H (p x)) (he : ∀ x, x ∈ xs → p x = true → Pe te ((wipe σ vs).set j (some x)) H (f x))
    (hd : ∀ D H', H D = none → Same H H' → H' D = some (.lst ((xs.filter p).map f)) → Q (.ref D) H') : ∃ b, V.ref a = .ref b ∧ (∃ xs, SqL K H b xs) ∧ LcW (Itl K b) (gName j) tt te vs σ H Q :=
  ⟨a, rfl, ⟨xs, h⟩, lc_pure walk_list (fun H' e => e.seq h) p f hw hl ht he hd⟩
theorem rd_mapT (h : SqT K H a xs) (p : V → Bool) (f : V → V) (hw : ∀ x, wipe ((wipe σ vs).set j (some x)) vs = wipe σ vs) (hl : xs.length ≤ 1000000)
    (ht : ∀ x, x ∈ xs → Pt tt ((wipe σ vs).set j (some x)) H (p x)) (he : ∀ x, x ∈ xs → p x = true → Pe te ((wipe σ vs).set j (some x)) H (f x))
    (hd : ∀ D H', H D = none → Same H H' → H' D = some (.lst ((xs.filter p).map f)) → Q (.ref D) H') : ∃ b, V.ref a = .ref b ∧ (∃ xs, SqT K H b xs) ∧ LcW (Itt K b) (gName j) tt te vs σ H Q :=
  ⟨a, rfl, ⟨xs, h⟩, lc_pure walk_tup (fun H' e => sm_tup e h) p f hw hl ht he hd⟩
/-- the signs of a text, each as a text -/
def signs (z : Str) : List V := z.cps.toList.map fun c => .str ⟨#[c]⟩
theorem walk_signs : Walk (Its z) (signs z).length (fun _ => True) (YAt (signs z)) := by
  have e : (signs z).length = z.cps.size := by unfold signs; simp
  rw [e]
  refine walk_str.mono (fun _ h => h) ?_
  rintro i H1 x H2 hi _ ⟨rfl, c, hc, rfl⟩
  refine ⟨rfl, ?_⟩
  unfold signs
  rw [List.getElem?_map, Array.getElem?_toList, hc]
  rfl
theorem rd_mapS (p : V → Bool) (f : V → V) (hw : ∀ x, wipe ((wipe σ vs).set j (some x)) vs = wipe σ vs) (hl : z.length ≤ 1000000)
    (ht : ∀ x, x ∈ signs z → Pt tt ((wipe σ vs).set j (some x)) H (p x)) (he : ∀ x, x ∈ signs z → p x = true → Pe te ((wipe σ vs).set j (some x)) H (f x))
    (hd : ∀ D H', H D = none → Same H H' → H' D = some (.lst (((signs z).filter p).map f)) → Q (.ref D) H') : ∃ y, V.str z = .str y ∧ LcW (Its y) (gName j) tt te vs σ H Q :=
  ⟨z, rfl, lc_pure walk_signs (fun _ _ => trivial) p f hw (by unfold signs; rw [List.length_map]; simpa [Str.length] using hl) ht he hd⟩
end
/-- a value's type stays while what is tracked stays -/
theorem tyx_same {K : PySem.W.Frag} {H H' : Hp} {v : V} {t : Value} (e : Same H H') (h : TyX K H v t) : TyX K H' v t := by
  cases h with
  | base b =>
    refine .base ?_
    cases b with
    | non => exact .non
    | bl x => exact .bl x
    | int i => exact .int i
    | str x => exact .str x
    | flt x => exact .flt x
    | lst h => exact .lst (e _ _ h)
    | frz h => exact .frz (e _ _ h)
    | tup h => exact .tup (e _ _ h)
    | dK h => exact .dK (e _ _ h)
    | dT h => exact .dT (e _ _ h)
    | ins h c1 c2 c3 c4 c5 => exact .ins (e _ _ h) c1 c2 c3 c4 c5
  | byt b => exact .byt b
  | set h => exact .set (e _ _ h)
  | kList h c => exact .kList h c
  | kTuple h c => exact .kTuple h c
  | kDict h c => exact .kDict h c
  | fTuple h => exact .fTuple (e _ _ h)
  | fDict h => exact .fDict (e _ _ h)
theorem shows_2 (b : Bool) : Shows (.list [.bool b, .bool b]) := by
  cases b <;> exact ⟨by decide +kernel, by decide +kernel, by decide +kernel, by decide +kernel⟩
/-! ### signs, parts of a text -/
theorem tl_mid (z : Str) (i j : Nat) (h : i ≤ j) : tl (cutS z (some (i : Int)) (some (j : Int))) = ((tl z).drop i).take (j - i) := by
  rw [tl_cut, HT.sIx_nat, HT.sIx_nat]
  have e := len_tl z
  by_cases h1 : i ≤ z.length
  · rw [Nat.min_eq_left h1]
    by_cases h2 : j ≤ z.length
    · rw [Nat.min_eq_left h2]
    · rw [Nat.min_eq_right (by omega), List.take_of_length_le (by rw [List.length_drop, e]; exact Nat.le_refl _), List.take_of_length_le (by rw [List.length_drop, e]; omega)]
  · rw [Nat.min_eq_right (by omega), Nat.min_eq_right (by omega), List.drop_of_length_le (by rw [e]; exact Nat.le_refl _), List.drop_of_length_le (by rw [e]; omega), List.take_nil, List.take_nil]
theorem tl_inj {a b : Str} : a = b ↔ tl a = tl b := ⟨fun h => h ▸ rfl, str_ext⟩
theorem dec_tl (a b : Str) : decide (a = b) = decide (tl a = tl b) := decide_eq_decide.mpr tl_inj
theorem tl_sg (c : Nat) : tl (⟨#[c]⟩ : Str) = [c] := rfl
theorem drop_ne {l : List Nat} {k c : Nat} {r : List Nat} (h : l.drop k = c :: r) : l[k]? = some c ∧ k < l.length ∧ l.drop (k + 1) = r := by
  have h1 : (l.drop k)[0]? = some c := by rw [h]; rfl
  rw [List.getElem?_drop, Nat.add_zero] at h1
  refine ⟨h1, (List.getElem?_eq_some_iff.mp h1).1, ?_⟩
  rw [← List.drop_drop, h]
  rfl
/-- the first c in a row of signs: what stands before it, what behind -/
def cutAt (c : Nat) : List Nat → Option (List Nat × List Nat)
  | [] => none
  | x :: r => if x = c then some ([], r) else (cutAt c r).map fun p => (x :: p.1, p.2)
theorem cutAt_none {c : Nat} : ∀ {l : List Nat}, cutAt c l = none → c ∉ l
  | [], _ => List.not_mem_nil
  | x :: r, h => by
    unfold cutAt at h
    by_cases e : x = c
    · rw [if_pos e] at h; cases h
    · rw [if_neg e, Option.map_eq_none_iff] at h
      rw [List.mem_cons]
      rintro (q | q)
      · exact e q.symm
      · exact cutAt_none h q
theorem cutAt_some {c : Nat} : ∀ {l b t : List Nat}, cutAt c l = some (b, t) → l = b ++ c :: t ∧ c ∉ b
  | [], _, _, h => by cases h
  | x :: r, b, t, h => by
    unfold cutAt at h
    by_cases e : x = c
    · rw [if_pos e] at h
      cases h
      exact ⟨by rw [e]; rfl, List.not_mem_nil⟩
    · rw [if_neg e] at h
      obtain ⟨⟨b', t'⟩, h1, h2⟩ := Option.map_eq_some_iff.mp h
      cases h2
      obtain ⟨h3, h4⟩ := cutAt_some h1
      refine ⟨by rw [h3]; rfl, ?_⟩
      rw [List.mem_cons]
      rintro (q | q)
      · exact e q.symm
      · exact h4 q
theorem from_nat {n i : Nat} : fromIndex n (i : Int) = i := by
  unfold fromIndex
  rw [if_neg (by omega)]
  omega
theorem getD_tl {z : Str} {v c : Nat} (hv : v < z.length) : z.cps.getD v 0 = c ↔ (tl z)[v]? = some c := ⟨StrLaws.getElem?_of_getD hv, StrLaws.getD_of_getElem?⟩
/-- find of one sign, from a place on -/
theorem find_cut (z : Str) (c i : Nat) : Txt.find3 z ⟨#[c]⟩ (i : Int) = (match cutAt c ((tl z).drop i) with | none => -1 | some (b, _) => ((i + b.length : Nat) : Int)) := by
  have sp := StrLaws.find3_spec z c (i : Int)
  rw [from_nat] at sp
  cases e : cutAt c ((tl z).drop i) with
  | none =>
    rcases sp with ⟨h, _⟩ | ⟨k, h, h1, h2, h3, _⟩
    · exact h
    · refine absurd ?_ (cutAt_none e)
      refine List.mem_of_getElem? (i := k - i) ?_
      rw [List.getElem?_drop, show i + (k - i) = k by omega]
      exact (getD_tl h2).mp h3
  | some p =>
    obtain ⟨b, t⟩ := p
    obtain ⟨h5, h6⟩ := cutAt_some e
    have at_ : (tl z)[i + b.length]? = some c := by
      rw [← List.getElem?_drop, h5, List.getElem?_append_right (Nat.le_refl _), Nat.sub_self]
      rfl
    have lt := (List.getElem?_eq_some_iff.mp at_).1
    rw [len_tl] at lt
    rcases sp with ⟨_, h⟩ | ⟨k, h, h1, h2, h3, h4⟩
    · exact absurd ((getD_tl lt).mpr at_) (h _ (by omega) lt)
    · rw [h]
      have h3' := (getD_tl h2).mp h3
      have e1 : ¬ k < i + b.length := fun q => h6 (by
        refine List.mem_of_getElem? (i := k - i) (a := c) ?_
        have : ((tl z).drop i)[k - i]? = some c := by rw [List.getElem?_drop, show i + (k - i) = k by omega]; exact h3'
        rw [h5, List.getElem?_append_left (by omega)] at this
        exact this)
      have e2 : ¬ i + b.length < k := fun q => h4 _ (by omega) q ((getD_tl lt).mpr at_)
      show (k : Int) = ((i + b.length : Nat) : Int)
      omega
theorem find_cut0 (z : Str) (c : Nat) : Txt.find z ⟨#[c]⟩ = (match cutAt c (tl z) with | none => -1 | some (b, _) => (b.length : Int)) := by
  rw [find_is_find3, show (0 : Int) = ((0 : Nat) : Int) from rfl, find_cut, List.drop_zero]
  cases cutAt c (tl z) with
  | none => rfl
  | some p => show ((0 + p.1.length : Nat) : Int) = _; rw [Nat.zero_add]
/-! ### what is new since A -/
def nw (A H : Hp) : Hp := fun a => match A a with | none => H a | some _ => none
/-- all that A tracks is tracked still -/
def Sub (A H : Hp) : Prop := ∀ a, H a = none → A a = none
theorem Sub.refl (A : Hp) : Sub A A := fun _ h => h
theorem Sub.of {A H : Hp} (e : Same A H) : Sub A H := fun a h => by
  cases q : A a with
  | none => rfl
  | some o => rw [e _ _ q] at h; cases h
theorem Sub.trans {A B C : Hp} (h : Sub A B) (k : Sub B C) : Sub A C := fun a q => h a (k a q)
theorem Sub.upd {A H : Hp} {p : Addr} {o : HO} (h : Sub A H) : Sub A (upd H p o) := fun a q => by
  by_cases e : a = p
  · rw [e, upd_same] at q; cases q
  · rw [upd_ne e] at q; exact h a q
theorem nw_get {A H : Hp} {a : Addr} {o : HO} (h : A a = none) (k : H a = some o) : nw A H a = some o := by
  unfold nw
  rw [h]
  exact k
theorem nw_inv {A H : Hp} {a : Addr} {o : HO} (k : nw A H a = some o) : A a = none ∧ H a = some o := by
  unfold nw at k
  cases q : A a with
  | none => rw [q] at k; exact ⟨rfl, k⟩
  | some u => rw [q] at k; cases k
theorem nw_same {A H : Hp} : Same (nw A H) H := fun _ _ k => (nw_inv k).2
theorem nw_mono {A H H' : Hp} (e : Same H H') : Same (nw A H) (nw A H') := fun a o k => nw_get (nw_inv k).1 (e _ _ (nw_inv k).2)
theorem nw_base {A B H : Hp} (e : Sub A B) : Same (nw B H) (nw A H) := fun a o k => nw_get (e a (nw_inv k).1) (nw_inv k).2
theorem nw_put {A H : Hp} {p : Addr} {u o : HO} (h : A p = some u) : Same (nw A H) (nw A (upd H p o)) := fun a v k => by
  obtain ⟨k1, k2⟩ := nw_inv k
  have e : a ≠ p := fun e => by rw [e, h] at k1; cases k1
  exact nw_get k1 (by rw [upd_ne e]; exact k2)
theorem nw_ne {A H : Hp} {a p : Addr} {u o : HO} (h : A p = some u) (k : nw A H a = some o) : a ≠ p := fun e => by
  have := (nw_inv k).1
  rw [e, h] at this
  cases this
theorem tl_nil : tl ("" : Str) = [] := by decide +kernel
theorem isSome_map {α β : Type} {f : α → β} {o : Option α} : (o.map f).isSome = o.isSome := by cases o <;> rfl
/-- a text of signs: its first one, the rest -/
theorem tl_cases (z : Str) : tl z = [] ∨ ∃ c r, tl z = c :: r := by
  cases e : tl z with
  | nil => exact .inl rfl
  | cons c r => exact .inr ⟨c, r, rfl⟩
theorem tl_from (z : Str) (k : Nat) : tl (cutS z (some (k : Int)) none) = (tl z).drop k := tl_drop z k
/-! ### rising rows, keys of dicts -/
theorem incr_ext : ∀ {l m : List Int}, l.Pairwise (· < ·) → m.Pairwise (· < ·) → (∀ x, x ∈ l ↔ x ∈ m) → l = m
  | [], [], _, _, _ => rfl
  | [], b :: m, _, _, h => absurd ((h b).mpr List.mem_cons_self) List.not_mem_nil
  | a :: l, [], _, _, h => absurd ((h a).mp List.mem_cons_self) List.not_mem_nil
  | a :: l, b :: m, hl, hm, h => by
    obtain ⟨l1, l2⟩ := List.pairwise_cons.mp hl
    obtain ⟨m1, m2⟩ := List.pairwise_cons.mp hm
    have e : a = b := by
      rcases List.mem_cons.mp ((h a).mp List.mem_cons_self) with e | e
      · exact e
      · rcases List.mem_cons.mp ((h b).mpr List.mem_cons_self) with e' | e'
        · exact e'.symm
        · have := l1 _ e'
          have := m1 _ e
          omega
    subst e
    rw [incr_ext l2 m2 fun x => ⟨fun q => ?_, fun q => ?_⟩]
    · rcases List.mem_cons.mp ((h x).mp (List.mem_cons_of_mem _ q)) with e | e
      · have := l1 _ q; omega
      · exact e
    · rcases List.mem_cons.mp ((h x).mpr (List.mem_cons_of_mem _ q)) with e | e
      · have := m1 _ q; omega
      · exact e
theorem strict_of {l : List Int} (h : l.Pairwise (· ≤ ·)) (n : l.Nodup) : l.Pairwise (· < ·) := by
  refine (List.Pairwise.and h n).imp ?_
  rintro a b ⟨h1, h2⟩
  have : a ≠ b := h2
  omega
/-- a set's members, in the sequence in which they came -/
def putI (ks : List Int) (k : Int) : List Int := if k ∈ ks then ks else ks ++ [k]
theorem keys_put {kvs : List (Key × V)} {ks : List Int} {k : Int} {v : V} (h : kvs.map (·.1) = ks.map Sum.inl) : (putK kvs (Sum.inl k) v).map (·.1) = (putI ks k).map Sum.inl := by
  have any : (kvs.any fun kv => decide (kv.1 = Sum.inl k)) = decide (k ∈ ks) := by
    have e : (kvs.any fun kv => decide (kv.1 = Sum.inl k)) = (kvs.map (·.1)).any fun x => decide (x = Sum.inl k) := by rw [List.any_map]; rfl
    rw [e, h, List.any_map]
    rw [Bool.eq_iff_iff, List.any_eq_true, decide_eq_true_eq]
    constructor
    · rintro ⟨x, h1, h2⟩
      have h2 := of_decide_eq_true h2
      cases h2
      exact h1
    · exact fun h1 => ⟨k, h1, decide_eq_true rfl⟩
  unfold putK putI
  rw [any]
  by_cases c : k ∈ ks
  · rw [decide_eq_true c, if_pos rfl, if_pos c, ← h, List.map_map]
    refine List.map_congr_left fun kv _ => ?_
    show (if kv.1 = Sum.inl k then (kv.1, v) else kv).1 = kv.1
    split <;> rfl
  · rw [decide_eq_false c, if_neg (by decide), if_neg c, List.map_append, List.map_append, h]
    rfl
theorem putI_mem {ks : List Int} {k x : Int} : x ∈ putI ks k ↔ x ∈ ks ∨ x = k := by
  unfold putI
  split
  · rename_i h
    exact ⟨.inl, fun q => q.elim id fun e => e ▸ h⟩
  · rw [List.mem_append, List.mem_singleton]
theorem putI_nodup {ks : List Int} {k : Int} (h : ks.Nodup) : (putI ks k).Nodup := by
  unfold putI
  split
  · exact h
  · rename_i c
    refine List.nodup_append.mpr ⟨h, List.pairwise_singleton _ _, ?_⟩
    intro a ha b hb e
    rw [List.mem_singleton] at hb
    exact c (hb ▸ e ▸ ha)
theorem keys_len {kvs : List (Key × V)} {ks : List Int} (h : kvs.map (·.1) = ks.map Sum.inl) : kvs.length = ks.length := by
  have := congrArg List.length h
  rwa [List.length_map, List.length_map] at this
/-- members below n, none twice: n at most -/
theorem few_ints : ∀ (n : Nat) {ks : List Int}, ks.Nodup → (∀ k ∈ ks, 0 ≤ k ∧ k < (n : Int)) → ks.length ≤ n
  | 0, [], _, _ => Nat.le_refl _
  | 0, k :: ks, _, h => by have := h k List.mem_cons_self; omega
  | n + 1, ks, hn, h => by
    have h1 : (ks.erase (n : Int)).length ≤ n := by
      refine few_ints n (hn.erase _) fun k hk => ?_
      have h2 := h k (List.mem_of_mem_erase hk)
      have h3 : k ≠ (n : Int) := by
        intro e
        rw [e] at hk
        exact (List.Nodup.mem_erase_iff hn).mp hk |>.1 rfl
      omega
    rw [List.length_erase] at h1
    split at h1 <;> omega
def sg (c : Nat) : Str := ⟨#[c]⟩
def mk (l : List Nat) : Str := ⟨l.toArray⟩
theorem tl_mk (l : List Nat) : tl (mk l) = l := by
  show (l.toArray).toList = l
  simp
theorem len_mk (l : List Nat) : (mk l).length = l.length := by rw [← len_tl, tl_mk]
theorem rd_strD {H : Hp} {Q : VK} {n : Nat} (h : n < 10) (q : Q (.str (sg (48 + n))) H) : xStrI [.int (n : Int)] H Q := by
  have e : ∀ n, n < 10 → ((toString ((n : Nat) : Int) : String) : Str) = sg (48 + n) := by decide +kernel
  refine ⟨_, rfl, ?_, ?_⟩
  · have : ∀ n, n < 10 → (((n : Nat) : Int).natAbs.log2 < 1920) := by decide +kernel
    exact this n h
  · rw [e n h]; exact q
theorem cutV_take (xs : List V) (k : Nat) : cutV xs none (some (k : Int)) = xs.take k := by
  unfold cutV
  rw [HT.sIx_none, List.drop_zero, Nat.sub_zero, HT.sIx_nat]
  by_cases h : k ≤ xs.length
  · rw [Nat.min_eq_left h]
  · rw [Nat.min_eq_right (by omega), List.take_of_length_le (Nat.le_refl _), List.take_of_length_le (by omega)]
theorem cutV_drop (xs : List V) (k : Nat) : cutV xs (some (k : Int)) none = xs.drop k := by
  unfold cutV
  rw [HT.sIx_none, HT.sIx_nat]
  by_cases h : k ≤ xs.length
  · rw [Nat.min_eq_left h, List.take_of_length_le (by rw [List.length_drop]; exact Nat.le_refl _)]
  · rw [Nat.min_eq_right (by omega), List.drop_of_length_le (Nat.le_refl _), List.drop_of_length_le (by omega), List.take_nil]
theorem cutV_mid (xs : List V) (i j : Nat) (h : i ≤ j) : cutV xs (some (i : Int)) (some (j : Int)) = (xs.drop i).take (j - i) := by
  unfold cutV
  rw [HT.sIx_nat, HT.sIx_nat]
  by_cases h1 : i ≤ xs.length
  · rw [Nat.min_eq_left h1]
    by_cases h2 : j ≤ xs.length
    · rw [Nat.min_eq_left h2]
    · rw [Nat.min_eq_right (by omega), List.take_of_length_le (by rw [List.length_drop]; exact Nat.le_refl _), List.take_of_length_le (by rw [List.length_drop]; omega)]
  · rw [Nat.min_eq_right (by omega), Nat.min_eq_right (by omega), List.drop_of_length_le (Nat.le_refl _), List.drop_of_length_le (by omega), List.take_nil, List.take_nil]
end Mine

/-! ## Data that never changes: tuples of tuples, ints, texts -/
namespace Mine
open PySem PySem.Spec PyProof.Rows L2
open TL (tl)
set_option linter.all false
/-- tuples stay -/
def Tp (H H' : Hp) : Prop := ∀ a xs, H a = some (.tup xs) → H' a = some (.tup xs)
theorem Tp.refl (H : Hp) : Tp H H := fun _ _ h => h
theorem Tp.trans {A B C : Hp} (h : Tp A B) (k : Tp B C) : Tp A C := fun a xs q => k a xs (h a xs q)
theorem Tp.of {A B : Hp} (h : Same A B) : Tp A B := fun a xs q => h a _ q
theorem Tp.new {A B : Hp} {p : Addr} {o : HO} (h : Tp A B) (n : B p = none) : Tp A (upd B p o) := fun a xs q => by
  have := h a xs q
  rw [upd_ne (ne_of_none this n)]
  exact this
theorem Tp.lst {A B : Hp} {p : Addr} {o : HO} {ys : List V} (h : Tp A B) (n : B p = some (.lst ys)) : Tp A (upd B p o) := fun a xs q => by
  have := h a xs q
  rw [upd_ne (fun e => by rw [e, n] at this; cases this)]
  exact this
theorem Tp.dct {A B : Hp} {p : Addr} {o : HO} {ys : List (Key × V)} (h : Tp A B) (n : B p = some (.dK ys)) : Tp A (upd B p o) := fun a xs q => by
  have := h a xs q
  rw [upd_ne (fun e => by rw [e, n] at this; cases this)]
  exact this
theorem Tp.put {A B : Hp} {p : Addr} {o : HO} (h : Tp A B) (n : A p = none) : Tp A (upd B p o) := fun a xs q => by
  rw [upd_ne (ne_of_none q n)]
  exact h a xs q
mutual
/-- data, held by a value -/
inductive Im (H : Hp) : V → PyData → Prop
  | non : Im H .non .none
  | bl (b : Bool) : Im H (.bl b) (.bool b)
  | int (i : Int) : Im H (.int i) (.int i)
  | str (x : Str) : Im H (.str x) (.str x)
  | tup {a : Addr} {xs : List V} {ds : List PyData} : H a = some (.tup xs) → ImAll H xs ds → Im H (.ref a) (.tuple ds)
inductive ImAll (H : Hp) : List V → List PyData → Prop
  | nil : ImAll H [] []
  | cons {v : V} {vs : List V} {d : PyData} {ds : List PyData} : Im H v d → ImAll H vs ds → ImAll H (v :: vs) (d :: ds)
end
section
variable {H H' : Hp} {K : PySem.W.Frag}
mutual
theorem Im.mono (e : Tp H H') : ∀ (d : PyData) (v : V), Im H v d → Im H' v d
  | .none, _, h => by cases h; exact .non
  | .bool b, _, h => by cases h; exact .bl b
  | .int i, _, h => by cases h; exact .int i
  | .str x, _, h => by cases h; exact .str x
  | .tuple ds, _, h => by
    cases h with
    | tup h1 h2 => exact .tup (e _ _ h1) (ImAll.mono e ds _ h2)
  | .list ds, _, h => by cases h
  | .dict ds, _, h => by cases h
theorem ImAll.mono (e : Tp H H') : ∀ (ds : List PyData) (vs : List V), ImAll H vs ds → ImAll H' vs ds
  | [], _, h => by cases h; exact .nil
  | d :: ds, _, h => by
    cases h with
    | cons h1 h2 => exact .cons (Im.mono e d _ h1) (ImAll.mono e ds _ h2)
end
mutual
theorem Im.dp : ∀ (d : PyData) (v : V), Im H v d → Dp K H v d
  | .none, _, h => by cases h; exact .non
  | .bool b, _, h => by cases h; exact .bl b
  | .int i, _, h => by cases h; exact .int i
  | .str x, _, h => by cases h; exact .str x
  | .tuple ds, _, h => by
    cases h with
    | tup h1 h2 => exact .tup (SqT.of h1) (ImAll.dp ds _ h2)
  | .list ds, _, h => by cases h
  | .dict ds, _, h => by cases h
theorem ImAll.dp : ∀ (ds : List PyData) (vs : List V), ImAll H vs ds → DpAll K H vs ds
  | [], _, h => by cases h; exact .nil
  | d :: ds, _, h => by
    cases h with
    | cons h1 h2 => exact .cons (Im.dp d _ h1) (ImAll.dp ds _ h2)
end
theorem Im.up {v : V} {d : PyData} (h : Im H v d) (e : Tp H H') : Im H' v d := Im.mono e d v h
theorem ImAll.up {vs : List V} {ds : List PyData} (h : ImAll H vs ds) (e : Tp H H') : ImAll H' vs ds := ImAll.mono e ds vs h
theorem Im.to {v : V} {d : PyData} (h : Im H v d) : Dp K H v d := Im.dp d v h
theorem ImAll.to {vs : List V} {ds : List PyData} (h : ImAll H vs ds) : DpAll K H vs ds := ImAll.dp ds vs h
theorem ImAll.length : ∀ {vs : List V} {ds : List PyData}, ImAll H vs ds → vs.length = ds.length
  | _, [], h => by cases h; rfl
  | _, d :: ds, h => by
    cases h with
    | cons _ h2 => rw [List.length_cons, List.length_cons, ImAll.length h2]
theorem ImAll.get : ∀ {vs : List V} {ds : List PyData} {i : Nat} {d : PyData}, ImAll H vs ds → ds[i]? = some d → ∃ v, vs[i]? = some v ∧ Im H v d
  | _, [], i, _, h, e => by simp at e
  | _, d :: ds, 0, _, h, e => by
    cases h with
    | cons h1 h2 => cases e; exact ⟨_, rfl, h1⟩
  | _, d :: ds, i + 1, _, h, e => by
    cases h with
    | cons h1 h2 => exact ImAll.get (i := i) h2 e
theorem ImAll.getV : ∀ {vs : List V} {ds : List PyData} {i : Nat} {v : V}, ImAll H vs ds → vs[i]? = some v → ∃ d, ds[i]? = some d ∧ Im H v d := fun {vs ds i v} h e => by
  have l := (List.getElem?_eq_some_iff.mp e).1
  rw [h.length] at l
  obtain ⟨w, h1, h2⟩ := h.get (List.getElem?_eq_getElem l)
  rw [e] at h1
  cases h1
  exact ⟨_, List.getElem?_eq_getElem l, h2⟩
theorem ImAll.append : ∀ {vs ws : List V} {ds es : List PyData}, ImAll H vs ds → ImAll H ws es → ImAll H (vs ++ ws) (ds ++ es)
  | _, _, [], _, h, k => by cases h; exact k
  | _, _, d :: ds, _, h, k => by
    cases h with
    | cons h1 h2 => exact .cons h1 (ImAll.append h2 k)
theorem ImAll.snoc {vs : List V} {v : V} {ds : List PyData} {d : PyData} (h : ImAll H vs ds) (k : Im H v d) : ImAll H (vs ++ [v]) (ds ++ [d]) := h.append (.cons k .nil)
theorem ImAll.set : ∀ {vs : List V} {ds : List PyData} {v : V} {d : PyData} (i : Nat), ImAll H vs ds → Im H v d → ImAll H (vs.set i v) (ds.set i d)
  | _, [], _, _, i, h, _ => by cases h; exact .nil
  | _, d :: ds, _, _, 0, h, k => by
    cases h with
    | cons h1 h2 => exact .cons k h2
  | _, d :: ds, _, _, i + 1, h, k => by
    cases h with
    | cons h1 h2 => exact .cons h1 (ImAll.set i h2 k)
theorem ImAll.take : ∀ {vs : List V} {ds : List PyData} (i : Nat), ImAll H vs ds → ImAll H (vs.take i) (ds.take i)
  | _, [], i, h => by cases h; rw [List.take_nil, List.take_nil]; exact .nil
  | _, d :: ds, 0, h => .nil
  | _, d :: ds, i + 1, h => by
    cases h with
    | cons h1 h2 => exact .cons h1 (ImAll.take i h2)
theorem ImAll.drop : ∀ {vs : List V} {ds : List PyData} (i : Nat), ImAll H vs ds → ImAll H (vs.drop i) (ds.drop i)
  | _, [], i, h => by cases h; rw [List.drop_nil, List.drop_nil]; exact .nil
  | _, d :: ds, 0, h => h
  | _, d :: ds, i + 1, h => by
    cases h with
    | cons h1 h2 => exact ImAll.drop i h2
theorem im_strs : ∀ ws : List Str, ImAll H (ws.map V.str) (ws.map PyData.str)
  | [] => .nil
  | w :: ws => .cons (.str w) (im_strs ws)
theorem im_ints : ∀ ws : List Int, ImAll H (ws.map V.int) (ws.map PyData.int)
  | [] => .nil
  | w :: ws => .cons (.int w) (im_ints ws)
/-- a tuple of one, two, three, four -/
theorem Im.t1 {v : V} {d : PyData} (h : Im H v (.tuple [d])) : ∃ a x, v = .ref a ∧ H a = some (.tup [x]) ∧ Im H x d := by
  cases h with
  | tup h1 h2 =>
    cases h2 with
    | cons k1 r1 => cases r1; exact ⟨_, _, rfl, h1, k1⟩
theorem Im.t2 {v : V} {d e : PyData} (h : Im H v (.tuple [d, e])) : ∃ a x y, v = .ref a ∧ H a = some (.tup [x, y]) ∧ Im H x d ∧ Im H y e := by
  cases h with
  | tup h1 h2 =>
    cases h2 with
    | cons k1 r1 =>
      cases r1 with
      | cons k2 r2 => cases r2; exact ⟨_, _, _, rfl, h1, k1, k2⟩
theorem Im.t3 {v : V} {d e f : PyData} (h : Im H v (.tuple [d, e, f])) : ∃ a x y z, v = .ref a ∧ H a = some (.tup [x, y, z]) ∧ Im H x d ∧ Im H y e ∧ Im H z f := by
  cases h with
  | tup h1 h2 =>
    cases h2 with
    | cons k1 r1 =>
      cases r1 with
      | cons k2 r2 =>
        cases r2 with
        | cons k3 r3 => cases r3; exact ⟨_, _, _, _, rfl, h1, k1, k2, k3⟩
theorem Im.t4 {v : V} {d e f g : PyData} (h : Im H v (.tuple [d, e, f, g])) : ∃ a x y z u, v = .ref a ∧ H a = some (.tup [x, y, z, u]) ∧ Im H x d ∧ Im H y e ∧ Im H z f ∧ Im H u g := by
  cases h with
  | tup h1 h2 =>
    cases h2 with
    | cons k1 r1 =>
      cases r1 with
      | cons k2 r2 =>
        cases r2 with
        | cons k3 r3 =>
          cases r3 with
          | cons k4 r4 => cases r4; exact ⟨_, _, _, _, _, rfl, h1, k1, k2, k3, k4⟩
theorem Im.tn {v : V} {ds : List PyData} (h : Im H v (.tuple ds)) : ∃ a xs, v = .ref a ∧ H a = some (.tup xs) ∧ ImAll H xs ds := by
  cases h with
  | tup h1 h2 => exact ⟨_, _, rfl, h1, h2⟩
theorem Im.i {v : V} {i : Int} (h : Im H v (.int i)) : v = .int i := by cases h; rfl
theorem Im.s {v : V} {x : Str} (h : Im H v (.str x)) : v = .str x := by cases h; rfl
theorem Im.n {v : V} (h : Im H v .none) : v = .non := by cases h; rfl
theorem Im.b {v : V} {b : Bool} (h : Im H v (.bool b)) : v = .bl b := by cases h; rfl
theorem Im.mk1 {a : Addr} {x : V} {d : PyData} (h : H a = some (.tup [x])) (h1 : Im H x d) : Im H (.ref a) (.tuple [d]) := .tup h (.cons h1 .nil)
theorem Im.mk2 {a : Addr} {x y : V} {d e : PyData} (h : H a = some (.tup [x, y])) (h1 : Im H x d) (h2 : Im H y e) : Im H (.ref a) (.tuple [d, e]) := .tup h (.cons h1 (.cons h2 .nil))
theorem Im.mk3 {a : Addr} {x y z : V} {d e f : PyData} (h : H a = some (.tup [x, y, z])) (h1 : Im H x d) (h2 : Im H y e) (h3 : Im H z f) : Im H (.ref a) (.tuple [d, e, f]) := .tup h (.cons h1 (.cons h2 (.cons h3 .nil)))
theorem Im.mk4 {a : Addr} {x y z u : V} {d e f g : PyData} (h : H a = some (.tup [x, y, z, u])) (h1 : Im H x d) (h2 : Im H y e) (h3 : Im H z f) (h4 : Im H u g) : Im H (.ref a) (.tuple [d, e, f, g]) := .tup h (.cons h1 (.cons h2 (.cons h3 (.cons h4 .nil))))
end
/-! ### what may be shown, by bounds -/
mutual
def good : PyData → Bool
  | .none | .bool _ => true
  | .int i => decide (i.natAbs < 10 ^ 6)
  | .str x => x.cps.all (· < 0x110000)
  | .list xs | .tuple xs => goodAll xs
  | .dict _ => false
def goodAll : List PyData → Bool
  | [] => true
  | x :: xs => good x && goodAll xs
end
mutual
theorem good_ok : ∀ d : PyData, good d = true → d.canLay0 = true ∧ d.intsShort 13 = true ∧ d.showable = true ∧ d.hasDict = false
  | .none, _ => ⟨rfl, rfl, rfl, rfl⟩
  | .bool _, _ => ⟨rfl, rfl, rfl, rfl⟩
  | .int i, h => by
    have h1 : i.natAbs < 10 ^ 6 := of_decide_eq_true h
    refine ⟨rfl, ?_, ?_, rfl⟩
    · exact decide_eq_true (PyData.shown_int_le (Nat.lt_trans h1 (by decide)))
    · refine decide_eq_true (Nat.lt_of_le_of_lt ?_ (show 20 < 1920 by decide))
      have h2 : i.natAbs < 2 ^ 20 := Nat.lt_trans h1 (by decide)
      have := PySem.Flt.log2_lt_of (by decide) h2
      omega
  | .str x, h => ⟨h, rfl, rfl, rfl⟩
  | .list xs, h => goodAll_ok xs h
  | .tuple xs, h => goodAll_ok xs h
theorem goodAll_ok : ∀ xs : List PyData, goodAll xs = true → PyData.canLayAll0 xs = true ∧ PyData.intsShortAll 13 xs = true ∧ PyData.showableAll xs = true ∧ PyData.hasDictAll xs = false
  | [], _ => ⟨rfl, rfl, rfl, rfl⟩
  | x :: xs, h => by
    have h' : (good x && goodAll xs) = true := h
    rw [Bool.and_eq_true] at h'
    obtain ⟨a1, a2, a3, a4⟩ := good_ok x h'.1
    obtain ⟨b1, b2, b3, b4⟩ := goodAll_ok xs h'.2
    refine ⟨?_, ?_, ?_, ?_⟩
    · show (PyData.canLay0 x && PyData.canLayAll0 xs) = true
      rw [a1, b1]; rfl
    · show (PyData.intsShort 13 x && PyData.intsShortAll 13 xs) = true
      rw [a2, b2]; rfl
    · show (PyData.showable x && PyData.showableAll xs) = true
      rw [a3, b3]; rfl
    · show (PyData.hasDict x || PyData.hasDictAll xs) = false
      rw [a4, b4]; rfl
end
/-- bounds of data: its depth, its weight -/
structure Bd (k w : Nat) (d : PyData) : Prop where
  g : good d = true
  dp : d.depth ≤ k
  w : d.weight ≤ w
theorem Bd.mono {k w k' w' : Nat} {d : PyData} (h : Bd k w d) (h1 : k ≤ k') (h2 : w ≤ w') : Bd k' w' d := ⟨h.g, Nat.le_trans h.dp h1, Nat.le_trans h.w h2⟩
theorem bd_all {k w : Nat} : ∀ {ds : List PyData}, (∀ d ∈ ds, Bd k w d) → goodAll ds = true ∧ PyData.depthAll ds ≤ k ∧ PyData.weightAll ds ≤ ds.length * (w + 1)
  | [], _ => ⟨rfl, Nat.zero_le _, Nat.zero_le _⟩
  | d :: ds, h => by
    obtain ⟨h1, h2, h3⟩ := bd_all fun e he => h e (List.mem_cons_of_mem _ he)
    obtain ⟨a1, a2, a3⟩ := h d List.mem_cons_self
    refine ⟨?_, ?_, ?_⟩
    · show (good d && goodAll ds) = true
      rw [a1, h1]; rfl
    · show max _ _ ≤ k
      omega
    · show PyData.weight d + 1 + PyData.weightAll ds ≤ _
      rw [List.length_cons, Nat.add_mul, Nat.one_mul]
      omega
theorem Bd.tup {k w : Nat} {ds : List PyData} (h : ∀ d ∈ ds, Bd k w d) : Bd (k + 1) (ds.length * (w + 1)) (.tuple ds) := by
  obtain ⟨h1, h2, h3⟩ := bd_all h
  exact ⟨h1, Nat.succ_le_succ h2, h3⟩
theorem Bd.lst {k w : Nat} {ds : List PyData} (h : ∀ d ∈ ds, Bd k w d) : Bd (k + 1) (ds.length * (w + 1)) (.list ds) := by
  obtain ⟨h1, h2, h3⟩ := bd_all h
  exact ⟨h1, Nat.succ_le_succ h2, h3⟩
theorem Bd.int {i : Int} (h : i.natAbs < 10 ^ 6) : Bd 0 20 (.int i) := by
  refine ⟨decide_eq_true h, Nat.le_refl _, ?_⟩
  show (if i == 0 then 0 else i.natAbs.log2 + 1) ≤ 20
  split
  · omega
  · have h2 : i.natAbs < 2 ^ 20 := Nat.lt_trans h (by decide)
    have := PySem.Flt.log2_lt_of (by decide) h2
    omega
theorem Bd.str {x : Str} (h : ∀ c ∈ tl x, c < 0x110000) : Bd 0 x.length (.str x) := by
  refine ⟨?_, Nat.le_refl _, Nat.le_refl _⟩
  show x.cps.all (· < 0x110000) = true
  rw [Array.all_eq_true']
  intro c hc
  exact decide_eq_true (h c (Array.mem_toList_iff.mpr hc))
theorem Bd.non : Bd 0 0 .none := ⟨rfl, Nat.le_refl _, Nat.le_refl _⟩
theorem Bd.bl {b : Bool} : Bd 0 0 (.bool b) := ⟨rfl, Nat.le_refl _, Nat.le_refl _⟩
theorem Bd.shows {k w : Nat} {d : PyData} (h : Bd k w d) (h1 : k ≤ 60) (h2 : w ≤ 2 ^ 20) : Shows d := by
  obtain ⟨g1, g2, g3, g4⟩ := good_ok d h.g
  refine ⟨g3, g4, Nat.le_trans h.dp h1, ?_⟩
  refine PyData.shown_fits_of_layable0 (B := 13) (by decide) (by decide) ?_ g2
  show (PyData.canLay0 d && decide (PyData.depth d ≤ 64) && decide (PyData.weight d ≤ 2 ^ 20)) = true
  rw [g1, decide_eq_true (show PyData.depth d ≤ 64 from Nat.le_trans h.dp (by omega)), decide_eq_true (show PyData.weight d ≤ 2 ^ 20 from Nat.le_trans h.w h2)]
  rfl
theorem Bd.shaped {k w : Nat} {d : PyData} (h : Bd k w d) (h1 : k ≤ 60) : SeqAt.shaped d = true := by
  obtain ⟨g1, _, _, _⟩ := good_ok d h.g
  show (PyData.canLay0 d && decide (PyData.depth d ≤ 64)) = true
  rw [g1, decide_eq_true (show PyData.depth d ≤ 64 from Nat.le_trans h.dp (by omega))]
  rfl
/-! ### equal data without bools is the same data -/
mutual
def noB : PyData → Bool
  | .none | .int _ | .str _ => true
  | .list xs | .tuple xs => noBs xs
  | .bool _ | .dict _ => false
def noBs : List PyData → Bool
  | [] => true
  | x :: xs => noB x && noBs xs
end
mutual
theorem eqv_iff : ∀ (d e : PyData), noB d = true → noB e = true → (PyData.eqv d e = true ↔ d = e)
  | .none, e, _, h => by cases e <;> first | exact ⟨fun _ => rfl, fun _ => rfl⟩ | exact ⟨(fun q => nomatch q), (fun q => nomatch q)⟩
  | .int i, e, _, h => by
    cases e with
    | int j =>
      refine ⟨fun q => ?_, fun q => ?_⟩
      · have q' : (i == j) = true := q
        rw [beq_iff_eq.mp q']
      · cases q
        exact beq_self_eq_true i
    | bool b => cases h
    | _ => exact ⟨(fun q => nomatch q), (fun q => nomatch q)⟩
  | .str x, e, _, h => by
    cases e with
    | str y =>
      refine ⟨fun q => ?_, fun q => ?_⟩
      · have q' : (x == y) = true := q
        rw [beq_iff_eq.mp q']
      · cases q
        exact beq_self_eq_true x
    | _ => exact ⟨(fun q => nomatch q), (fun q => nomatch q)⟩
  | .list xs, e, hd, h => by
    cases e with
    | list ys =>
      have r := eqvs_iff xs ys hd h
      exact ⟨fun q => by rw [r.mp q], fun q => r.mpr (PyData.list.inj q)⟩
    | _ => exact ⟨(fun q => nomatch q), (fun q => nomatch q)⟩
  | .tuple xs, e, hd, h => by
    cases e with
    | tuple ys =>
      have r := eqvs_iff xs ys hd h
      exact ⟨fun q => by rw [r.mp q], fun q => r.mpr (PyData.tuple.inj q)⟩
    | _ => exact ⟨(fun q => nomatch q), (fun q => nomatch q)⟩
  | .bool _, _, hd, _ => by cases hd
  | .dict _, _, hd, _ => by cases hd
theorem eqvs_iff : ∀ (xs ys : List PyData), noBs xs = true → noBs ys = true → (PyData.eqvAll xs ys = true ↔ xs = ys)
  | [], [], _, _ => ⟨fun _ => rfl, fun _ => rfl⟩
  | [], _ :: _, _, _ => ⟨(fun q => nomatch q), (fun q => nomatch q)⟩
  | _ :: _, [], _, _ => ⟨(fun q => nomatch q), (fun q => nomatch q)⟩
  | x :: xs, y :: ys, hx, hy => by
    have hx' : (noB x && noBs xs) = true := hx
    have hy' : (noB y && noBs ys) = true := hy
    rw [Bool.and_eq_true] at hx' hy'
    have r1 := eqv_iff x y hx'.1 hy'.1
    have r2 := eqvs_iff xs ys hx'.2 hy'.2
    have e : PyData.eqvAll (x :: xs) (y :: ys) = (PyData.eqv x y && PyData.eqvAll xs ys) := by rw [PyData.eqvAll]
    rw [e, Bool.and_eq_true, r1, r2, List.cons.injEq]
end
theorem noBs_map {α : Type} (f : α → PyData) (h : ∀ a, noB (f a) = true) : ∀ xs : List α, noBs (xs.map f) = true
  | [] => rfl
  | x :: xs => by
    show (noB (f x) && noBs (xs.map f)) = true
    rw [h x, noBs_map f h xs]
    rfl
theorem map_inj' {α β : Type} {f : α → β} (h : ∀ a b, f a = f b → a = b) : ∀ {xs ys : List α}, xs.map f = ys.map f → xs = ys
  | [], [], _ => rfl
  | [], _ :: _, q => nomatch q
  | _ :: _, [], q => nomatch q
  | x :: xs, y :: ys, q => by
    rw [List.map_cons, List.map_cons] at q
    obtain ⟨q1, q2⟩ := List.cons.inj q
    rw [h _ _ q1, map_inj' h q2]
end Mine

/-! ## Comprehensions and loops over data that never changes -/
namespace Mine
open PySem PySem.Spec PyProof.Rows L2
open TL (tl)
set_option linter.all false
section
variable {K : PySem.W.Frag} {H : Hp} {σ : St} {vs : List Nat} {g : TG} {tt : TT} {te tk tv : TE} {Q : VK} {a : Addr} {xs : List V} {α : Type} {as : List α} {enc out : α → PyData} {p : α → Bool}
theorem Same.tp {H H' : Hp} (h : Same H H') : Tp H H' := Tp.of h
theorem ixN_nat {n j : Nat} (h : j < n) : ixN n (j : Int) = some j := by
  unfold ixN
  rw [if_pos (by omega), if_pos (by omega)]
  rfl
/-- what one turn asks: x is a's; the test tells p a, the new value is out a's -/
def ImT (enc out : α → PyData) (p : α → Bool) (as : List α) (g : TG) (tt : TT) (te : TE) (vs : List Nat) (σ : St) (H : Hp) : Prop := ∀ (D : Addr) (x : V) (y : α) (H1 : Hp) (N : Hp → Prop), H D = none → y ∈ as → Same H H1 → Im H1 x (enc y) →
  (p y = false → ∀ H2, Same H1 H2 → N H2) → (p y = true → ∀ v H2, Same H1 H2 → Im H2 v (out y) → ∃ acc, H2 D = some (.lst acc) ∧ acc.length < sizeLine ∧ N (upd H2 D (.lst (acc ++ [v])))) → LcT g tt te vs σ D N x H1
def ImP (enc out : α → PyData) (p : α → Bool) (as : List α) (H : Hp) (D : Addr) (i : Nat) (H' : Hp) : Prop := Same H H' ∧ ∃ ys, H' D = some (.lst ys) ∧ ImAll H' ys (((as.take i).filter p).map out)
theorem ImP.zero {D : Addr} (hD : H D = none) : ImP enc out p as H D 0 (upd H D (.lst [])) := ⟨(Same.refl H).new (o := .lst []) hD, [], upd_same, .nil⟩
theorem ImP.step {D : Addr} {i : Nat} {x : V} {y : α} {H1 : Hp} (hl : as.length ≤ 1000000) (h : ImT enc out p as g tt te vs σ H) (hD : H D = none) (hy : as[i]? = some y) (ix : Im H1 x (enc y)) (hP : ImP enc out p as H D i H1) : LcT g tt te vs σ D (ImP enc out p as H D (i + 1)) x H1 := by
  obtain ⟨k, ys, hys, im⟩ := hP
  have grow : as.take (i + 1) = as.take i ++ [y] := by rw [List.take_add_one, hy]; rfl
  refine h D x y H1 _ hD (List.mem_of_getElem? hy) k ix (fun hp H2 k2 => ⟨k.trans k2, ys, k2 _ _ hys, ?_⟩) (fun hp v H2 k2 iv => ⟨ys, k2 _ _ hys, ?_, (k.trans k2).put hD, ys ++ [v], upd_same, ?_⟩)
  · rw [grow, List.filter_append, List.map_append]
    simp only [List.filter_cons, hp, List.filter_nil, Bool.false_eq_true, if_false, List.map_nil, List.append_nil]
    exact im.up (Tp.of k2)
  · refine szLt ?_
    rw [im.length, List.length_map]
    have h1 := List.length_filter_le p (as.take i)
    rw [List.length_take] at h1
    omega
  · rw [grow, List.filter_append, List.map_append]
    simp only [List.filter_cons, hp, List.filter_nil, if_true, List.map_cons, List.map_nil]
    exact ((im.up (Tp.of k2)).snoc iv).up ((Tp.refl H2).lst (k2 _ _ hys))
/-- [.. for target in a list of data if ..] -/
theorem rd_imL (h : H a = some (.lst xs)) (im : ImAll H xs (as.map enc)) (hl : as.length ≤ 1000000) (t : ImT enc out p as g tt te vs σ H)
    (hd : ∀ D H' ys, H D = none → Same H H' → H' D = some (.lst ys) → ImAll H' ys ((as.filter p).map out) → Q (.ref D) H') : ∃ b, V.ref a = .ref b ∧ (∃ xs, SqL K H b xs) ∧ LcW (Itl K b) g tt te vs σ H Q := by
  refine rd_clL (SqL.of h) (fun D i H' => ImP enc out p as H D i H') (fun D hD => ImP.zero hD) (fun D i H' _ _ h' => SqL.of (h'.1 _ _ h)) (fun D i x H' hD hx hP => ?_) (fun D H' hD hP => ?_)
  · obtain ⟨d, hd, ix⟩ := im.getV hx
    rw [List.getElem?_map] at hd
    obtain ⟨y, hy, rfl⟩ := Option.map_eq_some_iff.mp hd
    exact ImP.step hl t hD hy (ix.up (Tp.of hP.1)) hP
  · obtain ⟨k, ys, hys, im'⟩ := hP
    have l : xs.length = as.length := by rw [im.length, List.length_map]
    rw [l, List.take_length] at im'
    exact hd D H' ys hD k hys im'
theorem rd_imT (h : H a = some (.tup xs)) (im : ImAll H xs (as.map enc)) (hl : as.length ≤ 1000000) (t : ImT enc out p as g tt te vs σ H)
    (hd : ∀ D H' ys, H D = none → Same H H' → H' D = some (.lst ys) → ImAll H' ys ((as.filter p).map out) → Q (.ref D) H') : ∃ b, V.ref a = .ref b ∧ (∃ xs, SqT K H b xs) ∧ LcW (Itt K b) g tt te vs σ H Q := by
  refine rd_clT (SqT.of h) (fun D i H' => ImP enc out p as H D i H') (fun D hD => ImP.zero hD) (fun D i H' _ _ h' => SqT.of (h'.1 _ _ h)) (fun D i x H' hD hx hP => ?_) (fun D H' hD hP => ?_)
  · obtain ⟨d, hd, ix⟩ := im.getV hx
    rw [List.getElem?_map] at hd
    obtain ⟨y, hy, rfl⟩ := Option.map_eq_some_iff.mp hd
    exact ImP.step hl t hD hy (ix.up (Tp.of hP.1)) hP
  · obtain ⟨k, ys, hys, im'⟩ := hP
    have l : xs.length = as.length := by rw [im.length, List.length_map]
    rw [l, List.take_length] at im'
    exact hd D H' ys hD k hys im'
theorem eqv_pair (a b : Str) (i j : Int) : PyData.eqv (.tuple [.str a, .int i]) (.tuple [.str b, .int j]) = (decide (a = b) && decide (i = j)) := by
  rw [Bool.eq_iff_iff, eqv_iff _ _ rfl rfl, Bool.and_eq_true, decide_eq_true_eq, decide_eq_true_eq]
  constructor
  · intro h
    obtain ⟨h1, h2⟩ := List.cons.inj (PyData.tuple.inj h)
    exact ⟨PyData.str.inj h1, PyData.int.inj (List.cons.inj h2).1⟩
  · rintro ⟨rfl, rfl⟩
    rfl
/-- the distinct ones, as they are first met -/
theorem dist_step (ns : List Int) (i : Nat) {n : Int} (h : ns[i]? = some n) : PyProof.Rows.firstMet (fun i => ns.getD i 0) (i + 1) = putI (PyProof.Rows.firstMet (fun i => ns.getD i 0) i) n := by
  have e : ns.getD i 0 = n := by rw [List.getD_eq_getElem?_getD, h]; rfl
  rw [firstMet_succ]
  show step_dedup _ (ns.getD i 0) = _
  rw [e]
  unfold step_dedup putI
  by_cases c : n ∈ PyProof.Rows.firstMet (fun i => ns.getD i 0) i
  · rw [if_pos c, if_pos (show ((PyProof.Rows.firstMet (fun i => ns.getD i 0) i).any fun x => x == n) = true from List.any_eq_true.mpr ⟨n, c, beq_self_eq_true n⟩)]
  · rw [if_neg c, if_neg (fun q => by obtain ⟨y, h1, h2⟩ := List.any_eq_true.mp q; rw [eq_of_beq h2] at h1; exact c h1)]
/-! ### a walk over the keys of a dict, which is locked meanwhile -/
theorem rd_lock {t : TS} {D : Ends} {d : Addr} {u : HO} (h : H d = some u) (mu : Mut (some u)) (q : ∀ od, t ⟨fun σ' H' => H' d = some (.frz od u) ∧ D.nx σ' (upd H' d u), fun v H' => H' d = some (.frz od u) ∧ D.rt v (upd H' d u), fun σ' H' => H' d = some (.frz od u) ∧ D.bk σ' (upd H' d u), fun σ' H' => H' d = some (.frz od u) ∧ D.ct σ' (upd H' d u)⟩ σ (upd H d (.frz od u))) : tLock t D σ H := ⟨d, u, h, mu, q⟩
theorem rd_dIn {ty td : TE} (q : ty σ H fun y H1 => td σ H1 fun x H2 => ∃ a o, x = .ref a ∧ DGet H2 a y o ∧ Q (.bl o.isSome) H2) : tDIn ty td σ H Q := q
theorem rd_forK {td : TE} {s : TS} {D : Ends} (q : td σ H fun x H1 => ∃ d o, x = .ref d ∧ ((∃ kvs, H1 d = some (.frz o (.dK kvs)) ∧ ForW (Itk d o kvs) g s D σ H1) ∨ ∃ kvs, H1 d = some (.frz o (.dT kvs)) ∧ ForW (Itkt d o kvs) g s D σ H1)) : tFor (iKeys td) g s D σ H := q
theorem rd_itK {d : Addr} {o : Obj} {kvs : List (Key × V)} {s : TS} {D : Ends} (h : H d = some (.frz o (.dK kvs))) (Pv : Nat → St → Hp → Prop) (h0 : Pv 0 σ H) (hl : ∀ i σ H, i ≤ kvs.length → Pv i σ H → H d = some (.frz o (.dK kvs)))
    (hs : ∀ i k v σ H', kvs[i]? = some (k, v) → Pv i σ H' → g (kV k) σ H' fun σ2 H2 => s { D with nx := Pv (i + 1), ct := Pv (i + 1), bk := D.nx } σ2 H2) (hd : ∀ σ H', Pv kvs.length σ H' → D.nx σ H') :
    ∃ d' o', V.ref d = .ref d' ∧ ((∃ kvs, H d' = some (.frz o' (.dK kvs)) ∧ ForW (Itk d' o' kvs) g s D σ H) ∨ ∃ kvs, H d' = some (.frz o' (.dT kvs)) ∧ ForW (Itkt d' o' kvs) g s D σ H) := by
  refine ⟨d, o, rfl, .inl ⟨kvs, h, ?_⟩⟩
  refine for_it walk_keys Pv h0 (fun i σ H hi p => hl i σ H hi p) ?_ hd
  rintro i x σ' H1 H2 hi hP ⟨rfl, k, v, hk, rfl⟩
  exact hs i k v σ' H2 hk hP
/-! ### a walk over a list or a tuple -/
def LT (H : Hp) (p : Addr) (xs : List V) : Prop := H p = some (.lst xs) ∨ H p = some (.tup xs)
theorem LT.one {H Hc H' : Hp} {p : Addr} {xs : List V} (h : LT H p xs) (k1 : Same H Hc) (k2 : Same H H') : ∀ o, Hc p = some o → H' p = some o := fun o e => by
  rcases h with h | h
  · cases (k1 _ _ h).symm.trans e
    exact k2 _ _ h
  · cases (k1 _ _ h).symm.trans e
    exact k2 _ _ h
theorem LT.up {H H' : Hp} {p : Addr} {xs : List V} (h : LT H p xs) (k : Same H H') : LT H' p xs := h.elim (fun h => .inl (k _ _ h)) fun h => .inr (k _ _ h)
theorem rd_forV {i : Nat} {p : Addr} {s : TS} {D : Ends} (hv : σ[i]? = some (some (.ref p))) (h : LT H p xs) (Pv : Nat → St → Hp → Prop) (h0 : Pv 0 σ H) (hl : ∀ i σ' H', Pv i σ' H' → ∀ o, H p = some o → H' p = some o)
    (hs : ∀ i x σ' H', xs[i]? = some x → Pv i σ' H' → g x σ' H' fun σ2 H2 => s { D with nx := Pv (i + 1), ct := Pv (i + 1), bk := D.nx } σ2 H2) (hd : ∀ σ' H', Pv xs.length σ' H' → D.nx σ' H') : tFor (iAny K (tVar i)) g s D σ H := by
  rcases h with h | h
  · exact rd_forL (rd_var hv ⟨p, rfl, ⟨xs, SqL.of h⟩, for_it walk_list Pv h0 (fun i σ' H' _ q => SqL.of (hl i σ' H' q _ h)) (fun i x σ' H1 H2 hi hP y => by rw [y.1]; exact hs i x σ' H1 y.2 hP) hd⟩)
  · exact rd_forT (rd_var hv ⟨p, rfl, ⟨xs, SqT.of h⟩, for_it walk_tup Pv h0 (fun i σ' H' _ q => SqT.of (hl i σ' H' q _ h)) (fun i x σ' H1 H2 hi hP y => by rw [y.1]; exact hs i x σ' H1 y.2 hP) hd⟩)
/-- [.. for i in range(n)] -/
theorem rd_imR {H : Hp} {σ : St} {vs : List Nat} {g : TG} {tt : TT} {te : TE} {Q : VK} {n : Int} {p : Nat → Bool} {out : Nat → PyData} (b0 : 0 ≤ n) (b1 : n ≤ 1000000) (t : ImT (fun i : Nat => .int (i : Int)) out p (List.range n.toNat) g tt te vs σ H)
    (hd : ∀ D H' ys, H D = none → Same H H' → H' D = some (.lst ys) → ImAll H' ys (((List.range n.toNat).filter p).map out) → Q (.ref D) H') : ∃ j : Int, [V.int n] = [.int j] ∧ -(2 ^ 62) ≤ j ∧ j < 2 ^ 62 ∧ LcW (Itr 0 j.toNat) g tt te vs σ H Q := by
  refine rd_clR (by omega) (by omega) (fun D i H' => ImP (fun i : Nat => .int (i : Int)) out p (List.range n.toNat) H D i H') (fun D hD => ImP.zero hD) (fun D i H' hD hi hP => ?_) (fun D H' hD hP => ?_)
  · exact ImP.step (y := i) (by rw [List.length_range]; omega) t hD (by rw [List.getElem?_range (by omega)]) (.int _) hP
  · obtain ⟨k, ys, hys, im'⟩ := hP
    rw [List.take_of_length_le (by rw [List.length_range]; exact Nat.le_refl _)] at im'
    exact hd D H' ys hD k hys im'
end
end Mine
namespace Mine
open PySem PySem.Spec PyProof.Rows L2
theorem rd_iteS {σ : St} {H : Hp} {Q : VK} {c : Bool} {a b : Str} (q : Q (.str (if c = true then a else b)) H) : if c = true then tC (.str a) σ H Q else tC (.str b) σ H Q := by
  cases c <;> exact q
end Mine

/-! ## Exceptions of own classes: raised, let out, caught -/
namespace Mine
open PySem PySem.Spec PyProof.Rows L2
set_option linter.all false
/-- an own class over ValueError, however deep, made with a text -/
structure ExcF (K : PySem.W.Frag) (mg : Str → Option Value) (x : Str) (C : Addr) : Prop where
  g : mg x = some (.ref C)
  x : PySem.W.excIn K C [.type "ValueError", .type "Exception", .type "BaseException", .type "object"] "ValueError.__new__" = true
  k : PySem.W.keepIn K (.ref C) = true
  b : PySem.W.subIn K (.ref C) (.type "BaseException") = some true
  t : PySem.W.typeIn K (.ref C) = some (.type "type")
  i : PySem.W.isClsIn K C = true
theorem exm_to {K : PySem.W.Frag} {C D : Addr} {b : Bool} (h1 : PySem.W.subIn K (.ref D) (.type "BaseException") = some true) (h2 : PySem.W.isClsIn K D = true) (h3 : PySem.W.typeIn K (.ref D) = some (.type "type")) (h4 : PySem.W.subIn K (.ref C) (.ref D) = some b) :
    PySem.W.exmOne K (.ref C) (.ref D) = some b := by
  have e1 : (PySem.W.subIn K (.ref D) (.type "BaseException") == some true) = true := by rw [h1] <;> rfl
  have e2 : ((PySem.W.clsIn K D).isSome && PySem.W.typeIn K (.ref D) == some (.type "type")) = true := by
    have h2' : (PySem.W.clsIn K D).isSome = true := h2
    rw [h2', h3] <;> rfl
  show (if (PySem.W.subIn K (.ref D) (.type "BaseException") == some true) = true then (if ((PySem.W.clsIn K D).isSome && PySem.W.typeIn K (.ref D) == some (.type "type")) = true then PySem.W.subIn K (.ref C) (.ref D) else none) else none) = some b
  rw [if_pos e1, if_pos e2]
  exact h4
theorem ExcF.m {K : PySem.W.Frag} {mg : Str → Option Value} {y : Str} {C D : Addr} {b : Bool} (e : ExcF K mg y D) (h : PySem.W.subIn K (.ref C) (.ref D) = some b) : PySem.W.exmOne K (.ref C) (.ref D) = some b := exm_to e.b e.i e.t h
theorem ExcF.one {K : PySem.W.Frag} {mg : Str → Option Value} {x : Str} {C D : Addr} (e : ExcF K mg x C) (f : mg x = some (.ref D)) : D = C := by
  have := e.g.symm.trans f
  cases this
  rfl
/-- promises that tell what is raised, too -/
abbrev sp1x (Φ : V → Hp → VK → XK → Prop) : Sp := fun vs H Q E => ∃ a, vs = [a] ∧ Φ a H Q E
abbrev sp2x (Φ : V → V → Hp → VK → XK → Prop) : Sp := fun vs H Q E => ∃ a b, vs = [a, b] ∧ Φ a b H Q E
abbrev sp3x (Φ : V → V → V → Hp → VK → XK → Prop) : Sp := fun vs H Q E => ∃ a b c, vs = [a, b, c] ∧ Φ a b c H Q E
abbrev sp4x (Φ : V → V → V → V → Hp → VK → XK → Prop) : Sp := fun vs H Q E => ∃ a b c d, vs = [a, b, c, d] ∧ Φ a b c d H Q E
abbrev sp5x (Φ : V → V → V → V → V → Hp → VK → XK → Prop) : Sp := fun vs H Q E => ∃ a b c d e, vs = [a, b, c, d, e] ∧ Φ a b c d e H Q E
section
variable {X : Cx} {CX : CXT} {k : Nat} {ps : List Str} {sp : Sp} {E : St → XK} {x : Str} {st : Stmt} {p pos : Pos} {e : Expr} {es : List Expr} {t tk : TA} {kws : List Keyword}
theorem run_keepsS {pins : List (Addr × Obj)} {σ : St} {H : Hp} {s : Shared} {Q : VK} {args : List Value} {kwargs : List (Str × Value)} {us : List Value} {vs : List V} {f : Addr} {fd : FuncData} (O : Keeps X.prog X.w X.K X.mg X.base CX k f fd ps sp)
    (hr : Rm k X.A) (hx : PassesAt CX X σ (E σ)) (I : Inv X pins σ H s) (b : BindsTo s fd ⟨args, kwargs⟩ (ps.zip us)) (r : Vals vs us) (h : sp vs H Q (E σ)) :
    wpAny (model X.prog X.w) X.A (call (.ref f) args kwargs) (EP X pins σ Q) X.xe s := by
  have run := O.2 X.A X.stack s H ⟨args, kwargs⟩ us vs Q (E σ) hr I.env0 b r h
  refine wpAny_call (codeAny_mono run ?_)
  intro res s2 hres
  match res, hres with
  | .error e, hres => exact hx pins H s e s2 I hres
  | .ok (.ret u), hres => exact I.after hres
theorem pe_calS (C : Cal X.prog X.w X.K X.mg X.base CX k x st ps sp) (hr : Rm k X.A) (hg : Gl X x) (hx : ∀ σ, PassesAt CX X σ (E σ)) (ha : PA X (e :: es) t)
    (hdb : (x == ("__debug__" : Str)) = false := by decide) (he : starEach (e :: es) X.env = (false, eval e X.env) :: starEach es X.env := by rfl) (hpl : (backTo pos (starEach es X.env)).any (·.1) = false := by rfl) :
    PE X (.Call (.Name x p) (e :: es) [] pos) (tCallS sp E t) := by
  obtain ⟨f, fd, F, hm, B, O⟩ := C
  constructor
  intro pins s σ H Q I h
  refine wpAny_Call_Name_kw (ld_glob I hg hm ?_ hdb)
  refine PySem.W.callWith_K (h₀ := X.base) I.ok.mod.kin F.kp (thn (ha.run pos pins s σ H _ I h) ?_) he hpl
  rintro us s1 ⟨vs, H1, I1, r, q⟩
  refine And.intro I1.kIn ?_
  have hl : (us ++ []).length = ps.length := by
    rw [List.append_nil, ← Vals.length r]
    exact O.1 _ _ _ _ q
  have b := B s1 us I1.kIn hl
  rw [List.append_nil] at b
  exact run_keepsS O hr (hx σ) I1 b r q
def tCalKS (n m : Nat) (pm : List Nat) (sp : Sp) (E : St → XK) (t tk : TA) : TE := fun σ H Q => t σ H fun vs H1 => tk σ H1 fun zs H2 => vs.length = n ∧ zs.length = m ∧ sp (gK pm vs zs) H2 Q (E σ)
theorem pe_calKS {n : Nat} {ks : List Str} {pm : List Nat} (C : Cal X.prog X.w X.K X.mg X.base CX k x st ps sp) (hr : Rm k X.A) (hg : Gl X x) (hb : KwOk x st ps n ks pm) (hx : ∀ σ, PassesAt CX X σ (E σ))
    (ha : PA X (e :: es) t) (hkw : PK X kws tk) (hall : (backToKw pos (keywordEach kws X.env)).all (·.1.isSome) = true := by rfl) (hks : (backToKw pos (keywordEach kws X.env)).filterMap (·.1) = ks := by rfl)
    (hdb : (x == ("__debug__" : Str)) = false := by decide) (he : starEach (e :: es) X.env = (false, eval e X.env) :: starEach es X.env := by rfl)
    (hpl : ((backTo pos (starEach (e :: es) X.env)).any (·.1) || (backToKw pos (keywordEach kws X.env)).any (·.1.isNone)) = false := by rfl) :
    PE X (.Call (.Name x p) (e :: es) kws pos) (tCalKS n ks.length pm sp E t tk) := by
  obtain ⟨f, fd, F, hm, B, O⟩ := C
  constructor
  intro pins s σ H Q I h
  refine wpAny_Call_Name_kw (ld_glob I hg hm ?_ hdb)
  refine PySem.W.callWith_KW (h₀ := X.base) I.ok.mod.kin F.kp hall (thn (ha.run pos pins s σ H _ I h) ?_) hpl he
  rintro us s1 ⟨vs, H1, I1, r, q⟩
  refine thn (hkw.run pos pins s1 σ H1 _ I1 q) ?_
  rintro ws s2 ⟨zs, H2, I2, rz, l1, l2, q2⟩
  refine And.intro I2.kIn ?_
  rw [hks]
  exact run_keepsS O hr (hx σ) I2 (kw_binds F hb s2 (by have := Vals.length r; simpa [this] using l1) (by rw [← Vals.length rz]; exact l2)) (gK_rel r rz) q2
theorem pe_calK0S {ks : List Str} {pm : List Nat} (C : Cal X.prog X.w X.K X.mg X.base CX k x st ps sp) (hr : Rm k X.A) (hg : Gl X x) (hb : KwOk x st ps 0 ks pm) (hx : ∀ σ, PassesAt CX X σ (E σ))
    (hkw : PK X kws tk) (hall : (backToKw pos (keywordEach kws X.env)).all (·.1.isSome) = true := by rfl) (hks : (backToKw pos (keywordEach kws X.env)).filterMap (·.1) = ks := by rfl)
    (hdb : (x == ("__debug__" : Str)) = false := by decide)
    (hpl : ((backTo pos (starEach [] X.env)).any (·.1) || (backToKw pos (keywordEach kws X.env)).any (·.1.isNone)) = false := by rfl) :
    PE X (.Call (.Name x p) [] kws pos) (tCalKS 0 ks.length pm sp E tNil tk) := by
  obtain ⟨f, fd, F, hm, B, O⟩ := C
  constructor
  intro pins s σ H Q I h
  refine wpAny_Call_Name_kw (ld_glob I hg hm ?_ hdb)
  refine PySem.W.callWith_KW0 (h₀ := X.base) I.ok.mod.kin F.kp hall ?_ hpl
  have h' : tk σ H fun zs H2 => ([] : List V).length = 0 ∧ zs.length = ks.length ∧ sp (gK pm [] zs) H2 Q (E σ) := h
  refine thn (hkw.run pos pins s σ H _ I h') ?_
  rintro ws s2 ⟨zs, H2, I2, rz, l1, l2, q2⟩
  refine And.intro I2.kIn ?_
  rw [hks]
  exact run_keepsS (us := gK pm [] ws) O hr (hx σ) I2 (kw_binds F hb s2 (us := []) rfl (by rw [← Vals.length rz]; exact l2)) (gK_rel .nil rz) q2
end
/-! ### raise, try -/
def tRaise (C : Addr) (W : WX) : TS := fun _ σ H => W (.ref C) none σ H
theorem ps_raiseX {X : Cx} {W : WX} {x m : Str} {j : Nat} {C : Addr} {p p2 p3 pos : Pos} (hc : X.calm = true) (tk : Takes X W) (e : ExcF X.K X.mg x C) (hg : Gl X x) (hdb : (x == ("__debug__" : Str)) = false := by decide) :
    PS X (.Raise (some (.Call (.Name x p) [.Constant (.str m) j p2] [] p3)) none pos) (tRaise C W) :=
  ps_raise hc tk (pmk_own PySem.F.excBase_ValueError e.x e.g e.k (raises_own e.b e.t) hg hdb)
def tTryO (K : PySem.W.Frag) (C : Addr) (tb : WX → TS) (ts : Addr → Value → Option Addr → TS) (Wout : WX) : TS := fun D σ H => tb (wOnly K (.ref C) ts Wout D) D σ H
def tTryM (K : PySem.W.Frag) (l : List (Value × (Addr → Value → Option Addr → TS))) (tb : WX → TS) (Wout : WX) : TS := fun D σ H => tb (wMany K Wout D l) D σ H
def tTryA (K : PySem.W.Frag) (C : Addr) (i : Nat) (tb : WX → TS) (ts : Addr → Value → Option Addr → TS) (Wout : WX) : TS := fun D σ H => tb (wAs K (.ref C) i ts Wout D) D σ H
section
variable {X : Cx} {K : PySem.W.Frag} {x n : Str} {C : Addr} {i : Nat} {body suite : List Stmt} {b₀ : Stmt} {np pos pos' : Pos} {tb : WX → TS} {ts : Addr → Value → Option Addr → TS} {Wout : WX}
theorem names_of (e : ExcF X.K X.mg x C) (hg : Gl X x) (hdb : (x == ("__debug__" : Str)) = false := by decide) : Names X x (.ref C) := ⟨hg, hdb, .inl e.g⟩
theorem ps_tryO (hs : X.stack = X.env :: X.outer) (hf : X.env.frame = some X.env.locals) (hc : Names X x (.ref C)) (tk : Takes X Wout) (ek : X.K = K)
    (hb : ∀ (W : WX) (pn : List (Addr × Obj)) (xe : Value → Shared → Prop), Takes (X.tr pn xe) W → PassesOwn (model X.prog X.w) X.A X.env xe → PSs (X.tr pn xe) body (tb W))
    (hsu : ∀ (a : Addr) (oe : Obj) (cls : Value) (d : Option Addr) (pn : List (Addr × Obj)), Zc cls d oe → (∃ vs, oe.data = .fields vs) → PSs (X.suite a ((a, oe) :: pn)) (b₀ :: suite) (ts a cls d)) :
    PS X (.Try body [.ExceptHandler (some (.Name x np)) none (b₀ :: suite) pos'] [] [] pos) (tTryO K C tb ts Wout) := by
  subst ek
  exact ps_try_only hs hf hc tk hb hsu
theorem ps_tryM {h₀ : ExceptHandler} {hds : List ExceptHandler} {l : List (Value × (Addr → Value → Option Addr → TS))} (hs : X.stack = X.env :: X.outer) (hf : X.env.frame = some X.env.locals) (tk : Takes X Wout) (ek : X.K = K)
    (hb : ∀ (W : WX) (pn : List (Addr × Obj)) (xe : Value → Shared → Prop), Takes (X.tr pn xe) W → PassesOwn (model X.prog X.w) X.A X.env xe → PSs (X.tr pn xe) body (tb W))
    (hh : HdsOk X (h₀ :: hds) l) : PS X (.Try body (h₀ :: hds) [] [] pos) (tTryM K l tb Wout) := by
  subst ek
  exact ps_try_many hs hf tk hb hh
theorem ps_tryA (hs : X.stack = X.env :: X.outer) (hf : X.env.frame = some X.env.locals) (hN : X.N.Nodup) (hi : X.N[i]? = some n) (hln : X.env.kindOf n = some .local) (hc : Names X x (.ref C)) (tk : Takes X Wout) (ek : X.K = K)
    (hb : ∀ (W : WX) (pn : List (Addr × Obj)) (xe : Value → Shared → Prop), Takes (X.tr pn xe) W → PassesOwn (model X.prog X.w) X.A X.env xe → PSs (X.tr pn xe) body (tb W))
    (hsu : ∀ (a : Addr) (oe : Obj) (cls : Value) (d : Option Addr) (pn : List (Addr × Obj)), Zc cls d oe → (∃ vs, oe.data = .fields vs) → PSs (X.suite a ((a, oe) :: pn)) (b₀ :: suite) (ts a cls d)) :
    PS X (.Try body [.ExceptHandler (some (.Name x np)) (some n) (b₀ :: suite) pos'] [] [] pos) (tTryA K C i tb ts Wout) := by
  subst ek
  exact ps_try_as hs hf hN hi hln hc tk hb hsu
end
section
variable {σ : St} {H : Hp} {Q : VK} {D : Ends} {K : PySem.W.Frag} {C : Addr} {W Wout : WX} {tb : WX → TS} {ts : Addr → Value → Option Addr → TS} {cls : Value} {d : Option Addr} {i : Nat} {l : List (Value × (Addr → Value → Option Addr → TS))} {c : Value}
theorem rd_callS {sp : Sp} {E : St → XK} {tA : TA} (q : tA σ H fun vs H1 => sp vs H1 Q (E σ)) : tCallS sp E tA σ H Q := q
theorem rd_callKS {n m : Nat} {pm : List Nat} {sp : Sp} {E : St → XK} {t tk : TA} (q : t σ H fun vs H1 => tk σ H1 fun zs H2 => vs.length = n ∧ zs.length = m ∧ sp (gK pm vs zs) H2 Q (E σ)) : tCalKS n m pm sp E t tk σ H Q := q
theorem rd_raise (q : W (.ref C) none σ H) : tRaise C W D σ H := q
theorem rd_tryO (q : tb (wOnly K (.ref C) ts Wout D) D σ H) : tTryO K C tb ts Wout D σ H := q
theorem rd_tryM (q : tb (wMany K Wout D l) D σ H) : tTryM K l tb Wout D σ H := q
theorem rd_tryA (q : tb (wAs K (.ref C) i ts Wout D) D σ H) : tTryA K C i tb ts Wout D σ H := q
theorem rd_hit {c : Value} (e : PySem.W.exmOne K cls c = some true) (q : ∀ a, H a = none → ts a cls d D σ H) : wOnly K c ts Wout D cls d σ H := ⟨true, e, fun _ => q, fun h => nomatch h⟩
theorem rd_miss {c : Value} (e : PySem.W.exmOne K cls c = some false) (q : Wout cls d σ H) : wOnly K c ts Wout D cls d σ H := ⟨false, e, (fun h => nomatch h), fun _ => q⟩
theorem rd_hitM (e : PySem.W.exmOne K cls c = some true) (q : ∀ a, H a = none → ts a cls d D σ H) : wMany K Wout D ((c, ts) :: l) cls d σ H := ⟨true, e, fun _ => q, fun h => nomatch h⟩
theorem rd_missM (e : PySem.W.exmOne K cls c = some false) (q : wMany K Wout D l cls d σ H) : wMany K Wout D ((c, ts) :: l) cls d σ H := ⟨false, e, (fun h => nomatch h), fun _ => q⟩
theorem rd_hitA {c : Value} (e : PySem.W.exmOne K cls c = some true) (q : ∀ a, H a = none → ts a cls d { nx := fun σ' H' => D.nx (σ'.set i none) H', rt := D.rt, bk := fun σ' H' => D.bk (σ'.set i none) H', ct := fun σ' H' => D.ct (σ'.set i none) H' } (σ.set i (some (.ref a))) H) : wAs K c i ts Wout D cls d σ H := ⟨true, e, q |> fun q _ => q, fun h => nomatch h⟩
theorem rd_sp1x {Φ : V → Hp → VK → XK → Prop} {E : XK} {a : V} (q : Φ a H Q E) : sp1x Φ [a] H Q E := ⟨a, rfl, q⟩
theorem rd_sp2x {Φ : V → V → Hp → VK → XK → Prop} {E : XK} {a b : V} (q : Φ a b H Q E) : sp2x Φ [a, b] H Q E := ⟨a, b, rfl, q⟩
theorem rd_sp3x {Φ : V → V → V → Hp → VK → XK → Prop} {E : XK} {a b c : V} (q : Φ a b c H Q E) : sp3x Φ [a, b, c] H Q E := ⟨a, b, c, rfl, q⟩
theorem rd_sp4x {Φ : V → V → V → V → Hp → VK → XK → Prop} {E : XK} {a b c d : V} (q : Φ a b c d H Q E) : sp4x Φ [a, b, c, d] H Q E := ⟨a, b, c, d, rfl, q⟩
end
end Mine

/-! ## Own exceptions whose __init__ says super().__init__('..') and keeps one value -/
namespace PySem
namespace SupX
open PySem.W PySem.Calls PyProof.Rows PySem.HandSPX
/-- the text of such an __init__ -/
def iArgs (f : Str) (p1 p2 : Pos) : Arguments := { posonlyargs := [], args := [{ arg := "self", annotation := none, pos := p1 }, { arg := f, annotation := none, pos := p2 }], vararg := none, kwonlyargs := [], kw_defaults := [], kwarg := none, defaults := [] }
def iSup (msg : Str) (j : Nat) (q1 q2 q3 q4 q5 q6 : Pos) : Stmt := .Expr (.Call (.Attribute (.Call (.Name "super" q1) [] [] q2) "__init__" q3) [.Constant (.str msg) j q4] [] q5) q6
def iSet (f : Str) (q1 q2 q3 q4 : Pos) : Stmt := .Assign [.Attribute (.Name "self" q1) f q2] (.Name f q3) q4
def iScope (f : Str) : Scope := { kind := .function, names := [(PySem.Str.ofString "self", .local), (f, .local), (PySem.Str.ofString "__class__", .free), (PySem.Str.ofString "super", .globalImplicit)], isGenerator := false, isCoroutine := false, more := [] }
/-- what the written part says of the class at C, of its __init__ at fI -/
structure SupTxt (prog : Program) (K : Frag) (mg : Str → Option Value) (x f : Str) (C fI : Addr) : Prop where
  fs : f ≠ "self" ∧ f ≠ "__class__" ∧ f ≠ "super" ∧ (f == ("__debug__" : Str)) = false
  gC : mg x = some (.ref C)
  gS : mg "super" = none
  cls : ∃ nm q N bs bm sn sub ab col dd k0 k1 k2 k3 k5, K.lookup C = some (excClassObj nm q C N bs bm true sn sub ab col dd k0 k1 k2 k3 k5 "ValueError.__new__") ∧ refsVE bm = true
  sa : findIn K (.ref C) "__setattr__" = some (some (.builtin "object.__setattr__"))
  ga : findIn K (.ref C) "__getattribute__" = some (some (.builtin "BaseException.__getattribute__"))
  gg : findIn K (.ref C) "__getattr__" = some none
  noN : findIn K (.ref C) f = some none
  iC : findIn K (.ref C) "__init__" = some (some (.ref fI))
  tC : typeIn K (.ref fI) = some (.type "function")
  kC : keepIn K (.ref C) = true
  exC : subIn K (.ref C) (.type "BaseException") = some true
  exV : subIn K (.ref C) (.type "ValueError") = some true
  tyC : typeIn K (.ref C) = some (.type "type")
  hdC : hasDictIn K C = true
  icC : isClsIn K C = true
  self : mroIn K C (.ref C) = some true
  sup : ks_superIn K C C "__init__" = some (some (.builtin "ValueError.__init__"))
  third : nsIn K cStatics "thirdparty.any" = some none
  top : (prog.main.scope.names.lookup ("super" : Str)).isSome = false
  fn : ∃ (oc : Value) (od : Option Addr) (dV kV doc pm : Value) (an : Option Addr) (cda cc : Addr) (ct : Value) (osl : Array (Option Value)) (p1 p2 q1 q2 q3 q4 q5 q6 r1 r2 r3 r4 : Pos) (msg : Str) (j : Nat) (qual : Str),
    K.lookup fI = some ⟨oc, od, .func (fnX "__init__" qual (iArgs f p1 p2) [iSup msg j q1 q2 q3 q4 q5 q6, iSet f r1 r2 r3 r4] (iScope f) [("__class__", cc)] dV kV doc pm an (.ref cda) ct), osl⟩ ∧ codeIn K (.ref cda) qual = true ∧
    (∃ ccl cdd ccs vs file tf, K.lookup cda = some ⟨ccl, cdd, .fields vs, ccs⟩ ∧ vs[2]? = some (.str file tf) ∧ ((prog.main.file : Str) == file) = true) ∧
    (∃ cl cld csl, K.lookup cc = some ⟨cl, cld, .cell (some (.ref C)), csl⟩) ∧
    (∀ u v, bindArgs (fnX "__init__" qual (iArgs f p1 p2) [iSup msg j q1 q2 q3 q4 q5 q6, iSet f r1 r2 r3 r4] (iScope f) [("__class__", cc)] dV kV doc pm an (.ref cda) ct) ⟨[u, v], []⟩ = pure [((PySem.Str.ofString "self"), u), (f, v)]) ∧
    (∀ env : Env, ∃ pl, eval (.Call (.Attribute (.Call (.Name "super" q1) [] [] q2) "__init__" q3) [.Constant (.str msg) j q4] [] q5) env = (do
      let ov ← attributeBase (.Call (.Name "super" q1) [] [] q2) "__init__" env (eval (.Call (.Name "super" q1) [] [] q2) env)
      standAt q3.atName
      let (f, first) ← holding [ov] (getMethod ov "__init__" pl)
      callWith q5 f first (backTo q5 (starEach [.Constant (.str msg) j q4] env)) [])) ∧
    (∀ env : Env, swapsWith (.Call (.Attribute (.Call (.Name "super" q1) [] [] q2) "__init__" q3) [.Constant (.str msg) j q4] [] q5) none q6.line env = pure false) ∧
    (∀ env : Env, swapsWith (.Name f r3) (some (.Attribute (.Name "self" r1) f r2)) r4.line env = pure false)
theorem one_fits (v : Value) : [v].length ≤ sizeLine := by
  rw [sizeLine_eq]
  exact Nat.le_of_ble_eq_true rfl
/-- what __init__ leaves of a fresh exception at x -/
structure Done (h h' : Heap) (x C dx : Addr) (f : Str) (v : Value) : Prop where
  keep : ∀ b o, b ≠ x → h.get? b = some o → h'.get? b = some o
  obj : ∃ t1 : Addr, h'.get? x = some { cls := .ref C, dict := some dx, data := .fields #[.ref t1, .none, .none, .none, .bool false, .none] }
  dbig : h.objs.size ≤ dx
  dne : dx ≠ x
  ns : h'.Ns1 dx (fun y => if y = f then some v else none)
section
variable {prog : Program} {w : World} {A : Around} {E : Value → Shared → Prop} {R : Result → Shared → Prop} {s : Shared} {K : Frag} {mg : Str → Option Value} {C fI : Addr} {x f : Str}
section
variable {nm q : Str} {N : Addr} {bs bm : List Value} {hdct : Bool} {sn : List Str} {sub : List Value} {ab : Bool} {col : Option Bool} {dd : Option Addr} {k0 k1 k2 k3 k5 : Option Value} {h : Heap} {g : Array GenState} {d : Drawn} {t : Nat} {os : OsState}
/-- the bound ValueError.__init__, called -/
theorem call_bound {u e t0 : Addr} {rest : List Value} {Q : Value → Shared → Prop} (hm : refsVE bm = true)
    (hC : h.get? C = some (excClassObj nm q C N bs bm hdct sn sub ab col dd k0 k1 k2 k3 k5 "ValueError.__new__")) (he : h.get? e = some (excO C t0)) (hu : h.get? u = some (kxs_mw "ValueError.__init__" e)) (hrest : rest.length ≤ sizeLine)
    (hq : ∀ h' t1, (∀ b o, b ≠ e → h.get? b = some o → h'.get? b = some o) → h'.get? e = some (excO C t1) → Q .none ⟨h', g, d, t, os⟩) :
    wpAny (model prog w) A (call (.ref u) rest) Q E ⟨h, g, d, t, os⟩ := by
  refine wpAny_call <| codeAny_of_tree <| ?_
  show wpAny _ A.in1 (callAny (.ref u) (⟨rest, []⟩ : Args)) _ _ _
  simp only [callAny]
  refine wpAny_bind <| wpAny_load hu ?_
  have e1 : (Value.type "method-wrapper" == Value.type "method" || Value.type "method-wrapper" == Value.type "builtin_function_or_method" || Value.type "method-wrapper" == Value.type "method-wrapper") = true := by decide
  simp only [kxs_mw, e1, if_true]
  refine KFB.if_so (by decide) <| ?_
  refine wpAny_bind <| check_bound_init (nm := nm) F.excBase_ValueError.toExcCallFacts hC he rfl ?_
  refine wpAny_bind <| wpAny_pure <| wpAny_pure ?_
  refine And.intro (plainId_quiet F.excBase_ValueError.init.plain _) <| codeAny_builtin F.excBase_ValueError.initEntry ?_
  exact exc_init_tree (cls := .ref C) (t0 := t0) (dv := none) (c2 := .none) (c3 := .none) (b4 := .bool false) he hrest fun h' k e' _ => hq h' _ k e'
end
theorem kept_on {K : Frag} {h h' : Heap} {x : Addr} (X : K.In h) (hx : K.lookup x = none) (k : ∀ b o, b ≠ x → h.get? b = some o → h'.get? b = some o) : K.In h' := fun a o e =>
  k a o (fun z => by rw [z, hx] at e; cases e) (X a o e)
theorem look_f {f : Str} (hs : f ≠ "self") : List.lookup f [(PySem.Str.ofString "self", NameKind.local), (f, .local), (PySem.Str.ofString "__class__", .free), (PySem.Str.ofString "super", .globalImplicit)] = some NameKind.local := by
  rw [List.lookup_cons, show (f == PySem.Str.ofString "self") = false from beq_eq_false_iff_ne.mpr hs, List.lookup_cons, beq_self_eq_true]
theorem look_o {f y : Str} (hs : y ≠ f) (h0 : (y == PySem.Str.ofString "self") = false) {r : Option NameKind} (h : List.lookup y [(PySem.Str.ofString "__class__", NameKind.free), (PySem.Str.ofString "super", .globalImplicit)] = r) :
    List.lookup y [(PySem.Str.ofString "self", NameKind.local), (f, .local), (PySem.Str.ofString "__class__", .free), (PySem.Str.ofString "super", .globalImplicit)] = r := by
  rw [List.lookup_cons, h0, List.lookup_cons, show (y == f) = false from beq_eq_false_iff_ne.mpr hs]
  exact h
theorem sup_init (T : SupTxt prog K mg x f C fI) {y t0 : Addr} {v : Value} (X : K.In s.heap) (G : s.heap.Ns mainGlobals mg) {mb : Str → Option Value} (B : s.heap.Ns builtinsNs mb) (hb : mb "super" = bootBuiltins "super") (hlim : s.heap.NoLimit) (hx : s.heap.get? y = some (excO C t0)) (hnx : K.lookup y = none) (hroom : A.depth < recursionLimit)
    (hq : ∀ h' tk dx, Done s.heap h' y C dx f v → R (.ok (.ret .none)) { s with heap := h', toks := tk }) :
    codeAny (model prog w) A (.call (.ref fI) ⟨[.ref y, v], []⟩) R s := by
  obtain ⟨oc, od, dV, kV, doc, pm, an, cda, cc, ct, osl, p1, p2, q1, q2, q3, q4, q5, q6, r1, r2, r3, r4, msg, j, qual, ho, hcd, ⟨ccl, cdd, ccs, vs, file, tf, hcode, hvs, hfile⟩, ⟨cl, cld, csl, hcell⟩, hbind, hev, hsw, hsw2⟩ := T.fn
  obtain ⟨nm, q, N, bs, bm, sn, sub, ab, col, dd, k0, k1, k2, k3, k5, hC, hbm⟩ := T.cls
  obtain ⟨f1, f2, f3, f4⟩ := T.fs
  have hcl : clsIn K C = some { name := nm, bases := bs, mro := .ref C :: bm, ns := N, qualname := q, hasDict := true, slotNames := sn, subclasses := sub, abstract := ab, collection := col, hasDel := false } := by unfold clsIn; rw [hC] <;> rfl
  have lf := look_f f1
  have lc : List.lookup (PySem.Str.ofString "__class__") (iScope f).names = some NameKind.free := look_o (fun e => f2 e.symm) (by decide +kernel) (by decide +kernel)
  have lsu : List.lookup (PySem.Str.ofString "super") (iScope f).names = some NameKind.globalImplicit := look_o (fun e => f3 e.symm) (by decide +kernel) (by decide +kernel)
  have lse : List.lookup (PySem.Str.ofString "self") (iScope f).names = some NameKind.local := by
    show List.lookup (PySem.Str.ofString "self") ((PySem.Str.ofString "self", NameKind.local) :: _) = _
    rw [List.lookup_cons, beq_self_eq_true]
  refine ks_codeAny_call_defAt (fd := fnX "__init__" qual (iArgs f p1 p2) [iSup msg j q1 q2 q3 q4 q5 q6, iSet f r1 r2 r3 r4] (iScope f) [("__class__", cc)] dV kV doc pm an (.ref cda) ct) (binds := [("self", .ref y), (f, v)]) hroom (X _ _ ho) rfl hlim (codeRec_of X hcd) rfl ?_ ?_ ?_ (fun h₁ hns hk => ?_)
  · exact BindsTo.of_eq (hbind _ _)
  · intro p hp
    have hp' : p ∈ [(PySem.Str.ofString "self", NameKind.local), (f, .local), (PySem.Str.ofString "__class__", .free), (PySem.Str.ofString "super", .globalImplicit)] := hp
    simp only [List.mem_cons, List.not_mem_nil, or_false] at hp'
    rcases hp' with rfl | rfl | rfl | rfl <;> exact fun z => nomatch z
  · intro p hp
    simp only [List.mem_cons, List.not_mem_nil, or_false] at hp
    rcases hp with rfl | rfl
    · exact lse
    · exact lf
  have X₁ : K.In h₁ := X.keeps hk
  have hx₁ := hk _ _ hx
  have hD := X₁ _ _ hC
  have mx : (fun z => List.lookup z (List.reverse [((PySem.Str.ofString "self"), Value.ref y), (f, v)])) = fun z => List.lookup z [(f, v), ((PySem.Str.ofString "self"), Value.ref y)] := rfl
  have mS : List.lookup (PySem.Str.ofString "self") [(f, v), ((PySem.Str.ofString "self"), Value.ref y)] = some (.ref y) := by
    rw [List.lookup_cons, show (PySem.Str.ofString "self" == f) = false from beq_eq_false_iff_ne.mpr fun e => f1 e.symm, List.lookup_cons, beq_self_eq_true]
  have mF : List.lookup f [(f, v), ((PySem.Str.ofString "self"), Value.ref y)] = some v := by
    rw [List.lookup_cons, beq_self_eq_true]
  have I₁ : InstAt h₁ y (excO C t0) C none := ⟨hx₁, rfl, rfl, trivial⟩
  have hxC : y ≠ C := ks_ne X₁ I₁ hcl
  obtain ⟨pl, hev⟩ := hev (callEnv (fnX "__init__" qual (iArgs f p1 p2) [iSup msg j q1 q2 q3 q4 q5 q6, iSet f r1 r2 r3 r4] (iScope f) [("__class__", cc)] dV kV doc pm an (.ref cda) ct) s.heap.objs.size fI)
  refine ks_wpAt_execs_cons <| ks_wpAt_Expr_any (ks_wpAt_MethodCall (pl := pl) ?_ hev) rfl (hsw _)
  refine ks_wpAt_super_base (f := fI) (cc := cda) lsu lc (by decide +kernel) rfl (X₁ _ _ ho) rfl rfl rfl (X₁ _ _ hcode) rfl hvs hfile T.top ?_
  have boot : bootBuiltins "super" = some (.type "super") := by decide +kernel
  refine ks_loadName_global rfl lsu <| loadGlobal_builtin (G.keeps hk) T.gS (B.keeps hk) (hb.trans boot) (And.intro rfl ?_)
  refine wpAny_loadName_free rfl lc rfl ⟨_, X₁ _ _ hcell, rfl⟩ ?_
  refine wpAny_loadName_local rfl lse hns mS ?_
  refine ks_wpAny_isType_cls hD rfl (And.intro rfl ?_)
  refine ks_wpAny_call_super hD rfl hx₁ rfl (fun c e => nomatch e) (looks_mroIn X₁ T.self) fun h₂ e₂ k₂ => ?_
  have X₂ : K.In h₂ := X₁.keeps k₂
  have hx₂ := k₂ _ _ hx₁
  have I₂ : InstAt h₂ y (excO C t0) C none := ⟨hx₂, rfl, rfl, trivial⟩
  have hin : Looks (model prog w) h₂ (isInstance (.ref y) (.type "ValueError")) true := I₂.type.andThen (looks_subIn X₂ T.exV)
  have hal : alongIn K "__init__" (((Value.ref C :: bm).dropWhile (· != .ref C)).drop 1) = some (some (.builtin "ValueError.__init__")) := by
    have z := T.sup
    unfold ks_superIn at z
    rw [hcl] at z
    exact z
  refine kxs_getMethod kxs_ValueError e₂ (looks_opaque X₂ T.third) (l₀ := .ref C :: bm) (fun A Q E s k q => wpAny_bind ((looks_clsIn X₂ hcl) A _ E s k (wpAny_pure q))) rfl X₂ hal hin hxC (by decide +kernel) ?_
  have k₃ : ∀ b o, h₂.get? b = some o → (h₂.push (kxs_mw "ValueError.__init__" y)).get? b = some o := fun b o e => Heap.get?_push_of_some _ e
  have hu : (h₂.push (kxs_mw "ValueError.__init__" y)).get? h₂.objs.size = some (kxs_mw "ValueError.__init__" y) := Heap.get?_push_at rfl rfl
  generalize h₂.push (kxs_mw "ValueError.__init__" y) = h₃ at k₃ hu ⊢
  have N : News ({} : Heap) (h₂.objs.size + 1) h₃ [(h₂.objs.size, kxs_mw "ValueError.__init__" y)] := fun p hp => by
    rw [List.mem_singleton.mp hp]
    exact ⟨hu, Nat.ne_of_lt (Nat.lt_succ_self _), rfl⟩
  refine kxs_callWith1 (i := "ValueError.__init__") (x := y) N (List.mem_singleton.mpr rfl) (args_cons (wpAny_Constant_str (args_nil ⟨hu, ?_⟩)))
  have X₃ := X₂.keeps k₃
  refine call_bound hbm (X₃ _ _ hC) (k₃ _ _ hx₂) hu (one_fits _) fun h₄ t1 k₄ hx₄ => ?_
  have X₄ : K.In h₄ := kept_on X₃ hnx k₄
  have hyL : s.heap.objs.size ≠ y := Nat.ne_of_gt (Heap.lt_size hx)
  have k14 : ∀ b o, b ≠ y → h₁.get? b = some o → h₄.get? b = some o := fun b o hb e => k₄ b o hb (k₃ _ _ (k₂ _ _ e))
  have hn₄ : h₄.Ns s.heap.objs.size (fun z => List.lookup z [(f, v), ((PySem.Str.ofString "self"), Value.ref y)]) := by
    obtain ⟨o, es, ep, ho1, r⟩ := hns
    exact ⟨o, es, ep, k14 _ _ hyL ho1, r⟩
  refine ks_wpAt_execs_cons <| ks_wpAt_Assign_Attr (wpAt_of_wpAny <| wpAny_Name (wpAny_loadName_local rfl lf hn₄ mF ?_) f4) (hsw2 _)
  refine wpAny_Name (wpAny_loadName_local rfl lse hn₄ mS ?_) (by decide +kernel)
  refine set_plain X₄ (ox := excO C t1) (od := none) ⟨hx₄, rfl, rfl, trivial⟩ T.sa ?_
  refine exc_osa X₄ hx₄ hcl (show refsVE (.ref C :: bm) = true from hbm) rfl T.noN fun h₅ tk₅ dx k₅ dn dne hx₅ hn₅ => ?_
  refine wpAt_of_wpAny <| wpAny_execs_nil ?_
  have big : s.heap.objs.size ≤ h₄.objs.size := by
    obtain ⟨o, es, ep, ho1, r⟩ := hn₄
    exact Nat.le_of_lt (Heap.lt_size ho1)
  exact hq h₅ tk₅ dx ⟨fun b o hb e => k₅ b o hb (k14 b o hb (hk _ _ e)), ⟨t1, hx₅⟩, Nat.le_trans big dn, dne, hn₅⟩
/-- a made one -/
structure Made (h h' : Heap) (e C d : Addr) (f : Str) (v : Value) : Prop where
  keep : ∀ b o, h.get? b = some o → h'.get? b = some o
  new : h.objs.size ≤ e
  obj : ∃ oe vs, h'.get? e = some oe ∧ oe.cls = .ref C ∧ oe.dict = some d ∧ oe.data = .fields vs ∧ vs[1]? = some .none
  dbig : h.objs.size ≤ d
  dne : d ≠ e
  ns : h'.Ns1 d (fun y => if y = f then some v else none)
theorem sup_made (T : SupTxt prog K mg x f C fI) {v : Value} (X : K.In s.heap) (G : s.heap.Ns mainGlobals mg) {mb : Str → Option Value} (B : s.heap.Ns builtinsNs mb) (hb : mb "super" = bootBuiltins "super") (hlim : s.heap.NoLimit) (hroom : A.depth + 1 < recursionLimit)
    (hq : ∀ h' tk e d, Made s.heap h' e C d f v → R (.ok (.ret (.ref e))) { s with heap := h', toks := tk }) :
    codeAny (model prog w) A (.call (.ref C) ⟨[v], []⟩) R s := by
  obtain ⟨nm, q, N, bs, bm, sn, sub, ab, col, dd, k0, k1, k2, k3, k5, hC, hbm⟩ := T.cls
  obtain ⟨hp, g, dr, tk, os⟩ := s
  have k : ∀ b o, hp.get? b = some o → ((hp.push (kdv_tup [v])).push (excO C hp.objs.size)).get? b = some o := fun b o e => Heap.get?_push_of_some _ <| Heap.get?_push_of_some _ e
  have hget : ((hp.push (kdv_tup [v])).push (excO C hp.objs.size)).get? (hp.objs.size + 1) = some (excO C hp.objs.size) := by heap_get
  have hnx : K.lookup (hp.objs.size + 1) = none := by
    cases e : K.lookup (hp.objs.size + 1) with
    | none => rfl
    | some o => exact absurd (Nat.lt_of_succ_lt (Heap.lt_size (show hp.get? (hp.objs.size + 1) = some o from X _ _ e))) (Nat.lt_irrefl _)
  refine call_own F.excBase_ValueError (fun X => refsVE_contains X bm hbm) (X _ _ hC) (looks_findIn X T.iC) (fun self => bind_fn X self T.tC) (one_fits v) ?_
  refine sup_init (s := ⟨(hp.push (kdv_tup [v])).push (excO C hp.objs.size), g, dr, tk, os⟩) T (X.keeps k) (G.keeps k) (B.keeps k) hb (hlim.keeps k) hget hnx ?_ fun h' tk' dx D => ?_
  · exact hroom
  · have old : ∀ b o, hp.get? b = some o → h'.get? b = some o := fun b o e => D.keep b o (Nat.ne_of_lt (Nat.lt_succ_of_lt (Heap.lt_size e))) (k b o e)
    have z : hp.objs.size + 1 + 1 ≤ dx := by
      have q := D.dbig
      first
        | (simpa only [Heap.size_push] using q)
        | (rw [Heap.size_push, Heap.size_push] at q; exact q)
    obtain ⟨t1, ho⟩ := D.obj
    exact ⟨rfl, hq h' tk' (hp.objs.size + 1) dx ⟨old, Nat.le_succ _, ⟨_, _, ho, rfl, rfl, rfl, rfl⟩, Nat.le_trans (Nat.le_trans (Nat.le_succ _) (Nat.le_succ _)) z, D.dne, D.ns⟩⟩
end
end SupX
end PySem
namespace Mine
open PySem PySem.Spec PyProof.Rows L2
open PySem.SupX (SupTxt)
set_option linter.all false
theorem relO_one {f : Str} {v : V} {u : Value} (r : RelV v u) (g : Str) : RelO (List.lookup g [(f, v)]) (if g = f then some u else none) := by
  by_cases e : g = f
  · rw [if_pos e, e, List.lookup_cons, beq_self_eq_true]
    exact r
  · rw [if_neg e, List.lookup_cons, show (g == f) = false from beq_eq_false_iff_ne.mpr e]
    trivial
/-- C(e): a new error, its dict at d -/
def tMkSup (C : Addr) (f : Str) (ta : TA) : St → Hp → XK → Prop := fun σ H Q => ta σ H fun vs H1 => ∃ v, vs = [v] ∧ ∀ d, H1 d = none → Q (.ref C) (some d) (upd H1 d (.xd [(f, v)]))
theorem pmk_sup {X : Cx} {x f : Str} {C fI : Addr} {e : Expr} {ta : TA} {p pos : Pos} {k : Nat} (T : SupTxt X.prog X.K X.mg x f C fI) (hr : Rm k X.A) (hk : 1 ≤ k) (ha : PA X [e] ta) (hg : Gl X x) (hdb : (x == ("__debug__" : Str)) = false := by decide)
    (he : starEach (e :: []) X.env = (false, eval e X.env) :: starEach [] X.env := by rfl) (hpl : (backTo pos (starEach [] X.env)).any (·.1) = false := by rfl) :
    PMk X (.Call (.Name x p) [e] [] pos) (tMkSup C f ta) := by
  intro pins s σ H Q I h
  refine wpAny_Call_Name_kw (ld_glob I hg T.gC ?_ hdb)
  refine PySem.W.callWith_K (h₀ := X.base) I.ok.mod.kin T.kC (thn (ha.run pos pins s σ H _ I h) fun us s1 ⟨vs, H1, I1, r1, v, ev, q1⟩ => ?_) he hpl
  subst ev
  refine And.intro I1.kIn ?_
  obtain ⟨u1, rfl, rv⟩ := vals1 r1
  have lim := I1.nolimit
  obtain ⟨mb, bn, bb⟩ := I1.ok.mod.blt
  have gk := I1.ok.mod.glob.keeps I1.bk
  have bk := bn.keeps I1.bk
  have dp := (hr.mono hk).r.dp
  obtain ⟨hp, g, dr, tk, os⟩ := s1
  show wpAny _ _ (call (.ref C) ([u1] : List Value)) _ _ _
  refine wpAny_call <| PySem.SupX.sup_made T I1.kIn gk bk (bb _ (by decide)) lim (by have := dp; omega) fun h' tk' e d M => ?_
  show MkP X pins σ Q (.ref e) ⟨h', g, dr, tk', os⟩
  obtain ⟨oe, fv, hoe, hc, hd, hdat, h1⟩ := M.obj
  obtain ⟨G', g1, g2⟩ := restrict h' fun b => decide (b ≠ e)
  have same : ∀ b, b ≠ e → G'.get? b = h'.get? b := fun b hb => g1 b (decide_eq_true hb)
  have gone : G'.get? e = none := g2 e (by simp)
  have old : ∀ b o, hp.get? b = some o → G'.get? b = some o := fun b o q => (same b (Nat.ne_of_lt (Nat.lt_of_lt_of_le (Heap.lt_size q) M.new))).trans (M.keep b o q)
  have new : ObjOk X.prog X.w (upd H1 d (.xd [(f, v)])) G' d (.xd [(f, v)]) := ⟨_, M.ns.at (fun o q => (same d M.dne).trans q), fun g => relO_one rv g⟩
  have J : Inv X pins σ (upd H1 d (.xd [(f, v)])) ⟨G', g, dr, tk', os⟩ := I1.laid (t' := tk') old M.dbig new
  refine ⟨e, oe, fv, ⟨G', g, dr, tk', os⟩, _, .ref C, some d, rfl, J, fun b o q => ?_, gone, hoe, And.intro hc hd, hdat, h1, ?_, rfl, I1.bare, raises_own T.exC T.tyC, q1 d (I1.hok.fresh M.dbig)⟩
  · by_cases hb : b = e
    · rw [hb] at q
      exact nomatch gone.symm.trans q
    · exact (same b hb).symm.trans q
  · rw [upd_ne (Ne.symm M.dne)]
    exact I1.hok.fresh M.new
def tRaiseS (C : Addr) (f : Str) (W : WX) (ta : TA) : TS := fun _ σ H => tMkSup C f ta σ H fun cls d H' => W cls d σ H'
theorem ps_raiseS {X : Cx} {x f : Str} {C fI : Addr} {e : Expr} {ta : TA} {W : WX} {p pos pos2 : Pos} {k : Nat} (hc : X.calm = true) (T : SupTxt X.prog X.K X.mg x f C fI) (hr : Rm k X.A) (hk : 1 ≤ k) (tk : Takes X W) (ha : PA X [e] ta) (hg : Gl X x) (hdb : (x == ("__debug__" : Str)) = false := by decide)
    (he : starEach (e :: []) X.env = (false, eval e X.env) :: starEach [] X.env := by rfl) (hpl : (backTo pos (starEach [] X.env)).any (·.1) = false := by rfl) :
    PS X (.Raise (some (.Call (.Name x p) [e] [] pos)) none pos2) (tRaiseS C f W ta) := ps_raise hc tk (pmk_sup T hr hk ha hg hdb he hpl)
/-- e.f of the error that the suite holds -/
def tByS (C : Addr) (f : Str) (a : Addr) (cls : Value) (d : Option Addr) (te : TE) : TE := fun σ H Q => te σ H fun x H1 => x = .ref a ∧ cls = .ref C ∧ ∃ (dd : Addr) (v : V), d = some dd ∧ H1 dd = some (.xd [(f, v)]) ∧ Q v H1
theorem pe_byS {X : Cx} {x f : Str} {C fI a : Addr} {oe : Obj} {cls : Value} {d : Option Addr} {pn : List (Addr × Obj)} {e : Expr} {te : TE} {pos : Pos} (T : SupTxt X.prog X.K X.mg x f C fI) (hz : Zc cls d oe) (hf : ∃ vs, oe.data = .fields vs) (he : PE (X.suite a ((a, oe) :: pn)) e te) 
    (hb : attributeBase e f X.env (eval e X.env) = eval e X.env := by rfl) : PE (X.suite a ((a, oe) :: pn)) (.Attribute e f pos) (tByS C f a cls d te) := by
  refine ⟨fun pins s σ H Q I h => ?_⟩
  refine attr_of hb (thn (he.run pins s σ H _ I h) fun u s1 ⟨x, H1, I1, rx, ex, ec, dd, v, ed, ea, q⟩ => ?_)
  subst ex ec ed
  obtain rfl : u = Value.ref a := rx
  obtain ⟨ha, _⟩ := I1.pin (a, oe) (List.mem_append_left _ List.mem_cons_self)
  obtain ⟨vs, hd⟩ := hf
  obtain ⟨mA, hns, hr⟩ := (show ObjOk X.prog X.w H1 s1.heap dd (.xd [(f, v)]) from I1.hok dd _ ea)
  obtain ⟨od, ho, hl⟩ := lookIn_ns hns
  have l : List.lookup f [(f, v)] = some v := by rw [List.lookup_cons, beq_self_eq_true]
  obtain ⟨u, hu, ru⟩ := RelO.some_of (v := v) (o := mA f) (by rw [← l]; exact hr f)
  have J : PySem.W.InstAt s1.heap a oe C (some od) := ⟨ha, hz.1, by unfold PySem.W.notCls; rw [hd] <;> rfl, by rw [hz.2]; exact ho⟩
  exact HandSPX.exc_get I1.kIn J T.ga T.gg T.exC (PySem.W.findObj_own T.hdC T.noN rfl (by rw [hl, hu])) (handed_of ru) ⟨v, H1, I1.tok _, ru, q⟩
section
variable {σ : St} {H : Hp} {Q : VK} {D : Ends} {C a : Addr} {f : Str} {W : WX} {ta : TA} {te : TE} {cls : Value} {d : Option Addr}
theorem rd_raiseS (q : ta σ H fun vs H1 => ∃ v, vs = [v] ∧ ∀ d, H1 d = none → W (.ref C) (some d) σ (upd H1 d (.xd [(f, v)]))) : tRaiseS C f W ta D σ H := q
theorem rd_raised {v : V} {N : V → Prop} (q : N v) : ∃ u, [v] = [u] ∧ N u := ⟨v, rfl, q⟩
theorem rd_byS (q : te σ H fun x H1 => x = .ref a ∧ cls = .ref C ∧ ∃ (dd : Addr) (v : V), d = some dd ∧ H1 dd = some (.xd [(f, v)]) ∧ Q v H1) : tByS C f a cls d te σ H Q := q
end
end Mine
namespace Mine
open PySem PySem.Spec PyProof.Rows L2
open PySem.SupX (SupTxt)
set_option linter.all false
theorem names_sup {X : Cx} {P : Program} {x f : Str} {C fI : Addr} (e : SupTxt P X.K X.mg x f C fI) (hg : Gl X x) (hdb : (x == ("__debug__" : Str)) = false := by decide) : Names X x (.ref C) := ⟨hg, hdb, .inl e.gC⟩
theorem _root_.PySem.SupX.SupTxt.m {P : Program} {K : PySem.W.Frag} {mg : Str → Option Value} {x f : Str} {C D fI : Addr} {b : Bool} (e : SupTxt P K mg x f D fI) (h : PySem.W.subIn K (.ref C) (.ref D) = some b) : PySem.W.exmOne K (.ref C) (.ref D) = some b := exm_to e.exC e.icC e.tyC h
theorem _root_.PySem.SupX.SupTxt.one {P : Program} {K : PySem.W.Frag} {mg : Str → Option Value} {x f : Str} {C D fI : Addr} (e : SupTxt P K mg x f C fI) (h : mg x = some (.ref D)) : D = C := by
  cases e.gC.symm.trans h
  rfl
end Mine

/-! ## enumerate over a tuple and over a text, zip of two tuples -/
namespace PySem
namespace EnumX
open Sem (wp)
set_option maxHeartbeats 1000000 in
theorem new1 {v : Value} {o : Obj} {T : Heap → Prop} (B : Begins v o T) : Meets (Builtin.«enumerate.__new__» ⟨[.type "enumerate", v], []⟩) (fun _ R s => T s.heap ∧
    R (.ok (.ret (.ref (s.heap.push o).objs.size))) { s with heap := (s.heap.push o).push { cls := .type "enumerate", data := .fields #[.none, .bool false, .ref s.heap.objs.size, rawInt 0, .none, .none] } }) :=
  .of_wp fun prog w A R s q => by
    obtain ⟨hp, gs, dr, tk, os⟩ := s
    obtain ⟨t0, q⟩ := q
    have sub := sub_enumerate
    have first : ∀ {A' : Around} {E : Value → Shared → Prop} {Q : Value → Shared → Prop}, Q (.ref hp.objs.size) ⟨hp.push o, gs, dr, tk, os⟩ → wpAny (model prog w) A' (pyIter v) Q E ⟨hp, gs, dr, tk, os⟩ := fun r => B.iter prog w _ _ ⟨hp, gs, dr, tk, os⟩ _ t0 r
    wp_walk using first
    refine wpAny_stack_any fun st => wpAny_pure ?_
    split
    · rename_i c _ _ _ _ _
      cases (c == Value.type "enumerate") <;> (wp_walk using first; exact ⟨_, rfl, q⟩)
    · wp_walk using first
      exact ⟨_, rfl, q⟩
theorem call1 {prog : Program} {w : World} {A : Around} {E : Value → Shared → Prop} {s : Shared} {v : Value} {o : Obj} {T : Heap → Prop} {Q : Value → Shared → Prop} (B : Begins v o T) (t0 : T s.heap)
    (q : ∀ h', IsEnum h' (s.heap.objs.size + 1) s.heap.objs.size 0 .none → h'.get? s.heap.objs.size = some o → (∀ b o, s.heap.get? b = some o → h'.get? b = some o) → Q (.ref (s.heap.objs.size + 1)) { s with heap := h' }) :
    wpAny (model prog w) A (call (.type "enumerate") [v]) Q E s := by
  refine callType_new F.called_enumerate (by decide) (F.typeCall_enumerate_1 _) (F.newCall_enumerate_1 _) (fun obj => F.args_object_init_2 obj _) F.entry_enumerate_new (new1 B) ⟨t0, ?_⟩
  have sz : (s.heap.push o).objs.size = s.heap.objs.size + 1 := Heap.size_push ..
  show _ ∧ _
  rw [sz]
  have he : IsEnum ((s.heap.push o).push { cls := .type "enumerate", data := .fields #[.none, .bool false, .ref s.heap.objs.size, rawInt 0, .none, .none] }) (s.heap.objs.size + 1) s.heap.objs.size 0 .none := by
    have z := Heap.get?_push_size (s.heap.push o) (o := { cls := .type "enumerate", data := .fields #[.none, .bool false, .ref s.heap.objs.size, rawInt 0, .none, .none] }) rfl
    rw [sz] at z
    exact z
  exact ⟨⟨_, he, rfl⟩, q _ he (Heap.get?_push_of_some _ (Heap.get?_push_size _ B.free)) fun b o x => Heap.get?_push_of_some _ (Heap.get?_push_of_some _ x)⟩
end EnumX
end PySem
namespace Mine
open PySem PySem.Spec PyProof.Rows L2
set_option linter.all false
/-- what is told by S, each item in a new pair behind its index -/
def ItE (S : Hp → List V → Prop) : It := ⟨fun i H => ∃ (xs : List V) (x : V), S H xs ∧ xs[i]? = some x, fun i H v H' => ∃ T x, v = .ref T ∧ H T = none ∧ H' = upd H T (.tup [.int (i : Nat), x]) ∧ ∀ xs, S H xs → xs[i]? = some x, fun i H => ∃ xs : List V, S H xs ∧ xs.length = i⟩
/-- what draws the items of S from an iterator at it -/
structure Src (P : Program) (w : World) (K : PySem.W.Frag) (it : Addr) (Sit : Nat → Heap → Prop) (S : Hp → List V → Prop) : Prop where
  has : ∀ i h, Sit i h → ∃ o, h.get? it = some o ∧ ∀ v, o.data ≠ .cell v
  kept : ∀ i h h', Sit i h → (∀ o, h.get? it = some o → h'.get? it = some o) → Sit i h'
  draw : ∀ {X : Cx} {pins : List (Addr × Obj)} {σ : St} {H : Hp} {s : Shared} {xs : List V}, X.prog = P → X.w = w → X.K = K → X.calm = true → Inv X pins σ H s → S H xs → FpOk X pins H it → (∀ i, Sit i s.heap → ∃ (fp : List Addr) (Pr : Nat → Value → Prop) (St : Nat → Heap → Prop),
    Draws P w X.A.in1 it fp xs.length Pr St ∧ St i s.heap ∧ (∀ i h, St i h → Sit i h) ∧ (∀ e c old, IsEnum s.heap e it c old → e ≠ it → e ∉ fp) ∧ ∀ j u x, Pr j u → xs[j]? = some x → RelV x u) ∧ ∀ ys, S H ys → ys = xs
theorem turn_enumS {P : Program} {w : World} {K : PySem.W.Frag} {elts : List Expr} {kk : Nat} {tpos : Pos} {e it : Addr} {Sit : Nat → Heap → Prop} {S : Hp → List V → Prop} (D : Src P w K it Sit S) :
    Turn P w K (.Tuple elts kk tpos) (ItE S) [e, it] e (fun i h => (∃ old, IsEnum h e it ((i : Nat) : Int) old) ∧ Sit i h ∧ e ≠ it) where
  mem := List.mem_cons_self
  obj := fun i h st b hb => by
    obtain ⟨⟨old, he⟩, si, _⟩ := st
    rcases List.mem_cons.mp hb with z | z
    · rw [z]
      exact ⟨_, he, fun v q => nomatch q⟩
    · rw [List.mem_singleton.mp z]
      exact D.has i h si
  keep := fun i h h' st k => ⟨st.1.elim fun old he => ⟨old, k e List.mem_cons_self _ he⟩, D.kept i h h' st.2.1 fun o q => k it (List.mem_cons_of_mem _ List.mem_cons_self) o q, st.2.2⟩
  item := by
    intro X hP hw hK hc i pins s σ H E I hf st hg
    obtain ⟨⟨old, he⟩, si, hne⟩ := st
    obtain ⟨xs, x, hS, hx⟩ := hg
    obtain ⟨dr, inj⟩ := D.draw hP hw hK hc I hS (hf it (List.mem_cons_of_mem _ List.mem_cons_self))
    obtain ⟨fp, Pr, St, dw, st0, back, hef, rel⟩ := dr i si
    have lt : i < xs.length := (List.getElem?_eq_some_iff.mp hx).1
    have el : e < s.heap.objs.size := Heap.lt_size he
    have il : it < s.heap.objs.size := (D.has i _ si).elim fun o q => Heap.lt_size q.1
    refine wpAny_pyNext_enum_itemD dw he st0 lt hne (hef e _ _ he hne) fun u h' tk hu ho st1 hT hsz hk => ?_
    refine ⟨_, rfl, wpAny_letOwnedTupleGo_enum (s := { s with heap := h', toks := tk + 1 }) ho fun h'' he' sb => ?_⟩
    have hT2 : h''.get? s.heap.objs.size = some { cls := .type "tuple", data := .seq #[.int i tk, u] } := (sb.2 _ (Nat.ne_of_gt el)).trans hT
    have new : ObjOk P w (upd H s.heap.objs.size (.tup [.int (i : Nat), x])) h'' s.heap.objs.size (.tup [.int (i : Nat), x]) := ⟨by show 2 ≤ sizeLine; decide, [.int i tk, u], .cons ⟨_, rfl⟩ (.cons (rel i u x hu hx) .nil), ⟨_, hT2, rfl, _, rfl⟩⟩
    subst hP hw
    have I1 : Inv X pins σ (upd H s.heap.objs.size (.tup [.int (i : Nat), x])) { s with heap := h'', toks := tk + 1 } := I.turnedNew (ch := [e, it]) (fun b ob hb q => by
      have b1 : b ≠ e := fun z => hb (by rw [z]; exact List.mem_cons_self)
      have b2 : b ≠ it := fun z => hb (by rw [z]; exact List.mem_cons_of_mem _ List.mem_cons_self)
      exact (sb.2 b b1).trans (hk b ob b1 b2 q)) hf (Nat.le_refl _) new
    refine ⟨.ref s.heap.objs.size, _, I1, rfl, ⟨_, x, rfl, I.hok.fresh (Nat.le_refl _), rfl, fun ys hy => by rw [inj ys hy]; exact hx⟩, ⟨⟨u, ?_⟩, D.kept _ _ _ (back _ _ st1) fun o q => (sb.2 it (Ne.symm hne)).trans q, hne⟩, fun b hb => ?_⟩
    · rw [show ((i + 1 : Nat) : Int) = (i : Int) + 1 by omega]
      exact he'
    · have lb : b < s.heap.objs.size := by
        rcases List.mem_cons.mp hb with z | z
        · rw [z]; exact el
        · rw [List.mem_singleton.mp z]; exact il
      rw [upd_ne (Nat.ne_of_lt lb)]
      exact (hf b hb).1
  done := by
    intro X hP hw hK hc i pins s σ H E I hf st hg
    obtain ⟨⟨old, he⟩, si, hne⟩ := st
    obtain ⟨xs, hS, rfl⟩ := hg
    obtain ⟨dr, _⟩ := D.draw hP hw hK hc I hS (hf it (List.mem_cons_of_mem _ List.mem_cons_self))
    obtain ⟨fp, Pr, St, dw, st0, _⟩ := dr _ si
    obtain ⟨a0, a1, a2, a3, a4, a5⟩ := hf it (List.mem_cons_of_mem _ List.mem_cons_self)
    exact wpAny_pyNext_enum_endD dw he st0 fun h' eb => ⟨rfl, I.turned (t' := s.toks) (fun b o hb q => eb b o hb q) a0 a1 a3 a4 a5⟩
  self := fun A i s Q E st h => st.1.elim fun _ he => wpAny_pyIter_enum he h
theorem src_tup {P : Program} {w : World} {K : PySem.W.Frag} {it a : Addr} : Src P w K it (fun i h => h.IsTupleIter it a i) (fun H xs => SqT K H a xs) where
  has := fun i h ⟨o, ho, hc, hd⟩ => ⟨o, ho, fun v z => by rw [hd] at z; cases z⟩
  kept := fun i h h' x k => x.at k
  draw := fun {X pins σ H s xs} hP hw hK hc I hS f => by
    subst hP hw hK
    obtain ⟨its, rv, p, _⟩ := I.tuple hS
    obtain ⟨oa, pa, pc, _⟩ := id p
    refine ⟨fun i si => ⟨[it, a], fun i v => its.toArray[i]? = some v, fun i h => h.IsTupleIter it a i ∧ h.IsTuple a its.toArray, ?_, ⟨si, p⟩, fun _ _ z => z.1, fun e c old he hne hm => ?_, fun j u x hu hx => ?_⟩, fun ys hy => I.tuple_inj hy hS⟩
    · have ne : a ≠ it := fun z => by
        obtain ⟨oi, h1, h2, _⟩ := si
        rw [z] at pa
        cases pa.symm.trans h1
        rw [pc] at h2
        exact absurd h2 (by decide)
      have z := Draws.tuple (prog := X.prog) (w := X.w) (A := X.A.in1) (I.ok.hd hc) it a ne its.toArray
      rwa [List.size_toArray, ← rv.length] at z
    · rcases List.mem_cons.mp hm with z | z
      · exact hne z
      · rw [List.mem_singleton.mp z] at he
        cases pa.symm.trans he
        have q : Value.type "enumerate" = Value.type "tuple" := pc
        exact absurd q (by decide)
    · obtain ⟨u', h1, h2⟩ := rv.get hx
      have hu : its.toArray[j]? = some u := hu
      rw [List.getElem?_toArray, h1] at hu
      cases hu
      exact h2
theorem src_str {P : Program} {w : World} {K : PySem.W.Frag} {it : Addr} {z : Str} {t : Tok} : Src P w K it (fun i h => h.IsStrIter it (strIterType z) z t i) (fun _ xs => xs = z.cps.toList.map fun c => V.str ⟨#[c]⟩) where
  has := fun i h ⟨o, ho, hc, hd⟩ => ⟨o, ho, fun v z => by rw [hd] at z; cases z⟩
  kept := fun i h h' ⟨o, ho, r⟩ k => ⟨o, k o ho, r⟩
  draw := fun {X pins σ H s xs} hP hw hK hc I hS f => by
    subst hP hw hK hS
    refine ⟨fun i si => ⟨[it], fun i v => ∃ c u, z.cps[i]? = some c ∧ v = .str ⟨#[c]⟩ u, fun i h => h.IsStrIter it (strIterType z) z t i, ?_, si, fun _ _ z => z, fun e c old he hne hm => hne (List.mem_singleton.mp hm), fun j u x hu hx => ?_⟩, fun ys hy => hy⟩
    · have q := Draws.text (prog := X.prog) (w := X.w) (A := X.A.in1) (I.ok.hd hc) it z t
      rwa [show (z.cps.toList.map fun c => V.str ⟨#[c]⟩).length = z.cps.size by simp]
    · obtain ⟨c, u', h1, rfl⟩ := hu
      rw [List.getElem?_map] at hx
      simp at hx
      obtain ⟨c', h2, rfl⟩ := hx
      rw [h1] at h2
      cases h2
      exact ⟨u', rfl⟩
section
variable {X : Cx} {K : PySem.W.Frag} {e : Expr} {ta : TA} {p pos tpos : Pos} {elts : List Expr} {kk : Nat}
def iEnT (K : PySem.W.Frag) (ta : TA) : TI := fun σ H R => ta σ H fun vs H1 => ∃ a xs, vs = [.ref a] ∧ SqT K H1 a xs ∧ R (ItE fun H xs => SqT K H a xs) H1
def iEnS (ta : TA) : TI := fun σ H R => ta σ H fun vs H1 => ∃ z : Str, vs = [.str z] ∧ R (ItE fun _ xs => xs = z.cps.toList.map fun c => V.str ⟨#[c]⟩) H1
theorem new_two {pins : List (Addr × Obj)} {σ : St} {H : Hp} {s : Shared} (I : Inv X pins σ H s) : ∀ b ∈ [s.heap.objs.size + 1, s.heap.objs.size], FpOk X pins H b := fun b hb => by
  have le : s.heap.objs.size ≤ b := by
    rcases List.mem_cons.mp hb with z | z
    · rw [z]; exact Nat.le_add_right _ _
    · rw [List.mem_singleton.mp z]; exact Nat.le_refl _
  exact I.fpOk le (I.hok.fresh le)
theorem pi_enumT (hg : Gl X "enumerate") (hm : X.mg "enumerate" = none) (ha : PA X [e] ta) (ek : X.K = K := by rfl) (hs : starEach [e] X.env = [(false, eval e X.env)] := by rfl) : PI X (.Tuple elts kk tpos) (.Call (.Name "enumerate" p) [e] [] pos) (iEnT K ta) := by
  subst ek
  refine ⟨fun pins s σ H R I h => Call_ (ld_blt I hg hm boot_enumerate (PyProof.Rows.callWith_type1 (thn (ha.run pos pins s σ H _ I h) fun us s1 ⟨vs, H1, I1, r1, a, xs, ex, hq, q⟩ => ?_) hs rfl))⟩
  subst ex
  obtain ⟨u, rfl, r⟩ := vals1 r1
  cases r
  obtain ⟨its, rv, p', hz⟩ := I1.tuple hq
  refine PySem.EnumX.call1 (PySem.begins_tuple a its.toArray) p' fun h' he hit hk => wpAny_pyIter_enum he ?_
  exact ⟨s1.heap.objs.size + 1, [s1.heap.objs.size + 1, s1.heap.objs.size], _, _, H1, rfl, I1.kept (t' := s1.toks) hk, turn_enumS (e := s1.heap.objs.size + 1) (it := s1.heap.objs.size) src_tup, ⟨⟨.none, he⟩, ⟨_, hit, rfl, rfl⟩, Nat.succ_ne_self _⟩, new_two I1, q⟩
theorem pi_enumS (hg : Gl X "enumerate") (hm : X.mg "enumerate" = none) (ha : PA X [e] ta) (hs : starEach [e] X.env = [(false, eval e X.env)] := by rfl) : PI X (.Tuple elts kk tpos) (.Call (.Name "enumerate" p) [e] [] pos) (iEnS ta) := by
  refine ⟨fun pins s σ H R I h => Call_ (ld_blt I hg hm boot_enumerate (PyProof.Rows.callWith_type1 (thn (ha.run pos pins s σ H _ I h) fun us s1 ⟨vs, H1, I1, r1, z, ex, q⟩ => ?_) hs rfl))⟩
  subst ex
  obtain ⟨u, rfl, t, rfl⟩ := vals1 r1
  refine PySem.EnumX.call1 (PySem.begins_text z t) trivial fun h' he hit hk => wpAny_pyIter_enum he ?_
  exact ⟨s1.heap.objs.size + 1, [s1.heap.objs.size + 1, s1.heap.objs.size], _, _, H1, rfl, I1.kept (t' := s1.toks) hk, turn_enumS (e := s1.heap.objs.size + 1) (it := s1.heap.objs.size) src_str, ⟨⟨.none, he⟩, ⟨_, hit, rfl, rfl⟩, Nat.succ_ne_self _⟩, new_two I1, q⟩
def iZipT (K : PySem.W.Frag) (ta : TA) : TI := fun σ H R => ta σ H fun vs H1 => ∃ a b xs ys, vs = [.ref a, .ref b] ∧ ((SqL K H1 a xs ∧ SqL K H1 b ys ∧ R (Itz K a b) H1) ∨ (SqT K H1 a xs ∧ SqT K H1 b ys ∧ R (RZ.ItzT K a b) H1))
theorem pi_zipT {e2 : Expr} (hg : Gl X "zip") (hm : X.mg "zip" = none) (ha : PA X [e, e2] ta) (ek : X.K = K := by rfl)
    (hs : starEach [e, e2] X.env = (false, eval e X.env) :: starEach [e2] X.env := by rfl) (hpl : (backTo pos (starEach [e2] X.env)).any (·.1) = false := by rfl) : PI X (.Tuple elts kk tpos) (.Call (.Name "zip" p) [e, e2] [] pos) (iZipT K ta) := by
  subst ek
  exact RZ.pi_zipA hg hm ha hs hpl
end
section
variable {K : PySem.W.Frag} {a b : Addr} {xs ys : List V} {H : Hp} {σ : St} {g : TG} {s : TS} {D : Ends} {tA : TA} {tt : TT} {te : TE} {vs : List Nat} {Q : VK}
theorem walk_ItE {S : Hp → List V → Prop} : Walk (ItE S) xs.length (fun H => S H xs) (YPair (fun i => some (.int (i : Nat))) (fun i => xs[i]?)) := by
  refine ⟨fun i _ hi q => ⟨xs, xs[i], q, List.getElem?_eq_getElem hi⟩, fun _ q => ⟨xs, q, rfl⟩, fun i H v H' _ q y => ?_⟩
  obtain ⟨T, x, y1, y2, y3, y4⟩ := y
  exact ⟨T, .int (i : Nat), x, y1, y2, y3, rfl, y4 xs q⟩
theorem walk_ItzT {n : Nat} (hn : n = min xs.length ys.length) : Walk (RZ.ItzT K a b) n (fun H => SqT K H a xs ∧ SqT K H b ys) (YPair (fun i => xs[i]?) (fun i => ys[i]?)) := by
  subst hn
  refine ⟨fun i _ hi q => ?_, fun _ q => ⟨xs, ys, q.1, q.2, by omega⟩, fun i H v H' _ q y => ?_⟩
  · have l1 : i < xs.length := by omega
    have l2 : i < ys.length := by omega
    exact ⟨xs, ys, xs[i], ys[i], q.1, q.2, List.getElem?_eq_getElem l1, List.getElem?_eq_getElem l2⟩
  · obtain ⟨T, x, z, y1, y2, y3, y4, y5⟩ := y
    exact ⟨T, x, z, y1, y2, y3, y4 xs q.1, y5 ys q.2⟩
theorem rd_forET (q : tA σ H fun vs H1 => ∃ a xs, vs = [.ref a] ∧ SqT K H1 a xs ∧ ForW (ItE fun H xs => SqT K H a xs) g s D σ H1) : tFor (iEnT K tA) g s D σ H := q
theorem rd_forES (q : tA σ H fun vs H1 => ∃ z : Str, vs = [.str z] ∧ ForW (ItE fun _ xs => xs = z.cps.toList.map fun c => V.str ⟨#[c]⟩) g s D σ H1) : tFor (iEnS tA) g s D σ H := q
theorem rd_lcET (q : tA σ H fun ws H1 => ∃ a xs, ws = [.ref a] ∧ SqT K H1 a xs ∧ LcW (ItE fun H xs => SqT K H a xs) g tt te vs σ H1 Q) : tLc (iEnT K tA) g tt te vs σ H Q := q
theorem rd_lcES (q : tA σ H fun ws H1 => ∃ z : Str, ws = [.str z] ∧ LcW (ItE fun _ xs => xs = z.cps.toList.map fun c => V.str ⟨#[c]⟩) g tt te vs σ H1 Q) : tLc (iEnS tA) g tt te vs σ H Q := q
theorem rd_itET (h : SqT K H a xs) (Pv : Nat → St → Hp → Prop) (h0 : Pv 0 σ H) (hl : ∀ i σ H, i ≤ xs.length → Pv i σ H → SqT K H a xs)
    (hs : ∀ i x T σ H, xs[i]? = some x → Pv i σ H → H T = none → g (.ref T) σ (upd H T (.tup [.int (i : Int), x])) fun σ2 H2 => s { D with nx := Pv (i + 1), ct := Pv (i + 1), bk := D.nx } σ2 H2) (hd : ∀ σ H, Pv xs.length σ H → D.nx σ H) :
    ∃ c ys, [V.ref a] = [.ref c] ∧ SqT K H c ys ∧ ForW (ItE fun H xs => SqT K H c xs) g s D σ H := by
  refine ⟨a, xs, rfl, h, for_it (walk_ItE (S := fun H xs => SqT K H a xs)) Pv h0 hl ?_ hd⟩
  rintro i x τ H1 H2 hi hP ⟨T, u, y, rfl, hT, rfl, hu, hy⟩
  cases hu
  exact hs i y T τ H1 hy hP hT
theorem rd_itES {z : Str} (Pv : Nat → St → Hp → Prop) (h0 : Pv 0 σ H)
    (hs : ∀ i c T σ H, z.cps.toList[i]? = some c → Pv i σ H → H T = none → g (.ref T) σ (upd H T (.tup [.int (i : Int), .str ⟨#[c]⟩])) fun σ2 H2 => s { D with nx := Pv (i + 1), ct := Pv (i + 1), bk := D.nx } σ2 H2) (hd : ∀ σ H, Pv z.cps.toList.length σ H → D.nx σ H) :
    ∃ y, [V.str z] = [.str y] ∧ ForW (ItE fun _ xs => xs = y.cps.toList.map fun c => V.str ⟨#[c]⟩) g s D σ H := by
  refine ⟨z, rfl, for_it (walk_ItE (xs := z.cps.toList.map fun c => V.str ⟨#[c]⟩) (S := fun _ xs => xs = z.cps.toList.map fun c => V.str ⟨#[c]⟩)) Pv h0 (fun _ _ _ _ _ => rfl) ?_ (by rw [List.length_map]; exact hd)⟩
  rintro i x τ H1 H2 hi hP ⟨T, u, y, rfl, hT, rfl, hu, hy⟩
  cases hu
  have hy : (z.cps.toList.map fun c => V.str ⟨#[c]⟩)[i]? = some y := hy
  rw [List.getElem?_map] at hy
  obtain ⟨c, hc, rfl⟩ := Option.map_eq_some_iff.mp hy
  exact hs i c T τ H1 hc hP hT
theorem rd_clET (h : SqT K H a xs) (Pv : Addr → Nat → Hp → Prop) (h0 : ∀ D, H D = none → Pv D 0 (upd H D (.lst []))) (hG : ∀ D i H', H D = none → i ≤ xs.length → Pv D i H' → SqT K H' a xs)
    (hs : ∀ D i x T H', H D = none → xs[i]? = some x → Pv D i H' → H' T = none → LcT g tt te vs σ D (Pv D (i + 1)) (.ref T) (upd H' T (.tup [.int (i : Int), x]))) (hd : ∀ D H', H D = none → Pv D xs.length H' → Q (.ref D) H') :
    ∃ c ys, [V.ref a] = [.ref c] ∧ SqT K H c ys ∧ LcW (ItE fun H xs => SqT K H c xs) g tt te vs σ H Q := by
  refine ⟨a, xs, rfl, h, lc_by (walk_ItE (S := fun H xs => SqT K H a xs)) Pv h0 hG ?_ hd⟩
  rintro D i x H1 H2 hD hi hP ⟨T, u, y, rfl, hT, rfl, hu, hy⟩
  cases hu
  exact hs D i y T H1 hD hy hP hT
theorem rd_lcZT (q : tA σ H fun ws H1 => ∃ a b xs ys, ws = [.ref a, .ref b] ∧ ((SqL K H1 a xs ∧ SqL K H1 b ys ∧ LcW (Itz K a b) g tt te vs σ H1 Q) ∨ (SqT K H1 a xs ∧ SqT K H1 b ys ∧ LcW (RZ.ItzT K a b) g tt te vs σ H1 Q))) : tLc (iZipT K tA) g tt te vs σ H Q := q
theorem rd_clZT (h : SqT K H a xs) (h' : SqT K H b ys) {n : Nat} (hn : n = min xs.length ys.length) (Pv : Addr → Nat → Hp → Prop) (h0 : ∀ D, H D = none → Pv D 0 (upd H D (.lst []))) (hG : ∀ D i H', H D = none → i ≤ n → Pv D i H' → SqT K H' a xs ∧ SqT K H' b ys)
    (hs : ∀ D i x y T H', H D = none → xs[i]? = some x → ys[i]? = some y → Pv D i H' → H' T = none → LcT g tt te vs σ D (Pv D (i + 1)) (.ref T) (upd H' T (.tup [x, y]))) (hd : ∀ D H', H D = none → Pv D n H' → Q (.ref D) H') :
    ∃ c d us ws, [V.ref a, V.ref b] = [.ref c, .ref d] ∧ ((SqL K H c us ∧ SqL K H d ws ∧ LcW (Itz K c d) g tt te vs σ H Q) ∨ (SqT K H c us ∧ SqT K H d ws ∧ LcW (RZ.ItzT K c d) g tt te vs σ H Q)) := by
  refine ⟨a, b, xs, ys, rfl, .inr ⟨h, h', lc_by (walk_ItzT hn) Pv h0 hG ?_ hd⟩⟩
  rintro D i x H1 H2 hD hi hP ⟨T, u, y, rfl, hT, rfl, hu, hy⟩
  exact hs D i u y T H1 hD hu hy hP hT
section
variable {α β : Type} {as : List α} {bs : List β} {enc out : α → PyData} {encB : β → PyData}
/-- [.. for i, x in enumerate(a tuple of data)] -/
theorem rd_imET {p : α × Nat → Bool} {out : α × Nat → PyData} (h : H a = some (.tup xs)) (im : ImAll H xs (as.map enc)) (hl : as.length ≤ 1000000) (t : ImT (fun q : α × Nat => .tuple [.int (q.2 : Int), enc q.1]) out p as.zipIdx g tt te vs σ H)
    (hd : ∀ D H' ys, H D = none → Same H H' → H' D = some (.lst ys) → ImAll H' ys ((as.zipIdx.filter p).map out) → Q (.ref D) H') : ∃ c ys, [V.ref a] = [.ref c] ∧ SqT K H c ys ∧ LcW (ItE fun H xs => SqT K H c xs) g tt te vs σ H Q := by
  refine rd_clET (SqT.of h) (fun D i H' => ImP (fun q : α × Nat => .tuple [.int (q.2 : Int), enc q.1]) out p as.zipIdx H D i H') (fun D hD => ImP.zero hD) (fun D i H' _ _ h' => SqT.of (h'.1 _ _ h)) (fun D i x T H' hD hx hP hT => ?_) (fun D H' hD hP => ?_)
  · obtain ⟨d, hd, ix⟩ := im.getV hx
    rw [List.getElem?_map] at hd
    obtain ⟨y, hy, rfl⟩ := Option.map_eq_some_iff.mp hd
    have hne : D ≠ T := fun e => by
      obtain ⟨_, ws, hws, _⟩ := hP
      rw [e, hT] at hws
      cases hws
    have k := (Same.refl H').new (o := .tup [.int (i : Int), x]) hT
    obtain ⟨k0, ws, hws, iw⟩ := hP
    have hP' : ImP (fun q : α × Nat => .tuple [.int (q.2 : Int), enc q.1]) out p as.zipIdx H D i (upd H' T (.tup [.int (i : Int), x])) := ⟨k0.trans k, ws, k _ _ hws, iw.up (Tp.of k)⟩
    refine ImP.step (y := (y, i)) (by rw [List.length_zipIdx]; exact hl) t hD (by rw [List.getElem?_zipIdx, hy]; simp) ?_ hP'
    exact .tup upd_same (.cons (.int _) (.cons (ix.up (Tp.of (k0.trans k))) .nil))
  · obtain ⟨k, ys, hys, im'⟩ := hP
    have l : xs.length = as.zipIdx.length := by rw [im.length, List.length_map, List.length_zipIdx]
    rw [l, List.take_length] at im'
    exact hd D H' ys hD k hys im'
/-- [.. for x, y in zip(two tuples of data)] -/
theorem rd_imZT {p : α × β → Bool} {out : α × β → PyData} (h : H a = some (.tup xs)) (im : ImAll H xs (as.map enc)) (h2 : H b = some (.tup ys)) (im2 : ImAll H ys (bs.map encB)) (hl : as.length ≤ 1000000)
    (t : ImT (fun q : α × β => .tuple [enc q.1, encB q.2]) out p (as.zip bs) g tt te vs σ H)
    (hd : ∀ D H' ys, H D = none → Same H H' → H' D = some (.lst ys) → ImAll H' ys (((as.zip bs).filter p).map out) → Q (.ref D) H') :
    ∃ c d us ws, [V.ref a, V.ref b] = [.ref c, .ref d] ∧ ((SqL K H c us ∧ SqL K H d ws ∧ LcW (Itz K c d) g tt te vs σ H Q) ∨ (SqT K H c us ∧ SqT K H d ws ∧ LcW (RZ.ItzT K c d) g tt te vs σ H Q)) := by
  have lz : (as.zip bs).length = min xs.length ys.length := by rw [List.length_zip, im.length, im2.length, List.length_map, List.length_map]
  refine rd_clZT (SqT.of h) (SqT.of h2) lz (fun D i H' => ImP (fun q : α × β => .tuple [enc q.1, encB q.2]) out p (as.zip bs) H D i H') (fun D hD => ImP.zero hD) (fun D i H' _ _ h' => ⟨SqT.of (h'.1 _ _ h), SqT.of (h'.1 _ _ h2)⟩) (fun D i x y T H' hD hx hy hP hT => ?_) (fun D H' hD hP => ?_)
  · obtain ⟨d, hd, ix⟩ := im.getV hx
    rw [List.getElem?_map] at hd
    obtain ⟨u, hu, rfl⟩ := Option.map_eq_some_iff.mp hd
    obtain ⟨d, hd, iy⟩ := im2.getV hy
    rw [List.getElem?_map] at hd
    obtain ⟨u', hu', rfl⟩ := Option.map_eq_some_iff.mp hd
    have k := (Same.refl H').new (o := .tup [x, y]) hT
    obtain ⟨k0, ws, hws, iw⟩ := hP
    have hP' : ImP (fun q : α × β => .tuple [enc q.1, encB q.2]) out p (as.zip bs) H D i (upd H' T (.tup [x, y])) := ⟨k0.trans k, ws, k _ _ hws, iw.up (Tp.of k)⟩
    refine ImP.step (y := (u, u')) (by rw [List.length_zip]; omega) t hD ?_ ?_ hP'
    · rw [List.getElem?_zip_eq_some]
      exact ⟨hu, hu'⟩
    · exact .tup upd_same (.cons (ix.up (Tp.of (k0.trans k))) (.cons (iy.up (Tp.of (k0.trans k))) .nil))
  · obtain ⟨k, ys, hys, im'⟩ := hP
    rw [List.take_length] at im'
    exact hd D H' ys hD k hys im'
end
end
end Mine

/-! ## Tuples that are known to the last, dicts of pairs, their items, sorts of data -/
namespace Mine
open PySem PySem.Spec PyProof.Rows L2
set_option linter.all false
/-- a tuple that has no dict of its own -/
def Ft (H : Hp) (a : Addr) (xs : List V) : Prop := ∃ o : Obj, o.dict = none ∧ H a = some (.frz o (.tup xs))
/-- any tuple of the heap -/
def Rt (H : Hp) (a : Addr) (xs : List V) : Prop := Rd H a (.tup xs)
theorem Ft.rt {H : Hp} {a : Addr} {xs : List V} (h : Ft H a xs) : Rt H a xs := let ⟨o, _, e⟩ := h; .inr ⟨o, e⟩
theorem Rt.of {H : Hp} {a : Addr} {xs : List V} (h : H a = some (.tup xs)) : Rt H a xs := .inl h
theorem Rt.sq {K : PySem.W.Frag} {H : Hp} {a : Addr} {xs : List V} (h : Rt H a xs) : SqT K H a xs := .inl h
/-- tuples stay -/
structure Ty (H H' : Hp) : Prop where
  t : ∀ a xs, H a = some (.tup xs) → H' a = some (.tup xs)
  f : ∀ a o xs, H a = some (.frz o (.tup xs)) → H' a = some (.frz o (.tup xs))
theorem Ty.refl (H : Hp) : Ty H H := ⟨fun _ _ h => h, fun _ _ _ h => h⟩
theorem Ty.trans {A B C : Hp} (h : Ty A B) (k : Ty B C) : Ty A C := ⟨fun a xs q => k.t a xs (h.t a xs q), fun a o xs q => k.f a o xs (h.f a o xs q)⟩
theorem Ty.of {A B : Hp} (h : Same A B) : Ty A B := ⟨fun a xs q => h a _ q, fun a o xs q => h a _ q⟩
theorem Ty.new {A B : Hp} {p : Addr} {o : HO} (h : Ty A B) (n : B p = none) : Ty A (upd B p o) := h.trans (Ty.of fun a u q => by rw [upd_ne (ne_of_none q n)]; exact q)
theorem Ty.lst {A B : Hp} {p : Addr} {o : HO} {ys : List V} (h : Ty A B) (n : B p = some (.lst ys)) : Ty A (upd B p o) :=
  h.trans ⟨fun a xs q => by rw [upd_ne (fun e => by rw [e, n] at q; cases q)]; exact q, fun a u xs q => by rw [upd_ne (fun e => by rw [e, n] at q; cases q)]; exact q⟩
theorem Ty.dct {A B : Hp} {p : Addr} {o : HO} {ys : List (Key × V)} (h : Ty A B) (n : B p = some (.dK ys)) : Ty A (upd B p o) :=
  h.trans ⟨fun a xs q => by rw [upd_ne (fun e => by rw [e, n] at q; cases q)]; exact q, fun a u xs q => by rw [upd_ne (fun e => by rw [e, n] at q; cases q)]; exact q⟩
theorem Rt.up {H H' : Hp} {a : Addr} {xs : List V} (h : Rt H a xs) (k : Ty H H') : Rt H' a xs := h.elim (fun e => .inl (k.t _ _ e)) fun ⟨o, e⟩ => .inr ⟨o, k.f _ _ _ e⟩
theorem Ft.up {H H' : Hp} {a : Addr} {xs : List V} (h : Ft H a xs) (k : Ty H H') : Ft H' a xs := let ⟨o, d, e⟩ := h; ⟨o, d, k.f _ _ _ e⟩
section
variable {X : Cx} {K : PySem.W.Frag}
/-! ### tuples made so -/
def xTupF (K : PySem.W.Frag) : List V → Hp → VK → Prop := fun xs H Q => ∃ p ys, xs = [.ref p] ∧ SqL K H p ys ∧ ∀ l o, o.dict = none → H l = none → Q (.ref l) (upd H l (.frz o (.tup ys)))
theorem callTupF (e : X.K = K := by rfl) : CallR X (.type "tuple") (xTupF K) := by
  subst e
  intro pins s σ H xs us Q I r h
  obtain ⟨p, ys, rfl, hq, q⟩ := h
  obtain ⟨u, rfl, rx⟩ := vals1 r
  cases rx
  obtain ⟨its, r', pl, hz⟩ := I.list hq
  have hlen := r'.length
  refine call_tuple_list pl.isList (fun h' kp => ?_) (by simp only [List.size_toArray] <;> omega)
  have I1 : Inv X pins σ H { s with heap := h' } := I.kept (t' := s.toks) kp
  have I2 : Inv X pins σ (upd H h'.objs.size (.frz { cls := .type "tuple", data := .seq its.toArray } (.tup ys))) { s with heap := h'.push { cls := .type "tuple", data := .seq its.toArray } } :=
    I1.laid (t' := s.toks) (fun b o e => Heap.get?_push_of_some _ e) (Nat.le_refl _) (show ObjOk X.prog X.w _ _ _ (.frz _ (.tup ys)) from ⟨Heap.get?_push_size _ rfl, hz, its, r', IsTup.new _ _⟩)
  exact ⟨.ref h'.objs.size, _, I2, rfl, q _ _ rfl (I1.hok.fresh (Nat.le_refl _))⟩
def tTupF (t : TA) : TE := fun σ H Q => t σ H fun xs H1 => xs.length ≤ sizeLine ∧ ∀ p o, o.dict = none → H1 p = none → Q (.ref p) (upd H1 p (.frz o (.tup xs)))
theorem pe_tupF {es : List Expr} {t : TA} {pos : Pos} {x1 : Nat} (h : PA X es t) : PE X (.Tuple es x1 pos) (tTupF t) := by
  refine ⟨fun pins s σ H Q I hq => ?_⟩
  refine wpAny_Tuple_spliced (thn (h.run pos pins s σ H _ I hq) fun us s1 ⟨xs, H1, I1, r, z, q⟩ => ⟨by rw [← r.length]; exact z, ?_⟩)
  have hf : H1 s1.heap.objs.size = none := I1.hok.fresh (Nat.le_refl _)
  refine ⟨.ref s1.heap.objs.size, upd H1 s1.heap.objs.size (.frz { cls := .type "tuple", data := .seq us.toArray } (.tup xs)), I1.laid (t' := s1.toks) (fun b u e => Heap.get?_push_of_some _ e) (Nat.le_refl _) ?_, rfl, q _ _ rfl hf⟩
  exact ⟨Heap.get?_push_size _ rfl, z, us, r, ⟨_, Heap.get?_push_size _ rfl, rfl, _, rfl⟩⟩
/-! ### dict(t), t a tuple of pairs -/
theorem refs_nth {ps : List Addr} {its : List Value} {j : Nat} {b : Addr} (h : Vals (ps.map V.ref) its) (e : ps[j]? = some b) : its[j]? = some (.ref b) := by
  rw [refs_at h, List.getElem?_map, e]
  rfl
def xDictT (K : PySem.W.Frag) : List V → Hp → VK → Prop := fun xs H Q => ∃ (a : Addr) (ps : List Addr) (kvs : List (Key × V)), xs = [.ref a] ∧ Ft H a (ps.map V.ref) ∧ Paired (fun p kv => SqT K H p [kV kv.1, kv.2]) ps kvs ∧
    ∀ p, H p = none → Q (.ref p) (upd H p (.dK (mergeK [] kvs)))
theorem callDictT (hcalm : X.calm = true) (e : X.K = K := by rfl) : CallR X (.type "dict") (xDictT K) := by
  subst e
  intro pins s σ H xs us Q I r q
  obtain ⟨a, ps, kvs, rfl, ⟨oa, hda, ha⟩, hp, q⟩ := q
  obtain rfl := Vals.ref1 r
  obtain ⟨hoa, hz, its, rv, o', ho', hc', n, hdat⟩ : ObjOk X.prog X.w H s.heap a (.frz oa (.tup (ps.map V.ref))) := I.hok _ _ ha
  have eo : oa = o' := Option.some.inj (hoa.symm.trans ho')
  subst eo
  rw [List.length_map] at hz
  obtain ⟨prs, rel, hl, hpr⟩ := pairs_of I hp
  have li : its.length = ps.length := by rw [← rv.length, List.length_map]
  have hpr' : ∀ (j : Nat) (q : Key × Value), prs[j]? = some q → ∃ u : Value, IsTup s.heap (ps.getD j 0) #[u, q.2] ∧ keyIs q.1 u = true := fun j q e => by
    obtain ⟨b, u, h1, h2, h3⟩ := hpr j q e
    refine ⟨u, ?_, h3⟩
    rw [List.getD_eq_getElem?_getD, h1]
    exact h2
  obtain ⟨pv, lpv, hpv⟩ : ∃ pv : List (Value × Value), pv.length = prs.length ∧ ∀ (j : Nat) (q : Key × Value), prs[j]? = some q → ∃ u : Value, pv[j]? = some (u, q.2) ∧ IsTup s.heap (ps.getD j 0) #[u, q.2] ∧ keyIs q.1 u = true := by
    clear rel hl hpr
    have gen : ∀ (T : Nat → Addr) (l : List (Key × Value)) (c : Nat), (∀ (j : Nat) (q : Key × Value), l[j]? = some q → ∃ u : Value, IsTup s.heap (T (c + j)) #[u, q.2] ∧ keyIs q.1 u = true) →
        ∃ pv : List (Value × Value), pv.length = l.length ∧ ∀ (j : Nat) (q : Key × Value), l[j]? = some q → ∃ u : Value, pv[j]? = some (u, q.2) ∧ IsTup s.heap (T (c + j)) #[u, q.2] ∧ keyIs q.1 u = true := by
      intro T l
      induction l with
      | nil => exact fun c _ => ⟨[], rfl, fun j q e => by simp at e⟩
      | cons x l ih =>
        intro c hx
        obtain ⟨u, h1, h2⟩ := hx 0 x rfl
        obtain ⟨pv, h3, h4⟩ := ih (c + 1) fun j q e => by
          have := hx (j + 1) q (by simpa using e)
          rwa [show c + (j + 1) = c + 1 + j by omega] at this
        refine ⟨(u, x.2) :: pv, by rw [List.length_cons, List.length_cons, h3], fun j q e => ?_⟩
        cases j with
        | zero =>
          have e' : x = q := Option.some.inj e
          subst e'
          exact ⟨u, rfl, h1, h2⟩
        | succ j =>
          obtain ⟨u', a1, a2, a3⟩ := h4 j q (by simpa using e)
          exact ⟨u', by simpa using a1, by rw [show c + (j + 1) = c + 1 + j by omega]; exact a2, a3⟩
    obtain ⟨pv, h1, h2⟩ := gen (fun j => ps.getD j 0) prs 0 fun j q e => by rw [Nat.zero_add]; exact hpr' j q e
    exact ⟨pv, h1, fun j q e => by have := h2 j q e; rwa [Nat.zero_add] at this⟩
  have items : PySem.PairItems s.heap its.toArray (fun j => ps.getD j 0) pv := by
    refine ⟨by rw [List.size_toArray, li, lpv, hl], fun j k v e => ?_⟩
    have lt : j < prs.length := by rw [← lpv]; exact (List.getElem?_eq_some_iff.mp e).1
    obtain ⟨u, e1, e2, e3⟩ := hpv j _ (List.getElem?_eq_getElem lt)
    rw [e] at e1
    cases e1
    have ej : ps[j]? = some (ps.getD j 0) := by
      rw [List.getD_eq_getElem?_getD, List.getElem?_eq_getElem (by omega)]
      rfl
    refine ⟨?_, .inl ?_⟩
    · rw [List.getElem?_toArray]
      exact refs_nth rv ej
    · obtain ⟨o, ho, hc, n, hd⟩ := e2
      exact ⟨o, ho, hc, n, hd⟩
  refine PySem.call_dict_pairs (knd := mixKind X.prog X.w) (kvs := prs) (PySem.PairArg.tuple a its.toArray (fun j => ps.getD j 0) pv) (I.ok.hd hcalm) ⟨⟨oa, n, hoa, hc', hda, hdat⟩, items⟩ ⟨lpv.symm, fun i key v e => ?_⟩ (by rw [lpv, hl]; exact hz) fun h' tk hd' k => ?_
  · have lt : i < prs.length := by rw [← lpv]; exact (List.getElem?_eq_some_iff.mp e).1
    obtain ⟨u, e1, e2, e3⟩ := hpv i _ (List.getElem?_eq_getElem lt)
    have e0 : pv[i]? = some (key, v) := e
    rw [e0] at e1
    cases e1
    exact ⟨_, List.getElem?_eq_getElem lt, e3⟩
  · have hm : (s.heap.objs.size == sysModules) = false := beq_eq_false_iff_ne.mpr (Nat.ne_of_gt I.big)
    have hlen : (mergeK [] kvs).length ≤ sizeLine := by
      refine Nat.le_trans (length_mergeK kvs []) ?_
      rw [List.length_nil, Nat.zero_add, rel.length, hl]
      exact hz
    exact ⟨.ref s.heap.objs.size, upd H s.heap.objs.size (.dK (mergeK [] kvs)), I.laid (t' := tk) (fun b o e => k b o (fun z => nomatch z) e) (Nat.le_refl _) (show ObjOk X.prog X.w _ _ _ (.dK (mergeK [] kvs)) from ⟨hlen, hm, merged [] prs, KV.merge rel .nil, hd'⟩), rfl, q _ (I.hok.fresh (Nat.le_refl _))⟩
/-! ### sorted(xs), xs a list that reads as data -/
theorem vals_each : ∀ {ps : List (V × PyData)} {its : List Value}, Vals (ps.map (·.1)) its → PySem.W.EachIs (fun v (b : V × PyData) => RelV b.1 v) its ps
  | [], its, r => by
    rw [List.map_nil] at r
    cases r
    exact .nil
  | p :: ps, its, r => by
    rw [List.map_cons] at r
    cases r with
    | cons h t => exact .cons h (vals_each t)
theorem each_vals : ∀ {ps : List (V × PyData)} {its : List Value}, PySem.W.EachIs (fun v (b : V × PyData) => RelV b.1 v) its ps → Vals (ps.map (·.1)) its
  | [], _, h => by cases h; exact .nil
  | p :: ps, _, h => by
    cases h with
    | cons h t => exact .cons h (each_vals t)
def xSortD (K : PySem.W.Frag) : List V → Hp → VK → Prop := fun xs H Q => ∃ (a : Addr) (ps : List (V × PyData)), xs = [.ref a] ∧ SqL K H a (ps.map (·.1)) ∧ (∀ p ∈ ps, Dp K H p.1 p.2) ∧ PySem.W.AllAlike (ps.map (·.2)) ∧ PySem.W.Sortable (ps.map (·.2)) ∧ (∀ p ∈ ps, p.2.depth ≤ 60) ∧
  ∀ l, H l = none → Q (.ref l) (upd H l (.lst ((ps.mergeSort (PySem.W.dataLe false (·.2))).map (·.1))))
theorem call_sortD (hu : X.A.units + 65 < cLine) (e : X.K = K := by rfl) : CallR X (.builtin "sorted") (xSortD K) := by
  subst e
  intro pins s σ H vs us Q I r h
  obtain ⟨a, ps, rfl, hs, hd, hal, hk, hdep, q⟩ := h
  obtain ⟨its, rv, pl, hz⟩ := I.list hs
  obtain rfl := Vals.ref1 r
  rw [List.length_map] at hz
  have e := vals_each rv
  refine PySem.W.sorted_data (bs := ps) (enc := (·.2)) (R := fun v (b : V × PyData) => RelV b.1 v) pl.isList e ((PySem.W.each_mem e).mono fun v b hb => ?_) hal hk hz (fun b hb => ?_) fun out hl eo => ?_
  · exact Dp.reads I b.2 b.1 v (hd b hb.2) hb.1
  · have := hdep b hb
    show X.A.units + 2 + b.2.depth < cLine
    omega
  · obtain ⟨c, hc⟩ := sortedAll_at s.heap its (List.toArray out)
    refine ⟨.ref (s.heap.objs.size + 1), upd H (s.heap.objs.size + 1) (.lst ((ps.mergeSort (PySem.W.dataLe false (·.2))).map (·.1))), I.laid (t' := s.toks) (fun b o e => sortedAll_old e) (Nat.le_succ _) ⟨?_, out, c, each_vals eo, hc⟩, rfl, q _ (I.hok.fresh (Nat.le_succ _))⟩
    rw [List.length_map, List.length_mergeSort]
    exact hz
/-! ### d.items(), sorted(d.items()): keys texts, values ints -/
def rItemsK : V → List V → Hp → VK → Prop := fun x xs H Q => ∃ (a : Addr) (kvs : List (Key × V)), x = .ref a ∧ xs = [] ∧ H a = some (.dK kvs) ∧ ∀ p, H p = none → Q (.ref p) (upd H p (L2.DX.itemsO p a))
theorem mt_itemsK : MtR X "dict.items" rItemsK := by
  intro pins s σ H x xs v us Q I rx rxs h
  obtain ⟨a, kvs, rfl, rfl, ha, q⟩ := h
  cases rx
  cases rxs
  obtain ⟨z, hd, vs, rel, o, es, ep, ho, hx, hdat, _⟩ := dk_of I.hok ha
  refine DT.callItems (es := es) (ep := ep) hd ⟨o, ho, hx, hdat⟩ ?_
  have hf : H s.heap.objs.size = none := I.hok.fresh (Nat.le_refl _)
  exact ⟨.ref s.heap.objs.size, upd H s.heap.objs.size (L2.DX.itemsO s.heap.objs.size a), I.laid (t' := s.toks) (fun b u e => Heap.get?_push_of_some _ e) (Nat.le_refl _) (L2.DX.itemsO_ok (Heap.get?_push_size _ rfl)), rfl, q _ hf⟩
/-- an entry of such a dict -/
def kvI (e : Str × Int) : Key × V := (Sum.inr e.1, V.int e.2)
def entD (e : Str × Int) : PyData := .tuple [.str e.1, .int e.2]
theorem pairs_get {P : Program} {w : World} : ∀ {es : List DictEntry} {vs : List (Key × Value)} {j : Nat} {en : DictEntry}, Pairs (mixKind P w) es vs → es[j]? = some en → ∃ kv, vs[j]? = some kv ∧ keyIs kv.1 en.key = true ∧ en.val = kv.2
  | _, _, j, en, .nil, e => by simp at e
  | _, _, 0, en, .cons (kv := kv) h1 h2 h3, e => by
    have e' := Option.some.inj e
    subst e'
    exact ⟨kv, rfl, h1, h2⟩
  | _, _, j + 1, en, .cons (kv := kv) h1 h2 h3, e => by
    obtain ⟨kv', a, b, c⟩ := pairs_get (j := j) h3 (by simpa using e)
    exact ⟨kv', by simpa using a, b, c⟩
def xSortIt : List V → Hp → VK → Prop := fun vs H Q => ∃ (p a : Addr) (ks : List (Str × Int)), vs = [.ref p] ∧ H p = some (L2.DX.itemsO p a) ∧ H a = some (.dK (ks.map kvI)) ∧
  ∀ (H' : Hp) (l : Addr) (ps : List (Addr × Str × Int)), (∀ b o, H b = some o → H' b = some o) → H l = none → H' l = some (.lst (ps.map fun z => V.ref z.1)) → ps.map (·.2) = ks.mergeSort (PySem.W.dataLe false entD) →
    (∀ z ∈ ps, H' z.1 = some (.tup [.str z.2.1, .int z.2.2])) → Q (.ref l) H'
theorem call_sortIt (hc : X.calm = true) (hu : X.A.units + 65 < cLine) : CallR X (.builtin "sorted") xSortIt := by
  intro pins s σ H xs us Q I r h
  obtain ⟨p, a, ks, rfl, hp, ha, q⟩ := h
  obtain rfl := Vals.ref1 r
  have view : s.heap.IsItemsView p a := (show ObjOk X.prog X.w H s.heap p (L2.DX.itemsO p a) from I.hok p _ hp).1
  obtain ⟨z, hd, vs, rel, o, es, ep, ho, hx, hdat, hko, hpr, hn⟩ := dk_of I.hok ha
  have l1 : (ks.map kvI).length = vs.length := Paired.length rel
  rw [List.length_map] at l1 z
  have l2 : es.size = vs.length := by rw [← Array.length_toList]; exact hpr.length
  have hh : X.A.handled = none := I.ok.hd hc
  refine DT.sortedI (es := es) (ep := ep) hh view ⟨o, ho, hx, hdat⟩ (by omega) fun h' tk as hk hlt hl hG => ?_
  have lak : as.length = ks.length := by omega
  have nd : as.Nodup := List.Pairwise.imp (fun h => Nat.ne_of_lt h) hG.rise
  have pr : ∀ (j : Nat) (b : Addr), as[j]? = some b → ∃ (e : Str × Int) (t u : Nat), ks[j]? = some e ∧ h'.get? b = some { cls := .type "tuple", data := .seq #[Value.str e.1 t, Value.int e.2 u] } := by
    intro j b hj
    obtain ⟨en, he, hg⟩ := hG.pairs j b hj
    rw [← Array.getElem?_toList] at he
    obtain ⟨kv, e1, e2, e3⟩ := pairs_get hpr he
    obtain ⟨e0, he0, r1, r2⟩ := L2.DX.pget rel e1
    rw [List.getElem?_map] at he0
    cases hkj : ks[j]? with
    | none =>
      rw [hkj] at he0
      exact nomatch he0
    | some e =>
      rw [hkj] at he0
      have ee : kvI e = e0 := Option.some.inj he0
      subst ee
      have r1 : (Sum.inr e.1 : Key) = kv.1 := r1
      have r2 : RelV (V.int e.2) kv.2 := r2
      rw [← r1] at e2
      obtain ⟨u, r2⟩ := r2
      rcases keyIs_shape e2 with ⟨i, t, h1, h2⟩ | ⟨x, t, h1, h2⟩
      · cases h1
      · cases h1
        exact ⟨e, t, u, rfl, by rw [hg, h2, e3, r2]⟩
  have hob : (h'.push { cls := .type "list", data := .seq (as.map Value.ref).toArray }).get? h'.objs.size = some (seqObj "list" (as.map Value.ref).toArray 0) := Heap.get?_push_size _ rfl
  have ne0 : ∀ b o, h'.get? b = some o → b ≠ h'.objs.size := fun b o e => Nat.ne_of_lt (Heap.lt_size e)
  have kb : ∀ b o, h'.get? b = some o → (h'.push { cls := .type "list", data := .seq (as.map Value.ref).toArray }).get? b = some o := fun b o e => Heap.get?_push_of_some _ e
  generalize hh2 : h'.push { cls := .type "list", data := .seq (as.map Value.ref).toArray } = h2 at hob kb ⊢
  have eR : PySem.W.EachIs (fun v (b : Addr × Str × Int) => v = Value.ref b.1) (as.map Value.ref) (as.zip ks) := by
    refine PySem.W.EachIs.of_zip (by rw [List.length_map, List.length_zip]; omega) fun x hx => ?_
    obtain ⟨j, hj⟩ := List.mem_iff_getElem?.mp hx
    obtain ⟨h1, h2⟩ := List.getElem?_zip_eq_some.mp hj
    obtain ⟨h3, _⟩ := List.getElem?_zip_eq_some.mp h2
    rw [List.getElem?_map, h3] at h1
    exact (Option.some.inj h1).symm
  have mem : ∀ b ∈ as.zip ks, ∃ t u, h'.get? b.1 = some { cls := .type "tuple", data := .seq #[Value.str b.2.1 t, Value.int b.2.2 u] } := by
    intro b hb
    obtain ⟨j, hj⟩ := List.mem_iff_getElem?.mp hb
    obtain ⟨h1, h2⟩ := List.getElem?_zip_eq_some.mp hj
    obtain ⟨e, t, u, h3, h4⟩ := pr j _ h1
    rw [h2] at h3
    cases h3
    exact ⟨t, u, h4⟩
  refine PySem.W.list_sort_data (s := { s with heap := h2, toks := tk }) (bs := as.zip ks) (enc := fun b => entD b.2) (R := fun v (b : Addr × Str × Int) => v = Value.ref b.1) hob eR ((PySem.W.each_mem eR).mono fun v b hb => ?_) (PySem.W.AllAlike.of fun b b' => rfl) (PySem.W.Sortable.tuples fun b => ⟨_, _, rfl⟩) (by rw [List.length_zip]; omega) (fun b hb => ?_) fun out hl3 eo => ?_
  · obtain ⟨rfl, hb⟩ := hb
    obtain ⟨t, u, hg⟩ := mem b hb
    exact ⟨_, .tuple (kb _ _ hg) rfl rfl (.cons (.str _ _) (.cons (.int _ _) .nil)), fun e => nomatch e⟩
  · show X.A.units + 1 + 1 + 1 < cLine
    omega
  · -- behind the sort
    have kF : ∀ b o, b ≠ h'.objs.size → h2.get? b = some o → (sortedHeap h2 h'.objs.size (as.map Value.ref) out.toArray).get? b = some o := fun b o hb e => (PyProof.Rows.sortedHeap_old hb (Heap.lt_size e)).trans e
    have kS : ∀ b o, s.heap.get? b = some o → (sortedHeap h2 h'.objs.size (as.map Value.ref) out.toArray).get? b = some o := fun b o e => kF b o (ne0 _ _ (hk b o e)) (kb _ _ (hk b o e))
    obtain ⟨eF, heF⟩ := PyProof.Rows.sortedHeap_at (vs := as.map Value.ref) (out := out.toArray) hob
    have I1 : Inv X pins σ H { s with heap := sortedHeap h2 h'.objs.size (as.map Value.ref) out.toArray, toks := tk } := I.kept (t' := tk) kS
    have hn0 : H h'.objs.size = none := I.hok.fresh (Nat.le_of_lt hlt)
    have eo2 : out = ((as.zip ks).mergeSort (PySem.W.dataLe false fun b => entD b.2)).map fun z => Value.ref z.1 := by
      clear hl3 kF kS eF heF I1
      revert eo
      generalize (as.zip ks).mergeSort (PySem.W.dataLe false fun b => entD b.2) = zs
      intro eo
      induction eo with
      | nil => rfl
      | cons h _ ih => rw [h, ih]; rfl
    obtain ⟨zs, hzs⟩ : ∃ zs, zs = (as.zip ks).mergeSort (PySem.W.dataLe false fun b => entD b.2) := ⟨_, rfl⟩
    rw [← hzs] at eo2
    have pz : zs.Perm (as.zip ks) := by rw [hzs]; exact List.mergeSort_perm _ _
    have snd : zs.map (·.2) = ks.mergeSort (PySem.W.dataLe false entD) := by
      have e1 : PySem.W.EachIs (fun (x : Addr × Str × Int) (y : Str × Int) => x.2 = y) (as.zip ks) ks := by
        refine PySem.W.EachIs.of_zip (by rw [List.length_zip]; omega) fun x hx => ?_
        obtain ⟨j, hj⟩ := List.mem_iff_getElem?.mp hx
        obtain ⟨h1, h2⟩ := List.getElem?_zip_eq_some.mp hj
        obtain ⟨_, h3⟩ := List.getElem?_zip_eq_some.mp h1
        exact Option.some.inj (h3.symm.trans h2)
      have e2 := PySem.W.sort_each (r := PySem.W.dataLe false fun b : Addr × Str × Int => entD b.2) (s := PySem.W.dataLe false entD) e1 fun x hx y hy => by
        have a1 := e1.zip x hx
        have a2 := e1.zip y hy
        rw [PySem.W.dataLe_eq, PySem.W.dataLe_eq]
        show cond false _ _ = cond false _ _
        rw [a1, a2]
      rw [← hzs] at e2
      clear hzs pz eo2
      generalize ks.mergeSort (PySem.W.dataLe false entD) = ws at e2
      induction e2 with
      | nil => rfl
      | cons h _ ih => rw [List.map_cons, ih, h]
    have hlen : (zs.map fun z => V.ref z.1).length ≤ sizeLine := by
      have e := pz.length_eq
      rw [List.length_zip] at e
      rw [List.length_map]
      omega
    have rv : Vals (zs.map fun z => V.ref z.1) out := by
      rw [eo2]
      exact vals_maps (fun z : Addr × Str × Int => V.ref z.1) (fun z => Value.ref z.1) zs fun _ _ => rfl
    have I2 : Inv X pins σ (upd H h'.objs.size (.lst (zs.map fun z => V.ref z.1))) { s with heap := sortedHeap h2 h'.objs.size (as.map Value.ref) out.toArray, toks := tk } :=
      I1.take (h' := sortedHeap h2 h'.objs.size (as.map Value.ref) out.toArray) (t' := tk) (fun b ob _ e => e) (I.fpOk (Nat.le_of_lt hlt) hn0) ⟨hlen, out, eF, rv, heF⟩
    obtain ⟨H2, I3, g, qt⟩ := L2.DX.takeT (P := fun b vs => ∃ (j : Nat) (e : Str × Int), as[j]? = some b ∧ ks[j]? = some e ∧ vs = [.str e.1, .int e.2]) I as _ I2 nd fun b hb => by
      obtain ⟨j, hj⟩ := List.mem_iff_getElem?.mp hb
      obtain ⟨e, t, u, he, hg⟩ := pr j b hj
      have hbl : s.heap.objs.size ≤ b := Nat.le_of_lt (hG.above b hb)
      refine ⟨hbl, ?_, [.str e.1, .int e.2], ⟨j, e, hj, he, rfl⟩, fun H3 => ⟨(by rw [sizeLine_eq]; show 2 ≤ 16777216; omega), [Value.str e.1 t, Value.int e.2 u], .cons ⟨t, rfl⟩ (.cons ⟨u, rfl⟩ .nil), ⟨_, kF _ _ (ne0 _ _ hg) (kb _ _ hg), rfl, 0, rfl⟩⟩⟩
      rw [upd_ne (ne0 _ _ hg)]
      exact I.hok.fresh hbl
    have gr : ∀ b o, H b = some o → H2 b = some o := fun b o e => g b o (by rw [upd_ne (ne_of_none e hn0)]; exact e)
    refine ⟨.ref h'.objs.size, H2, I3, rfl, q H2 h'.objs.size zs gr hn0 (g _ _ upd_same) snd fun z' hz' => ?_⟩
    obtain ⟨i, hi⟩ := List.mem_iff_getElem?.mp (pz.mem_iff.mp hz')
    obtain ⟨i1, i2⟩ := List.getElem?_zip_eq_some.mp hi
    obtain ⟨vs, ⟨j, e, j1, j2, ev⟩, hH⟩ := qt z'.1 (List.mem_of_getElem? i1)
    have eij : i = j := (List.getElem?_inj (List.getElem?_eq_some_iff.mp i1).1 nd).mp (i1.trans j1.symm)
    subst eij
    have ee : e = z'.2 := Option.some.inj (j2.symm.trans i2)
    rw [ev, ee] at hH
    exact hH
/-! ### d.update(e) -/
def rUpdK : V → List V → Hp → VK → Prop := fun x xs H Q => ∃ (d e : Addr) (kvs more : List (Key × V)), x = .ref d ∧ xs = [.ref e] ∧ H d = some (.dK kvs) ∧ H e = some (.dK more) ∧ d ≠ e ∧ kvs.length + more.length ≤ sizeLine ∧ Q .non (upd H d (.dK (mergeK kvs more)))
theorem mt_updK : MtR X "dict.update" rUpdK := by
  intro pins s σ H x xs v us Q I rx rxs h
  obtain ⟨d, e, kvs, more, rfl, rfl, hd, he, ne, hz, q⟩ := h
  cases rx
  obtain rfl := Vals.ref1 rxs
  obtain ⟨z1, hs1, vs1, rel1, dd1⟩ := dk_of I.hok hd
  obtain ⟨z2, hs2, vs2, rel2, dd2⟩ := dk_of I.hok he
  refine call_meetsIn PySem.F.slot_dict_update dd1.typeIs PySem.F.entry_dict_update (PySem.F.args_dict_update_2 _ _) (meets_dict_update (mixKind X.prog X.w) d e ne hs2)
    ⟨vs1, vs2, dd1, dd2, by rw [← rel1.length, ← rel2.length]; exact hz, fun h' dd' _ hsb => ?_⟩
  have hlen : (mergeK kvs more).length ≤ sizeLine := Nat.le_trans (length_mergeK more kvs) (by omega)
  have dd'' := dd'
  obtain ⟨o, es, ep, ho, _⟩ := dd''
  exact ⟨.non, _, d_write (ob := .dK (mergeK kvs more)) (t' := s.toks) I (by rw [hd]; exact True.intro) hsb ⟨o, ho⟩ ⟨hlen, hs1, _, KV.merge rel2 rel1, dd'⟩, rfl, q⟩
end
end Mine

/-! ## Several except clauses, with names or without -/
namespace Mine
open PySem PySem.Spec PyProof.Rows L2
set_option linter.all false
abbrev Cls := Value × Option Nat × (Addr → Value → Option Addr → TS)
/-- the ends of a suite whose name goes behind it -/
def Ends.gone (D : Ends) (i : Nat) : Ends := { nx := fun σ' H' => D.nx (σ'.set i none) H', rt := D.rt, bk := fun σ' H' => D.bk (σ'.set i none) H', ct := fun σ' H' => D.ct (σ'.set i none) H' }
def wMA (K : PySem.W.Frag) (Wout : WX) (D : Ends) : List Cls → WX
  | [] => Wout
  | (c, none, ts) :: r => fun cls d σ H => ∃ b, PySem.W.exmOne K cls c = some b ∧ (b = true → ∀ a, H a = none → ts a cls d D σ H) ∧ (b = false → wMA K Wout D r cls d σ H)
  | (c, some i, ts) :: r => fun cls d σ H => ∃ b, PySem.W.exmOne K cls c = some b ∧ (b = true → ∀ a, H a = none → ts a cls d (Mine.Ends.gone D i) (σ.set i (some (.ref a))) H) ∧ (b = false → wMA K Wout D r cls d σ H)
inductive HdsA (X : Cx) : List ExceptHandler → List Cls → Prop
  | nil : HdsA X [] []
  | cons {x : Str} {c : Value} {ts : Addr → Value → Option Addr → TS} {b₀ : Stmt} {suite : List Stmt} {np pos' : Pos} {hds : List ExceptHandler} {l : List Cls} (hc : Names X x c)
      (hsu : ∀ (a : Addr) (oe : Obj) (cls : Value) (d : Option Addr) (pn : List (Addr × Obj)), Zc cls d oe → (∃ vs, oe.data = .fields vs) → PSs (X.suite a ((a, oe) :: pn)) (b₀ :: suite) (ts a cls d)) (r : HdsA X hds l) :
      HdsA X (.ExceptHandler (some (.Name x np)) none (b₀ :: suite) pos' :: hds) ((c, none, ts) :: l)
  | as {x n : Str} {i : Nat} {c : Value} {ts : Addr → Value → Option Addr → TS} {b₀ : Stmt} {suite : List Stmt} {np pos' : Pos} {hds : List ExceptHandler} {l : List Cls} (hN : X.N.Nodup) (hi : X.N[i]? = some n) (hln : X.env.kindOf n = some .local) (hc : Names X x c)
      (hsu : ∀ (a : Addr) (oe : Obj) (cls : Value) (d : Option Addr) (pn : List (Addr × Obj)), Zc cls d oe → (∃ vs, oe.data = .fields vs) → PSs (X.suite a ((a, oe) :: pn)) (b₀ :: suite) (ts a cls d)) (r : HdsA X hds l) :
      HdsA X (.ExceptHandler (some (.Name x np)) (some n) (b₀ :: suite) pos' :: hds) ((c, some i, ts) :: l)
section
variable {X : Cx} {K : PySem.W.Frag} {body : List Stmt} {h₀ : ExceptHandler} {hds : List ExceptHandler} {l : List Cls} {pos : Pos} {tb : WX → TS} {Wout : WX}
def tTryMA (K : PySem.W.Frag) (l : List Cls) (tb : WX → TS) (Wout : WX) : TS := fun D σ H => tb (wMA K Wout D l) D σ H
theorem ps_tryMA (stk : X.stack = X.env :: X.outer) (hf : X.env.frame = some X.env.locals) (tk : Takes X Wout) (ek : X.K = K)
    (hb : ∀ (W : WX) (pn : List (Addr × Obj)) (xe : Value → Shared → Prop), Takes (X.tr pn xe) W → PassesOwn (model X.prog X.w) X.A X.env xe → PSs (X.tr pn xe) body (tb W))
    (hh : HdsA X (h₀ :: hds) l) : PS X (.Try body (h₀ :: hds) [] [] pos) (tTryMA K l tb Wout) := by
  subst ek
  constructor
  intro pins s σ H D I begin_
  have ok := I.ok
  refine wpAny_Try_except ?_
  refine wpAny_mono ((hb (wMA X.K Wout D l) (X.pn ++ pins) (fun e s₁ => wpAny (model X.prog X.w) X.A (noteFrame e X.env) (fun _ s₂ => wpAny (model X.prog X.w) X.A (setFlight e none) (fun _ s₃ =>
    wpAny (model X.prog X.w) X.A (handleBy e X.env (h₀ :: hds)) (SP X pins D) X.xe s₃) X.xe s₂) X.xe s₁) (fun u s' caught => ?_) PassesOwn.looking).run [] s σ H D (I.toTry _) begin_) (fun f s1 ended => ?_) (fun e s1 he => he)
  · obtain ⟨a, B, sI, pins', τ, G, cls, d, rfl, J₁, nb, up, sky, na, os, ag, w⟩ := caught
    have J : Inv X pins τ G sI := J₁.ofTry ok
    have sky₁ : Sky B (X.env :: X.outer) a (Zc cls d) X.env.locals s'.heap := by rw [← stk]; exact sky
    show wpAny (model X.prog X.w) X.A (noteFrame (.ref a) X.env) _ _ _
    refine Sky.land Zc.steady (by rw [ok.frames, stk]) hf sky₁ fun h3 fl3 up3 => ?_
    have J3 : Inv X pins τ G { s' with heap := h3 } := J.landed nb fl3.1 (up.trans up3) os ag
    obtain ⟨oe3, vs3, he3, hz3, hd3⟩ := fl3.there
    have nfr : a ∉ frs (X.env :: X.outer) := fun hm => by
      obtain ⟨_, o', e', hnf⟩ := fl3.2.2.1.mem hm
      rw [he3] at e'
      cases e'
      exact hnf _ hd3
    have nL : a ≠ X.env.locals := fun z => nfr (List.mem_filterMap.mpr ⟨X.env, List.mem_cons_self, by rw [hf, z]⟩)
    have nF : a ∉ X.fs := fun hm => by
      obtain ⟨e, he, q⟩ := List.mem_filterMap.mp hm
      exact nfr (List.mem_filterMap.mpr ⟨e, List.mem_cons_of_mem _ he, q⟩)
    have S3 := J3.suite he3 hd3 na nL nF
    have asks : ∀ {x : Str} {c : Value} {np : Pos} {b : Bool}, Names X x c → PySem.W.exmOne X.K cls c = some b → ∀ {Q : Value → Shared → Prop} {E : Value → Shared → Prop}, Q c { s' with heap := h3 } → wpAny (model X.prog X.w) (X.A.mark (some (.ref a))) (eval (.Name x np) X.env) Q E { s' with heap := h3 } := fun {x c np b} hc _ {Q E} q => by
      obtain ⟨hg, hdbg, hm | ⟨hm, hv, hnn⟩⟩ := hc
      · exact ld_glob (X := X.suite a ((a, oe3) :: (X.pn ++ pins))) S3 hg hm q hdbg
      · exact ld_blt (X := X.suite a ((a, oe3) :: (X.pn ++ pins))) S3 hg hm hv q hnn hdbg
    have LT : PySem.W.Looks (model X.prog X.w) h3 (typeOf (.ref a)) cls := fun A Q E s k q => wpAny_typeOf_ref (k _ _ he3) (by rw [hz3.1]; exact q)
    have go : ∀ {hds' : List ExceptHandler} {l' : List Cls}, HdsA X hds' l' → wMA X.K Wout D l' cls d τ G → wpAny (model X.prog X.w) X.A (handleBy (.ref a) X.env hds') (SP X pins D) X.xe { s' with heap := h3 } := by
      intro hds' l' hk
      induction hk with
      | nil =>
        intro w
        refine wpAny_handleBy_nil ?_
        obtain ⟨k1, k2, k3, oe, vs, T, oT, ts', he, hz, hd, h1, hr⟩ := id fl3
        unfold PySem.passOn
        refine wpAny_bind (wpAny_field he hd h1 ?_)
        rw [if_neg (show ¬ ((Value.ref T == Value.none) = true) from by simp)]
        have fin : wpAny (model X.prog X.w) X.A (setFlight (.ref a) X.env.frame) (fun _ s4 => wpAny (model X.prog X.w) X.A (throw (.ref a) : Sem Flow) (SP X pins D) X.xe s4) X.xe { s' with heap := h3 } := by
          rw [hf]
          refine HandSPX.setFlight_upZ fl3 fun h4 hh4 up4 => wpAny_throw (tk _ _ ?_)
          exact ⟨a, B, sI, pins, τ, G, cls, d, rfl, J, nb, (up.trans up3).trans up4, .inr (.inr (by rw [stk]; exact hh4)), na, os, ag, w⟩
        first
          | exact wpAny_bind (wpAny_pure (wpAny_bind fin))
          | exact wpAny_bind fin
      | @cons x c ts b₀ suite np pos' hds2 l2 hc hsu r ih =>
        rintro ⟨b, hb1, hyes, hno⟩
        refine wpAny_handleBy_cons (codeAny_handlers_test ?_) (by intro q; cases q)
        refine asks hc hb1 ((PySem.W.exm_one (M := model X.prog X.w) (J3.kIn) LT hb1).here ?_)
        cases b with
        | true =>
          refine codeAny_handlers_suite ?_
          refine HandSPX.lands_againZ fl3 fun h4 fl4 up4 => ?_
          have J4 : Inv X pins τ G { s' with heap := h4 } := J.landed nb fl4.1 ((up.trans up3).trans up4) os ag
          obtain ⟨oe4, vs4, he4, hz4, hd4⟩ := fl4.there
          refine wpAny_mono ((hsu a oe4 cls d (X.pn ++ pins) hz4 ⟨_, hd4⟩).run [] _ _ G _ (J4.suite he4 hd4 na nL nF) (hyes rfl a na)) (fun f s6 q => ?_) (fun _ _ z => False.elim z)
          match f, q with
          | .next, ⟨_, _, S6, q6⟩ => exact ⟨_, _, S6.unsuite ok, q6⟩
          | .brk, ⟨_, _, S6, q6⟩ => exact ⟨_, _, S6.unsuite ok, q6⟩
          | .cont, ⟨_, _, S6, q6⟩ => exact ⟨_, _, S6.unsuite ok, q6⟩
          | .ret u, ⟨_, _, _, S6, r6, q6⟩ => exact ⟨_, _, _, S6.unsuite ok, r6, q6⟩
        | false =>
          show wpAny _ X.A (handleBy (.ref a) X.env hds2) _ _ _
          exact ih (hno rfl)
      | @as x n i c ts b₀ suite np pos' hds2 l2 hN hi hln hc hsu r ih =>
        rintro ⟨b, hb1, hyes, hno⟩
        refine wpAny_handleBy_cons (codeAny_handlers_test ?_) (by intro q; cases q)
        refine asks hc hb1 ((PySem.W.exm_one (M := model X.prog X.w) (J3.kIn) LT hb1).here ?_)
        cases b with
        | true =>
          refine codeAny_handlers_suite_as ?_
          refine HandSPX.lands_againZ fl3 fun h4 fl4 up4 => ?_
          have J4 : Inv X pins τ G { s' with heap := h4 } := J.landed nb fl4.1 ((up.trans up3).trans up4) os ag
          obtain ⟨oe4, vs4, he4, hz4, hd4⟩ := fl4.there
          refine store_ok (X := X.suite a ((a, oe4) :: (X.pn ++ pins))) (v := .ref a) (J4.suite he4 hd4 na nL nF) hN hi (.inl hln) rfl (fun s5 S5 => ?_) (.inr hln)
          refine wpAny_mono ((hsu a oe4 cls d (X.pn ++ pins) hz4 ⟨_, hd4⟩).run [] s5 _ G _ S5 (hyes rfl a na)) (fun f s6 q => ?_) (fun _ _ z => False.elim z)
          have end_ : ∀ {σ6 : St} {H6 : Hp} {Q : Shared → Prop}, Inv (X.suite a ((a, oe4) :: (X.pn ++ pins))) [] σ6 H6 s6 → (∀ s7, Inv X pins (σ6.set i none) H6 s7 → Q s7) →
              wpAny (model X.prog X.w) X.A (do bindName X.env n .none; unbindBehindTheSuite X.env n pos') (fun _ s7 => Q s7) X.xe s6 := fun {σ6 H6 Q} S6 hq => gone_ok (S6.unsuite ok) hN hi hln hq
          match f, q with
          | .next, ⟨_, _, S6, q6⟩ => exact end_ S6 fun s7 J7 => ⟨_, _, J7, q6⟩
          | .brk, ⟨_, _, S6, q6⟩ => exact end_ S6 fun s7 J7 => ⟨_, _, J7, q6⟩
          | .cont, ⟨_, _, S6, q6⟩ => exact end_ S6 fun s7 J7 => ⟨_, _, J7, q6⟩
          | .ret u, ⟨_, _, _, S6, r6, q6⟩ => exact end_ S6 fun s7 J7 => ⟨_, _, _, J7, r6, q6⟩
        | false =>
          show wpAny _ X.A (handleBy (.ref a) X.env hds2) _ _ _
          exact ih (hno rfl)
    exact go hh w
  · match f, ended with
    | .next, ⟨τ, G, J, q⟩ => exact wpAny_execs_nil ⟨τ, G, J.ofTry ok, q⟩
    | .brk, ⟨τ, G, J, q⟩ => exact ⟨τ, G, J.ofTry ok, q⟩
    | .cont, ⟨τ, G, J, q⟩ => exact ⟨τ, G, J.ofTry ok, q⟩
    | .ret u, ⟨v, τ, G, J, r, q⟩ => exact ⟨v, τ, G, J.ofTry ok, r, q⟩
end
section
variable {σ : St} {H : Hp} {D : Ends} {K : PySem.W.Frag} {Wout : WX} {tb : WX → TS} {ts : Addr → Value → Option Addr → TS} {cls c : Value} {d : Option Addr} {i : Nat} {l : List Cls}
theorem rd_tryMA (q : tb (wMA K Wout D l) D σ H) : tTryMA K l tb Wout D σ H := q
theorem rd_hitMA (e : PySem.W.exmOne K cls c = some true) (q : ∀ a, H a = none → ts a cls d D σ H) : wMA K Wout D ((c, none, ts) :: l) cls d σ H := ⟨true, e, fun _ => q, fun h => nomatch h⟩
theorem rd_missMA (e : PySem.W.exmOne K cls c = some false) (q : wMA K Wout D l cls d σ H) : wMA K Wout D ((c, none, ts) :: l) cls d σ H := ⟨false, e, (fun h => nomatch h), fun _ => q⟩
theorem rd_hitMN (e : PySem.W.exmOne K cls c = some true) (q : ∀ a, H a = none → ts a cls d (Mine.Ends.gone D i) (σ.set i (some (.ref a))) H) : wMA K Wout D ((c, some i, ts) :: l) cls d σ H := ⟨true, e, fun _ => q, fun h => nomatch h⟩
theorem rd_missMN (e : PySem.W.exmOne K cls c = some false) (q : wMA K Wout D l cls d σ H) : wMA K Wout D ((c, some i, ts) :: l) cls d σ H := ⟨false, e, (fun h => nomatch h), fun _ => q⟩
end
end Mine

/-! ## Defs with keyword-only parameters that have defaults -/
namespace Mine
open PySem PySem.Spec PyProof.Rows L2
set_option linter.all false
def DefAtD (K : PySem.W.Frag) (mg : Str → Option Value) (x : Str) (ps : List Str) (st : Stmt) (dvs : List V) : Prop :=
  ∃ (f : Addr) (fd : FuncData), Fun K x x st f fd ∧ mg x = some (.ref f) ∧ ∃ ds : List Value, Vals dvs ds ∧ Binds K fd ps ds
theorem DefAtD.mk {K : PySem.W.Frag} {mg : Str → Option Value} {x : Str} {ps : List Str} {st : Stmt} {f D : Addr} {oc : Value} {od an : Option Addr} {osl : Array (Option Value)} {doc pm cdv ct : Value} {kws : List (Str × V)}
    (l : K.lookup f = some ⟨oc, od, .func (PySem.W.fnOf x x (defArgs st) (defBody st) (defScope st) .none (.ref D) doc pm an cdv ct), osl⟩) (c : PySem.W.codeIn K cdv x = true) (k : PySem.W.keepIn K (.ref f) = true) (hm : mg x = some (.ref f))
    (n : Nat) (hk : kws ≠ []) (hn : n + kws.length = ps.length) (hq : ∀ q ∈ kws, ∃ u, PySem.W.nsIn K D q.1 = some (some u) ∧ RelV q.2 u)
    (b : ∀ (D : Addr) (doc pm : Value) (an : Option Addr) (cdv ct : Value) (us ks : List Value), us.length = n → ks.length = kws.length →
      KwChain D ((kws.map (·.1)).zip ks) (bindArgs (PySem.W.fnOf x x (defArgs st) (defBody st) (defScope st) .none (.ref D) doc pm an cdv ct) ⟨us, []⟩) (ps.zip (us ++ ks))) : DefAtD K mg x ps st (kws.map (·.2)) := by
  have F := fun_mk (st := st) l c k
  have FD : FunD K x x (defArgs st) (defBody st) (defScope st) [] kws f _ := ⟨⟨oc, od, .none, .ref D, doc, pm, an, cdv, ct, osl, rfl, l, c, .inl ⟨rfl, rfl⟩, .inr ⟨D, rfl, hq⟩⟩, k⟩
  exact ⟨f, _, F, hm, FD.binds0 (ps := ps) n hk hn b⟩
/-- a def with positional defaults -/
structure FunP (K : PySem.W.Frag) (x : Str) (st : Stmt) (f : Addr) (fd : FuncData) : Prop where
  ex : ∃ (oc : Value) (od : Option Addr) (dV kV doc pm : Value) (an : Option Addr) (cdv ct : Value) (osl : Array (Option Value)),
    fd = PySem.W.fnOf x x (defArgs st) (defBody st) (defScope st) dV kV doc pm an cdv ct ∧ K.lookup f = some ⟨oc, od, .func fd, osl⟩ ∧ PySem.W.codeIn K cdv x = true
  kp : PySem.W.keepIn K (.ref f) = true
theorem keepsP_of {CX : CXT} {P : Program} {w : World} {K : PySem.W.Frag} {mg : Str → Option Value} {base : Heap} {k : Nat} {x : Str} {st : Stmt} {f : Addr} {fd : FuncData} {N ps : List Str} {sp : Sp}
    (F : FunP K x st f fd) (S : FnScope N ps (defScope st)) (len : ∀ vs H Q E, sp vs H Q E → vs.length = ps.length)
    (body : ∀ (cdv : Value) (A : Around) (outer : List Env) (s : Shared) (H : Hp) (vs : List V) (Q : VK) (E : XK), Rm k (A.deeper (envOfC x (defScope st) s.heap.objs.size f cdv)) → sp vs H Q E →
      ∃ t, PSs (cxOf CX P w K mg base N x (defScope st) f cdv A outer s H E) (defBody st) t ∧ t { nx := fun _ H' => Q .non H', rt := Q } (start N vs) H) :
    Keeps P w K mg base CX (k + 1) f fd ps sp := by
  obtain ⟨_, _, dV, kV, doc, pm, an, cdv, ct, _, rfl, lk, hcd⟩ := F.ex
  exact keeps_core lk hcd S len body
def DefAtP (K : PySem.W.Frag) (mg : Str → Option Value) (x : Str) (ps : List Str) (st : Stmt) (dvs : List V) : Prop :=
  ∃ (f : Addr) (fd : FuncData), FunP K x st f fd ∧ mg x = some (.ref f) ∧ ∃ ds : List Value, Vals dvs ds ∧ Binds K fd ps ds
/-- one positional default -/
theorem DefAtP.mk {K : PySem.W.Frag} {mg : Str → Option Value} {x : Str} {ps : List Str} {st : Stmt} {f T : Addr} {oc : Value} {od an : Option Addr} {osl : Array (Option Value)} {kV doc pm cdv ct : Value} {dvs : List V} {its : List Value} {o : Obj} {n : Nat}
    (l : K.lookup f = some ⟨oc, od, .func (PySem.W.fnOf x x (defArgs st) (defBody st) (defScope st) (.ref T) kV doc pm an cdv ct), osl⟩) (c : PySem.W.codeIn K cdv x = true) (k : PySem.W.keepIn K (.ref f) = true) (hm : mg x = some (.ref f))
    (m : Nat) (hd : dvs ≠ []) (hn : m + dvs.length = ps.length) (lT : K.lookup T = some o) (oT : o.data = .seq its.toArray n) (rT : Vals dvs its)
    (b : ∀ (T : Addr) (kV doc pm : Value) (an : Option Addr) (cdv ct : Value) (us its : List Value), us.length = m → its.length = dvs.length →
      ∃ k, bindArgs (PySem.W.fnOf x x (defArgs st) (defBody st) (defScope st) (.ref T) kV doc pm an cdv ct) ⟨us, []⟩ = seqItems? (.ref T) >>= k ∧ k (some its.toArray) = pure (ps.zip (us ++ its.drop 0))) : DefAtP K mg x ps st dvs := by
  have FD : FunD K x x (defArgs st) (defBody st) (defScope st) dvs [] f (PySem.W.fnOf x x (defArgs st) (defBody st) (defScope st) (.ref T) kV doc pm an cdv ct) := ⟨⟨oc, od, .ref T, kV, doc, pm, an, cdv, ct, osl, rfl, l, c, .inr ⟨hd, T, o, its, n, rfl, lT, oT, rT⟩, .inl rfl⟩, k⟩
  exact ⟨f, _, ⟨⟨oc, od, .ref T, kV, doc, pm, an, cdv, ct, osl, rfl, l, c⟩, k⟩, hm, FD.binds1 (ps := ps) m 0 hd hn b⟩
def CalP (P : Program) (w : World) (K : PySem.W.Frag) (mg : Str → Option Value) (base : Heap) (CX : CXT) (k : Nat) (x : Str) (st : Stmt) (ps : List Str) (dvs : List V) (sp : Sp) : Prop :=
  ∃ (f : Addr) (fd : FuncData), FunP K x st f fd ∧ mg x = some (.ref f) ∧ (∃ ds : List Value, Vals dvs ds ∧ Binds K fd ps ds) ∧ Keeps P w K mg base CX k f fd ps sp
theorem calP {P : Program} {w : World} {K : PySem.W.Frag} {mg : Str → Option Value} {base : Heap} {CX : CXT} {k : Nat} {x : Str} {st : Stmt} {ps : List Str} {dvs : List V} {sp : Sp} (D : DefAtP K mg x ps st dvs)
    (h : ∀ {f : Addr} {fd : FuncData}, FunP K x st f fd → Keeps P w K mg base CX k f fd ps sp) : CalP P w K mg base CX k x st ps dvs sp := by
  obtain ⟨f, fd, F, hm, B⟩ := D
  exact ⟨f, fd, F, hm, B, h F⟩
/-- an empty tuple of the top -/
def EmpT (K : PySem.W.Frag) (A : Addr) : Prop := ∃ (o : Obj) (n : Nat), K.lookup A = some o ∧ o.cls = .type "tuple" ∧ o.data = .seq #[] n
theorem EmpT.sq {K : PySem.W.Frag} {H : Hp} {A : Addr} (h : EmpT K A) : SqT K H A [] := by
  obtain ⟨o, n, h1, h2, h3⟩ := h
  exact .inr ⟨o, #[], n, h1, h2, h3, Nat.zero_le _, .nil⟩
def CalD (P : Program) (w : World) (K : PySem.W.Frag) (mg : Str → Option Value) (base : Heap) (CX : CXT) (k : Nat) (x : Str) (st : Stmt) (ps : List Str) (dvs : List V) (sp : Sp) : Prop :=
  ∃ (f : Addr) (fd : FuncData), Fun K x x st f fd ∧ mg x = some (.ref f) ∧ (∃ ds : List Value, Vals dvs ds ∧ Binds K fd ps ds) ∧ Keeps P w K mg base CX k f fd ps sp
theorem calD {P : Program} {w : World} {K : PySem.W.Frag} {mg : Str → Option Value} {base : Heap} {CX : CXT} {k : Nat} {x : Str} {st : Stmt} {ps : List Str} {dvs : List V} {sp : Sp} (D : DefAtD K mg x ps st dvs)
    (h : ∀ {f : Addr} {fd : FuncData}, Fun K x x st f fd → Keeps P w K mg base CX k f fd ps sp) : CalD P w K mg base CX k x st ps dvs sp := by
  obtain ⟨f, fd, F, hm, B⟩ := D
  exact ⟨f, fd, F, hm, B, h F⟩
section
variable {X : Cx} {CX : CXT} {k : Nat} {ps : List Str} {dvs : List V} {sp : Sp} {E : St → XK} {x : Str} {st : Stmt} {p pos : Pos} {e : Expr} {es : List Expr} {t tk : TA} {kws : List Keyword}
def tCallSD (sp : Sp) (dvs : List V) (E : St → XK) (t : TA) : TE := fun σ H Q => t σ H fun vs H1 => sp (vs ++ dvs) H1 Q (E σ)
theorem pe_calSD (C : CalD X.prog X.w X.K X.mg X.base CX k x st ps dvs sp) (hr : Rm k X.A) (hg : Gl X x) (hx : ∀ σ, PassesAt CX X σ (E σ)) (ha : PA X (e :: es) t)
    (hdb : (x == ("__debug__" : Str)) = false := by decide) (he : starEach (e :: es) X.env = (false, eval e X.env) :: starEach es X.env := by rfl) (hpl : (backTo pos (starEach es X.env)).any (·.1) = false := by rfl) :
    PE X (.Call (.Name x p) (e :: es) [] pos) (tCallSD sp dvs E t) := by
  obtain ⟨f, fd, F, hm, ⟨ds, rd, B⟩, O⟩ := C
  constructor
  intro pins s σ H Q I h
  refine wpAny_Call_Name_kw (ld_glob I hg hm ?_ hdb)
  refine PySem.W.callWith_K (h₀ := X.base) I.ok.mod.kin F.kp (thn (ha.run pos pins s σ H _ I h) ?_) he hpl
  rintro us s1 ⟨vs, H1, I1, r, q⟩
  refine And.intro I1.kIn ?_
  have rv : Vals (vs ++ dvs) (us ++ ds) := r.append rd
  have hl : (us ++ ds).length = ps.length := by
    rw [← rv.length]
    exact O.1 _ _ _ _ q
  exact run_keepsS O hr (hx σ) I1 (B s1 us I1.kIn hl) rv q
theorem pe_calSP (C : CalP X.prog X.w X.K X.mg X.base CX k x st ps dvs sp) (hr : Rm k X.A) (hg : Gl X x) (hx : ∀ σ, PassesAt CX X σ (E σ)) (ha : PA X (e :: es) t)
    (hdb : (x == ("__debug__" : Str)) = false := by decide) (he : starEach (e :: es) X.env = (false, eval e X.env) :: starEach es X.env := by rfl) (hpl : (backTo pos (starEach es X.env)).any (·.1) = false := by rfl) :
    PE X (.Call (.Name x p) (e :: es) [] pos) (tCallSD sp dvs E t) := by
  obtain ⟨f, fd, F, hm, ⟨ds, rd, B⟩, O⟩ := C
  constructor
  intro pins s σ H Q I h
  refine wpAny_Call_Name_kw (ld_glob I hg hm ?_ hdb)
  refine PySem.W.callWith_K (h₀ := X.base) I.ok.mod.kin F.kp (thn (ha.run pos pins s σ H _ I h) ?_) he hpl
  rintro us s1 ⟨vs, H1, I1, r, q⟩
  refine And.intro I1.kIn ?_
  have rv : Vals (vs ++ dvs) (us ++ ds) := r.append rd
  have hl : (us ++ ds).length = ps.length := by
    rw [← rv.length]
    exact O.1 _ _ _ _ q
  exact run_keepsS O hr (hx σ) I1 (B s1 us I1.kIn hl) rv q
theorem pe_calKSD {n : Nat} {ks : List Str} {pm : List Nat} (C : CalD X.prog X.w X.K X.mg X.base CX k x st ps dvs sp) (hr : Rm k X.A) (hg : Gl X x) (hb : KwOk x st ps n ks pm) (hx : ∀ σ, PassesAt CX X σ (E σ))
    (ha : PA X (e :: es) t) (hkw : PK X kws tk) (hall : (backToKw pos (keywordEach kws X.env)).all (·.1.isSome) = true := by rfl) (hks : (backToKw pos (keywordEach kws X.env)).filterMap (·.1) = ks := by rfl)
    (hdb : (x == ("__debug__" : Str)) = false := by decide) (he : starEach (e :: es) X.env = (false, eval e X.env) :: starEach es X.env := by rfl)
    (hpl : ((backTo pos (starEach (e :: es) X.env)).any (·.1) || (backToKw pos (keywordEach kws X.env)).any (·.1.isNone)) = false := by rfl) :
    PE X (.Call (.Name x p) (e :: es) kws pos) (tCalKS n ks.length pm sp E t tk) := by
  obtain ⟨f, fd, F, hm, _, O⟩ := C
  constructor
  intro pins s σ H Q I h
  refine wpAny_Call_Name_kw (ld_glob I hg hm ?_ hdb)
  refine PySem.W.callWith_KW (h₀ := X.base) I.ok.mod.kin F.kp hall (thn (ha.run pos pins s σ H _ I h) ?_) hpl he
  rintro us s1 ⟨vs, H1, I1, r, q⟩
  refine thn (hkw.run pos pins s1 σ H1 _ I1 q) ?_
  rintro ws s2 ⟨zs, H2, I2, rz, l1, l2, q2⟩
  refine And.intro I2.kIn ?_
  rw [hks]
  exact run_keepsS O hr (hx σ) I2 (kw_binds F hb s2 (by have := Vals.length r; simpa [this] using l1) (by rw [← Vals.length rz]; exact l2)) (gK_rel r rz) q2
theorem pe_calK0SD {ks : List Str} {pm : List Nat} (C : CalD X.prog X.w X.K X.mg X.base CX k x st ps dvs sp) (hr : Rm k X.A) (hg : Gl X x) (hb : KwOk x st ps 0 ks pm) (hx : ∀ σ, PassesAt CX X σ (E σ))
    (hkw : PK X kws tk) (hall : (backToKw pos (keywordEach kws X.env)).all (·.1.isSome) = true := by rfl) (hks : (backToKw pos (keywordEach kws X.env)).filterMap (·.1) = ks := by rfl)
    (hdb : (x == ("__debug__" : Str)) = false := by decide)
    (hpl : ((backTo pos (starEach [] X.env)).any (·.1) || (backToKw pos (keywordEach kws X.env)).any (·.1.isNone)) = false := by rfl) :
    PE X (.Call (.Name x p) [] kws pos) (tCalKS 0 ks.length pm sp E tNil tk) := by
  obtain ⟨f, fd, F, hm, _, O⟩ := C
  constructor
  intro pins s σ H Q I h
  refine wpAny_Call_Name_kw (ld_glob I hg hm ?_ hdb)
  refine PySem.W.callWith_KW0 (h₀ := X.base) I.ok.mod.kin F.kp hall ?_ hpl
  have h' : tk σ H fun zs H2 => ([] : List V).length = 0 ∧ zs.length = ks.length ∧ sp (gK pm [] zs) H2 Q (E σ) := h
  refine thn (hkw.run pos pins s σ H _ I h') ?_
  rintro ws s2 ⟨zs, H2, I2, rz, l1, l2, q2⟩
  refine And.intro I2.kIn ?_
  rw [hks]
  exact run_keepsS (us := gK pm [] ws) O hr (hx σ) I2 (kw_binds F hb s2 (us := []) rfl (by rw [← Vals.length rz]; exact l2)) (gK_rel .nil rz) q2
theorem rd_callSD {σ : St} {H : Hp} {Q : VK} (q : t σ H fun vs H1 => sp (vs ++ dvs) H1 Q (E σ)) : tCallSD sp dvs E t σ H Q := q
end
end Mine

local macro_rules | `(tactic| walk_at "len") => `(tactic| first | assumption | (refine Mine.szOk ?_; first | decide +kernel | ((try simp only [Mine.len_app]); omega)))
local macro_rules | `(tactic| walk_at "sd") => `(tactic| first | assumption | rfl | exact L2.SqL.of (by assumption) | exact L2.SqT.of (by assumption) | exact L2.SqL.of L2.upd_same | exact L2.SqT.of L2.upd_same | exact L2.upd_same | decide | omega)
local macro_rules | `(tactic| walk_at "rd1") => `(tactic| with_reducible first
  | refine Mine.rd_var (by with_unfolding_all rfl) ?_ | refine Mine.rd_c ?_ | refine Mine.rd_op ?_ | refine Mine.rd_seq ?_ | refine Mine.rd_asg ?_ | refine Mine.rd_gname (by (simp only [L2.wipe, List.map, List.set]); first | done | exact rfl) ?_ | refine Mine.rd_wipe (by with_unfolding_all rfl) ?_ | refine Mine.rd_lcT1 ?_ | refine Mine.rd_dcT1 ?_ | refine Mine.rd_dctT1 ?_ | refine Mine.rd_lcET ?_ | refine Mine.rd_forET ?_ | refine Mine.rd_lcZT ?_ | refine Mine.rd_forES ?_ | refine Mine.rd_lcES ?_ | refine Mine.rd_lenSet ?_
  | refine Mine.rd_test ?_ | refine Mine.rd_tB ?_ | refine Mine.rd_bl ?_ | refine Mine.rd_ifS ?_ | refine Mine.rd_ifE ?_ | refine Mine.rd_and ?_ | refine Mine.rd_or ?_ | refine Mine.rd_not ?_
  | refine Mine.rd_andV ?_ | refine Mine.rd_orV ?_ | refine Mine.rd_notV ?_ | refine Mine.rd_cons ?_ | refine Mine.rd_nil ?_ | refine Mine.rd_call ?_ | refine Mine.rd_callK ?_ | refine Mine.rd_callS ?_ | refine Mine.rd_callSD ?_ | refine Mine.rd_callKS ?_ | refine Mine.rd_raise ?_ | refine Mine.rd_raiseS ?_ | refine Mine.rd_raised ?_ | refine Mine.rd_byS ?_ | refine Mine.rd_tryO ?_ | refine Mine.rd_tryM ?_ | refine Mine.rd_tryMA ?_ | refine Mine.rd_tryA ?_ | refine Mine.rd_sp1x ?_ | refine Mine.rd_sp2x ?_ | refine Mine.rd_sp3x ?_ | refine Mine.rd_sp4x ?_
  | refine Mine.rd_sp1 ?_ | refine Mine.rd_sp2 ?_ | refine Mine.rd_sp3 ?_ | refine Mine.rd_sp4 ?_ | refine Mine.rd_cb ?_ | refine Mine.rd_bm ?_ | refine Mine.rd_bm0 ?_ | refine Mine.rd_m1 ?_ | refine Mine.rd_m0 ?_
  | refine Mine.rd_sl ?_ | refine Mine.rd_noPart ?_ | refine Mine.rd_part ?_ | refine Mine.rd_int ?_ | refine Mine.rd_chain ?_ | refine Mine.rd_un ?_ | refine Mine.rd_yes ?_ | refine Mine.rd_revL ?_ | refine Mine.rd_star ?_ | refine Mine.rd_isB ?_ | refine Mine.rd_notB ?_ | refine Mine.rd_dput ?_ | refine Mine.rd_dnew ?_ | refine Mine.rd_forE ?_ | refine Mine.rd_forZ ?_ | refine Mine.rd_lcE ?_ | refine Mine.rd_lcZ ?_ | refine Mine.rd_forR ?_ | refine Mine.rd_forR2 ?_ | refine Mine.rd_lcR ?_ | refine Mine.rd_lcR2 ?_
  | refine Mine.rd_new (by with_unfolding_all rfl) ?_ | refine Mine.rd_lst ?_ | refine Mine.rd_tup ?_ | refine Mine.rd_next ?_ | refine Mine.rd_brk ?_ | refine Mine.rd_cont ?_ | refine Mine.rd_drop ?_ | refine Mine.rd_ret ?_ | refine Mine.rd_retN ?_
  | refine Mine.rd_par ?_ | refine Mine.rd_par2 (by (simp only [List.set]); first | done | exact rfl) ?_ | refine Mine.rd_gsub ?_ | refine Mine.rd_gcons ?_ | refine Mine.rd_gnil ?_ | refine Mine.rd_aug (by with_unfolding_all rfl) ?_ | refine Mine.rd_ipI ?_
  | refine Mine.rd_addI ?_ | refine Mine.rd_subI ?_ | refine Mine.rd_ltI ?_ | refine Mine.rd_leI ?_ | refine Mine.rd_gtI ?_ | refine Mine.rd_geI ?_ | refine Mine.rd_eqI ?_ | refine Mine.rd_eqS ?_ | refine Mine.rd_neI ?_ | refine Mine.rd_neS ?_
  | refine Mine.rd_ltS ?_ | refine Mine.rd_leS ?_ | refine Mine.rd_gtS ?_ | refine Mine.rd_geS ?_ | refine Mine.rd_eqB ?_ | refine Mine.rd_neB ?_
  | refine Mine.rd_ixLU (by with_unfolding_all rfl) ?_ | refine Mine.rd_ixTU (by with_unfolding_all rfl) ?_ | refine Mine.rd_ixL (L2.SqL.of (by assumption)) (by with_unfolding_all rfl) ?_ | refine Mine.rd_ixT (L2.SqT.of (by assumption)) (by with_unfolding_all rfl) ?_ | refine Mine.rd_setLU (by with_unfolding_all rfl) ?_ | refine Mine.rd_setL (by assumption) (by with_unfolding_all rfl) ?_
  | refine Mine.rd_yT ?_ | refine Mine.rd_nF ?_ | refine Mine.rd_nT ?_ | refine Mine.rd_yF ?_ | refine Mine.rd_isiS ?_ | refine Mine.rd_isiSN ?_ | refine Mine.rd_isiSI ?_ | refine Mine.rd_isiSB ?_ | refine Mine.rd_isiI ?_ | refine Mine.rd_isiIB ?_ | refine Mine.rd_isiIN ?_ | refine Mine.rd_isiIS ?_ | refine Mine.rd_isiB ?_ | refine Mine.rd_isiBI ?_
  | refine Mine.rd_mulS (by first | decide +kernel | omega) (by first | decide | omega) (by first | decide | omega) ?_ | refine Mine.rd_slS (by walk_at "len") ?_ | refine Mine.rd_addS (by walk_at "len") ?_ | refine Mine.rd_lenS (by walk_at "len") ?_
  | refine Mine.rd_inS ?_ | refine Mine.rd_notInS ?_ | refine Mine.rd_is ?_ | refine Mine.rd_isNot ?_ | refine Mine.rd_intI ?_ | refine Mine.rd_intB ?_ | refine Mine.rd_max ?_ | refine Mine.rd_min ?_ | refine Mine.rd_tyS ?_ | refine Mine.rd_isS ?_)
local macro_rules | `(tactic| walk_at "rd") => `(tactic| repeat walk_at "rd1")

namespace Mine
open PySem PySem.Spec PyProof.Rows L2
open TL (tl)
def top (i : Nat) : Stmt := PySem.Challenge.pw_wireshell_k20_nodes_that_are_made_and_ta.main.body.getD i (.Pass ⟨0, 0, 0, 0⟩)
abbrev s_TooLarge___init__ : Stmt := inClass (top 2) 0
abbrev s_NotRoom___init__ : Stmt := inClass (top 8) 0
abbrev s_NoEntry___init__ : Stmt := inClass (top 9) 0
abbrev s_NotPlain___init__ : Stmt := inClass (top 10) 0
abbrev s_Exists___init__ : Stmt := inClass (top 11) 0
abbrev s_TooManySigns___init__ : Stmt := inClass (top 12) 0
abbrev s_is_whole : Stmt := top 26
abbrev s_is_plain : Stmt := top 27
abbrev s_is_text : Stmt := top 28
abbrev s_is_entry_name : Stmt := top 29
abbrev s_is_a_path : Stmt := top 30
abbrev s_are_entries : Stmt := top 31
abbrev s_is_node : Stmt := top 32
abbrev s_hangs_together : Stmt := top 33
abbrev s_is_a_store : Stmt := top 34
abbrev s_is_room : Stmt := top 35
abbrev s_need_store : Stmt := top 36
abbrev s_need_room : Stmt := top 37
abbrev s_need_path : Stmt := top 38
abbrev s_words_of : Stmt := top 39
abbrev s_last_index : Stmt := top 40
abbrev s_start_of : Stmt := top 41
abbrev s_parent_of : Stmt := top 42
abbrev s_entry_of : Stmt := top 43
abbrev s_steps_of : Stmt := top 44
abbrev s_gone : Stmt := top 45
abbrev s_has_plain_end : Stmt := top 46
abbrev s_place_of : Stmt := top 47
abbrev s_entry_at : Stmt := top 48
abbrev s_with_node : Stmt := top 49
abbrev s_with_entry : Stmt := top 50
abbrev s_let_go : Stmt := top 51
abbrev s_free_number : Stmt := top 52
abbrev s_made : Stmt := top 53
abbrev s_removed : Stmt := top 54
abbrev s_need_three : Stmt := top 56
abbrev s_make : Stmt := top 57
abbrev s_remove : Stmt := top 58
abbrev s_law_deck : Stmt := top 60
abbrev s_law_draw : Stmt := top 61
abbrev s_law_one_of : Stmt := top 62
abbrev s_law_mixed : Stmt := top 63
abbrev s_law_name : Stmt := top 64
abbrev s_law_path : Stmt := top 65
abbrev s_law_text : Stmt := top 66
abbrev s_law_places : Stmt := top 67
abbrev s_law_store : Stmt := top 68
abbrev s_law_rooms : Stmt := top 69
abbrev s_law_is_room : Stmt := top 70
abbrev s_law_words : Stmt := top 71
abbrev s_law_above : Stmt := top 72
abbrev s_law_walk : Stmt := top 73
abbrev s_law_place : Stmt := top 74
abbrev s_law_entry : Stmt := top 75
abbrev s_law_with : Stmt := top 76
abbrev s_law_tidy : Stmt := top 77
abbrev s_law_made : Stmt := top 78
abbrev s_law_removed : Stmt := top 79
abbrev s_law_got : Stmt := top 80
abbrev s_law_crowd : Stmt := top 81
abbrev s_law_right : Stmt := top 82
abbrev s_law : Stmt := top 83
theorem sc_is_whole : FnScope ["value"] ["value"] (defScope s_is_whole) := ⟨rfl, rfl, rfl, by decide +kernel, rfl, by decide +kernel, by decide +kernel⟩
theorem sc_is_plain : FnScope ["text", "sign"] ["text"] (defScope s_is_plain) := ⟨rfl, rfl, rfl, by decide +kernel, rfl, by decide +kernel, by decide +kernel⟩
theorem sc_is_text : FnScope ["value"] ["value"] (defScope s_is_text) := ⟨rfl, rfl, rfl, by decide +kernel, rfl, by decide +kernel, by decide +kernel⟩
theorem sc_is_entry_name : FnScope ["value", "sign"] ["value"] (defScope s_is_entry_name) := ⟨rfl, rfl, rfl, by decide +kernel, rfl, by decide +kernel, by decide +kernel⟩
theorem sc_is_a_path : FnScope ["value", "rest", "word"] ["value"] (defScope s_is_a_path) := ⟨rfl, rfl, rfl, by decide +kernel, rfl, by decide +kernel, by decide +kernel⟩
theorem sc_are_entries : FnScope ["value", "many", "entry", "names", "one", "other"] ["value", "many"] (defScope s_are_entries) := ⟨rfl, rfl, rfl, by decide +kernel, rfl, by decide +kernel, by decide +kernel⟩
theorem sc_is_node : FnScope ["value", "many"] ["value", "many"] (defScope s_is_node) := ⟨rfl, rfl, rfl, by decide +kernel, rfl, by decide +kernel, by decide +kernel⟩
theorem sc_hangs_together : FnScope ["store", "found", "waiting", "name", "number", "node"] ["store"] (defScope s_hangs_together) := ⟨rfl, rfl, rfl, by decide +kernel, rfl, by decide +kernel, by decide +kernel⟩
theorem sc_is_a_store : FnScope ["value", "node"] ["value"] (defScope s_is_a_store) := ⟨rfl, rfl, rfl, by decide +kernel, rfl, by decide +kernel, by decide +kernel⟩
theorem sc_is_room : FnScope ["store", "number"] ["store", "number"] (defScope s_is_room) := ⟨rfl, rfl, rfl, by decide +kernel, rfl, by decide +kernel, by decide +kernel⟩
theorem sc_need_store : FnScope ["store"] ["store"] (defScope s_need_store) := ⟨rfl, rfl, rfl, by decide +kernel, rfl, by decide +kernel, by decide +kernel⟩
theorem sc_need_room : FnScope ["store", "here"] ["store", "here"] (defScope s_need_room) := ⟨rfl, rfl, rfl, by decide +kernel, rfl, by decide +kernel, by decide +kernel⟩
theorem sc_need_path : FnScope ["path"] ["path"] (defScope s_need_path) := ⟨rfl, rfl, rfl, by decide +kernel, rfl, by decide +kernel, by decide +kernel⟩
theorem sc_words_of : FnScope ["path", "word"] ["path"] (defScope s_words_of) := ⟨rfl, rfl, rfl, by decide +kernel, rfl, by decide +kernel, by decide +kernel⟩
theorem sc_last_index : FnScope ["path"] ["path"] (defScope s_last_index) := ⟨rfl, rfl, rfl, by decide +kernel, rfl, by decide +kernel, by decide +kernel⟩
theorem sc_start_of : FnScope ["here", "path"] ["here", "path"] (defScope s_start_of) := ⟨rfl, rfl, rfl, by decide +kernel, rfl, by decide +kernel, by decide +kernel⟩
theorem sc_parent_of : FnScope ["store", "number", "at", "node", "name", "other"] ["store", "number"] (defScope s_parent_of) := ⟨rfl, rfl, rfl, by decide +kernel, rfl, by decide +kernel, by decide +kernel⟩
theorem sc_entry_of : FnScope ["store", "room", "name"] ["store", "room", "name"] (defScope s_entry_of) := ⟨rfl, rfl, rfl, by decide +kernel, rfl, by decide +kernel, by decide +kernel⟩
theorem sc_steps_of : FnScope ["words", "follows", "index", "word"] ["words", "follows"] (defScope s_steps_of) := ⟨rfl, rfl, rfl, by decide +kernel, rfl, by decide +kernel, by decide +kernel⟩
theorem sc_gone : FnScope ["store", "at", "steps", "waiting", "signs", "word", "index", "is_followed", "number", "inner", "one"] ["store", "at", "steps"] (defScope s_gone) := ⟨rfl, rfl, rfl, by decide +kernel, rfl, by decide +kernel, by decide +kernel⟩
theorem sc_has_plain_end : FnScope ["path", "words"] ["path"] (defScope s_has_plain_end) := ⟨rfl, rfl, rfl, by decide +kernel, rfl, by decide +kernel, by decide +kernel⟩
theorem sc_place_of : FnScope ["store", "here", "path", "words", "room"] ["store", "here", "path"] (defScope s_place_of) := ⟨rfl, rfl, rfl, by decide +kernel, rfl, by decide +kernel, by decide +kernel⟩
theorem sc_entry_at : FnScope ["store", "here", "path", "room", "name", "number"] ["store", "here", "path"] (defScope s_entry_at) := ⟨rfl, rfl, rfl, by decide +kernel, rfl, by decide +kernel, by decide +kernel⟩
theorem sc_with_node : FnScope ["store", "number", "node"] ["store", "number", "node"] (defScope s_with_node) := ⟨rfl, rfl, rfl, by decide +kernel, rfl, by decide +kernel, by decide +kernel⟩
theorem sc_with_entry : FnScope ["store", "room", "name", "number", "entries"] ["store", "room", "name", "number"] (defScope s_with_entry) := ⟨rfl, rfl, rfl, by decide +kernel, rfl, by decide +kernel, by decide +kernel⟩
theorem sc_let_go : FnScope ["store", "kept", "node", "nodes", "name", "number"] ["store"] (defScope s_let_go) := ⟨rfl, rfl, rfl, by decide +kernel, rfl, by decide +kernel, by decide +kernel⟩
theorem sc_free_number : FnScope ["store", "taken", "number"] ["store", "taken"] (defScope s_free_number) := ⟨rfl, rfl, rfl, by decide +kernel, rfl, by decide +kernel, by decide +kernel⟩
theorem sc_made : FnScope ["store", "here", "path", "node", "taken", "room", "name", "number", "longer"] ["store", "here", "path", "node", "taken"] (defScope s_made) := ⟨rfl, rfl, rfl, by decide +kernel, rfl, by decide +kernel, by decide +kernel⟩
theorem sc_removed : FnScope ["store", "here", "path", "room", "name", "number"] ["store", "here", "path"] (defScope s_removed) := ⟨rfl, rfl, rfl, by decide +kernel, rfl, by decide +kernel, by decide +kernel⟩
theorem sc_need_three : FnScope ["store", "here", "path"] ["store", "here", "path"] (defScope s_need_three) := ⟨rfl, rfl, rfl, by decide +kernel, rfl, by decide +kernel, by decide +kernel⟩
theorem sc_make : FnScope ["store", "here", "path", "node"] ["store", "here", "path", "node"] (defScope s_make) := ⟨rfl, rfl, rfl, by decide +kernel, rfl, by decide +kernel, by decide +kernel⟩
theorem sc_remove : FnScope ["store", "here", "path"] ["store", "here", "path"] (defScope s_remove) := ⟨rfl, rfl, rfl, by decide +kernel, rfl, by decide +kernel, by decide +kernel⟩
theorem sc_law_deck : FnScope ["script", "k", "cell", "mixed", "number"] ["script", "k"] (defScope s_law_deck) := ⟨rfl, rfl, rfl, by decide +kernel, rfl, by decide +kernel, by decide +kernel⟩
theorem sc_law_draw : FnScope ["deck", "many", "found", "mixed"] ["deck", "many"] (defScope s_law_draw) := ⟨rfl, rfl, rfl, by decide +kernel, rfl, by decide +kernel, by decide +kernel⟩
theorem sc_law_one_of : FnScope ["deck", "items"] ["deck", "items"] (defScope s_law_one_of) := ⟨rfl, rfl, rfl, by decide +kernel, rfl, by decide +kernel, by decide +kernel⟩
theorem sc_law_mixed : FnScope ["deck", "items", "left", "found", "turn"] ["deck", "items"] (defScope s_law_mixed) := ⟨rfl, rfl, rfl, by decide +kernel, rfl, by decide +kernel, by decide +kernel⟩
theorem sc_law_name : FnScope ["deck"] ["deck"] (defScope s_law_name) := ⟨rfl, rfl, rfl, by decide +kernel, rfl, by decide +kernel, by decide +kernel⟩
theorem sc_law_path : FnScope ["deck", "most", "words", "turn"] ["deck", "most"] (defScope s_law_path) := ⟨rfl, rfl, rfl, by decide +kernel, rfl, by decide +kernel, by decide +kernel⟩
theorem sc_law_text : FnScope ["deck"] ["deck"] (defScope s_law_text) := ⟨rfl, rfl, rfl, by decide +kernel, rfl, by decide +kernel, by decide +kernel⟩
theorem sc_law_places : FnScope ["deck", "many", "last"] ["deck", "many"] (defScope s_law_places) := ⟨rfl, rfl, rfl, by decide +kernel, rfl, by decide +kernel, by decide +kernel⟩
theorem sc_law_store : FnScope ["deck", "most", "many", "numbers", "nodes", "rooms", "entries", "others", "number", "room", "free", "name", "way", "turn"] ["deck", "most"] (defScope s_law_store) := ⟨rfl, rfl, rfl, by decide +kernel, rfl, by decide +kernel, by decide +kernel⟩
theorem sc_law_rooms : FnScope ["store", "number"] ["store"] (defScope s_law_rooms) := ⟨rfl, rfl, rfl, by decide +kernel, rfl, by decide +kernel, by decide +kernel⟩
theorem sc_law_is_room : FnScope ["store", "number"] ["store", "number"] (defScope s_law_is_room) := ⟨rfl, rfl, rfl, by decide +kernel, rfl, by decide +kernel, by decide +kernel⟩
theorem sc_law_words : FnScope ["path", "word"] ["path"] (defScope s_law_words) := ⟨rfl, rfl, rfl, by decide +kernel, rfl, by decide +kernel, by decide +kernel⟩
theorem sc_law_above : FnScope ["store", "room", "number", "name", "other"] ["store", "room"] (defScope s_law_above) := ⟨rfl, rfl, rfl, by decide +kernel, rfl, by decide +kernel, by decide +kernel⟩
theorem sc_law_walk : FnScope ["store", "here", "path", "follow", "at", "words", "waiting", "signs", "word", "index", "is_followed", "found", "inner", "name", "number", "own"] ["store", "here", "path", "follow"] (defScope s_law_walk) := ⟨rfl, rfl, rfl, by decide +kernel, rfl, by decide +kernel, by decide +kernel⟩
theorem sc_law_place : FnScope ["store", "here", "path", "words", "last", "ahead"] ["store", "here", "path"] (defScope s_law_place) := ⟨rfl, rfl, rfl, by decide +kernel, rfl, by decide +kernel, by decide +kernel⟩
theorem sc_law_entry : FnScope ["store", "room", "name", "found", "own", "number"] ["store", "room", "name"] (defScope s_law_entry) := ⟨rfl, rfl, rfl, by decide +kernel, rfl, by decide +kernel, by decide +kernel⟩
theorem sc_law_with : FnScope ["store", "room", "name", "number", "entries", "entry"] ["store", "room", "name", "number"] (defScope s_law_with) := ⟨rfl, rfl, rfl, by decide +kernel, rfl, by decide +kernel, by decide +kernel⟩
theorem sc_law_tidy : FnScope ["store", "kept", "node", "nodes", "name", "number"] ["store"] (defScope s_law_tidy) := ⟨rfl, rfl, rfl, by decide +kernel, rfl, by decide +kernel, by decide +kernel⟩
theorem sc_law_made : FnScope ["store", "here", "path", "node", "told", "free", "longer", "number"] ["store", "here", "path", "node"] (defScope s_law_made) := ⟨rfl, rfl, rfl, by decide +kernel, rfl, by decide +kernel, by decide +kernel⟩
theorem sc_law_removed : FnScope ["store", "here", "path", "told", "number"] ["store", "here", "path"] (defScope s_law_removed) := ⟨rfl, rfl, rfl, by decide +kernel, rfl, by decide +kernel, by decide +kernel⟩
theorem sc_law_got : FnScope ["store", "word", "here", "path", "node", "named", "e"] ["store", "word", "here", "path", "node", "named"] (defScope s_law_got) := ⟨rfl, rfl, rfl, by decide +kernel, rfl, by decide +kernel, by decide +kernel⟩
theorem sc_law_crowd : FnScope ["deck", "many", "entries", "number"] ["deck"] (defScope s_law_crowd) := ⟨rfl, rfl, rfl, by decide +kernel, rfl, by decide +kernel, by decide +kernel⟩
theorem sc_law_right : FnScope ["deck", "store", "turn", "word", "here", "path", "node", "due", "text", "named"] ["deck"] (defScope s_law_right) := ⟨rfl, rfl, rfl, by decide +kernel, rfl, by decide +kernel, by decide +kernel⟩
theorem sc_law : FnScope ["script", "k"] ["script"] (defScope s_law) := ⟨rfl, rfl, rfl, by decide +kernel, rfl, by decide +kernel, by decide +kernel⟩
/-- what the top has left -/
structure Txt (P : Program) (K : PySem.W.Frag) (mg : Str → Option Value) : Prop where
  c_FILE : GK mg "FILE" (.str "file")
  c_ROOM : GK mg "ROOM" (.str "room")
  c_SIGN : GK mg "SIGN" (.str "sign")
  c_HERE : GK mg "HERE" (.str ".")
  c_ABOVE : GK mg "ABOVE" (.str "..")
  c_ROOT : GK mg "ROOT" (.str "/")
  c_MOST_NODES : GK mg "MOST_NODES" (.int 60)
  c_MOST_TEXT : GK mg "MOST_TEXT" (.int 400)
  c_MOST_PATH : GK mg "MOST_PATH" (.int 100)
  c_MOST_NAME : GK mg "MOST_NAME" (.int 12)
  c_MOST_SIGNS : GK mg "MOST_SIGNS" (.int 20)
  c_NAME_SIGNS : GK mg "NAME_SIGNS" (.str "abcdefghijklmnopqrstuvwxyz0123456789.-_")
  d_is_whole : DefAt K mg "is_whole" ["value"] s_is_whole
  d_is_plain : DefAt K mg "is_plain" ["text"] s_is_plain
  d_is_text : DefAt K mg "is_text" ["value"] s_is_text
  d_is_entry_name : DefAt K mg "is_entry_name" ["value"] s_is_entry_name
  d_is_a_path : DefAt K mg "is_a_path" ["value"] s_is_a_path
  d_are_entries : DefAt K mg "are_entries" ["value", "many"] s_are_entries
  d_is_node : DefAt K mg "is_node" ["value", "many"] s_is_node
  d_hangs_together : DefAt K mg "hangs_together" ["store"] s_hangs_together
  d_is_a_store : DefAt K mg "is_a_store" ["value"] s_is_a_store
  d_is_room : DefAt K mg "is_room" ["store", "number"] s_is_room
  d_need_store : DefAt K mg "need_store" ["store"] s_need_store
  d_need_room : DefAt K mg "need_room" ["store", "here"] s_need_room
  d_need_path : DefAt K mg "need_path" ["path"] s_need_path
  d_words_of : DefAt K mg "words_of" ["path"] s_words_of
  d_last_index : DefAt K mg "last_index" ["path"] s_last_index
  d_start_of : DefAt K mg "start_of" ["here", "path"] s_start_of
  d_parent_of : DefAt K mg "parent_of" ["store", "number"] s_parent_of
  d_entry_of : DefAt K mg "entry_of" ["store", "room", "name"] s_entry_of
  d_steps_of : DefAt K mg "steps_of" ["words", "follows"] s_steps_of
  d_gone : DefAt K mg "gone" ["store", "at", "steps"] s_gone
  d_has_plain_end : DefAt K mg "has_plain_end" ["path"] s_has_plain_end
  d_place_of : DefAt K mg "place_of" ["store", "here", "path"] s_place_of
  d_entry_at : DefAt K mg "entry_at" ["store", "here", "path"] s_entry_at
  d_with_node : DefAt K mg "with_node" ["store", "number", "node"] s_with_node
  d_with_entry : DefAt K mg "with_entry" ["store", "room", "name", "number"] s_with_entry
  d_let_go : DefAt K mg "let_go" ["store"] s_let_go
  d_free_number : DefAt K mg "free_number" ["store", "taken"] s_free_number
  d_made : ∃ A, EmpT K A ∧ DefAtP K mg "made" ["store", "here", "path", "node", "taken"] s_made [.ref A]
  d_removed : DefAt K mg "removed" ["store", "here", "path"] s_removed
  d_need_three : DefAt K mg "need_three" ["store", "here", "path"] s_need_three
  d_make : DefAt K mg "make" ["store", "here", "path", "node"] s_make
  d_remove : DefAt K mg "remove" ["store", "here", "path"] s_remove
  d_law_deck : DefAt K mg "_law_deck" ["script", "k"] s_law_deck
  d_law_draw : DefAt K mg "_law_draw" ["deck", "many"] s_law_draw
  d_law_one_of : DefAt K mg "_law_one_of" ["deck", "items"] s_law_one_of
  d_law_mixed : DefAt K mg "_law_mixed" ["deck", "items"] s_law_mixed
  d_law_name : DefAt K mg "_law_name" ["deck"] s_law_name
  d_law_path : DefAt K mg "_law_path" ["deck", "most"] s_law_path
  d_law_text : DefAt K mg "_law_text" ["deck"] s_law_text
  d_law_places : DefAt K mg "_law_places" ["deck", "many"] s_law_places
  d_law_store : DefAt K mg "_law_store" ["deck", "most"] s_law_store
  d_law_rooms : DefAt K mg "_law_rooms" ["store"] s_law_rooms
  d_law_is_room : DefAt K mg "_law_is_room" ["store", "number"] s_law_is_room
  d_law_words : DefAt K mg "_law_words" ["path"] s_law_words
  d_law_above : DefAt K mg "_law_above" ["store", "room"] s_law_above
  d_law_walk : DefAt K mg "_law_walk" ["store", "here", "path", "follow"] s_law_walk
  d_law_place : DefAt K mg "_law_place" ["store", "here", "path"] s_law_place
  d_law_entry : DefAt K mg "_law_entry" ["store", "room", "name"] s_law_entry
  d_law_with : DefAt K mg "_law_with" ["store", "room", "name", "number"] s_law_with
  d_law_tidy : DefAt K mg "_law_tidy" ["store"] s_law_tidy
  d_law_made : DefAt K mg "_law_made" ["store", "here", "path", "node"] s_law_made
  d_law_removed : DefAt K mg "_law_removed" ["store", "here", "path"] s_law_removed
  d_law_got : DefAt K mg "_law_got" ["store", "word", "here", "path", "node", "named"] s_law_got
  d_law_crowd : DefAt K mg "_law_crowd" ["deck"] s_law_crowd
  d_law_right : DefAt K mg "_law_right" ["deck"] s_law_right
  d_law : DefAt K mg "law" ["script"] s_law
  b_all : mg "all" = none
  b_bool : mg "bool" = none
  b_dict : mg "dict" = none
  b_enumerate : mg "enumerate" = none
  b_int : mg "int" = none
  b_isinstance : mg "isinstance" = none
  b_len : mg "len" = none
  b_list : mg "list" = none
  b_max : mg "max" = none
  b_min : mg "min" = none
  b_range : mg "range" = none
  b_repr : mg "repr" = none
  b_sorted : mg "sorted" = none
  b_str : mg "str" = none
  b_tuple : mg "tuple" = none
  b_zip : mg "zip" = none
  e_InvalidStore : ∃ C, ExcF K mg "InvalidStore" C
  e_InvalidRoom : ∃ C, ExcF K mg "InvalidRoom" C
  e_InvalidPath : ∃ C, ExcF K mg "InvalidPath" C
  e_NotRoom : ∃ C F, PySem.SupX.SupTxt P K mg "NotRoom" "index" C F
  e_NoEntry : ∃ C F, PySem.SupX.SupTxt P K mg "NoEntry" "index" C F
  e_TooManySigns : ∃ C F, PySem.SupX.SupTxt P K mg "TooManySigns" "limit" C F
  e_NotPlain : ∃ C F, PySem.SupX.SupTxt P K mg "NotPlain" "index" C F
  e_TooLarge : ∃ C F, PySem.SupX.SupTxt P K mg "TooLarge" "limit" C F
  e_Exists : ∃ C F, PySem.SupX.SupTxt P K mg "Exists" "index" C F
  e_NotEmpty : ∃ C, ExcF K mg "NotEmpty" C
  e_InvalidNode : ∃ C, ExcF K mg "InvalidNode" C
  m_InvalidStore_NotRoom : ∀ C D, mg "InvalidStore" = some (.ref C) → mg "NotRoom" = some (.ref D) → PySem.W.subIn K (.ref C) (.ref D) = some false
  m_InvalidStore_NoEntry : ∀ C D, mg "InvalidStore" = some (.ref C) → mg "NoEntry" = some (.ref D) → PySem.W.subIn K (.ref C) (.ref D) = some false
  m_InvalidStore_NotPlain : ∀ C D, mg "InvalidStore" = some (.ref C) → mg "NotPlain" = some (.ref D) → PySem.W.subIn K (.ref C) (.ref D) = some false
  m_InvalidStore_Exists : ∀ C D, mg "InvalidStore" = some (.ref C) → mg "Exists" = some (.ref D) → PySem.W.subIn K (.ref C) (.ref D) = some false
  m_InvalidStore_NotEmpty : ∀ C D, mg "InvalidStore" = some (.ref C) → mg "NotEmpty" = some (.ref D) → PySem.W.subIn K (.ref C) (.ref D) = some false
  m_InvalidStore_TooManySigns : ∀ C D, mg "InvalidStore" = some (.ref C) → mg "TooManySigns" = some (.ref D) → PySem.W.subIn K (.ref C) (.ref D) = some false
  m_InvalidStore_TooLarge : ∀ C D, mg "InvalidStore" = some (.ref C) → mg "TooLarge" = some (.ref D) → PySem.W.subIn K (.ref C) (.ref D) = some false
  m_InvalidRoom_NotRoom : ∀ C D, mg "InvalidRoom" = some (.ref C) → mg "NotRoom" = some (.ref D) → PySem.W.subIn K (.ref C) (.ref D) = some false
  m_InvalidRoom_NoEntry : ∀ C D, mg "InvalidRoom" = some (.ref C) → mg "NoEntry" = some (.ref D) → PySem.W.subIn K (.ref C) (.ref D) = some false
  m_InvalidRoom_NotPlain : ∀ C D, mg "InvalidRoom" = some (.ref C) → mg "NotPlain" = some (.ref D) → PySem.W.subIn K (.ref C) (.ref D) = some false
  m_InvalidRoom_Exists : ∀ C D, mg "InvalidRoom" = some (.ref C) → mg "Exists" = some (.ref D) → PySem.W.subIn K (.ref C) (.ref D) = some false
  m_InvalidRoom_NotEmpty : ∀ C D, mg "InvalidRoom" = some (.ref C) → mg "NotEmpty" = some (.ref D) → PySem.W.subIn K (.ref C) (.ref D) = some false
  m_InvalidRoom_TooManySigns : ∀ C D, mg "InvalidRoom" = some (.ref C) → mg "TooManySigns" = some (.ref D) → PySem.W.subIn K (.ref C) (.ref D) = some false
  m_InvalidRoom_TooLarge : ∀ C D, mg "InvalidRoom" = some (.ref C) → mg "TooLarge" = some (.ref D) → PySem.W.subIn K (.ref C) (.ref D) = some false
  m_InvalidPath_NotRoom : ∀ C D, mg "InvalidPath" = some (.ref C) → mg "NotRoom" = some (.ref D) → PySem.W.subIn K (.ref C) (.ref D) = some false
  m_InvalidPath_NoEntry : ∀ C D, mg "InvalidPath" = some (.ref C) → mg "NoEntry" = some (.ref D) → PySem.W.subIn K (.ref C) (.ref D) = some false
  m_InvalidPath_NotPlain : ∀ C D, mg "InvalidPath" = some (.ref C) → mg "NotPlain" = some (.ref D) → PySem.W.subIn K (.ref C) (.ref D) = some false
  m_InvalidPath_Exists : ∀ C D, mg "InvalidPath" = some (.ref C) → mg "Exists" = some (.ref D) → PySem.W.subIn K (.ref C) (.ref D) = some false
  m_InvalidPath_NotEmpty : ∀ C D, mg "InvalidPath" = some (.ref C) → mg "NotEmpty" = some (.ref D) → PySem.W.subIn K (.ref C) (.ref D) = some false
  m_InvalidPath_TooManySigns : ∀ C D, mg "InvalidPath" = some (.ref C) → mg "TooManySigns" = some (.ref D) → PySem.W.subIn K (.ref C) (.ref D) = some false
  m_InvalidPath_TooLarge : ∀ C D, mg "InvalidPath" = some (.ref C) → mg "TooLarge" = some (.ref D) → PySem.W.subIn K (.ref C) (.ref D) = some false
  m_NotRoom_NotRoom : ∀ C D, mg "NotRoom" = some (.ref C) → mg "NotRoom" = some (.ref D) → PySem.W.subIn K (.ref C) (.ref D) = some true
  m_NotRoom_NoEntry : ∀ C D, mg "NotRoom" = some (.ref C) → mg "NoEntry" = some (.ref D) → PySem.W.subIn K (.ref C) (.ref D) = some false
  m_NotRoom_NotPlain : ∀ C D, mg "NotRoom" = some (.ref C) → mg "NotPlain" = some (.ref D) → PySem.W.subIn K (.ref C) (.ref D) = some false
  m_NotRoom_Exists : ∀ C D, mg "NotRoom" = some (.ref C) → mg "Exists" = some (.ref D) → PySem.W.subIn K (.ref C) (.ref D) = some false
  m_NotRoom_NotEmpty : ∀ C D, mg "NotRoom" = some (.ref C) → mg "NotEmpty" = some (.ref D) → PySem.W.subIn K (.ref C) (.ref D) = some false
  m_NotRoom_TooManySigns : ∀ C D, mg "NotRoom" = some (.ref C) → mg "TooManySigns" = some (.ref D) → PySem.W.subIn K (.ref C) (.ref D) = some false
  m_NotRoom_TooLarge : ∀ C D, mg "NotRoom" = some (.ref C) → mg "TooLarge" = some (.ref D) → PySem.W.subIn K (.ref C) (.ref D) = some false
  m_NoEntry_NotRoom : ∀ C D, mg "NoEntry" = some (.ref C) → mg "NotRoom" = some (.ref D) → PySem.W.subIn K (.ref C) (.ref D) = some false
  m_NoEntry_NoEntry : ∀ C D, mg "NoEntry" = some (.ref C) → mg "NoEntry" = some (.ref D) → PySem.W.subIn K (.ref C) (.ref D) = some true
  m_NoEntry_NotPlain : ∀ C D, mg "NoEntry" = some (.ref C) → mg "NotPlain" = some (.ref D) → PySem.W.subIn K (.ref C) (.ref D) = some false
  m_NoEntry_Exists : ∀ C D, mg "NoEntry" = some (.ref C) → mg "Exists" = some (.ref D) → PySem.W.subIn K (.ref C) (.ref D) = some false
  m_NoEntry_NotEmpty : ∀ C D, mg "NoEntry" = some (.ref C) → mg "NotEmpty" = some (.ref D) → PySem.W.subIn K (.ref C) (.ref D) = some false
  m_NoEntry_TooManySigns : ∀ C D, mg "NoEntry" = some (.ref C) → mg "TooManySigns" = some (.ref D) → PySem.W.subIn K (.ref C) (.ref D) = some false
  m_NoEntry_TooLarge : ∀ C D, mg "NoEntry" = some (.ref C) → mg "TooLarge" = some (.ref D) → PySem.W.subIn K (.ref C) (.ref D) = some false
  m_TooManySigns_NotRoom : ∀ C D, mg "TooManySigns" = some (.ref C) → mg "NotRoom" = some (.ref D) → PySem.W.subIn K (.ref C) (.ref D) = some false
  m_TooManySigns_NoEntry : ∀ C D, mg "TooManySigns" = some (.ref C) → mg "NoEntry" = some (.ref D) → PySem.W.subIn K (.ref C) (.ref D) = some false
  m_TooManySigns_NotPlain : ∀ C D, mg "TooManySigns" = some (.ref C) → mg "NotPlain" = some (.ref D) → PySem.W.subIn K (.ref C) (.ref D) = some false
  m_TooManySigns_Exists : ∀ C D, mg "TooManySigns" = some (.ref C) → mg "Exists" = some (.ref D) → PySem.W.subIn K (.ref C) (.ref D) = some false
  m_TooManySigns_NotEmpty : ∀ C D, mg "TooManySigns" = some (.ref C) → mg "NotEmpty" = some (.ref D) → PySem.W.subIn K (.ref C) (.ref D) = some false
  m_TooManySigns_TooManySigns : ∀ C D, mg "TooManySigns" = some (.ref C) → mg "TooManySigns" = some (.ref D) → PySem.W.subIn K (.ref C) (.ref D) = some true
  m_TooManySigns_TooLarge : ∀ C D, mg "TooManySigns" = some (.ref C) → mg "TooLarge" = some (.ref D) → PySem.W.subIn K (.ref C) (.ref D) = some false
  m_NotPlain_NotRoom : ∀ C D, mg "NotPlain" = some (.ref C) → mg "NotRoom" = some (.ref D) → PySem.W.subIn K (.ref C) (.ref D) = some false
  m_NotPlain_NoEntry : ∀ C D, mg "NotPlain" = some (.ref C) → mg "NoEntry" = some (.ref D) → PySem.W.subIn K (.ref C) (.ref D) = some false
  m_NotPlain_NotPlain : ∀ C D, mg "NotPlain" = some (.ref C) → mg "NotPlain" = some (.ref D) → PySem.W.subIn K (.ref C) (.ref D) = some true
  m_NotPlain_Exists : ∀ C D, mg "NotPlain" = some (.ref C) → mg "Exists" = some (.ref D) → PySem.W.subIn K (.ref C) (.ref D) = some false
  m_NotPlain_NotEmpty : ∀ C D, mg "NotPlain" = some (.ref C) → mg "NotEmpty" = some (.ref D) → PySem.W.subIn K (.ref C) (.ref D) = some false
  m_NotPlain_TooManySigns : ∀ C D, mg "NotPlain" = some (.ref C) → mg "TooManySigns" = some (.ref D) → PySem.W.subIn K (.ref C) (.ref D) = some false
  m_NotPlain_TooLarge : ∀ C D, mg "NotPlain" = some (.ref C) → mg "TooLarge" = some (.ref D) → PySem.W.subIn K (.ref C) (.ref D) = some false
  m_TooLarge_NotRoom : ∀ C D, mg "TooLarge" = some (.ref C) → mg "NotRoom" = some (.ref D) → PySem.W.subIn K (.ref C) (.ref D) = some false
  m_TooLarge_NoEntry : ∀ C D, mg "TooLarge" = some (.ref C) → mg "NoEntry" = some (.ref D) → PySem.W.subIn K (.ref C) (.ref D) = some false
  m_TooLarge_NotPlain : ∀ C D, mg "TooLarge" = some (.ref C) → mg "NotPlain" = some (.ref D) → PySem.W.subIn K (.ref C) (.ref D) = some false
  m_TooLarge_Exists : ∀ C D, mg "TooLarge" = some (.ref C) → mg "Exists" = some (.ref D) → PySem.W.subIn K (.ref C) (.ref D) = some false
  m_TooLarge_NotEmpty : ∀ C D, mg "TooLarge" = some (.ref C) → mg "NotEmpty" = some (.ref D) → PySem.W.subIn K (.ref C) (.ref D) = some false
  m_TooLarge_TooManySigns : ∀ C D, mg "TooLarge" = some (.ref C) → mg "TooManySigns" = some (.ref D) → PySem.W.subIn K (.ref C) (.ref D) = some false
  m_TooLarge_TooLarge : ∀ C D, mg "TooLarge" = some (.ref C) → mg "TooLarge" = some (.ref D) → PySem.W.subIn K (.ref C) (.ref D) = some true
  m_Exists_NotRoom : ∀ C D, mg "Exists" = some (.ref C) → mg "NotRoom" = some (.ref D) → PySem.W.subIn K (.ref C) (.ref D) = some false
  m_Exists_NoEntry : ∀ C D, mg "Exists" = some (.ref C) → mg "NoEntry" = some (.ref D) → PySem.W.subIn K (.ref C) (.ref D) = some false
  m_Exists_NotPlain : ∀ C D, mg "Exists" = some (.ref C) → mg "NotPlain" = some (.ref D) → PySem.W.subIn K (.ref C) (.ref D) = some false
  m_Exists_Exists : ∀ C D, mg "Exists" = some (.ref C) → mg "Exists" = some (.ref D) → PySem.W.subIn K (.ref C) (.ref D) = some true
  m_Exists_NotEmpty : ∀ C D, mg "Exists" = some (.ref C) → mg "NotEmpty" = some (.ref D) → PySem.W.subIn K (.ref C) (.ref D) = some false
  m_Exists_TooManySigns : ∀ C D, mg "Exists" = some (.ref C) → mg "TooManySigns" = some (.ref D) → PySem.W.subIn K (.ref C) (.ref D) = some false
  m_Exists_TooLarge : ∀ C D, mg "Exists" = some (.ref C) → mg "TooLarge" = some (.ref D) → PySem.W.subIn K (.ref C) (.ref D) = some false
  m_NotEmpty_NotRoom : ∀ C D, mg "NotEmpty" = some (.ref C) → mg "NotRoom" = some (.ref D) → PySem.W.subIn K (.ref C) (.ref D) = some false
  m_NotEmpty_NoEntry : ∀ C D, mg "NotEmpty" = some (.ref C) → mg "NoEntry" = some (.ref D) → PySem.W.subIn K (.ref C) (.ref D) = some false
  m_NotEmpty_NotPlain : ∀ C D, mg "NotEmpty" = some (.ref C) → mg "NotPlain" = some (.ref D) → PySem.W.subIn K (.ref C) (.ref D) = some false
  m_NotEmpty_Exists : ∀ C D, mg "NotEmpty" = some (.ref C) → mg "Exists" = some (.ref D) → PySem.W.subIn K (.ref C) (.ref D) = some false
  m_NotEmpty_NotEmpty : ∀ C D, mg "NotEmpty" = some (.ref C) → mg "NotEmpty" = some (.ref D) → PySem.W.subIn K (.ref C) (.ref D) = some true
  m_NotEmpty_TooManySigns : ∀ C D, mg "NotEmpty" = some (.ref C) → mg "TooManySigns" = some (.ref D) → PySem.W.subIn K (.ref C) (.ref D) = some false
  m_NotEmpty_TooLarge : ∀ C D, mg "NotEmpty" = some (.ref C) → mg "TooLarge" = some (.ref D) → PySem.W.subIn K (.ref C) (.ref D) = some false
  m_InvalidNode_NotRoom : ∀ C D, mg "InvalidNode" = some (.ref C) → mg "NotRoom" = some (.ref D) → PySem.W.subIn K (.ref C) (.ref D) = some false
  m_InvalidNode_NoEntry : ∀ C D, mg "InvalidNode" = some (.ref C) → mg "NoEntry" = some (.ref D) → PySem.W.subIn K (.ref C) (.ref D) = some false
  m_InvalidNode_NotPlain : ∀ C D, mg "InvalidNode" = some (.ref C) → mg "NotPlain" = some (.ref D) → PySem.W.subIn K (.ref C) (.ref D) = some false
  m_InvalidNode_Exists : ∀ C D, mg "InvalidNode" = some (.ref C) → mg "Exists" = some (.ref D) → PySem.W.subIn K (.ref C) (.ref D) = some false
  m_InvalidNode_NotEmpty : ∀ C D, mg "InvalidNode" = some (.ref C) → mg "NotEmpty" = some (.ref D) → PySem.W.subIn K (.ref C) (.ref D) = some false
  m_InvalidNode_TooManySigns : ∀ C D, mg "InvalidNode" = some (.ref C) → mg "TooManySigns" = some (.ref D) → PySem.W.subIn K (.ref C) (.ref D) = some false
  m_InvalidNode_TooLarge : ∀ C D, mg "InvalidNode" = some (.ref C) → mg "TooLarge" = some (.ref D) → PySem.W.subIn K (.ref C) (.ref D) = some false
section
variable {P : Program} {w : World} {K : PySem.W.Frag} {mg : Str → Option Value} {base : Heap}
/-! ## The deck: [digits left, a number mixed of all, draws made], and draws from it -/
/-- all that is tracked stays, but for d -/
def Kp (d : Addr) (H H' : Hp) : Prop := ∀ a o, a ≠ d → H a = some o → H' a = some o
theorem Kp.refl (d : Addr) (H : Hp) : Kp d H H := fun _ _ _ h => h
theorem Kp.trans {d : Addr} {H H1 H2 : Hp} (a : Kp d H H1) (b : Kp d H1 H2) : Kp d H H2 := fun c o n h => b c o n (a c o n h)
theorem Kp.new {d p : Addr} {H H' : Hp} {o : HO} (a : Kp d H H') (h : H' p = none) : Kp d H (upd H' p o) := fun c u n e => by
  have e1 := a c u n e
  rw [upd_ne (ne_of_none e1 h)]
  exact e1
theorem Kp.seq {K : PySem.W.Frag} {d a : Addr} {H H' : Hp} {xs : List V} (k : Kp d H H') (n : a ≠ d) (h : SqL K H a xs) : SqL K H' a xs := by
  rcases h with (h | ⟨o, h⟩) | h
  · exact .inl (.inl (k _ _ n h))
  · exact .inl (.inr ⟨o, k _ _ n h⟩)
  · exact .inr h
theorem Kp.free {d a : Addr} {H H' : Hp} (k : Kp d H H') (n : a ≠ d) (h : H' a = none) : H a = none := by
  cases q : H a with
  | none => rfl
  | some o => rw [k a o n q] at h; cases h
theorem Kp.put {d p : Addr} {H H' : Hp} {o : HO} (a : Kp d H H') (h : H p = none) : Kp d H (upd H' p o) := fun c u n e => by
  rw [upd_ne (ne_of_none e h)]
  exact a c u n e
theorem Kp.at {d p : Addr} {H H' : Hp} {o : HO} (k : Kp d (upd H p o) H') (n : d ≠ p) : H' p = some o := k p _ n.symm upd_same
/-- a deck from which at most m draws were made -/
def Dk (d : Addr) (m : Nat) (H : Hp) : Prop := ∃ x y c : Int, H d = some (.lst [.int x, .int y, .int c]) ∧ 0 ≤ x ∧ 0 ≤ y ∧ y < 10 ^ 70 ∧ 0 ≤ c ∧ c ≤ m
theorem Dk.mono {d : Addr} {m n : Nat} {H : Hp} (h : Dk d m H) (l : m ≤ n) : Dk d n H := by
  obtain ⟨x, y, c, h1, h2, h3, h4, h5, h6⟩ := h
  exact ⟨x, y, c, h1, h2, h3, h4, h5, by omega⟩
theorem Dk.new {d p : Addr} {m : Nat} {H : Hp} {o : HO} (h : Dk d m H) (n : H p = none) : Dk d m (upd H p o) := by
  obtain ⟨x, y, c, h1, h2⟩ := h
  refine ⟨x, y, c, ?_, h2⟩
  rw [upd_ne (ne_of_none h1 n)]
  exact h1
theorem Dk.put {d p : Addr} {m : Nat} {H : Hp} {o : HO} (h : Dk d m H) (n : d ≠ p) : Dk d m (upd H p o) := by
  obtain ⟨x, y, c, h1, h2⟩ := h
  exact ⟨x, y, c, by rw [upd_ne n]; exact h1, h2⟩
theorem Dk.ne {d p : Addr} {m : Nat} {H : Hp} (h : Dk d m H) (n : H p = none) : d ≠ p := by
  obtain ⟨x, y, c, h1, h2⟩ := h
  exact ne_of_none h1 n
theorem Kp.of {d : Addr} {H H' : Hp} (h : Same H H') : Kp d H H' := fun a o _ e => h a o e
theorem Dk.same {d : Addr} {m : Nat} {H H' : Hp} (h : Dk d m H) (k : Same H H') : Dk d m H' := by
  obtain ⟨x, y, c, h1, h2⟩ := h
  exact ⟨x, y, c, k _ _ h1, h2⟩
theorem Dk.ne' {d p : Addr} {m : Nat} {H H' : Hp} (h : Dk d m H) (k : Kp d H H') (n : H p = none) : p ≠ d := (h.ne n).symm
/-- draws that may be made at all -/
def LIM : Nat := 1000000000
def Φ_law_draw (K : PySem.W.Frag) (vd vm : V) (H : Hp) (Q : VK) : Prop := ∃ (d : Addr) (n : Int) (m : Nat), vd = .ref d ∧ vm = .int n ∧ 0 < n ∧ n < 1073741824 ∧ Dk d m H ∧ m < LIM ∧
  ∀ (v : Int) (H' : Hp), 0 ≤ v → v < n → Dk d (m + 1) H' → Kp d H H' → Q (.int v) H'
theorem use_draw {K : PySem.W.Frag} {d : Addr} {n : Int} {m : Nat} {H : Hp} {Q : VK} (hd : Dk d m H) (h0 : 0 < n) (h1 : n < 1073741824) (hm : m < LIM)
    (q : ∀ (v : Int) (H' : Hp), 0 ≤ v → v < n → Dk d (m + 1) H' → Kp d H H' → Q (.int v) H') : Φ_law_draw K (.ref d) (.int n) H Q := ⟨d, n, m, rfl, rfl, h0, h1, hd, hm, q⟩
theorem divOk {i j : Int} (h0 : 0 < j) (h1 : j < 1073741824) : CDivW i j := wide_div (b := 64) h0 (by omega) (by decide) (by decide)
theorem bits_lt {i : Int} {n : Nat} (h0 : 0 ≤ i) (h1 : i < 2 ^ n) (hn : 0 < n) : Builtin.Int.intBits i ≤ n := by
  unfold Builtin.Int.intBits
  split
  · omega
  · have : i.natAbs < 2 ^ n := by
      have e : ((2 ^ n : Nat) : Int) = 2 ^ n := by norm_cast
      omega
    have := PySem.Flt.log2_lt_of hn this
    omega
def Φ_law_deck (K : PySem.W.Frag) (vs vk : V) (H : Hp) (Q : VK) : Prop := ∃ (a : Addr) (ns : List Int) (k : Int), vs = .ref a ∧ vk = .int k ∧ SqL K H a (ns.map V.int) ∧ ns.length ≤ 63 ∧ 0 ≤ k ∧ k < 64 ∧
  ∀ (d : Addr) (H' : Hp), H d = none → Dk d 0 H' → Same H H' → Q (.ref d) H'
theorem atI_int {ns : List Int} {k : Int} (h0 : 0 ≤ k) (h1 : k < ns.length) : ∃ z, atI (ns.map V.int) k = some (V.int z) := by
  obtain ⟨j, rfl⟩ : ∃ j : Nat, k = (j : Int) := ⟨k.toNat, by omega⟩
  have hj : j < ns.length := by omega
  exact ⟨ns[j], atI_nat (by rw [List.getElem?_map, List.getElem?_eq_getElem hj]; rfl)⟩
/-- a promise: draws at most c, a text of at most L signs -/
def TxtOf (L c : Nat) (vd : V) (H : Hp) (Q : VK) : Prop := ∃ (d : Addr) (m : Nat), vd = .ref d ∧ Dk d m H ∧ m + c ≤ LIM ∧ ∀ (z : Str) (H' : Hp), z.length ≤ L → Dk d (m + c) H' → Kp d H H' → Q (.str z) H'
/-- a promise: draws at most 10, a text of at most two signs more -/
def BentOf (K : PySem.W.Frag) (vd vp : V) (H : Hp) (Q : VK) : Prop := ∃ (d : Addr) (z : Str) (m : Nat), vd = .ref d ∧ vp = .str z ∧ z.length ≤ 500 ∧ Dk d m H ∧ m + 10 ≤ LIM ∧
  ∀ (y : Str) (H' : Hp), y.length ≤ z.length + 2 → Dk d (m + 10) H' → Kp d H H' → Q (.str y) H'

theorem ok_law_draw (T : Txt P K mg) {f : Addr} {fd : FuncData} (F : Fun K "_law_draw" "_law_draw" s_law_draw f fd) : Keeps P w K mg base CX0 1 f fd ["deck", "many"] (sp2 (Φ_law_draw K)) := by
  refine keeps0_of F sc_law_draw (fun vs H Q E h => ?_) (fun cdv A outer s H vs Q E hr h => ?_)
  · obtain ⟨_, _, rfl, _⟩ := h
    rfl
  obtain ⟨v_deck, v_many, rfl, h⟩ := h
  have hu := hr.hu
  refine ⟨_, (pss_cons (ps_if (pt_cmpR oGt (pe_ix (ixX (K := K)) (pv 0) pe_int (fun _ _ => rfl)) pe_int (nomark _)) (pss_cons (ps_set (i := 2) sc_law_draw.nd rfl (by first | exact Or.inl rfl | exact Or.inr rfl) (pe_op oMod (pe_callTy call_intX (by rfl) T.b_int (by decide +kernel) (pa_cons (pe_ix (ixX (K := K)) (pv 0) pe_int (fun _ _ => rfl)) pa_nil)) (pv 1)))
      (pss_cons (ps_asg (pe_op oDiv (pe_ix (ixX (K := K)) (pv 0) pe_int (fun _ _ => rfl)) (pv 1)) (pg_sub (pv 0) pe_int set_list))
      (pss_one (ps_ret (pv 2))))) pss_nil)
      (pss_cons (ps_asg (pe_op (oAdd (K := K)) (pe_ix (ixX (K := K)) (pv 0) pe_int (fun _ _ => rfl)) pe_int) (pg_sub (pv 0) pe_int set_list))
      (pss_cons (ps_set (i := 3) sc_law_draw.nd rfl (by first | exact Or.inl rfl | exact Or.inr rfl) (pe_op oMod (pe_callTy call_intX (by rfl) T.b_int (by decide +kernel) (pa_cons (pe_op (oAdd (K := K)) (pe_op oPow (pe_op (oAdd (K := K)) (pe_ix (ixX (K := K)) (pv 0) pe_int (fun _ _ => rfl)) (pe_op (oMul (K := K)) pe_int (pe_ix (ixX (K := K)) (pv 0) pe_int (fun _ _ => rfl)))) pe_int) (pe_op (oMul (K := K)) pe_int (pe_ix (ixX (K := K)) (pv 0) pe_int (fun _ _ => rfl)))) pa_nil)) (pe_op (oAdd (K := K)) (pe_op oPow pe_int pe_int) pe_int)))
      (pss_cons (ps_set (i := 3) sc_law_draw.nd rfl (by first | exact Or.inl rfl | exact Or.inr rfl) (pe_op oMod (pe_callTy call_intX (by rfl) T.b_int (by decide +kernel) (pa_cons (pe_op (oAdd (K := K)) (pe_op (oAdd (K := K)) (pe_op (oMul (K := K)) (pv 3) (pv 3)) (pe_ix (ixX (K := K)) (pv 0) pe_int (fun _ _ => rfl))) (pe_op (oMul (K := K)) pe_int (pe_ix (ixX (K := K)) (pv 0) pe_int (fun _ _ => rfl)))) pa_nil)) (pe_op (oAdd (K := K)) (pe_op oPow pe_int pe_int) pe_int)))
      (pss_one (ps_ret (pe_op oMod (pe_callTy call_intX (by rfl) T.b_int (by decide +kernel) (pa_cons (pe_op oDiv (pv 3) pe_int) pa_nil)) (pv 1)))))))), ?_⟩
  rw [show start ["deck", "many", "found", "mixed"] [v_deck, v_many] = [some v_deck, some v_many, none, none] from rfl]
  try dsimp only [cxOf, Cx.nox, Cx.wish]
  obtain ⟨d, n, m, rfl, rfl, hn0, hn1, ⟨x, y, c, hd, hx, hy0, hy1, hc0, hc1⟩, hm, q⟩ := h
  walk_at "rd"
  refine rd_ite (fun hp => ?_) (fun hp => ?_)
  · walk_at "rd"
    refine rd_modI hn0 ?_
    walk_at "rd"
    refine rd_divI (divOk hn0 hn1) ?_
    walk_at "rd"
    refine q _ _ (Int.emod_nonneg _ (by omega)) (Int.emod_lt_of_pos _ hn0) ⟨x / n, y, c, upd_same, Int.ediv_nonneg hx (by omega), hy0, hy1, hc0, by omega⟩ fun a o ne e => ?_
    rw [upd_ne ne]
    exact e
  · walk_at "rd"
    refine rd_mulI (IntMulOk.of_left (by decide)) ?_
    walk_at "rd"
    have b0 : y + 7368787 * (c + 1) < 2 ^ 240 := by
      have : m < 1000000000 := hm
      omega
    refine rd_powI ⟨by decide, ?_⟩ ?_
    · have := bits_lt (n := 240) (by omega) b0 (by decide)
      omega
    walk_at "rd"
    refine rd_mulI (IntMulOk.of_left (by decide)) ?_
    walk_at "rd"
    refine rd_powI ⟨by decide, by decide⟩ ?_
    walk_at "rd"
    refine rd_modL (by decide) fun z hz0 hz1 => ?_
    walk_at "rd"
    have hz2 : z < 2 ^ 200 := Int.lt_trans hz1 (by decide)
    refine rd_mulI (CMulW.ok (wide_mul (a := 200) (b := 200) (by omega) (by omega) (by decide) (by decide) (by decide))) ?_
    walk_at "rd"
    refine rd_mulI (IntMulOk.of_left (by decide)) ?_
    walk_at "rd"
    refine rd_powI ⟨by decide, by decide⟩ ?_
    walk_at "rd"
    refine rd_modL (by decide) fun z2 _ _ => ?_
    walk_at "rd"
    refine rd_divI (divOk (by decide) (by decide)) ?_
    walk_at "rd"
    refine rd_modL hn0 fun z3 h30 h31 => ?_
    refine q _ _ h30 h31 ⟨x, y, c + 1, upd_same, hx, hy0, hy1, by omega, by omega⟩ fun a o ne e => ?_
    rw [upd_ne ne]
    exact e
theorem ok_law_deck (T : Txt P K mg) {f : Addr} {fd : FuncData} (F : Fun K "_law_deck" "_law_deck" s_law_deck f fd) : Keeps P w K mg base CX0 1 f fd ["script", "k"] (sp2 (Φ_law_deck K)) := by
  refine keeps0_of F sc_law_deck (fun vs H Q E h => ?_) (fun cdv A outer s H vs Q E hr h => ?_)
  · obtain ⟨_, _, rfl, _⟩ := h
    rfl
  obtain ⟨v_script, v_k, rfl, h⟩ := h
  have hu := hr.hu
  refine ⟨_, (pss_cons (ps_set (i := 2) sc_law_deck.nd rfl (by first | exact Or.inl rfl | exact Or.inr rfl) (pe_op (oAdd (K := K)) (pe_op (oMul (K := K)) pe_int (pv 1)) pe_int))
      (pss_cons (ps_set (i := 3) sc_law_deck.nd rfl (by first | exact Or.inl rfl | exact Or.inr rfl) (pe_op (oAdd (K := K)) pe_int (pv 1)))
      (pss_meet (ps_if (pt_cmpR oLt (pv 1) (pe_callB (call_lenX (K := K)) (by rfl) T.b_len (by decide +kernel) (pa_cons (pv 0) pa_nil)) (nomark _)) (pss_one (ps_set (i := 2) sc_law_deck.nd rfl (by first | exact Or.inl rfl | exact Or.inr rfl) (pe_op oMod (pe_callTy call_intX (by rfl) T.b_int (by decide +kernel) (pa_cons (pe_ix (ixX (K := K)) (pv 0) (pv 1) (fun _ _ => rfl)) pa_nil)) (pe_op (oAdd (K := K)) (pe_op oPow pe_int pe_int) pe_int)))) pss_nil)
      (pss_cons (ps_for PassesOwn.never rfl (pi_any (K := K) (pv 0)) (pg_name (i := 4) sc_law_deck.nd rfl (by first | exact Or.inl rfl | exact Or.inr rfl)) (pss_one (ps_set (i := 3) sc_law_deck.nd rfl (by first | exact Or.inl rfl | exact Or.inr rfl) (pe_op oMod (pe_callTy call_intX (by rfl) T.b_int (by decide +kernel) (pa_cons (pe_op (oAdd (K := K)) (pe_op (oAdd (K := K)) (pe_op (oMul (K := K)) (pv 3) pe_int) (pe_op oMod (pe_callTy call_intX (by rfl) T.b_int (by decide +kernel) (pa_cons (pv 4) pa_nil)) (pe_op (oAdd (K := K)) (pe_op oPow pe_int pe_int) pe_int))) pe_int) pa_nil)) (pe_op (oAdd (K := K)) (pe_op oPow pe_int pe_int) pe_int)))))
      (pss_one (ps_ret (pe_lst (pa_cons (pe_callB (call_maxX rfl) (by rfl) T.b_max (by decide +kernel) (pa_cons pe_int (pa_cons (pe_op oSub (pv 2) (pe_op oPow pe_int pe_int)) pa_nil))) (pa_cons (pe_op (oAdd (K := K)) (pe_op (oMul (K := K)) (pv 3) pe_int) (pe_op oMod (pe_callTy call_intX (by rfl) T.b_int (by decide +kernel) (pa_cons (pv 2) pa_nil)) (pe_op (oAdd (K := K)) (pe_op oPow pe_int pe_int) pe_int))) (pa_cons pe_int pa_nil)))))))))), ?_⟩
  rw [show start ["script", "k", "cell", "mixed", "number"] [v_script, v_k] = [some v_script, some v_k, none, none, none] from rfl]
  try dsimp only [cxOf, Cx.nox, Cx.wish]
  obtain ⟨a, ns, k, rfl, rfl, hS, hl, h0, h1, q⟩ := h
  walk_at "rd"
  refine rd_mulI (IntMulOk.of_left (by decide)) ?_
  walk_at "rd"
  refine rd_meet (fun σ' H' => H = H' ∧ ∃ c : Int, 0 ≤ c ∧ σ' = [some (.ref a), some (.int k), some (.int c), some (.int (7 + k)), none]) ?_ ?_
  · walk_at "rd"
    refine rd_lenL hS ?_
    walk_at "rd"
    refine rd_ite (fun hp => ?_) (fun hp => ?_)
    · have hk : k < ns.length := by simpa using hp
      obtain ⟨z, hz⟩ := atI_int h0 hk
      walk_at "rd"
      refine rd_ixL hS hz ?_
      walk_at "rd"
      refine rd_powI ⟨by decide, by decide⟩ ?_
      walk_at "rd"
      refine rd_modL (by decide) fun c c0 _ => ?_
      walk_at "rd"
      exact ⟨rfl, c, c0, rfl⟩
    · walk_at "rd"
      exact ⟨rfl, 17 * k + 3, by omega, rfl⟩
  rintro _ _ ⟨rfl, c, hc, rfl⟩
  walk_at "rd"
  refine rd_forL ?_
  walk_at "rd"
  refine rd_itL hS (fun _ σ H1 => H = H1 ∧ ∃ (z : Int) (v : Option V), 0 ≤ z ∧ z < 10 ^ 30 ∧ σ = [some (.ref a), some (.int k), some (.int c), some (.int z), v]) ⟨rfl, 7 + k, none, by omega, by omega, rfl⟩ ?_ ?_ ?_
  · rintro i σ H1 _ ⟨rfl, _⟩
    exact hS
  · rintro i x σ H1 hi ⟨rfl, z, v, z0, z1, rfl⟩
    obtain ⟨y, rfl⟩ : ∃ y, x = V.int y := by
      rw [List.getElem?_map] at hi
      cases e : ns[i]? with
      | none => rw [e] at hi; cases hi
      | some y => rw [e] at hi; exact ⟨y, (Option.some.inj hi).symm⟩
    walk_at "rd"
    refine rd_mulI (IntMulOk.of_right (by decide)) ?_
    walk_at "rd"
    refine rd_powI ⟨by decide, by decide⟩ ?_
    walk_at "rd"
    refine rd_modL (by decide) fun u _ _ => ?_
    walk_at "rd"
    refine rd_powI ⟨by decide, by decide⟩ ?_
    walk_at "rd"
    refine rd_modL (by decide) fun t t0 t1 => ?_
    walk_at "rd"
    exact ⟨rfl, t, _, t0, Int.lt_trans t1 (by decide), rfl⟩
  · rintro σ H1 ⟨rfl, z, v, z0, z1, rfl⟩
    walk_at "rd"
    refine rd_powI ⟨by decide, by decide⟩ ?_
    walk_at "rd"
    refine rd_mulI (IntMulOk.of_right (by decide)) ?_
    walk_at "rd"
    refine rd_powI ⟨by decide, by decide⟩ ?_
    walk_at "rd"
    refine rd_modL (by decide) fun t t0 t1 => ?_
    walk_at "rd"
    intro d hd
    walk_at "rd"
    have t2 : t < 10 ^ 22 := Int.lt_trans t1 (by decide)
    refine q d _ hd ⟨_, _, 0, upd_same, by omega, by omega, by omega, by omega, by omega⟩ fun b o e => ?_
    rw [upd_ne (ne_of_none e hd)]
    exact e

/-- the keys of a dict are the numbers that S holds of -/
def KeysAre (H : Hp) (D : Addr) (S : Nat → Prop) : Prop := ∃ (kvs : List (Key × V)) (ks : List Int), H D = some (.dK kvs) ∧ kvs.map (·.1) = ks.map Sum.inl ∧ ks.Nodup ∧ ∀ x : Int, x ∈ ks ↔ ∃ k : Nat, x = (k : Int) ∧ S k
theorem KeysAre.zero {H : Hp} {D : Addr} : KeysAre (upd H D (.dK [])) D fun _ => False := ⟨[], [], upd_same, rfl, List.nodup_nil, fun x => ⟨(fun h => nomatch h), fun ⟨_, _, h⟩ => h.elim⟩⟩
theorem KeysAre.congr {H : Hp} {D : Addr} {S S' : Nat → Prop} (h : KeysAre H D S) (e : ∀ k, S k ↔ S' k) : KeysAre H D S' := by
  obtain ⟨kvs, ks, h1, h2, h3, h4⟩ := h
  exact ⟨kvs, ks, h1, h2, h3, fun x => (h4 x).trans ⟨fun ⟨k, a, b⟩ => ⟨k, a, (e k).mp b⟩, fun ⟨k, a, b⟩ => ⟨k, a, (e k).mpr b⟩⟩⟩
theorem KeysAre.few {H : Hp} {D : Addr} {S : Nat → Prop} {n : Nat} (h : KeysAre H D S) (b : ∀ k, S k → k < n) : ∃ kvs, H D = some (.dK kvs) ∧ kvs.length ≤ n := by
  obtain ⟨kvs, ks, h1, h2, h3, h4⟩ := h
  refine ⟨kvs, h1, ?_⟩
  rw [keys_len h2]
  exact few_ints n h3 fun x hx => by
    obtain ⟨k, rfl, hk⟩ := (h4 x).mp hx
    have := b k hk
    omega
/-- found[at] = True -/
theorem KeysAre.put {H : Hp} {D : Addr} {S : Nat → Prop} {n p : Nat} {v : V} {N : Hp → Prop} (h : KeysAre H D S) (hb : ∀ k, S k → k < n) (hn : n ≤ 1000) (q : ∀ o, KeysAre (upd H D o) D (fun k => S k ∨ k = p) → N (upd H D o)) :
    ∃ a H4, V.ref D = .ref a ∧ DPut H a (.int (p : Int)) v H4 ∧ N H4 := by
  obtain ⟨kvs', h0, hl⟩ := h.few hb
  obtain ⟨kvs, ks, h1, h2, h3, h4⟩ := h
  rw [h0] at h1
  cases h1
  refine rd_putI h0 (szLt (by omega)) ?_
  refine q _ ⟨_, putI ks p, upd_same, keys_put h2, putI_nodup h3, fun x => ?_⟩
  rw [putI_mem, h4]
  constructor
  · rintro (⟨k, rfl, hk⟩ | rfl)
    · exact ⟨k, rfl, .inl hk⟩
    · exact ⟨p, rfl, .inr rfl⟩
  · rintro ⟨k, rfl, hk | rfl⟩
    · exact .inl ⟨k, rfl, hk⟩
    · exact .inr rfl
theorem KeysAre.same {H H' : Hp} {D : Addr} {S : Nat → Prop} (h : KeysAre H D S) (e : Same H H') : KeysAre H' D S := by
  obtain ⟨kvs, ks, h1, h2⟩ := h
  exact ⟨kvs, ks, e _ _ h1, h2⟩
theorem val_some {kvs : List (Key × V)} {k : Key} : (valV kvs k).isSome = true ↔ k ∈ kvs.map (·.1) := by
  induction kvs with
  | nil => simp [valV]
  | cons p r ih =>
    by_cases e : p.1 = k
    · rw [valV_pos e]
      simp [e]
    · have h : valV (p :: r) k = valV r k := by
        unfold valV
        rw [List.find?_cons_of_neg (by simpa using e)]
      rw [h, ih, List.map_cons, List.mem_cons]
      exact ⟨.inr, fun h => h.resolve_left fun h => e h.symm⟩
/-- number in found -/
theorem KeysAre.ask {H : Hp} {D : Addr} {S : Nat → Prop} (h : KeysAre H D S) (k : Nat) : ∃ o, DGet H D (.int (k : Int)) o ∧ (o.isSome = true ↔ S k) := by
  obtain ⟨kvs, ks, h1, h2, h3, h4⟩ := h
  refine ⟨_, DGet.k (k := Sum.inl (k : Int)) h1, ?_⟩
  rw [val_some, h2, List.mem_map]
  constructor
  · rintro ⟨x, hx, e⟩
    cases e
    obtain ⟨j, e, hj⟩ := (h4 _).mp hx
    have : k = j := by omega
    rw [this]
    exact hj
  · exact fun hk => ⟨_, (h4 _).mpr ⟨k, rfl, hk⟩, rfl⟩
theorem KeysAre.list {H : Hp} {D : Addr} {S : Nat → Prop} (h : KeysAre H D S) : ∃ (kvs : List (Key × V)) (ks : List Int), H D = some (.dK kvs) ∧ kvs.length = ks.length ∧ ks.Nodup ∧ ∀ x : Int, x ∈ ks ↔ ∃ k : Nat, x = (k : Int) ∧ S k := by
  obtain ⟨kvs, ks, h1, h2, h3, h4⟩ := h
  exact ⟨kvs, ks, h1, keys_len h2, h3, h4⟩
theorem KeysAre.at {H H' : Hp} {D : Addr} {S : Nat → Prop} (h : KeysAre H D S) (e : ∀ o, H D = some o → H' D = some o) : KeysAre H' D S := by
  obtain ⟨kvs, ks, h1, h2⟩ := h
  exact ⟨kvs, ks, e _ h1, h2⟩

theorem inV2 {z a b : Str} {c : Bool} (h : inV (.str z) [.str a, .str b] = c) : (z == a || z == b) = c := by
  rw [← h]
  show _ = (eqV (.str a) (.str z) || (eqV (.str b) (.str z) || false))
  rw [Bool.or_false]
  show _ = ((a == z) || (b == z))
  rw [Bool.beq_comm (a := a), Bool.beq_comm (a := b)]
def SIGNS : Str := "abcdefghijklmnopqrstuvwxyz0123456789.-_"
def entB (z : Str) : Bool := (decide (1 ≤ z.length) && decide (z.length ≤ 12)) && !(z == "." || z == "..") && (tl z).all fun c => decide (c ∈ tl SIGNS)
def Φ_is_entry_name (K : PySem.W.Frag) (v : V) (H : Hp) (Q : VK) : Prop := ∃ z : Str, v = .str z ∧ z.length ≤ 1000 ∧ ∀ H', Same H H' → Q (.bl (entB z)) H'
theorem ok_is_entry_name (T : Txt P K mg) {f : Addr} {fd : FuncData} (F : Fun K "is_entry_name" "is_entry_name" s_is_entry_name f fd) : Keeps P w K mg base CX0 1 f fd ["value"] (sp1 (Φ_is_entry_name K)) := by
  refine keeps0_of F sc_is_entry_name (fun vs H Q E h => ?_) (fun cdv A outer s H vs Q E hr h => ?_)
  · obtain ⟨_, rfl, _⟩ := h
    rfl
  obtain ⟨v_value, rfl, h⟩ := h
  have hu := hr.hu
  refine ⟨_, (pss_cons (ps_if (PW.pt (pw_or (pt_not (pt_val (pe_callB (isiX (K := K)) (by rfl) T.b_isinstance (by decide +kernel) (pa_cons (pv 0) (pa_cons (pe_bltn (v := .ty "str") (by rfl) T.b_str (by decide +kernel) rfl) pa_nil))))) (pw_or (pt_not (pt_chain oLe oLe pe_int (pe_callB (call_lenX (K := K)) (by rfl) T.b_len (by decide +kernel) (pa_cons (pv 0) pa_nil)) (pe_gk (by rfl) T.c_MOST_NAME))) (pw_or1 (pt_cmpR (oIn (K := K) hr.u65) (pv 0) (pe_tup (pa_cons (pe_gk (by rfl) T.c_HERE) (pa_cons (pe_gk (by rfl) T.c_ABOVE) pa_nil))) (by rfl)))))) (pss_one (ps_ret pe_bl)) pss_nil)
      (pss_one (ps_ret (pe_callB (allX (K := K) rfl) (by rfl) T.b_all (by decide +kernel) (pa_cons (pe_lc (own := [("sign", 1)]) rfl sc_is_entry_name.nd (pi_any (K := K) (pv 0)) (blkOk_by (own := [("sign", 1)]) (N := ["value", "sign"]) (sc := defScope s_is_entry_name) (by decide +kernel)) (fun _ _ _ _ _ => pg_name (i := 1) sc_is_entry_name.nd rfl (by first | exact Or.inl rfl | exact Or.inr rfl)) (fun _ _ _ _ _ => pts_nil) (fun _ _ _ _ _ => (pe_cmpR (oIn (K := K) hr.u65) (pv 1) (pe_gk (by rfl) T.c_NAME_SIGNS) (by rfl)))) pa_nil))))), ?_⟩
  rw [show start ["value", "sign"] [v_value] = [some v_value, none] from rfl]
  try dsimp only [cxOf, Cx.nox, Cx.wish]
  obtain ⟨z, rfl, hz, q⟩ := h
  walk_at "rd"
  refine rd_ite (fun h1' => ?_) (fun h1 => ?_)
  rotate_left
  · walk_at "rd"
    have e : entB z = false := by
      have : ¬ (1 ≤ z.length) := by have := of_decide_eq_false h1; omega
      simp [entB, this]
    exact e ▸ q H (Same.refl H)
  walk_at "rd"
  refine rd_ite (fun h2 => ?_) (fun h2 => ?_)
  · walk_at "rd"
    have e : entB z = false := by
      have : ¬ (z.length ≤ 12) := by
        cases e : decide ((z.length : Int) ≤ 12) with
        | true => rw [e] at h2; cases h2
        | false => have := of_decide_eq_false e; omega
      simp [entB, this]
    exact e ▸ q H (Same.refl H)
  walk_at "rd"
  intro p hp
  refine rd_inT (SqT.of upd_same) rfl rfl ?_
  walk_at "rd"
  refine rd_ite (fun h3 => ?_) (fun h3 => ?_)
  · walk_at "rd"
    have e : entB z = false := by
      have : (z == "." || z == "..") = true := inV2 h3
      simp [entB, this]
    exact e ▸ q _ ((Same.refl H).new hp)
  walk_at "rd"
  refine rd_lcS ?_
  walk_at "rd"
  refine rd_mapS (fun _ => true) (fun x => match x with | .str y => .bl (inS y SIGNS) | _ => .non) (fun _ => rfl) (by omega) (fun _ _ => pt_yes) ?_ ?_
  · intro x hx _
    obtain ⟨c, hc, rfl⟩ := List.mem_map.mp hx
    intro H1 s1 QE q1
    walk_at "rd"
    exact q1 H1 (Same.refl H1)
  · intro D H1 hD s1 h1
    walk_at "rd"
    have e : ((signs z).filter fun _ => true).map (fun x => match x with | .str y => V.bl (inS y SIGNS) | _ => .non) = ((tl z).map fun c => decide (c ∈ tl SIGNS)).map V.bl := by
      rw [List.filter_eq_self.mpr fun _ _ => rfl]
      unfold signs
      rw [List.map_map, List.map_map]
      refine List.map_congr_left fun c _ => ?_
      show V.bl (inS ⟨#[c]⟩ SIGNS) = V.bl (decide (c ∈ tl SIGNS))
      rw [inS_sign]
    rw [e] at h1
    refine rd_all (SqL.of h1) ?_
    have eb : ((tl z).map fun c => decide (c ∈ tl SIGNS)).all id = entB z := by
      rw [List.all_map]
      have h4 : (z == "." || z == "..") = false := inV2 h3
      have h5 : 1 ≤ z.length := by have := of_decide_eq_true h1'; omega
      have h6 : z.length ≤ 12 := by
        cases e : decide ((z.length : Int) ≤ 12) with
        | true => have := of_decide_eq_true e; omega
        | false => rw [e] at h2; cases h2
      unfold entB
      rw [h4, decide_eq_true h5, decide_eq_true h6]
      rfl
    exact eb ▸ q H1 (((Same.refl H).new hp).trans s1)
def restOf (z : Str) : Str := match tl z with
  | c :: _ => if (⟨#[c]⟩ : Str) = "/" then cutS z (some 1) none else z
  | [] => z
def wordB (w : Str) : Bool := (w == "." || w == "..") || entB w
def pathB : V → Bool
  | .str z => (decide (1 ≤ z.length) && decide (z.length ≤ 100)) && (z == "/" || (Txt.split (restOf z) "/").all wordB)
  | _ => false
theorem pathB_str (z : Str) : pathB (.str z) = ((decide (1 ≤ z.length) && decide (z.length ≤ 100)) && (z == "/" || (Txt.split (restOf z) "/").all wordB)) := rfl
/-- a text, or what is none -/
def AnyV (K : PySem.W.Frag) (H : Hp) (v : V) : Prop := (∃ z : Str, v = .str z ∧ z.length ≤ 1000) ∨ (pathB v = false ∧ ∃ t, TyX K H v t ∧ PySem.W.kitOne K t (.type "str") = some false)
theorem tl_slash : tl ("/" : Str) = [47] := by decide +kernel
theorem rest_cons {z : Str} {c : Nat} {r : List Nat} (e : tl z = c :: r) : restOf z = if (⟨#[c]⟩ : Str) = "/" then cutS z (some 1) none else z := by
  unfold restOf
  rw [e]
theorem rest_nil {z : Str} {c : Nat} {r : List Nat} (e : tl z = c :: r) : restOf z = "" ↔ z = "/" := by
  rw [rest_cons e]
  have e1 : tl (⟨#[c]⟩ : Str) = [c] := rfl
  by_cases h : (⟨#[c]⟩ : Str) = "/"
  · rw [if_pos h]
    have hc : [c] = [47] := by rw [← e1, h, tl_slash]
    constructor
    · intro h2
      have h3 : tl (cutS z (some ((1 : Nat) : Int)) none) = [] := by rw [show ((1 : Nat) : Int) = 1 from rfl, h2]; decide +kernel
      rw [tl_drop, e] at h3
      refine str_ext ?_
      rw [tl_slash, e, ← hc]
      have h4 : r = [] := h3
      rw [h4]
    · intro h2
      refine str_ext ?_
      rw [show (1 : Int) = ((1 : Nat) : Int) from rfl, tl_drop, h2, tl_slash]
      decide +kernel
  · rw [if_neg h]
    constructor
    · intro h2
      rw [h2] at e
      have e2 : tl ("" : Str) = [] := by decide +kernel
      rw [e2] at e
      cases e
    · intro h2
      refine absurd ?_ h
      refine str_ext ?_
      rw [e1, tl_slash]
      rw [h2, tl_slash] at e
      injection e with e3 _
      rw [e3]
theorem rest_len (z : Str) : (restOf z).length ≤ z.length := by
  unfold restOf
  split
  · split
    · exact cutS_length _ _ _
    · exact Nat.le_refl _
  · exact Nat.le_refl _
def Φ_is_a_path (K : PySem.W.Frag) (v : V) (H : Hp) (Q : VK) : Prop := AnyV K H v ∧ ∀ H', Same H H' → Q (.bl (pathB v)) H'
theorem ok_is_a_path (T : Txt P K mg) {f : Addr} {fd : FuncData} (F : Fun K "is_a_path" "is_a_path" s_is_a_path f fd) : Keeps P w K mg base CX0 2 f fd ["value"] (sp1 (Φ_is_a_path K)) := by
  have c_is_entry_name := cal (P := P) (w := w) (base := base) T.d_is_entry_name fun F => ok_is_entry_name T F
  refine keeps0_of F sc_is_a_path (fun vs H Q E h => ?_) (fun cdv A outer s H vs Q E hr h => ?_)
  · obtain ⟨_, rfl, _⟩ := h
    rfl
  obtain ⟨v_value, rfl, h⟩ := h
  have hu := hr.hu
  refine ⟨_, (pss_cons (ps_if (PW.pt (pw_or (pt_not (pt_val (pe_callB (isiX (K := K)) (by rfl) T.b_isinstance (by decide +kernel) (pa_cons (pv 0) (pa_cons (pe_bltn (v := .ty "str") (by rfl) T.b_str (by decide +kernel) rfl) pa_nil))))) (pw_or1 (pt_not (pt_chain oLe oLe pe_int (pe_callB (call_lenX (K := K)) (by rfl) T.b_len (by decide +kernel) (pa_cons (pv 0) pa_nil)) (pe_gk (by rfl) T.c_MOST_PATH)))))) (pss_one (ps_ret pe_bl)) pss_nil)
      (pss_cons (ps_set (i := 1) sc_is_a_path.nd rfl (by first | exact Or.inl rfl | exact Or.inr rfl) (pe_ifExp (pt_cmpR (oEq (K := K) hr.u65) (pe_ix (ixX (K := K)) (pv 0) pe_int (fun _ _ => rfl)) (pe_gk (by rfl) T.c_ROOT) (nomark _)) (pe_slice (sX (K := K)) (pv 0) (po_some pe_int) po_none) (pv 0)))
      (pss_cons (ps_if (pt_cmpR (oEq (K := K) hr.u65) (pv 1) pe_str (nomark _)) (pss_one (ps_ret pe_bl)) pss_nil)
      (pss_one (ps_ret (pe_callB (allX (K := K) rfl) (by rfl) T.b_all (by decide +kernel) (pa_cons (pe_lc (own := [("word", 2)]) rfl sc_is_a_path.nd (pi_any (K := K) (pe_split (pv 1) (pe_gk (by rfl) T.c_ROOT))) (blkOk_by (own := [("word", 2)]) (N := ["value", "rest", "word"]) (sc := defScope s_is_a_path) (by decide +kernel)) (fun _ _ _ _ _ => pg_name (i := 2) sc_is_a_path.nd rfl (by first | exact Or.inl rfl | exact Or.inr rfl)) (fun _ _ _ _ _ => pts_nil) (fun _ _ _ _ _ => (pe_or (pe_cmpR (oIn (K := K) hr.u65) (pv 2) (pe_tup (pa_cons (pe_gk (by rfl) T.c_HERE) (pa_cons (pe_gk (by rfl) T.c_ABOVE) pa_nil))) (by rfl)) (pe_one (pe_cal c_is_entry_name (hr.mono (by decide)) (by rfl) pass0 (pa_cons (pv 2) pa_nil)))))) pa_nil))))))), ?_⟩
  rw [show start ["value", "rest", "word"] [v_value] = [some v_value, none, none] from rfl]
  try dsimp only [cxOf, Cx.nox, Cx.wish]
  obtain ⟨⟨z, rfl, hz⟩ | ⟨hn, t, ty, ht⟩, q⟩ := h
  rotate_left
  · walk_at "rd"
    refine rd_isi ty ht ?_
    walk_at "rd"
    exact hn ▸ q H (Same.refl H)
  walk_at "rd"
  refine rd_ite (fun h1 => ?_) (fun h1 => ?_)
  rotate_left
  · walk_at "rd"
    have e : pathB (.str z) = false := by
      have : ¬ (1 ≤ z.length) := by have := of_decide_eq_false h1; omega
      simp [pathB, this]
    exact e ▸ q H (Same.refl H)
  have g1 : 1 ≤ z.length := by have := of_decide_eq_true h1; omega
  walk_at "rd"
  refine rd_ite (fun h2 => ?_) (fun h2 => ?_)
  · walk_at "rd"
    have e : pathB (.str z) = false := by
      have : ¬ (z.length ≤ 100) := by
        cases e : decide ((z.length : Int) ≤ 100) with
        | true => rw [e] at h2; cases h2
        | false => have := of_decide_eq_false e; omega
      simp [pathB, this]
    exact e ▸ q H (Same.refl H)
  have g2 : z.length ≤ 100 := by
    cases e : decide ((z.length : Int) ≤ 100) with
    | true => have := of_decide_eq_true e; omega
    | false => rw [e] at h2; cases h2
  obtain ⟨c, r, ez⟩ : ∃ c r, tl z = c :: r := by
    cases e : tl z with
    | nil => rw [← len_tl, e] at g1; cases g1
    | cons c r => exact ⟨c, r, rfl⟩
  walk_at "rd"
  refine rd_ixS (c := c) (szOk (by omega)) (by rw [show z.cps.toList = c :: r from ez]; exact atI_nat (j := 0) rfl) ?_
  walk_at "rd"
  have key : ∃ y : Str, y = restOf z ∧ (if decide ((⟨#[c]⟩ : Str) = "/") = true then y = cutS z (some 1) none else y = z) := by
    refine ⟨restOf z, rfl, ?_⟩
    rw [rest_cons ez]
    by_cases h : (⟨#[c]⟩ : Str) = "/"
    · rw [if_pos h, decide_eq_true h, if_pos rfl]
    · rw [if_neg h, decide_eq_false h, if_neg (by decide)]
  obtain ⟨y, hy, hk⟩ := key
  have hl : y.length ≤ 100 := by rw [hy]; exact Nat.le_trans (rest_len z) g2
  have hy0 : y = "" ↔ z = "/" := by rw [hy]; exact rest_nil ez
  refine rd_ite (fun hc => ?_) (fun hc => ?_)
  rw [hc, if_pos rfl] at hk
  walk_at "rd"
  rw [← hk]
  rotate_left
  rw [hc, if_neg (by decide)] at hk
  refine rd_var (v := .str y) (by rw [hk]; rfl) ?_
  walk_at "rd"
  all_goals
    refine rd_ite (fun h3 => ?_) (fun h3 => ?_)
    · walk_at "rd"
      have e : pathB (.str z) = true := by
        have : z = "/" := hy0.mp (of_decide_eq_true h3)
        have b : (z == "/") = true := by rw [this]; exact beq_self_eq_true _
        rw [pathB_str, b, decide_eq_true g1, decide_eq_true g2]
        rfl
      exact e ▸ q H (Same.refl H)
    · have hne : (z == "/") = false := by
        refine beq_eq_false_iff_ne.mpr fun h => ?_
        exact of_decide_eq_false h3 (hy0.mpr h)
      have eb : pathB (.str z) = (Txt.split y "/").all wordB := by
        rw [pathB_str, hne, decide_eq_true g1, decide_eq_true g2, ← hy]
        rfl
      obtain ⟨s1, s2⟩ := split_len (z := y) (y := "/") (by rw [tl_slash]; exact List.cons_ne_nil _ _) (by decide +kernel)
      walk_at "rd"
      refine rd_lcL ?_
      walk_at "rd"
      refine rd_split (by decide +kernel) (by omega) fun l hl1 => ?_
      refine rd_mapL (SqL.of upd_same) (fun _ => true) (fun x => match x with | .str w => .bl (wordB w) | _ => .non) (fun _ => rfl) (by rw [List.length_map]; omega) (fun _ _ => pt_yes) ?_ ?_
      · intro x hx _
        obtain ⟨u, hu1, rfl⟩ := List.mem_map.mp hx
        have lu := s1 u hu1
        intro H1 k1 QE q1
        walk_at "rd"
        intro t ht
        refine rd_inT (SqT.of upd_same) rfl rfl ?_
        rw [← inV2 (z := u) (a := ".") (b := "..") rfl]
        walk_at "rd"
        refine rd_ite (fun h4 => ?_) (fun h4 => ?_)
        · have e : wordB u = true := by unfold wordB; rw [h4]; rfl
          exact e ▸ q1 _ ((Same.refl H1).new ht)
        · walk_at "rd"
          refine ⟨u, rfl, by omega, fun H2 k2 => ?_⟩
          have e : entB u = wordB u := by unfold wordB; rw [h4]; rfl
          exact e ▸ q1 _ (((Same.refl H1).new ht).trans k2)
      · intro D H1 hD k1 h5
        walk_at "rd"
        have e : (((Txt.split y "/").map V.str).filter fun _ => true).map (fun x => match x with | .str w => V.bl (wordB w) | _ => .non) = ((Txt.split y "/").map wordB).map V.bl := by
          rw [List.filter_eq_self.mpr fun _ _ => rfl, List.map_map, List.map_map]
          rfl
        rw [e] at h5
        refine rd_all (SqL.of h5) ?_
        have e2 : ((Txt.split y "/").map wordB).all id = pathB (.str z) := by rw [eb, List.all_map]; rfl
        exact e2 ▸ q H1 (((Same.refl H).new hl1).trans k1)

/-! ### stores: nodes, entries -/
inductive Nd where
  | file (t : Str)
  | sign (p : Str)
  | room (es : List (Str × Nat))
abbrev Sto := List (Option Nd)
section
variable {α β : Type} {F G : α → β → Prop}
theorem pd_mono (h : ∀ a b, F a b → G a b) : ∀ {as : List α} {bs : List β}, Paired F as bs → Paired G as bs
  | _, _, .nil => .nil
  | _, _, .cons h1 t => .cons (h _ _ h1) (pd_mono h t)
theorem pd_getL : ∀ {as : List α} {bs : List β} {j : Nat} {x : α}, Paired F as bs → as[j]? = some x → ∃ y, bs[j]? = some y ∧ F x y
  | _, _, j, x, .nil, e => by simp at e
  | _, _, 0, x, .cons h _, e => by
    cases e
    exact ⟨_, rfl, h⟩
  | _, _, j + 1, x, .cons _ t, e => pd_getL (j := j) t e
theorem pd_getR : ∀ {as : List α} {bs : List β} {j : Nat} {y : β}, Paired F as bs → bs[j]? = some y → ∃ x, as[j]? = some x ∧ F x y
  | _, _, j, x, .nil, e => by simp at e
  | _, _, 0, x, .cons h _, e => by
    cases e
    exact ⟨_, rfl, h⟩
  | _, _, j + 1, x, .cons _ t, e => pd_getR (j := j) t e
theorem pd_take : ∀ {as : List α} {bs : List β} (n : Nat), Paired F as bs → Paired F (as.take n) (bs.take n)
  | _, _, n, .nil => by rw [List.take_nil, List.take_nil]; exact .nil
  | _, _, 0, .cons _ _ => .nil
  | _, _, n + 1, .cons h t => .cons h (pd_take n t)
theorem pd_app : ∀ {as cs : List α} {bs ds : List β}, Paired F as bs → Paired F cs ds → Paired F (as ++ cs) (bs ++ ds)
  | _, _, _, _, .nil, h => h
  | _, _, _, _, .cons h t, k => .cons h (pd_app t k)
theorem pd_set : ∀ {as : List α} {bs : List β} {x : α} {y : β} (n : Nat), Paired F as bs → F x y → Paired F (as.set n x) (bs.set n y)
  | _, _, _, _, n, .nil, _ => .nil
  | _, _, _, _, 0, .cons _ t, k => .cons k t
  | _, _, _, _, n + 1, .cons h t, k => .cons h (pd_set n t k)
theorem pd_rep {a : α} {b : β} (h : F a b) : ∀ n, Paired F (List.replicate n a) (List.replicate n b)
  | 0 => .nil
  | n + 1 => .cons h (pd_rep h n)
theorem pd_map {γ : Type} (f : γ → α) (g : γ → β) (h : ∀ c, F (f c) (g c)) : ∀ l : List γ, Paired F (l.map f) (l.map g)
  | [] => .nil
  | c :: l => .cons (h c) (pd_map f g h l)
end
def pairV (H : Hp) (v : V) (e : Str × Nat) : Prop := ∃ p, v = .ref p ∧ Rt H p [.str e.1, .int e.2]
def EsAt (H : Hp) (b : Addr) (es : List (Str × Nat)) : Prop := ∃ ys, Ft H b ys ∧ Paired (pairV H) ys es
def NdAt (H : Hp) (v : V) : Option Nd → Prop
  | none => v = .non
  | some (.file t) => ∃ a, v = .ref a ∧ Rt H a [.str "file", .str t]
  | some (.sign p) => ∃ a, v = .ref a ∧ Rt H a [.str "sign", .str p]
  | some (.room es) => ∃ a b, v = .ref a ∧ Rt H a [.str "room", .ref b] ∧ EsAt H b es
def StAt (H : Hp) (v : V) (s : Sto) : Prop := ∃ a xs, v = .ref a ∧ Rt H a xs ∧ Paired (NdAt H) xs s
section
variable {H H' : Hp}
theorem pairV.up {v : V} {e : Str × Nat} (h : pairV H v e) (k : Ty H H') : pairV H' v e := let ⟨p, e, r⟩ := h; ⟨p, e, r.up k⟩
theorem EsAt.up {b : Addr} {es : List (Str × Nat)} (h : EsAt H b es) (k : Ty H H') : EsAt H' b es := let ⟨ys, f, p⟩ := h; ⟨ys, f.up k, pd_mono (fun _ _ q => q.up k) p⟩
theorem NdAt.up {v : V} {n : Option Nd} (h : NdAt H v n) (k : Ty H H') : NdAt H' v n := by
  match n, h with
  | none, h => exact h
  | some (.file t), ⟨a, e, r⟩ => exact ⟨a, e, r.up k⟩
  | some (.sign p), ⟨a, e, r⟩ => exact ⟨a, e, r.up k⟩
  | some (.room es), ⟨a, b, e, r, q⟩ => exact ⟨a, b, e, r.up k, q.up k⟩
theorem StAt.up {v : V} {s : Sto} (h : StAt H v s) (k : Ty H H') : StAt H' v s := let ⟨a, xs, e, r, p⟩ := h; ⟨a, xs, e, r.up k, pd_mono (fun _ _ q => q.up k) p⟩
end
/-- the first item of a node -/
def wordN : Nd → Str
  | .file _ => "file"
  | .sign _ => "sign"
  | .room _ => "room"
theorem NdAt.head {H : Hp} {v : V} {n : Nd} (h : NdAt H v (some n)) : ∃ a x, v = .ref a ∧ Rt H a [.str (wordN n), x] := by
  match n, h with
  | .file t, ⟨a, e, r⟩ => exact ⟨a, _, e, r⟩
  | .sign p, ⟨a, e, r⟩ => exact ⟨a, _, e, r⟩
  | .room es, ⟨a, b, e, r, q⟩ => exact ⟨a, _, e, r⟩
def isRoom : Option Nd → Bool
  | some (.room _) => true
  | _ => false
theorem wordN_room (n : Nd) : decide (wordN n = "room") = isRoom (some n) := by
  cases n with
  | file t => exact show decide (("file" : Str) = "room") = false by decide +kernel
  | sign t => exact show decide (("sign" : Str) = "room") = false by decide +kernel
  | room es => exact decide_eq_true rfl
theorem NdAt.non {H : Hp} {v : V} {n : Option Nd} (h : NdAt H v n) : decide (v = .non) = n.isNone := by
  match n, h with
  | none, h => exact decide_eq_true h
  | some n, h =>
    obtain ⟨a, x, e, _⟩ := h.head
    rw [e]
    exact decide_eq_false fun q => nomatch q
/-! ### texts of files -/
def plS (y : Str) : Bool := decide (y = "\n") || ((!decide (y.cps.toList < (" " : Str).cps.toList)) && (!decide (("~" : Str).cps.toList < y.cps.toList)) && !decide (y = "%"))
def plainB (z : Str) : Bool := (tl z).all fun c => plS ⟨#[c]⟩
def textB (z : Str) : Bool := decide (z.length ≤ 400) && plainB z
/-! ### what a store is -/
def NdOk (n : Nat) : Nd → Prop
  | .file t => textB t = true
  | .sign p => pathB (.str p) = true
  | .room es => (∀ e ∈ es, entB e.1 = true ∧ e.2 < n) ∧ es.Pairwise fun a b => tl a.1 < tl b.1
/-- the entries of the node at a number -/
def entsAt (s : Sto) (r : Nat) : List (Str × Nat) := match s[r]? with
  | some (some (.room es)) => es
  | _ => []
inductive Reach0 (s : Sto) : Nat → Prop
  | root : Reach0 s 0
  | step {r : Nat} {e : Str × Nat} : Reach0 s r → e ∈ entsAt s r → Reach0 s e.2
structure Wf (s : Sto) : Prop where
  l1 : 1 ≤ s.length
  l2 : s.length ≤ 60
  last : ∃ n, s[s.length - 1]? = some (some n)
  root : ∃ es, s[0]? = some (some (.room es))
  nodes : ∀ n, some n ∈ s → NdOk s.length n
  there : ∀ r e, e ∈ entsAt s r → ∃ n, s[e.2]? = some (some n)
  one : ∀ r r' e e', e ∈ entsAt s r → e' ∈ entsAt s r' → e.2 = e'.2 → (∃ es, s[e.2]? = some (some (.room es))) → e.2 ≠ 0 ∧ r = r' ∧ e = e'
  reach : ∀ k n, s[k]? = some (some n) → Reach0 s k
  few : ∀ r, (entsAt s r).length ≤ 1000
theorem entB_len {z : Str} (h : entB z = true) : 1 ≤ z.length ∧ z.length ≤ 12 := by
  unfold entB at h
  rw [Bool.and_eq_true, Bool.and_eq_true, Bool.and_eq_true] at h
  exact ⟨of_decide_eq_true h.1.1.1, of_decide_eq_true h.1.1.2⟩
theorem pathB_len {z : Str} (h : pathB (.str z) = true) : 1 ≤ z.length ∧ z.length ≤ 100 := by
  rw [pathB_str, Bool.and_eq_true, Bool.and_eq_true] at h
  exact ⟨of_decide_eq_true h.1.1, of_decide_eq_true h.1.2⟩
theorem textB_len {z : Str} (h : textB z = true) : z.length ≤ 400 := by
  unfold textB at h
  rw [Bool.and_eq_true] at h
  exact of_decide_eq_true h.1

/-! ### going through all rooms -/
def roomAt (s : Sto) (r : Nat) : Prop := ∃ es, s[r]? = some (some (.room es))
theorem entsAt_room {s : Sto} {r : Nat} {es : List (Str × Nat)} (h : s[r]? = some (some (.room es))) : entsAt s r = es := by
  unfold entsAt
  rw [h]
/-- found numbers: the root, all entries of some rooms -/
def FoundS (s : Sto) (E : List Nat) (k : Nat) : Prop := k = 0 ∨ ∃ r ∈ E, ∃ e ∈ entsAt s r, e.2 = k
theorem room_lt {s : Sto} {r : Nat} (h : roomAt s r) : r < s.length := by
  obtain ⟨es, h⟩ := h
  exact (List.getElem?_eq_some_iff.mp h).1
theorem found_lt {s : Sto} (wf : Wf s) {E : List Nat} {k : Nat} (h : FoundS s E k) : k < s.length := by
  rcases h with rfl | ⟨r, _, e, he, rfl⟩
  · have := wf.l1; omega
  · obtain ⟨n, hn⟩ := wf.there r e he
    exact (List.getElem?_eq_some_iff.mp hn).1
/-- all rooms that were found are gone through: all nodes are found -/
theorem found_all {s : Sto} (wf : Wf s) {E : List Nat} (h : ∀ k, FoundS s E k → roomAt s k → k ∈ E) {k : Nat} {n : Nd} (hk : s[k]? = some (some n)) : FoundS s E k := by
  have gen : ∀ j, Reach0 s j → FoundS s E j := by
    intro j hj
    induction hj with
    | root => exact .inl rfl
    | @step r e _ he ih =>
      refine .inr ⟨r, h r ih ?_, e, he, rfl⟩
      unfold entsAt at he
      split at he
      · exact ⟨_, by assumption⟩
      · cases he
  exact gen k (wf.reach k n hk)
theorem few_nats : ∀ (n : Nat) {ks : List Nat}, ks.Nodup → (∀ k ∈ ks, k < n) → ks.length ≤ n := fun n ks h b => by
  have := few_ints n (ks := ks.map fun k : Nat => (k : Int)) (h.map _ fun a b e h => e (by omega)) fun x hx => by
    obtain ⟨k, hk, rfl⟩ := List.mem_map.mp hx
    have := b k hk
    omega
  rwa [List.length_map] at this
theorem count_some : ∀ (s : Sto), ((List.range s.length).filter fun k => (s.getD k none).isSome).length = (s.filter Option.isSome).length
  | [] => rfl
  | x :: s => by
    have ih := count_some s
    rw [List.length_cons, List.range_succ_eq_map, List.filter_cons, List.filter_map, List.filter_cons]
    have e : ((fun k => ((x :: s).getD k none).isSome) ∘ Nat.succ) = fun k => (s.getD k none).isSome := rfl
    rw [e]
    show (if x.isSome = true then _ else _ : List Nat).length = _
    cases x.isSome with
    | true => rw [if_pos rfl, if_pos rfl, List.length_cons, List.length_cons, List.length_map, ih]
    | false => rw [if_neg Bool.false_ne_true, if_neg Bool.false_ne_true, List.length_map, ih]
/-- as many were found as there are nodes -/
theorem found_count {s : Sto} (wf : Wf s) {E : List Nat} (h : ∀ k, FoundS s E k → roomAt s k → k ∈ E) {ks : List Int} (nd : ks.Nodup) (mem : ∀ x : Int, x ∈ ks ↔ ∃ k : Nat, x = (k : Int) ∧ FoundS s E k) : ks.length = (s.filter Option.isSome).length := by
  rw [← count_some]
  have e : ks.Perm (((List.range s.length).filter fun k => (s.getD k none).isSome).map fun k : Nat => (k : Int)) := by
    refine (List.perm_ext_iff_of_nodup nd ((List.Nodup.sublist List.filter_sublist List.nodup_range).map _ fun a b e h => e (by omega))).mpr fun x => ?_
    rw [mem, List.mem_map]
    constructor
    · rintro ⟨k, rfl, hk⟩
      refine ⟨k, List.mem_filter.mpr ⟨List.mem_range.mpr (found_lt wf hk), ?_⟩, rfl⟩
      have : ∃ n, s[k]? = some (some n) := by
        rcases hk with rfl | ⟨r, _, e, he, rfl⟩
        · obtain ⟨es, h⟩ := wf.root; exact ⟨_, h⟩
        · exact wf.there r e he
      obtain ⟨n, hn⟩ := this
      rw [List.getD_eq_getElem?_getD, hn]
      rfl
    · rintro ⟨k, hk, rfl⟩
      obtain ⟨h1, h2⟩ := List.mem_filter.mp hk
      rw [List.getD_eq_getElem?_getD] at h2
      have lt := List.mem_range.mp h1
      rw [List.getElem?_eq_getElem lt] at h2
      cases e : s[k] with
      | none => rw [e] at h2; cases h2
      | some n => exact ⟨k, rfl, found_all wf h (n := n) (by rw [List.getElem?_eq_getElem lt, e])⟩
  rw [e.length_eq, List.length_map]

/-! ## The program's stores -/
theorem rd_isiR {K : PySem.W.Frag} {H : Hp} {Q : VK} {p : Addr} {xs : List V} (h : Rt H p xs) (q : Q (.bl true) H) : rIsi K [.ref p, .ty "tuple"] H Q := by
  rcases h with h | ⟨o, h⟩
  · exact rd_isiT h q
  · exact rd_isi (b := true) (.fTuple h) (kit_ty (by decide +kernel)) q
theorem sg_eq (c : Nat) : sg c = ⟨#[c]⟩ := rfl
def Φ_is_whole (K : PySem.W.Frag) (v : V) (H : Hp) (Q : VK) : Prop := (∃ i : Int, v = .int i ∧ Q (.bl true) H) ∨ ((v = .non ∨ (∃ b, v = .bl b) ∨ ∃ z, v = .str z) ∧ Q (.bl false) H)
theorem ok_is_whole (T : Txt P K mg) {f : Addr} {fd : FuncData} (F : Fun K "is_whole" "is_whole" s_is_whole f fd) : Keeps P w K mg base CX0 1 f fd ["value"] (sp1 (Φ_is_whole K)) := by
  refine keeps0_of F sc_is_whole (fun vs H Q E h => ?_) (fun cdv A outer s H vs Q E hr h => ?_)
  · obtain ⟨_, rfl, _⟩ := h
    rfl
  obtain ⟨v_value, rfl, h⟩ := h
  have hu := hr.hu
  refine ⟨_, (pss_one (ps_ret (pe_and (pe_callB (isiX (K := K)) (by rfl) T.b_isinstance (by decide +kernel) (pa_cons (pv 0) (pa_cons (pe_bltn (v := .ty "int") (by rfl) T.b_int (by decide +kernel) rfl) pa_nil))) (pe_one (pe_not (pe_callB (isiX (K := K)) (by rfl) T.b_isinstance (by decide +kernel) (pa_cons (pv 0) (pa_cons (pe_bltn (v := .ty "bool") (by rfl) T.b_bool (by decide +kernel) rfl) pa_nil)))))))), ?_⟩
  rw [show start ["value"] [v_value] = [some v_value] from rfl]
  try dsimp only [cxOf, Cx.nox, Cx.wish]
  rcases h with ⟨i, rfl, q⟩ | ⟨rfl | ⟨b, rfl⟩ | ⟨z, rfl⟩, q⟩
  · walk_at "rd"
    exact q
  · walk_at "rd"
    exact q
  · walk_at "rd"
    exact q
  · walk_at "rd"
    exact q
def Φ_is_plain (K : PySem.W.Frag) (v : V) (H : Hp) (Q : VK) : Prop := ∃ z : Str, v = .str z ∧ z.length ≤ 1000 ∧ ∀ H', Same H H' → Q (.bl (plainB z)) H'
theorem ok_is_plain (T : Txt P K mg) {f : Addr} {fd : FuncData} (F : Fun K "is_plain" "is_plain" s_is_plain f fd) : Keeps P w K mg base CX0 1 f fd ["text"] (sp1 (Φ_is_plain K)) := by
  refine keeps0_of F sc_is_plain (fun vs H Q E h => ?_) (fun cdv A outer s H vs Q E hr h => ?_)
  · obtain ⟨_, rfl, _⟩ := h
    rfl
  obtain ⟨v_text, rfl, h⟩ := h
  have hu := hr.hu
  refine ⟨_, (pss_one (ps_ret (pe_callB (allX (K := K) rfl) (by rfl) T.b_all (by decide +kernel) (pa_cons (pe_lc (own := [("sign", 1)]) rfl sc_is_plain.nd (pi_any (K := K) (pv 0)) (blkOk_by (own := [("sign", 1)]) (N := ["text", "sign"]) (sc := defScope s_is_plain) (by decide +kernel)) (fun _ _ _ _ _ => pg_name (i := 1) sc_is_plain.nd rfl (by first | exact Or.inl rfl | exact Or.inr rfl)) (fun _ _ _ _ _ => pts_nil) (fun _ _ _ _ _ => (pe_or (pe_cmpR (oEq (K := K) hr.u65) (pv 1) pe_str (nomark _)) (pe_one (pe_and (pe_chain oLe oLe pe_str (pv 1) pe_str) (pe_one (pe_cmpR (oNe (K := K) hr.u65) (pv 1) pe_str (nomark _)))))))) pa_nil)))), ?_⟩
  rw [show start ["text", "sign"] [v_text] = [some v_text, none] from rfl]
  try dsimp only [cxOf, Cx.nox, Cx.wish]
  obtain ⟨z, rfl, hz, q⟩ := h
  walk_at "rd"
  refine rd_lcS ?_
  walk_at "rd"
  refine rd_mapS (fun _ => true) (fun x => match x with | .str y => .bl (plS y) | _ => .non) (fun _ => rfl) (by omega) (fun _ _ => pt_yes) ?_ ?_
  · intro x hx _
    obtain ⟨c, hc, rfl⟩ := List.mem_map.mp hx
    intro H1 s1 QE q1
    have q1 : QE (.bl (plS ⟨#[c]⟩)) H1 := q1 H1 (Same.refl H1)
    unfold plS at q1
    walk_at "rd"
    cases e1 : decide ((⟨#[c]⟩ : Str) = "\n") with
    | true =>
      rw [e1, Bool.true_or] at q1
      walk_at "rd"
      exact q1
    | false =>
      rw [e1, Bool.false_or] at q1
      walk_at "rd"
      cases e2 : !decide ((⟨#[c]⟩ : Str).cps.toList < (" " : Str).cps.toList) with
      | false =>
        rw [e2, Bool.false_and, Bool.false_and] at q1
        walk_at "rd"
        exact q1
      | true =>
        rw [e2, Bool.true_and] at q1
        walk_at "rd"
        cases e3 : !decide (("~" : Str).cps.toList < (⟨#[c]⟩ : Str).cps.toList) with
        | false =>
          rw [e3, Bool.false_and] at q1
          walk_at "rd"
          exact q1
        | true =>
          rw [e3, Bool.true_and] at q1
          walk_at "rd"
          exact q1
  · intro D H1 hD s1 h1
    walk_at "rd"
    have e : ((signs z).filter fun _ => true).map (fun x => match x with | .str y => V.bl (plS y) | _ => .non) = ((tl z).map fun c => plS ⟨#[c]⟩).map V.bl := by
      rw [List.filter_eq_self.mpr fun _ _ => rfl]
      unfold signs
      rw [List.map_map, List.map_map]
      rfl
    rw [e] at h1
    refine rd_all (SqL.of h1) ?_
    have eb : ((tl z).map fun c => plS ⟨#[c]⟩).all id = plainB z := by
      rw [List.all_map]
      rfl
    exact eb ▸ q H1 s1
def Φ_is_text (K : PySem.W.Frag) (v : V) (H : Hp) (Q : VK) : Prop := ∃ z : Str, v = .str z ∧ z.length ≤ 1000 ∧ ∀ H', Same H H' → Q (.bl (textB z)) H'
theorem ok_is_text (T : Txt P K mg) {f : Addr} {fd : FuncData} (F : Fun K "is_text" "is_text" s_is_text f fd) : Keeps P w K mg base CX0 2 f fd ["value"] (sp1 (Φ_is_text K)) := by
  have c_is_plain := cal (P := P) (w := w) (base := base) T.d_is_plain fun F => ok_is_plain T F
  refine keeps0_of F sc_is_text (fun vs H Q E h => ?_) (fun cdv A outer s H vs Q E hr h => ?_)
  · obtain ⟨_, rfl, _⟩ := h
    rfl
  obtain ⟨v_value, rfl, h⟩ := h
  have hu := hr.hu
  refine ⟨_, (pss_one (ps_ret (pe_and (pe_callB (isiX (K := K)) (by rfl) T.b_isinstance (by decide +kernel) (pa_cons (pv 0) (pa_cons (pe_bltn (v := .ty "str") (by rfl) T.b_str (by decide +kernel) rfl) pa_nil))) (pe_and (pe_cmpR oLe (pe_callB (call_lenX (K := K)) (by rfl) T.b_len (by decide +kernel) (pa_cons (pv 0) pa_nil)) (pe_gk (by rfl) T.c_MOST_TEXT) (nomark _)) (pe_one (pe_cal c_is_plain (hr.mono (by decide)) (by rfl) pass0 (pa_cons (pv 0) pa_nil))))))), ?_⟩
  rw [show start ["value"] [v_value] = [some v_value] from rfl]
  try dsimp only [cxOf, Cx.nox, Cx.wish]
  obtain ⟨z, rfl, hz, q⟩ := h
  walk_at "rd"
  have ed : decide ((z.length : Int) ≤ 400) = decide (z.length ≤ 400) := decide_eq_decide.mpr (by omega)
  rw [ed]
  unfold textB at q
  cases e : decide (z.length ≤ 400) with
  | false =>
    rw [e, Bool.false_and] at q
    walk_at "rd"
    exact q H (Same.refl H)
  | true =>
    rw [e, Bool.true_and] at q
    walk_at "rd"
    exact ⟨z, rfl, hz, q⟩
def NumE (n : Nat) (es : List (Str × Nat)) : Prop := (∀ e ∈ es, entB e.1 = true ∧ e.2 < n) ∧ es.Pairwise fun a b => tl a.1 < tl b.1
def Φ_are_entries (K : PySem.W.Frag) (v vm : V) (H : Hp) (Q : VK) : Prop := ∃ (b : Addr) (es : List (Str × Nat)) (n : Nat), v = .ref b ∧ EsAt H b es ∧ vm = .int n ∧ NumE n es ∧ es.length ≤ 1000 ∧ ∀ H', Same H H' → Q (.bl true) H'
theorem pw_get {α : Type} {R : α → α → Prop} {l : List α} (h : l.Pairwise R) {i j : Nat} {x y : α} (hij : i < j) (hx : l[i]? = some x) (hy : l[j]? = some y) : R x y := by
  obtain ⟨a1, a2⟩ := List.getElem?_eq_some_iff.mp hx
  obtain ⟨b1, b2⟩ := List.getElem?_eq_some_iff.mp hy
  rw [← a2, ← b2]
  exact List.pairwise_iff_getElem.mp h i j a1 b1 hij
theorem ok_are_entries (T : Txt P K mg) {f : Addr} {fd : FuncData} (F : Fun K "are_entries" "are_entries" s_are_entries f fd) : Keeps P w K mg base CX0 2 f fd ["value", "many"] (sp2 (Φ_are_entries K)) := by
  have c_is_entry_name := cal (P := P) (w := w) (base := base) T.d_is_entry_name fun F => ok_is_entry_name T F
  have c_is_whole := cal (P := P) (w := w) (base := base) T.d_is_whole fun F => ok_is_whole T F
  refine keeps0_of F sc_are_entries (fun vs H Q E h => ?_) (fun cdv A outer s H vs Q E hr h => ?_)
  · obtain ⟨_, _, rfl, _⟩ := h
    rfl
  obtain ⟨v_value, v_many, rfl, h⟩ := h
  have hu := hr.hu
  refine ⟨_, (pss_cons (ps_if (pt_not (pt_val (pe_callB (isiX (K := K)) (by rfl) T.b_isinstance (by decide +kernel) (pa_cons (pv 0) (pa_cons (pe_bltn (v := .ty "tuple") (by rfl) T.b_tuple (by decide +kernel) rfl) pa_nil))))) (pss_one (ps_ret pe_bl)) pss_nil)
      (pss_cons (ps_for PassesOwn.never rfl (pi_any (K := K) (pv 0)) (pg_name (i := 2) sc_are_entries.nd rfl (by first | exact Or.inl rfl | exact Or.inr rfl)) (pss_cons (ps_if (PW.pt (pw_or (pt_not (pt_val (pe_callB (isiX (K := K)) (by rfl) T.b_isinstance (by decide +kernel) (pa_cons (pv 2) (pa_cons (pe_bltn (v := .ty "tuple") (by rfl) T.b_tuple (by decide +kernel) rfl) pa_nil))))) (pw_or (pt_cmpR (oNe (K := K) hr.u65) (pe_callB (call_lenX (K := K)) (by rfl) T.b_len (by decide +kernel) (pa_cons (pv 2) pa_nil)) pe_int (nomark _)) (pw_or1 (pt_not (pt_val (pe_cal c_is_entry_name (hr.mono (by decide)) (by rfl) pass0 (pa_cons (pe_ix (ixX (K := K)) (pv 2) pe_int (fun _ _ => rfl)) pa_nil)))))))) (pss_one (ps_ret pe_bl)) pss_nil)
      (pss_one (ps_if (PW.pt (pw_or (pt_not (pt_val (pe_cal c_is_whole (hr.mono (by decide)) (by rfl) pass0 (pa_cons (pe_ix (ixX (K := K)) (pv 2) pe_int (fun _ _ => rfl)) pa_nil)))) (pw_or1 (pt_not (pt_chain oLe oLt pe_int (pe_ix (ixX (K := K)) (pv 2) pe_int (fun _ _ => rfl)) (pv 1)))))) (pss_one (ps_ret pe_bl)) pss_nil))))
      (pss_cons (ps_setLc (i := 3) (own := [("entry", 2)]) rfl sc_are_entries.nd rfl rfl (sw_true rfl rfl rfl (by decide +kernel)) (pi_any (K := K) (pv 0)) (blkOk_by (own := [("entry", 2)]) (N := ["value", "many", "entry", "names", "one", "other"]) (sc := defScope s_are_entries) (by decide +kernel)) (fun _ _ _ _ _ => pg_name (i := 2) sc_are_entries.nd rfl (by first | exact Or.inl rfl | exact Or.inr rfl)) (fun _ _ _ _ _ => pts_nil) (fun _ _ _ _ _ => (pe_ix (ixX (K := K)) (pv 2) pe_int (fun _ _ => rfl))))
      (pss_one (ps_ret (pe_callB (allX (K := K) rfl) (by rfl) T.b_all (by decide +kernel) (pa_cons (pe_lc (own := [("one", 4), ("other", 5)]) rfl sc_are_entries.nd (pi_zipX (K := K) (by rfl) T.b_zip (pa_cons (pv 3) (pa_cons (pe_slice (sX (K := K)) (pv 3) (po_some pe_int) po_none) pa_nil))) (blkOk_by (own := [("one", 4), ("other", 5)]) (N := ["value", "many", "entry", "names", "one", "other"]) (sc := defScope s_are_entries) (by decide +kernel)) (fun _ _ _ _ _ => pg_seqX (K := K) (n := 2) rfl (pgs_cons (pg_name (i := 4) sc_are_entries.nd rfl (by first | exact Or.inl rfl | exact Or.inr rfl)) (pgs_cons (pg_name (i := 5) sc_are_entries.nd rfl (by first | exact Or.inl rfl | exact Or.inr rfl)) pgs_nil))) (fun _ _ _ _ _ => pts_nil) (fun _ _ _ _ _ => (pe_cmpR oLt (pv 4) (pv 5) (nomark _)))) pa_nil))))))), ?_⟩
  rw [show start ["value", "many", "entry", "names", "one", "other"] [v_value, v_many] = [some v_value, some v_many, none, none, none, none] from rfl]
  try dsimp only [cxOf, Cx.nox, Cx.wish]
  obtain ⟨b, es, n, rfl, ⟨ys, hb, ps⟩, rfl, ⟨ok, up⟩, hl, q⟩ := h
  have ly := Paired.length ps
  walk_at "rd"
  refine rd_isiR hb.rt ?_
  walk_at "rd"
  refine rd_forT ?_
  walk_at "rd"
  refine rd_itT (xs := ys) hb.rt.sq (fun i σ H' => Same H H' ∧ ∃ x2 x3 x4 x5, σ = [some (.ref b), some (.int n), x2, x3, x4, x5]) ⟨Same.refl H, _, _, _, _, rfl⟩ ?_ ?_ ?_
  · rintro i σ H' _ ⟨k, _⟩
    exact (hb.up (Ty.of k)).rt.sq
  · rintro i x σ H1 hx ⟨k, x2, x3, x4, x5, rfl⟩
    obtain ⟨e, he, p, rfl, hp⟩ := pd_getL ps hx
    have hp := hp.up (Ty.of k)
    obtain ⟨o1, o2⟩ := ok e (List.mem_of_getElem? he)
    have el := entB_len o1
    walk_at "rd"
    refine rd_isiR hp ?_
    walk_at "rd"
    refine rd_lenT hp.sq ?_
    walk_at "rd"
    refine rd_noI (by rfl) ?_
    walk_at "rd"
    refine rd_ixT hp.sq rfl ?_
    walk_at "rd"
    refine ⟨e.1, rfl, by omega, fun H2 k2 => ?_⟩
    rw [o1]
    have hp2 := hp.up (Ty.of k2)
    walk_at "rd"
    refine rd_ixT hp2.sq rfl ?_
    walk_at "rd"
    refine .inl ⟨_, rfl, ?_⟩
    walk_at "rd"
    refine rd_ixT hp2.sq rfl ?_
    walk_at "rd"
    rw [decide_eq_true (show (0 : Int) ≤ (e.2 : Int) by omega)]
    walk_at "rd"
    rw [decide_eq_true (show (e.2 : Int) < (n : Int) by omega)]
    walk_at "rd"
    exact ⟨k.trans k2, _, _, _, _, rfl⟩
  · rintro σ H1 ⟨k1, x2, x3, x4, x5, rfl⟩
    have hb1 := hb.up (Ty.of k1)
    have ps1 := pd_mono (fun _ _ q => pairV.up q (Ty.of k1)) ps
    walk_at "rd"
    refine rd_lcT ?_
    walk_at "rd"
    refine rd_clT (xs := ys) hb1.rt.sq (fun D i H' => Same H1 H' ∧ H' D = some (.lst ((es.take i).map fun e => V.str e.1))) (fun D hD => ⟨(Same.refl H1).new (o := .lst []) hD, upd_same⟩) (fun D i H' _ _ h => (hb1.up (Ty.of h.1)).rt.sq) (fun D i x H' hD hx hP => ?_) (fun D H' hD hP => ?_)
    · obtain ⟨k2, hL⟩ := hP
      obtain ⟨e, he, p, rfl, hp⟩ := pd_getL ps1 hx
      have hp := hp.up (Ty.of k2)
      walk_at "rd"
      refine rd_ixT hp.sq rfl ?_
      have le : (es.take i).length ≤ 1000 := by rw [List.length_take]; omega
      refine ⟨_, hL, szLt (by rw [List.length_map]; omega), k2.put hD, ?_⟩
      rw [upd_same, List.take_add_one, he, List.map_append]
      rfl
    · obtain ⟨k2, hL⟩ := hP
      rw [ly, List.take_length] at hL
      walk_at "rd"
      refine rd_slL (SqL.of hL) fun l hl2 => ?_
      rw [show cutV (es.map fun e => V.str e.1) (some 1) none = (es.map fun e => V.str e.1).drop 1 from cutV_drop _ 1]
      have k3 := (Same.refl H').new (o := .lst ((es.map fun e => V.str e.1).drop 1)) hl2
      refine rd_clZ (xs := es.map fun e => V.str e.1) (ys := (es.map fun e => V.str e.1).drop 1) (n := min es.length (es.length - 1)) (SqL.of (k3 _ _ hL)) (SqL.of upd_same) (by rw [List.length_drop, List.length_map]) (fun D2 i H2 => Same (upd H' l (.lst ((es.map fun e => V.str e.1).drop 1))) H2 ∧ H2 D2 = some (.lst ((List.replicate i true).map V.bl))) (fun D2 hD2 => ⟨(Same.refl _).new (o := .lst []) hD2, upd_same⟩)
        (fun D2 i H2 _ _ h => ⟨SqL.of (h.1 _ _ (k3 _ _ hL)), SqL.of (h.1 _ _ upd_same)⟩) (fun D2 i x y T H2 hD2 hx hy hP hT => ?_) (fun D2 H2 hD2 hP => ?_)
      · obtain ⟨k4, hL2⟩ := hP
        rw [List.getElem?_map] at hx
        obtain ⟨e, he, rfl⟩ := Option.map_eq_some_iff.mp hx
        rw [List.getElem?_drop, List.getElem?_map] at hy
        obtain ⟨e', he', rfl⟩ := Option.map_eq_some_iff.mp hy
        have lt := pw_get up (show i < 1 + i by omega) he he'
        refine rd_lcT1 ?_
        refine rd_gtup (SqT.of upd_same) rfl ?_
        walk_at "rd"
        rw [decide_eq_true (show e.1.cps.toList < e'.1.cps.toList from lt)]
        have hne : D2 ≠ T := fun e => by rw [e, hT] at hL2; cases hL2
        refine ⟨_, by rw [upd_ne hne]; exact hL2, szLt (by rw [List.length_map, List.length_replicate]; have := (List.getElem?_eq_some_iff.mp he).1; omega), ((k4.new (o := .tup [V.str e.1, V.str e'.1]) hT)).put hD2, ?_⟩
        rw [upd_same, List.replicate_succ', List.map_append]
        rfl
      · obtain ⟨k4, hL2⟩ := hP
        refine rd_all (SqL.of hL2) ?_
        have e : (List.replicate (min es.length (es.length - 1)) true).all id = true := by
          rw [List.all_eq_true]
          intro x hx
          rw [(List.mem_replicate.mp hx).2]
          rfl
        rw [e]
        exact q _ (((k1.trans k2).trans k3).trans k4)
def Φ_is_node (K : PySem.W.Frag) (v vm : V) (H : Hp) (Q : VK) : Prop := ∃ (nd : Nd) (n : Nat), NdAt H v (some nd) ∧ vm = .int n ∧ n ≤ 1000 ∧ NdOk n nd ∧ (∀ es, nd = .room es → es.length ≤ 1000) ∧ ∀ H', Same H H' → Q (.bl true) H'
theorem ok_is_node (T : Txt P K mg) {f : Addr} {fd : FuncData} (F : Fun K "is_node" "is_node" s_is_node f fd) : Keeps P w K mg base CX0 3 f fd ["value", "many"] (sp2 (Φ_is_node K)) := by
  have c_is_text := cal (P := P) (w := w) (base := base) T.d_is_text fun F => ok_is_text T F
  have c_is_a_path := cal (P := P) (w := w) (base := base) T.d_is_a_path fun F => ok_is_a_path T F
  have c_are_entries := cal (P := P) (w := w) (base := base) T.d_are_entries fun F => ok_are_entries T F
  refine keeps0_of F sc_is_node (fun vs H Q E h => ?_) (fun cdv A outer s H vs Q E hr h => ?_)
  · obtain ⟨_, _, rfl, _⟩ := h
    rfl
  obtain ⟨v_value, v_many, rfl, h⟩ := h
  have hu := hr.hu
  refine ⟨_, (pss_cons (ps_if (PW.pt (pw_or (pt_not (pt_val (pe_callB (isiX (K := K)) (by rfl) T.b_isinstance (by decide +kernel) (pa_cons (pv 0) (pa_cons (pe_bltn (v := .ty "tuple") (by rfl) T.b_tuple (by decide +kernel) rfl) pa_nil))))) (pw_or (pt_cmpR (oNe (K := K) hr.u65) (pe_callB (call_lenX (K := K)) (by rfl) T.b_len (by decide +kernel) (pa_cons (pv 0) pa_nil)) pe_int (nomark _)) (pw_or1 (pt_not (pt_val (pe_callB (isiX (K := K)) (by rfl) T.b_isinstance (by decide +kernel) (pa_cons (pe_ix (ixX (K := K)) (pv 0) pe_int (fun _ _ => rfl)) (pa_cons (pe_bltn (v := .ty "str") (by rfl) T.b_str (by decide +kernel) rfl) pa_nil))))))))) (pss_one (ps_ret pe_bl)) pss_nil)
      (pss_cons (ps_if (pt_cmpR (oEq (K := K) hr.u65) (pe_ix (ixX (K := K)) (pv 0) pe_int (fun _ _ => rfl)) (pe_gk (by rfl) T.c_FILE) (nomark _)) (pss_one (ps_ret (pe_cal c_is_text (hr.mono (by decide)) (by rfl) pass0 (pa_cons (pe_ix (ixX (K := K)) (pv 0) pe_int (fun _ _ => rfl)) pa_nil)))) pss_nil)
      (pss_cons (ps_if (pt_cmpR (oEq (K := K) hr.u65) (pe_ix (ixX (K := K)) (pv 0) pe_int (fun _ _ => rfl)) (pe_gk (by rfl) T.c_SIGN) (nomark _)) (pss_one (ps_ret (pe_cal c_is_a_path (hr.mono (by decide)) (by rfl) pass0 (pa_cons (pe_ix (ixX (K := K)) (pv 0) pe_int (fun _ _ => rfl)) pa_nil)))) pss_nil)
      (pss_one (ps_ret (pe_and (pe_cmpR (oEq (K := K) hr.u65) (pe_ix (ixX (K := K)) (pv 0) pe_int (fun _ _ => rfl)) (pe_gk (by rfl) T.c_ROOM) (nomark _)) (pe_one (pe_cal c_are_entries (hr.mono (by decide)) (by rfl) pass0 (pa_cons (pe_ix (ixX (K := K)) (pv 0) pe_int (fun _ _ => rfl)) (pa_cons (pv 1) pa_nil)))))))))), ?_⟩
  rw [show start ["value", "many"] [v_value, v_many] = [some v_value, some v_many] from rfl]
  try dsimp only [cxOf, Cx.nox, Cx.wish]
  obtain ⟨nd, n, hv, rfl, hn, ok, hes, q⟩ := h
  match nd, hv, ok, hes with
  | .file t, ⟨a, e, r⟩, ok, _ =>
    subst e
    walk_at "rd"
    refine rd_isiR r ?_
    walk_at "rd"
    refine rd_lenT r.sq ?_
    walk_at "rd"
    refine rd_noI (by rfl) ?_
    walk_at "rd"
    refine rd_ixT r.sq rfl ?_
    walk_at "rd"
    refine rd_ixT r.sq rfl ?_
    walk_at "rd"
    refine rd_yesI (decide_eq_true rfl) ?_
    walk_at "rd"
    refine rd_ixT r.sq rfl ?_
    have ok : textB t = true := ok
    have := textB_len ok
    walk_at "rd"
    exact ⟨t, rfl, by omega, fun H1 k1 => ok ▸ q H1 k1⟩
  | .sign p, ⟨a, e, r⟩, ok, _ =>
    subst e
    walk_at "rd"
    refine rd_isiR r ?_
    walk_at "rd"
    refine rd_lenT r.sq ?_
    walk_at "rd"
    refine rd_noI (by rfl) ?_
    walk_at "rd"
    refine rd_ixT r.sq rfl ?_
    walk_at "rd"
    refine rd_ixT r.sq rfl ?_
    walk_at "rd"
    refine rd_noI (by decide +kernel) ?_
    walk_at "rd"
    refine rd_ixT r.sq rfl ?_
    walk_at "rd"
    refine rd_yesI (decide_eq_true rfl) ?_
    walk_at "rd"
    refine rd_ixT r.sq rfl ?_
    have ok : pathB (.str p) = true := ok
    have := pathB_len ok
    walk_at "rd"
    exact ⟨.inl ⟨p, rfl, by omega⟩, fun H1 k1 => ok ▸ q H1 k1⟩
  | .room es, ⟨a, b, e, r, hb⟩, ok, hes =>
    subst e
    walk_at "rd"
    refine rd_isiR r ?_
    walk_at "rd"
    refine rd_lenT r.sq ?_
    walk_at "rd"
    refine rd_noI (by rfl) ?_
    walk_at "rd"
    refine rd_ixT r.sq rfl ?_
    walk_at "rd"
    refine rd_ixT r.sq rfl ?_
    walk_at "rd"
    refine rd_noI (by decide +kernel) ?_
    walk_at "rd"
    refine rd_ixT r.sq rfl ?_
    walk_at "rd"
    refine rd_noI (by decide +kernel) ?_
    walk_at "rd"
    refine rd_ixT r.sq rfl ?_
    walk_at "rd"
    rw [decide_eq_true rfl]
    walk_at "rd"
    refine rd_ixT r.sq rfl ?_
    walk_at "rd"
    exact ⟨b, es, n, rfl, hb, rfl, ok, hes es rfl, q⟩
def Φ_hangs_together (K : PySem.W.Frag) (v : V) (H : Hp) (Q : VK) : Prop := ∃ s, StAt H v s ∧ Wf s ∧ ∀ H', Same H H' → Q (.bl true) H'
theorem rd_pop {H : Hp} {Q : VK} {l : Addr} {xs : List V} {y : V} (h : H l = some (.lst (xs ++ [y]))) (q : Q y (upd H l (.lst xs))) : rPop (.ref l) [] H Q :=
  ⟨l, xs ++ [y], y, rfl, rfl, h, by rw [List.length_append, List.getElem?_append_right (by show xs.length ≤ xs.length + 1 - 1; omega)]; simp, by rw [List.dropLast_concat]; exact q⟩
theorem upd_twice {H : Hp} {p : Addr} {o u : HO} : upd (upd H p o) p u = upd H p u := by
  funext a
  by_cases h : a = p
  · rw [h, upd_same, upd_same]
  · rw [upd_ne h, upd_ne h, upd_ne h]
theorem rd_dispI {σ : St} {H : Hp} {Q : VK} {n : Int} {v : V} (q : ∀ p, H p = none → Q (.ref p) (upd H p (.dK [(Sum.inl n, v)]))) : tDisp [(tC (V.int n), tC v)] σ H Q :=
  fun p hp => ⟨upd_same, [(Sum.inl n, v)], rfl, (by show 1 ≤ 15; omega), by rw [upd_twice]; exact q p hp⟩
theorem nat_lst {l : List Nat} {n : Nat} : (l.map fun n : Nat => V.int (n : Int)) ++ [V.int (n : Int)] = (l ++ [n]).map fun n : Nat => V.int (n : Int) := by rw [List.map_append]; rfl
theorem ok_hangs_together (T : Txt P K mg) {f : Addr} {fd : FuncData} (F : Fun K "hangs_together" "hangs_together" s_hangs_together f fd) : Keeps P w K mg base CX0 1 f fd ["store"] (sp1 (Φ_hangs_together K)) := by
  refine keeps0_of F sc_hangs_together (fun vs H Q E h => ?_) (fun cdv A outer s H vs Q E hr h => ?_)
  · obtain ⟨_, rfl, _⟩ := h
    rfl
  obtain ⟨v_store, rfl, h⟩ := h
  have hu := hr.hu
  refine ⟨_, (pss_cons (ps_par (i := 1) (j := 2) rfl sc_hangs_together.nd rfl rfl (by decide) rfl rfl (pa_cons (pe_disp (pps_cons pe_int pe_bl pps_nil) (by rfl) (by rfl) (fun z => by cases z) (by decide)) (pa_cons (pe_lst (pa_cons pe_int pa_nil)) pa_nil)) (by rfl))
      (pss_cons (ps_while PassesOwn.never (pt_cmpR (oNe (K := K) hr.u65) (pv 2) (pe_lst pa_nil) (nomark _)) (pss_one (ps_for PassesOwn.never rfl (pi_any (K := K) (pe_ix (ixX (K := K)) (pe_ix (ixX (K := K)) (pv 0) (pe_bm0X (K := K) PySem.F.plainAttrs_list PySem.F.slot_list_pop PySem.F.type_list_pop mt_pop (pv 2)) (fun _ _ => rfl)) pe_int (fun _ _ => rfl))) (pg_seqX (K := K) (n := 2) rfl (pgs_cons (pg_name (i := 3) sc_hangs_together.nd rfl (by first | exact Or.inl rfl | exact Or.inr rfl)) (pgs_cons (pg_name (i := 4) sc_hangs_together.nd rfl (by first | exact Or.inl rfl | exact Or.inr rfl)) pgs_nil))) (pss_cons (ps_set (i := 5) sc_hangs_together.nd rfl (by first | exact Or.inl rfl | exact Or.inr rfl) (pe_ix (ixX (K := K)) (pv 0) (pv 4) (fun _ _ => rfl)))
      (pss_cons (ps_if (PW.pt (pw_or (pt_cmpR oIs (pv 5) pe_non (nomark _)) (pw_or1 (PW.pt (pw_and (pt_cmpR (oEq (K := K) hr.u65) (pe_ix (ixX (K := K)) (pv 5) pe_int (fun _ _ => rfl)) (pe_gk (by rfl) T.c_ROOM) (nomark _)) (pw_and1 (pt_cmp (pc_din hu (pv 4) (pv 1))))))))) (pss_one (ps_ret pe_bl)) pss_nil)
      (pss_meet (ps_if (pt_cmpR (oEq (K := K) hr.u65) (pe_ix (ixX (K := K)) (pv 5) pe_int (fun _ _ => rfl)) (pe_gk (by rfl) T.c_ROOM) (nomark _)) (pss_one (ps_expr (pe_bmX (K := K) PySem.F.plainAttrs_list PySem.F.slot_list_append PySem.F.type_list_append mt_append (pv 2) (pa_cons (pv 4) pa_nil)))) pss_nil)
      (pss_one (ps_dput hu (pv 1) (pv 4) pe_bl rfl))))))))
      (pss_one (ps_ret (pe_cmpR (oEq (K := K) hr.u65) (pe_callB call_lenD (by rfl) T.b_len (by decide +kernel) (pa_cons (pv 1) pa_nil)) (pe_callB (call_lenX (K := K)) (by rfl) T.b_len (by decide +kernel) (pa_cons (pe_lc (own := [("node", 5)]) rfl sc_hangs_together.nd (pi_any (K := K) (pv 0)) (blkOk_by (own := [("node", 5)]) (N := ["store", "found", "waiting", "name", "number", "node"]) (sc := defScope s_hangs_together) (by decide +kernel)) (fun _ _ _ _ _ => pg_name (i := 5) sc_hangs_together.nd rfl (by first | exact Or.inl rfl | exact Or.inr rfl)) (fun _ _ _ _ _ => pts_one (pt_cmpR oIsNot (pv 5) pe_non (nomark _))) (fun _ _ _ _ _ => (pv 5))) pa_nil)) (nomark _)))))), ?_⟩
  rw [show start ["store", "found", "waiting", "name", "number", "node"] [v_store] = [some v_store, none, none, none, none, none] from rfl]
  try dsimp only [cxOf, Cx.nox, Cx.wish]
  obtain ⟨s, ⟨a, xs, rfl, ha, ps⟩, wf, q⟩ := h
  have lx := Paired.length ps
  have l60 := wf.l2
  walk_at "rd"
  refine rd_dispI fun D hD => ?_
  have k1 := (Same.refl H).new (o := .dK [(Sum.inl 0, .bl true)]) hD
  have K1 : KeysAre (upd H D (.dK [(Sum.inl 0, .bl true)])) D (FoundS s []) := ⟨_, [0], upd_same, rfl, List.nodup_cons.mpr ⟨List.not_mem_nil, List.nodup_nil⟩, fun x => by
    rw [List.mem_singleton]
    exact ⟨fun h => ⟨0, h, .inl rfl⟩, fun ⟨k, e, h⟩ => by
      rcases h with rfl | ⟨_, h, _⟩
      · exact e
      · cases h⟩⟩
  generalize upd H D (.dK [(Sum.inl 0, .bl true)]) = H1 at k1 K1 ⊢
  walk_at "rd"
  intro p hp
  have hpH : H p = none := Sub.of k1 p hp
  have pD : p ≠ D := fun e => by
    obtain ⟨kvs, _, h, _⟩ := K1
    rw [e, h] at hp
    cases hp
  have k2 := k1.new (o := .lst [.int 0]) hp
  have K2 : KeysAre (upd H1 p (.lst [.int 0])) D (FoundS s []) := K1.at fun o e => by rw [upd_ne pD.symm]; exact e
  have p2 : upd H1 p (.lst [.int 0]) p = some (.lst ([0].map fun n : Nat => V.int (n : Int))) := upd_same
  generalize upd H1 p (.lst [.int 0]) = H2 at k2 K2 p2 ⊢
  walk_at "rd"
  obtain ⟨es0, hroot⟩ := wf.root
  refine rd_while (fun m σ H' => ∃ (E Wt : List Nat) (x3 x4 x5 : Option V), m = s.length - E.length ∧ Same H H' ∧ KeysAre H' D (FoundS s E) ∧ H' p = some (.lst (Wt.map fun n : Nat => V.int (n : Int))) ∧ (Wt ++ E).Nodup ∧ (∀ r ∈ Wt ++ E, roomAt s r ∧ FoundS s E r) ∧ (∀ k, FoundS s E k → roomAt s k → k ∈ Wt ++ E) ∧
    σ = [some (.ref a), some (.ref D), some (.ref p), x3, x4, x5]) s.length ⟨[], [0], _, _, _, rfl, k2, K2, p2, by decide, fun r hr => ?_, fun k hk _ => ?_, rfl⟩ ?_
  · have : r = 0 := by simpa using hr
    subst this
    exact ⟨⟨es0, hroot⟩, .inl rfl⟩
  · rcases hk with rfl | ⟨_, h, _⟩
    · exact List.mem_append_left _ (List.mem_singleton.mpr rfl)
    · cases h
  rintro m σ H3 ⟨E, Wt, x3, x4, x5, rfl, k3, hK, hW, nd, hr, hin, rfl⟩
  walk_at "rd"
  intro e he
  have k4 := (Same.refl H3).new (o := .lst []) he
  have k34 := k3.trans k4
  have hK4 := hK.same k4
  have hW4 := k4 _ _ hW
  have e4 : upd H3 e (.lst []) e = some (.lst []) := upd_same
  generalize upd H3 e (.lst []) = H4 at k4 k34 hK4 hW4 e4 ⊢
  refine rd_neNil (SqL.of hW4) (SqL.of e4) ?_
  walk_at "rd"
  refine rd_ite (fun hc => ?_) (fun hc => ?_)
  · obtain ⟨W', r, rfl⟩ : ∃ W' r, Wt = W' ++ [r] := by
      rcases List.eq_nil_or_concat Wt with rfl | ⟨l, x, rfl⟩
      · cases hc
      · exact ⟨l, x, List.concat_eq_append⟩
    have nd2 : (W' ++ r :: E).Nodup := by rw [List.append_assoc] at nd; exact nd
    obtain ⟨⟨es, hes⟩, hrS⟩ := hr r (List.mem_append_left _ (List.mem_append_right _ (List.mem_singleton.mpr rfl)))
    have hen := entsAt_room hes
    obtain ⟨v, hv, na, nb, rfl, hna, ys, hys, pys⟩ := pd_getR ps hes
    have hl : es.length ≤ 1000 := by have := wf.few r; rw [hen] at this; exact this
    have rE : r ∉ E := fun h => (List.nodup_append.mp nd2).2.1 |> fun n => (List.nodup_cons.mp n).1 h
    have lE : (r :: E).length ≤ s.length := few_nats s.length ((List.nodup_append.mp nd2).2.1) fun k hk => by
      rcases List.mem_cons.mp hk with rfl | hk
      · exact room_lt ⟨es, hes⟩
      · exact room_lt (hr k (List.mem_append_right _ hk)).1
    refine rd_turn ?_
    refine rd_forT ?_
    walk_at "rd"
    refine rd_tyL (SqL.of hW4) ?_
    refine rd_pop (xs := W'.map fun n : Nat => V.int (n : Int)) (y := .int (r : Int)) (by rw [hW4, nat_lst]) ?_
    have k5 := k34.put (o := .lst (W'.map fun n : Nat => V.int (n : Int))) hpH
    have hK5 : KeysAre (upd H4 p (.lst (W'.map fun n : Nat => V.int (n : Int)))) D (FoundS s E) := hK4.at fun o e => by rw [upd_ne pD.symm]; exact e
    have p5 : upd H4 p (.lst (W'.map fun n : Nat => V.int (n : Int))) p = some (.lst (W'.map fun n : Nat => V.int (n : Int))) := upd_same
    generalize upd H4 p (.lst (W'.map fun n : Nat => V.int (n : Int))) = H5 at k5 hK5 p5 ⊢
    refine rd_ixT (ha.up (Ty.of k5)).sq (atI_nat hv) ?_
    walk_at "rd"
    refine rd_ixT (hna.up (Ty.of k5)).sq rfl ?_
    refine rd_itT (xs := ys) (hys.up (Ty.of k5)).rt.sq (fun i σ H' => ∃ (Wt : List Nat) (x3 x4 x5 : Option V), Same H H' ∧ KeysAre H' D (fun k => FoundS s E k ∨ ∃ e ∈ es.take i, e.2 = k) ∧ H' p = some (.lst (Wt.map fun n : Nat => V.int (n : Int))) ∧ (Wt ++ r :: E).Nodup ∧ (∀ k ∈ Wt, roomAt s k ∧ (FoundS s E k ∨ ∃ e ∈ es.take i, e.2 = k)) ∧
      (∀ k, (FoundS s E k ∨ ∃ e ∈ es.take i, e.2 = k) → roomAt s k → k ∈ Wt ++ r :: E) ∧ σ = [some (.ref a), some (.ref D), some (.ref p), x3, x4, x5])
      ⟨W', _, _, _, k5, hK5.congr fun k => ⟨.inl, fun h => h.resolve_right fun ⟨_, h, _⟩ => nomatch h⟩, p5, nd2, fun k hk => ⟨(hr k (List.mem_append_left _ (List.mem_append_left _ hk))).1, .inl (hr k (List.mem_append_left _ (List.mem_append_left _ hk))).2⟩, fun k hk hroom => ?_, rfl⟩ ?_ ?_ ?_
    · have := hin k (hk.resolve_right fun ⟨_, h, _⟩ => nomatch h) hroom
      rwa [List.append_assoc] at this
    · rintro i σ H' _ ⟨_, _, _, _, k, _⟩
      exact (hys.up (Ty.of k)).rt.sq
    · rintro i x σ H6 hx ⟨Wt, y3, y4, y5, k6, hK6, p6, nd6, hr6, hin6, rfl⟩
      obtain ⟨e1, he1, pp, rfl, hpp⟩ := pd_getL pys hx
      have hpp := hpp.up (Ty.of k6)
      have grow : es.take (i + 1) = es.take i ++ [e1] := by rw [List.take_add_one, he1]; rfl
      have mem : e1 ∈ entsAt s r := by rw [hen]; exact List.mem_of_getElem? he1
      obtain ⟨n1, hn1⟩ := wf.there r e1 mem
      obtain ⟨v1, hv1, at1⟩ := pd_getR ps hn1
      obtain ⟨a1, y1, rfl, hh1⟩ := at1.head
      have hh1 := hh1.up (Ty.of k6)
      have S6 : ∀ k, (FoundS s E k ∨ ∃ e ∈ es.take i, e.2 = k) → k < s.length := fun k hk => by
        rcases hk with hk | ⟨e, he, rfl⟩
        · exact found_lt wf hk
        · obtain ⟨n, hn⟩ := wf.there r e (by rw [hen]; exact List.mem_of_mem_take he)
          exact (List.getElem?_eq_some_iff.mp hn).1
      have step : ∀ k, ((FoundS s E k ∨ ∃ e ∈ es.take i, e.2 = k) ∨ k = e1.2) ↔ (FoundS s E k ∨ ∃ e ∈ es.take (i + 1), e.2 = k) := fun k => by
        rw [grow]
        constructor
        · rintro ((h | ⟨e, h, rfl⟩) | rfl)
          · exact .inl h
          · exact .inr ⟨e, List.mem_append_left _ h, rfl⟩
          · exact .inr ⟨e1, List.mem_append_right _ (List.mem_singleton.mpr rfl), rfl⟩
        · rintro (h | ⟨e, h, rfl⟩)
          · exact .inl (.inl h)
          · rcases List.mem_append.mp h with h | h
            · exact .inl (.inr ⟨e, h, rfl⟩)
            · rw [List.mem_singleton.mp h]
              exact .inr rfl
      refine rd_gtup hpp.sq rfl ?_
      walk_at "rd"
      refine rd_ixT (ha.up (Ty.of k6)).sq (atI_nat hv1) ?_
      walk_at "rd"
      refine rd_noI (decide_eq_false fun e => nomatch e) ?_
      walk_at "rd"
      refine rd_ixT hh1.sq rfl ?_
      walk_at "rd"
      rw [wordN_room]
      cases hroom : isRoom (some n1) with
      | true =>
        have room1 : roomAt s e1.2 := by
          match n1, hroom, hn1 with
          | .room es1, _, hn1 => exact ⟨es1, hn1⟩
        have fresh : ¬ (FoundS s E e1.2 ∨ ∃ e ∈ es.take i, e.2 = e1.2) := by
          rintro ((h | ⟨r', hr', e', he', h⟩) | ⟨e', he', h⟩)
          · exact (wf.one r r e1 e1 mem mem rfl room1).1 h
          · have := wf.one r r' e1 e' mem he' h.symm room1
            rw [this.2.1] at rE
            exact rE hr'
          · obtain ⟨j, hj⟩ := List.mem_iff_getElem?.mp he'
            rw [List.getElem?_take] at hj
            split at hj
            · rename_i hji
              have := wf.one r r e1 e' mem (by rw [hen]; exact List.mem_of_getElem? hj) h.symm room1
              have ok := wf.nodes _ (List.mem_of_getElem? hes)
              have lt := pw_get ok.2 hji hj he1
              rw [this.2.2] at lt
              exact List.lt_irrefl _ lt
            · cases hj
        have notin : e1.2 ∉ Wt ++ r :: E := fun h => by
          rcases List.mem_append.mp h with h | h
          · exact fresh (hr6 _ h).2
          · rcases List.mem_cons.mp h with h | h
            · rw [h] at fresh
              exact fresh (.inl hrS)
            · exact fresh (.inl (hr _ (List.mem_append_right _ h)).2)
        walk_at "rd"
        obtain ⟨o, ho, hoS⟩ := hK6.ask e1.2
        refine rd_dIn ?_
        walk_at "rd"
        refine ⟨D, o, rfl, ho, ?_⟩
        have on : o.isSome = false := by
          cases h : o.isSome with
          | false => rfl
          | true => exact absurd (hoS.mp h) fresh
        rw [on]
        walk_at "rd"
        refine rd_meet (fun σ' H' => σ' = [some (.ref a), some (.ref D), some (.ref p), some (.str e1.1), some (.int e1.2), some (.ref a1)] ∧ H' = upd H6 p (.lst ((Wt ++ [e1.2]).map fun n : Nat => V.int (n : Int)))) ?_ ?_
        · walk_at "rd"
          refine rd_ixT hh1.sq rfl ?_
          walk_at "rd"
          rw [wordN_room, hroom]
          walk_at "rd"
          refine rd_tyL (SqL.of p6) ?_
          walk_at "rd"
          have lW : Wt.length ≤ s.length := few_nats s.length (List.nodup_append.mp nd6).1 fun k hk => room_lt (hr6 k hk).1
          refine rd_app p6 (szLt (by rw [List.length_map]; omega)) ?_
          exact ⟨rfl, by rw [nat_lst]⟩
        · rintro σ' H' ⟨rfl, rfl⟩
          have hK7 : KeysAre (upd H6 p (.lst ((Wt ++ [e1.2]).map fun n : Nat => V.int (n : Int)))) D (fun k => FoundS s E k ∨ ∃ e ∈ es.take i, e.2 = k) := hK6.at fun o e => by rw [upd_ne pD.symm]; exact e
          walk_at "rd"
          refine hK7.put S6 (by omega) fun o hK8 => ?_
          refine ⟨Wt ++ [e1.2], _, _, _, (k6.put hpH).put hD, hK8.congr step, by rw [upd_ne pD]; exact upd_same, ?_, ?_, ?_, rfl⟩
          · rw [List.append_assoc]
            refine List.nodup_append.mpr ⟨(List.nodup_append.mp nd6).1, ?_, ?_⟩
            · exact List.nodup_cons.mpr ⟨fun h => notin (List.mem_append_right _ h), (List.nodup_append.mp nd6).2.1⟩
            · intro x hx y hy
              rcases List.mem_cons.mp hy with rfl | hy
              · exact fun h => notin (List.mem_append_left _ (h ▸ hx))
              · exact (List.nodup_append.mp nd6).2.2 x hx y hy
          · intro k hk
            rcases List.mem_append.mp hk with hk | hk
            · exact ⟨(hr6 k hk).1, (step k).mp (.inl (hr6 k hk).2)⟩
            · rw [List.mem_singleton.mp hk]
              exact ⟨room1, (step _).mp (.inr rfl)⟩
          · intro k hk hkr
            rw [List.append_assoc]
            rcases (step k).mpr hk with h | rfl
            · rcases List.mem_append.mp (hin6 k h hkr) with h | h
              · exact List.mem_append_left _ h
              · exact List.mem_append_right _ (List.mem_cons_of_mem _ h)
            · exact List.mem_append_right _ List.mem_cons_self
      | false =>
        walk_at "rd"
        refine rd_meet (fun σ' H' => σ' = [some (.ref a), some (.ref D), some (.ref p), some (.str e1.1), some (.int e1.2), some (.ref a1)] ∧ H' = H6) ?_ ?_
        · walk_at "rd"
          refine rd_ixT hh1.sq rfl ?_
          walk_at "rd"
          rw [wordN_room, hroom]
          walk_at "rd"
          exact ⟨rfl, rfl⟩
        · rintro σ' H' ⟨rfl, rfl⟩
          walk_at "rd"
          refine hK6.put S6 (by omega) fun o hK8 => ?_
          refine ⟨Wt, _, _, _, k6.put hD, hK8.congr step, by rw [upd_ne pD]; exact p6, nd6, fun k hk => ⟨(hr6 k hk).1, (step k).mp (.inl (hr6 k hk).2)⟩, fun k hk hkr => ?_, rfl⟩
          rcases (step k).mpr hk with h | rfl
          · exact hin6 k h hkr
          · obtain ⟨es1, h1⟩ := hkr
            rw [hn1] at h1
            cases h1
            cases hroom
    · rintro σ H6 ⟨Wt, y3, y4, y5, k6, hK6, p6, nd6, hr6, hin6, rfl⟩
      have ly : ys.length = es.length := Paired.length pys
      rw [ly, List.take_length] at hK6 hr6 hin6
      have S7 : ∀ k, (FoundS s E k ∨ ∃ e ∈ es, e.2 = k) ↔ FoundS s (r :: E) k := fun k => by
        constructor
        · rintro ((h | ⟨r', h, e⟩) | ⟨e, h, rfl⟩)
          · exact .inl h
          · exact .inr ⟨r', List.mem_cons_of_mem _ h, e⟩
          · exact .inr ⟨r, List.mem_cons_self, e, by rw [hen]; exact h, rfl⟩
        · rintro (h | ⟨r', h, e, he, rfl⟩)
          · exact .inl (.inl h)
          · rcases List.mem_cons.mp h with rfl | h
            · exact .inr ⟨e, by rw [← hen]; exact he, rfl⟩
            · exact .inl (.inr ⟨r', h, e, he, rfl⟩)
      refine ⟨s.length - (r :: E).length, by rw [List.length_cons] at lE ⊢; omega, r :: E, Wt, _, _, _, rfl, k6, hK6.congr S7, p6, nd6, ?_, fun k hk hkr => hin6 k ((S7 k).mpr hk) hkr, rfl⟩
      intro k hk
      rcases List.mem_append.mp hk with h | h
      · exact ⟨(hr6 k h).1, (S7 k).mp (hr6 k h).2⟩
      · rcases List.mem_cons.mp h with rfl | h
        · exact ⟨⟨es, hes⟩, (S7 _).mp (.inl hrS)⟩
        · have := hr k (List.mem_append_right _ h)
          exact ⟨this.1, (S7 k).mp (.inl this.2)⟩
  · have hWt : Wt = [] := by cases Wt with | nil => rfl | cons x l => cases hc
    subst hWt
    obtain ⟨kvs, ks, hkv, hkl, hknd, hkm⟩ := hK4.list
    have cnt := found_count wf (fun k hk hkr => by simpa using hin k hk hkr) hknd hkm
    have ha4 := ha.up (Ty.of k34)
    walk_at "rd"
    refine ⟨D, kvs, rfl, hkv, ?_⟩
    walk_at "rd"
    refine rd_lcT ?_
    walk_at "rd"
    refine rd_clT (xs := xs) ha4.sq (fun D2 i H' => Same H4 H' ∧ ∃ zs, H' D2 = some (.lst zs) ∧ zs.length = ((s.take i).filter Option.isSome).length) (fun D2 hD2 => ⟨(Same.refl H4).new (o := .lst []) hD2, [], upd_same, rfl⟩) (fun D2 i H' _ _ h => (ha4.up (Ty.of h.1)).sq) (fun D2 i x H' hD2 hx hP => ?_) (fun D2 H' hD2 hP => ?_)
    · obtain ⟨k7, zs, hz, lz⟩ := hP
      obtain ⟨n, hn, at1⟩ := pd_getL ps hx
      have grow : s.take (i + 1) = s.take i ++ [n] := by rw [List.take_add_one, hn]; rfl
      have lf := List.length_filter_le Option.isSome (s.take i)
      rw [List.length_take] at lf
      walk_at "rd"
      rw [at1.non]
      cases n with
      | none =>
        rw [show (none : Option Nd).isNone = true from rfl]
        walk_at "rd"
        exact ⟨k7, zs, hz, by rw [grow, List.filter_append, List.length_append, lz]; rfl⟩
      | some n =>
        rw [show (some n : Option Nd).isNone = false from rfl]
        walk_at "rd"
        refine ⟨zs, hz, szLt (by omega), k7.put hD2, _, upd_same, ?_⟩
        rw [grow, List.filter_append, List.length_append, List.length_append, lz]
        rfl
    · obtain ⟨k7, zs, hz, lz⟩ := hP
      rw [lx, List.take_length] at lz
      walk_at "rd"
      refine rd_lenL (SqL.of hz) ?_
      walk_at "rd"
      rw [hkl, cnt, lz, decide_eq_true rfl]
      exact q _ (k34.trans k7)
theorem atI_end {xs : List V} {v : V} (h : xs[xs.length - 1]? = some v) : atI xs (-1) = some v := by
  rcases List.eq_nil_or_concat xs with rfl | ⟨l, x, rfl⟩
  · cases h
  · rw [List.concat_eq_append] at h ⊢
    rw [List.length_append, List.length_singleton, Nat.add_sub_cancel, List.getElem?_append_right (Nat.le_refl _), Nat.sub_self] at h
    cases h
    exact atI_last _ _
def AnyS (K : PySem.W.Frag) (H : Hp) (v : V) : Prop := (∃ s, StAt H v s ∧ Wf s) ∨ ∃ t, TyX K H v t ∧ PySem.W.kitOne K t (.type "tuple") = some false
def Φ_is_a_store (K : PySem.W.Frag) (v : V) (H : Hp) (Q : VK) : Prop := (∃ s, StAt H v s ∧ Wf s ∧ ∀ H', Same H H' → Q (.bl true) H') ∨ ∃ t, TyX K H v t ∧ PySem.W.kitOne K t (.type "tuple") = some false ∧ Q (.bl false) H
theorem ok_is_a_store (T : Txt P K mg) {f : Addr} {fd : FuncData} (F : Fun K "is_a_store" "is_a_store" s_is_a_store f fd) : Keeps P w K mg base CX0 4 f fd ["value"] (sp1 (Φ_is_a_store K)) := by
  have c_hangs_together := cal (P := P) (w := w) (base := base) T.d_hangs_together fun F => ok_hangs_together T F
  have c_is_node := cal (P := P) (w := w) (base := base) T.d_is_node fun F => ok_is_node T F
  refine keeps0_of F sc_is_a_store (fun vs H Q E h => ?_) (fun cdv A outer s H vs Q E hr h => ?_)
  · obtain ⟨_, rfl, _⟩ := h
    rfl
  obtain ⟨v_value, rfl, h⟩ := h
  have hu := hr.hu
  refine ⟨_, (pss_cons (ps_if (PW.pt (pw_or (pt_not (pt_val (pe_callB (isiX (K := K)) (by rfl) T.b_isinstance (by decide +kernel) (pa_cons (pv 0) (pa_cons (pe_bltn (v := .ty "tuple") (by rfl) T.b_tuple (by decide +kernel) rfl) pa_nil))))) (pw_or (pt_not (pt_chain oLe oLe pe_int (pe_callB (call_lenX (K := K)) (by rfl) T.b_len (by decide +kernel) (pa_cons (pv 0) pa_nil)) (pe_gk (by rfl) T.c_MOST_NODES))) (pw_or1 (pt_cmpR oIs (pe_ix (ixX (K := K)) (pv 0) (pe_un un_neg pe_int) (fun _ _ => rfl)) pe_non (nomark _)))))) (pss_one (ps_ret pe_bl)) pss_nil)
      (pss_cons (ps_if (pt_not (pt_val (pe_callB (allX (K := K) rfl) (by rfl) T.b_all (by decide +kernel) (pa_cons (pe_lc (own := [("node", 1)]) rfl sc_is_a_store.nd (pi_any (K := K) (pv 0)) (blkOk_by (own := [("node", 1)]) (N := ["value", "node"]) (sc := defScope s_is_a_store) (by decide +kernel)) (fun _ _ _ _ _ => pg_name (i := 1) sc_is_a_store.nd rfl (by first | exact Or.inl rfl | exact Or.inr rfl)) (fun _ _ _ _ _ => pts_nil) (fun _ _ _ _ _ => (pe_or (pe_cmpR oIs (pv 1) pe_non (nomark _)) (pe_one (pe_cal c_is_node (hr.mono (by decide)) (by rfl) pass0 (pa_cons (pv 1) (pa_cons (pe_callB (call_lenX (K := K)) (by rfl) T.b_len (by decide +kernel) (pa_cons (pv 0) pa_nil)) pa_nil))))))) pa_nil)))) (pss_one (ps_ret pe_bl)) pss_nil)
      (pss_one (ps_ret (pe_and (pe_cmpR oIsNot (pe_ix (ixX (K := K)) (pv 0) pe_int (fun _ _ => rfl)) pe_non (nomark _)) (pe_and (pe_cmpR (oEq (K := K) hr.u65) (pe_ix (ixX (K := K)) (pe_ix (ixX (K := K)) (pv 0) pe_int (fun _ _ => rfl)) pe_int (fun _ _ => rfl)) (pe_gk (by rfl) T.c_ROOM) (nomark _)) (pe_one (pe_cal c_hangs_together (hr.mono (by decide)) (by rfl) pass0 (pa_cons (pv 0) pa_nil))))))))), ?_⟩
  rw [show start ["value", "node"] [v_value] = [some v_value, none] from rfl]
  try dsimp only [cxOf, Cx.nox, Cx.wish]
  rcases h with ⟨s, ⟨a, xs, rfl, ha, ps⟩, wf, q⟩ | ⟨t, ty, ht, q⟩
  rotate_left
  · walk_at "rd"
    refine rd_isi ty ht ?_
    walk_at "rd"
    exact q
  have lx := Paired.length ps
  have l1 := wf.l1
  have l2 := wf.l2
  obtain ⟨n, hn⟩ := wf.last
  obtain ⟨v, hv, at1⟩ := pd_getR ps hn
  obtain ⟨a1, y1, rfl, hh1⟩ := at1.head
  walk_at "rd"
  refine rd_isiR ha ?_
  walk_at "rd"
  refine rd_lenT ha.sq ?_
  walk_at "rd"
  rw [decide_eq_true (show (1 : Int) ≤ (xs.length : Int) by omega)]
  walk_at "rd"
  rw [decide_eq_true (show (xs.length : Int) ≤ 60 by omega)]
  walk_at "rd"
  refine ⟨1, rfl, ?_⟩
  refine rd_ixT ha.sq (atI_end (by rw [lx]; exact hv)) ?_
  walk_at "rd"
  refine rd_noI (decide_eq_false fun e => nomatch e) ?_
  walk_at "rd"
  refine rd_lcT ?_
  walk_at "rd"
  refine rd_clT (xs := xs) ha.sq (fun D i H' => Same H H' ∧ H' D = some (.lst ((List.replicate i true).map V.bl))) (fun D hD => ⟨(Same.refl H).new (o := .lst []) hD, upd_same⟩) (fun D i H' _ _ h => (ha.up (Ty.of h.1)).sq) (fun D i x H' hD hx hP => ?_) (fun D H' hD hP => ?_)
  · obtain ⟨k1, hL⟩ := hP
    obtain ⟨m, hm, at2⟩ := pd_getL ps hx
    have im := (List.getElem?_eq_some_iff.mp hx).1
    have fin : ∀ H'', Same H' H'' → ∃ acc, H'' D = some (.lst acc) ∧ acc.length < sizeLine ∧ (Same H (upd H'' D (.lst (acc ++ [V.bl true]))) ∧ (upd H'' D (.lst (acc ++ [V.bl true]))) D = some (.lst ((List.replicate (i + 1) true).map V.bl))) := fun H'' k2 =>
      ⟨_, k2 _ _ hL, szLt (by rw [List.length_map, List.length_replicate]; omega), (k1.trans k2).put hD, by rw [upd_same, List.replicate_succ', List.map_append]; rfl⟩
    walk_at "rd"
    rw [at2.non]
    cases m with
    | none =>
      rw [show (none : Option Nd).isNone = true from rfl]
      walk_at "rd"
      exact fin _ (Same.refl H')
    | some m =>
      rw [show (some m : Option Nd).isNone = false from rfl]
      walk_at "rd"
      refine rd_lenT (ha.up (Ty.of k1)).sq ?_
      walk_at "rd"
      refine ⟨m, s.length, at2.up (Ty.of k1), by rw [lx], by omega, wf.nodes m (List.mem_of_getElem? hm), fun es e => ?_, fun H2 k2 => fin H2 k2⟩
      have := wf.few i
      rw [entsAt_room (by rw [hm, e])] at this
      exact this
  · obtain ⟨k1, hL⟩ := hP
    walk_at "rd"
    refine rd_all (SqL.of hL) ?_
    have e : (List.replicate xs.length true).all id = true := by
      rw [List.all_eq_true]
      intro x hx
      rw [(List.mem_replicate.mp hx).2]
      rfl
    rw [e]
    walk_at "rd"
    obtain ⟨es0, hroot⟩ := wf.root
    obtain ⟨v0, hv0, a0, b0, rfl, hh0, _⟩ := pd_getR ps hroot
    have ha1 := ha.up (Ty.of k1)
    have hh01 := hh0.up (Ty.of k1)
    refine rd_ixT ha1.sq (atI_nat (j := 0) hv0) ?_
    walk_at "rd"
    refine rd_yesI (by rfl) ?_
    walk_at "rd"
    refine rd_ixT ha1.sq (atI_nat (j := 0) hv0) ?_
    walk_at "rd"
    refine rd_ixT hh01.sq rfl ?_
    walk_at "rd"
    rw [decide_eq_true rfl]
    walk_at "rd"
    exact ⟨s, ⟨a, xs, rfl, ha1, pd_mono (fun _ _ q => NdAt.up q (Ty.of k1)) ps⟩, wf, fun H2 k2 => q H2 (k1.trans k2)⟩
def Φ_is_room (K : PySem.W.Frag) (v vn : V) (H : Hp) (Q : VK) : Prop := ∃ (s : Sto) (k : Nat), StAt H v s ∧ vn = .int k ∧ k < s.length ∧ Q (.bl (isRoom (s.getD k none))) H
theorem ok_is_room (T : Txt P K mg) {f : Addr} {fd : FuncData} (F : Fun K "is_room" "is_room" s_is_room f fd) : Keeps P w K mg base CX0 1 f fd ["store", "number"] (sp2 (Φ_is_room K)) := by
  refine keeps0_of F sc_is_room (fun vs H Q E h => ?_) (fun cdv A outer s H vs Q E hr h => ?_)
  · obtain ⟨_, _, rfl, _⟩ := h
    rfl
  obtain ⟨v_store, v_number, rfl, h⟩ := h
  have hu := hr.hu
  refine ⟨_, (pss_one (ps_ret (pe_and (pe_cmpR oIsNot (pe_ix (ixX (K := K)) (pv 0) (pv 1) (fun _ _ => rfl)) pe_non (nomark _)) (pe_one (pe_cmpR (oEq (K := K) hr.u65) (pe_ix (ixX (K := K)) (pe_ix (ixX (K := K)) (pv 0) (pv 1) (fun _ _ => rfl)) pe_int (fun _ _ => rfl)) (pe_gk (by rfl) T.c_ROOM) (nomark _)))))), ?_⟩
  rw [show start ["store", "number"] [v_store, v_number] = [some v_store, some v_number] from rfl]
  try dsimp only [cxOf, Cx.nox, Cx.wish]
  obtain ⟨s, k, ⟨a, xs, rfl, ha, ps⟩, rfl, hk, q⟩ := h
  have hs : s[k]? = some s[k] := List.getElem?_eq_getElem hk
  obtain ⟨v, hv, at1⟩ := pd_getR ps hs
  have e0 : s.getD k none = s[k] := by rw [List.getD_eq_getElem?_getD, hs]; rfl
  rw [e0] at q
  walk_at "rd"
  refine rd_ixT ha.sq (atI_nat hv) ?_
  walk_at "rd"
  rw [at1.non]
  cases e : s[k] with
  | none =>
    rw [show (none : Option Nd).isNone = true from rfl]
    rw [e] at q
    walk_at "rd"
    exact q
  | some n =>
    rw [show (some n : Option Nd).isNone = false from rfl]
    rw [e] at q at1
    obtain ⟨a1, y1, rfl, hh1⟩ := at1.head
    walk_at "rd"
    refine rd_ixT ha.sq (atI_nat hv) ?_
    walk_at "rd"
    refine rd_ixT hh1.sq rfl ?_
    walk_at "rd"
    rw [wordN_room]
    exact q
def Φ_need_store (K : PySem.W.Frag) (mg : Str → Option Value) (v : V) (H : Hp) (Q : VK) (E : XK) : Prop := (∃ s, StAt H v s ∧ Wf s ∧ ∀ H', Same H H' → Q .non H') ∨ ∃ t, TyX K H v t ∧ PySem.W.kitOne K t (.type "tuple") = some false ∧ ∀ C, mg "InvalidStore" = some (.ref C) → E (.ref C) none H
theorem ok_need_store (T : Txt P K mg) {f : Addr} {fd : FuncData} (F : Fun K "need_store" "need_store" s_need_store f fd) : Keeps P w K mg base (L2.CX P w) 5 f fd ["store"] (sp1x (Φ_need_store K mg)) := by
  obtain ⟨C_InvalidStore, e_InvalidStore⟩ := T.e_InvalidStore
  have c_is_a_store := cal (P := P) (w := w) (base := base) T.d_is_a_store fun F => ok_is_a_store T F
  refine keeps_of F sc_need_store (fun vs H Q E h => ?_) (fun cdv A outer s H vs Q E hr h => ?_)
  · obtain ⟨_, rfl, _⟩ := h
    rfl
  obtain ⟨v_store, rfl, h⟩ := h
  have hu := hr.hu
  refine ⟨_, (pss_one (ps_if (pt_not (pt_val (pe_cal c_is_a_store (hr.mono (by decide)) (by rfl) pass0 (pa_cons (pv 0) pa_nil)))) (pss_one (ps_raiseX rfl (takes_of rfl rfl rfl rfl) e_InvalidStore (by rfl))) pss_nil)), ?_⟩
  rw [show start ["store"] [v_store] = [some v_store] from rfl]
  try dsimp only [cxOf, Cx.nox, Cx.wish]
  rcases h with ⟨s, hs, wf, q⟩ | ⟨t, ty, ht, q⟩
  · walk_at "rd"
    refine .inl ⟨s, hs, wf, fun H1 k1 => ?_⟩
    walk_at "rd"
    exact q H1 k1
  · walk_at "rd"
    refine .inr ⟨t, ty, ht, ?_⟩
    walk_at "rd"
    exact q _ e_InvalidStore.g
def KV (v : V) : Prop := (∃ i : Int, v = .int i) ∨ v = .non ∨ (∃ b, v = .bl b) ∨ ∃ z, v = .str z
def roomV (s : Sto) : V → Bool
  | .int i => decide (0 ≤ i) && decide (i < s.length) && isRoom (s.getD i.toNat none)
  | _ => false
theorem roomV_int {s : Sto} {i : Int} : roomV s (.int i) = (decide (0 ≤ i) && decide (i < s.length) && isRoom (s.getD i.toNat none)) := rfl
def Φ_need_room (K : PySem.W.Frag) (mg : Str → Option Value) (v vh : V) (H : Hp) (Q : VK) (E : XK) : Prop := ∃ s, StAt H v s ∧ KV vh ∧ (roomV s vh = true → Q .non H) ∧ (roomV s vh = false → ∀ C, mg "InvalidRoom" = some (.ref C) → E (.ref C) none H)
theorem ok_need_room (T : Txt P K mg) {f : Addr} {fd : FuncData} (F : Fun K "need_room" "need_room" s_need_room f fd) : Keeps P w K mg base (L2.CX P w) 2 f fd ["store", "here"] (sp2x (Φ_need_room K mg)) := by
  obtain ⟨C_InvalidRoom, e_InvalidRoom⟩ := T.e_InvalidRoom
  have c_is_whole := cal (P := P) (w := w) (base := base) T.d_is_whole fun F => ok_is_whole T F
  have c_is_room := cal (P := P) (w := w) (base := base) T.d_is_room fun F => ok_is_room T F
  refine keeps_of F sc_need_room (fun vs H Q E h => ?_) (fun cdv A outer s H vs Q E hr h => ?_)
  · obtain ⟨_, _, rfl, _⟩ := h
    rfl
  obtain ⟨v_store, v_here, rfl, h⟩ := h
  have hu := hr.hu
  refine ⟨_, (pss_one (ps_if (PW.pt (pw_or (pt_not (pt_val (pe_cal c_is_whole (hr.mono (by decide)) (by rfl) pass0 (pa_cons (pv 1) pa_nil)))) (pw_or (pt_not (pt_chain oLe oLt pe_int (pv 1) (pe_callB (call_lenX (K := K)) (by rfl) T.b_len (by decide +kernel) (pa_cons (pv 0) pa_nil)))) (pw_or1 (pt_not (pt_val (pe_cal c_is_room (hr.mono (by decide)) (by rfl) pass0 (pa_cons (pv 0) (pa_cons (pv 1) pa_nil))))))))) (pss_one (ps_raiseX rfl (takes_of rfl rfl rfl rfl) e_InvalidRoom (by rfl))) pss_nil)), ?_⟩
  rw [show start ["store", "here"] [v_store, v_here] = [some v_store, some v_here] from rfl]
  try dsimp only [cxOf, Cx.nox, Cx.wish]
  obtain ⟨s, hs, kv, q1, q2⟩ := h
  have hs' := hs
  obtain ⟨a, xs, rfl, ha, ps⟩ := hs'
  have lx := Paired.length ps
  rcases kv with ⟨i, rfl⟩ | kv
  · walk_at "rd"
    refine .inl ⟨i, rfl, ?_⟩
    walk_at "rd"
    cases e1 : decide ((0 : Int) ≤ i) with
    | false =>
      walk_at "rd"
      exact q2 (by rw [roomV_int, e1]; rfl) _ e_InvalidRoom.g
    | true =>
      walk_at "rd"
      refine rd_lenT ha.sq ?_
      walk_at "rd"
      rw [lx]
      cases e2 : decide (i < (s.length : Int)) with
      | false =>
        walk_at "rd"
        exact q2 (by rw [roomV_int, e1, e2]; rfl) _ e_InvalidRoom.g
      | true =>
        have h0 := of_decide_eq_true e1
        have h1 := of_decide_eq_true e2
        walk_at "rd"
        refine ⟨s, i.toNat, hs, by rw [Int.toNat_of_nonneg h0], by omega, ?_⟩
        cases e3 : isRoom (s.getD i.toNat none) with
        | false =>
          walk_at "rd"
          exact q2 (by rw [roomV_int, e1, e2, e3]; rfl) _ e_InvalidRoom.g
        | true =>
          walk_at "rd"
          exact q1 (by rw [roomV_int, e1, e2, e3]; rfl)
  · walk_at "rd"
    refine .inr ⟨kv, ?_⟩
    walk_at "rd"
    refine q2 ?_ _ e_InvalidRoom.g
    rcases kv with rfl | ⟨b, rfl⟩ | ⟨z, rfl⟩ <;> rfl
def Φ_entry_names (K : PySem.W.Frag) (v vn : V) (H : Hp) (Q : VK) : Prop := ∃ (s : Sto) (k : Nat) (es : List (Str × Nat)), StAt H v s ∧ vn = .int k ∧ s[k]? = some (some (.room es)) ∧ es.length ≤ 1000 ∧ ∀ D H', H D = none → Same H H' → H' D = some (.lst (es.map fun e => V.str e.1)) → Q (.ref D) H'
/-! ### walking along paths -/
def wordsOf (p : Str) : List Str := (Txt.split p "/").filter fun w => !decide (w = "")
inductive Res where
  | node (k : Nat)
  | room (i : Nat)
  | entry (i : Nat)
  | signs
abbrev Stp := Str × Nat × Bool
def startAt (here : Nat) (p : Str) : Nat := if (tl p).take 1 = [47] then 0 else here
def parentOf (s : Sto) (r : Nat) : Nat := ((List.range s.length).find? fun k => ((entsAt s k).map (·.2)).contains r).getD 0
def entryOf (s : Sto) (at_ : Nat) (w : Str) : Option Nat := ((entsAt s at_).find? fun e => decide (e.1 = w)).map (·.2)
inductive Walks (s : Sto) : Nat → List Stp → Nat → Res → Prop
  | done {at_ n : Nat} : Walks s at_ [] n (.node at_)
  | noroom {at_ : Nat} {w : Str} {i : Nat} {f : Bool} {ws : List Stp} {n : Nat} : ¬ roomAt s at_ → Walks s at_ ((w, i, f) :: ws) n (.room i)
  | above {at_ : Nat} {w : Str} {i : Nat} {f : Bool} {ws : List Stp} {n : Nat} {r : Res} : roomAt s at_ → w = ".." → Walks s (parentOf s at_) ws n r → Walks s at_ ((w, i, f) :: ws) n r
  | here {at_ : Nat} {w : Str} {i : Nat} {f : Bool} {ws : List Stp} {n : Nat} {r : Res} : roomAt s at_ → w = "." → Walks s at_ ws n r → Walks s at_ ((w, i, f) :: ws) n r
  | none {at_ : Nat} {w : Str} {i : Nat} {f : Bool} {ws : List Stp} {n : Nat} : roomAt s at_ → w ≠ ".." → w ≠ "." → entryOf s at_ w = none → Walks s at_ ((w, i, f) :: ws) n (.entry i)
  | go {at_ : Nat} {w : Str} {i : Nat} {f : Bool} {ws : List Stp} {n k : Nat} {r : Res} : roomAt s at_ → w ≠ ".." → w ≠ "." → entryOf s at_ w = some k → (∀ p, s[k]? = some (some (.sign p)) → f = false) → Walks s k ws n r → Walks s at_ ((w, i, f) :: ws) n r
  | many {at_ : Nat} {w : Str} {i : Nat} {ws : List Stp} {n k : Nat} {p : Str} : roomAt s at_ → w ≠ ".." → w ≠ "." → entryOf s at_ w = some k → s[k]? = some (some (.sign p)) → 20 ≤ n → Walks s at_ ((w, i, true) :: ws) n .signs
  | sign {at_ : Nat} {w : Str} {i : Nat} {ws : List Stp} {n k : Nat} {p : Str} {r : Res} : roomAt s at_ → w ≠ ".." → w ≠ "." → entryOf s at_ w = some k → s[k]? = some (some (.sign p)) → n < 20 → Walks s (startAt at_ p) ((wordsOf p).map (fun o => (o, i, true)) ++ ws) (n + 1) r → Walks s at_ ((w, i, true) :: ws) n r
theorem Walks.one {s : Sto} {at_ : Nat} {ws : List Stp} {n : Nat} {r r' : Res} (h : Walks s at_ ws n r) (h' : Walks s at_ ws n r') : r = r' := by
  have dd : (".." : Str) ≠ "." := by decide +kernel
  induction h generalizing r' with
  | done => cases h'; rfl
  | noroom h1 =>
    cases h' with
    | noroom => rfl
    | above h2 => exact absurd h2 h1
    | here h2 => exact absurd h2 h1
    | none h2 => exact absurd h2 h1
    | go h2 => exact absurd h2 h1
    | many h2 => exact absurd h2 h1
    | sign h2 => exact absurd h2 h1
  | above h1 e _ ih =>
    cases h' with
    | noroom h2 => exact absurd h1 h2
    | above _ _ h2 => exact ih h2
    | here _ e2 => exact absurd (e.symm.trans e2) dd
    | none _ h2 => exact absurd e h2
    | go _ h2 => exact absurd e h2
    | many _ h2 => exact absurd e h2
    | sign _ h2 => exact absurd e h2
  | here h1 e _ ih =>
    cases h' with
    | noroom h2 => exact absurd h1 h2
    | above _ e2 => exact absurd (e2.symm.trans e) dd
    | here _ _ h2 => exact ih h2
    | none _ _ h2 => exact absurd e h2
    | go _ _ h2 => exact absurd e h2
    | many _ _ h2 => exact absurd e h2
    | sign _ _ h2 => exact absurd e h2
  | none h1 a1 a2 a3 =>
    cases h' with
    | noroom h2 => exact absurd h1 h2
    | above _ e => exact absurd e a1
    | here _ e => exact absurd e a2
    | none => rfl
    | go _ _ _ h2 => rw [a3] at h2; cases h2
    | many _ _ _ h2 => rw [a3] at h2; cases h2
    | sign _ _ _ h2 => rw [a3] at h2; cases h2
  | go h1 a1 a2 a3 a4 _ ih =>
    cases h' with
    | noroom h2 => exact absurd h1 h2
    | above _ e => exact absurd e a1
    | here _ e => exact absurd e a2
    | none _ _ _ h2 => rw [a3] at h2; cases h2
    | go _ _ _ h2 _ h3 => rw [a3] at h2; cases h2; exact ih h3
    | many _ _ _ h2 h3 => rw [a3] at h2; cases h2; cases a4 _ h3
    | sign _ _ _ h2 h3 => rw [a3] at h2; cases h2; cases a4 _ h3
  | many h1 a1 a2 a3 a4 a5 =>
    cases h' with
    | noroom h2 => exact absurd h1 h2
    | above _ e => exact absurd e a1
    | here _ e => exact absurd e a2
    | none _ _ _ h2 => rw [a3] at h2; cases h2
    | go _ _ _ h2 h3 => rw [a3] at h2; cases h2; cases h3 _ a4
    | many => rfl
    | sign _ _ _ _ _ h2 => omega
  | sign h1 a1 a2 a3 a4 a5 _ ih =>
    cases h' with
    | noroom h2 => exact absurd h1 h2
    | above _ e => exact absurd e a1
    | here _ e => exact absurd e a2
    | none _ _ _ h2 => rw [a3] at h2; cases h2
    | go _ _ _ h2 h3 => rw [a3] at h2; cases h2; cases h3 _ a4
    | many _ _ _ _ _ h2 => omega
    | sign _ _ _ h2 h3 _ h4 =>
      rw [a3] at h2
      cases h2
      rw [a4] at h3
      cases h3
      exact ih h4
theorem entry_some {s : Sto} {at_ k : Nat} {w : Str} (h : entryOf s at_ w = some k) : (w, k) ∈ entsAt s at_ := by
  unfold entryOf at h
  obtain ⟨e, he, rfl⟩ := Option.map_eq_some_iff.mp h
  have := List.find?_some he
  rw [← of_decide_eq_true this]
  exact List.mem_of_find?_eq_some he
theorem parent_lt {s : Sto} (h : 1 ≤ s.length) (r : Nat) : parentOf s r < s.length := by
  unfold parentOf
  cases e : (List.range s.length).find? fun k => ((entsAt s k).map (·.2)).contains r with
  | none => exact h
  | some k => exact List.mem_range.mp (List.mem_of_find?_eq_some e)
theorem words_len (p : Str) : (wordsOf p).length ≤ p.length + 1 := by
  unfold wordsOf
  refine Nat.le_trans (List.length_filter_le _ _) ?_
  exact (split_len (by rw [tl_slash]; exact List.cons_ne_nil _ _) (by decide +kernel)).2
theorem words_each {p w : Str} (h : w ∈ wordsOf p) : w.length ≤ p.length := (split_len (by rw [tl_slash]; exact List.cons_ne_nil _ _) (by decide +kernel)).1 w (List.mem_filter.mp h).1
def stpV (H : Hp) (v : V) (x : Stp) : Prop := ∃ t, v = .ref t ∧ H t = some (.tup [.str x.1, .int x.2.1, .bl x.2.2])
theorem stpV.up {H H' : Hp} {v : V} {x : Stp} (h : stpV H v x) (k : Ty H H') : stpV H' v x := let ⟨t, e, q⟩ := h; ⟨t, e, k.t _ _ q⟩
def StepsAt (H : Hp) (p : Addr) (ws : List Stp) : Prop := ∃ xs, H p = some (.lst xs) ∧ Paired (stpV H) xs ws

/-! ## The program's walks -/
def Φ_words_of (K : PySem.W.Frag) (v : V) (H : Hp) (Q : VK) : Prop := ∃ z : Str, v = .str z ∧ z.length ≤ 1000 ∧ ∀ D H', H D = none → Same H H' → H' D = some (.lst ((wordsOf z).map V.str)) → Q (.ref D) H'
theorem ok_words_of (T : Txt P K mg) {f : Addr} {fd : FuncData} (F : Fun K "words_of" "words_of" s_words_of f fd) : Keeps P w K mg base CX0 1 f fd ["path"] (sp1 (Φ_words_of K)) := by
  refine keeps0_of F sc_words_of (fun vs H Q E h => ?_) (fun cdv A outer s H vs Q E hr h => ?_)
  · obtain ⟨_, rfl, _⟩ := h
    rfl
  obtain ⟨v_path, rfl, h⟩ := h
  have hu := hr.hu
  refine ⟨_, (pss_one (ps_ret (pe_lc (own := [("word", 1)]) rfl sc_words_of.nd (pi_any (K := K) (pe_split (pv 0) (pe_gk (by rfl) T.c_ROOT))) (blkOk_by (own := [("word", 1)]) (N := ["path", "word"]) (sc := defScope s_words_of) (by decide +kernel)) (fun _ _ _ _ _ => pg_name (i := 1) sc_words_of.nd rfl (by first | exact Or.inl rfl | exact Or.inr rfl)) (fun _ _ _ _ _ => pts_one (pt_cmpR (oNe (K := K) hr.u65) (pv 1) pe_str (nomark _))) (fun _ _ _ _ _ => (pv 1))))), ?_⟩
  rw [show start ["path", "word"] [v_path] = [some v_path, none] from rfl]
  try dsimp only [cxOf, Cx.nox, Cx.wish]
  obtain ⟨z, rfl, hz, q⟩ := h
  obtain ⟨s1, s2⟩ := split_len (z := z) (y := "/") (by rw [tl_slash]; exact List.cons_ne_nil _ _) (by decide +kernel)
  walk_at "rd"
  refine rd_lcL ?_
  walk_at "rd"
  refine rd_split (by decide +kernel) (by omega) fun l hl1 => ?_
  refine rd_mapL (SqL.of upd_same) (fun x => match x with | .str w => !decide (w = "") | _ => false) (fun x => x) (fun _ => rfl) (by rw [List.length_map]; omega) (fun x hx => ?_) (fun x hx hp => ?_) ?_
  · obtain ⟨u, hu1, rfl⟩ := List.mem_map.mp hx
    intro H1 k1 QE q1
    walk_at "rd"
    exact q1 H1 (Same.refl H1)
  · intro H1 k1 QE q1
    walk_at "rd"
    exact q1 H1 (Same.refl H1)
  · intro D H1 hD k1 h5
    walk_at "rd"
    have k0 := (Same.refl H).new (o := .lst ((Txt.split z "/").map V.str)) hl1
    refine q D H1 (Sub.of k0 D hD) (k0.trans k1) ?_
    rw [h5, List.map_id', List.filter_map]
    rfl
def Φ_start_of (K : PySem.W.Frag) (vh v : V) (H : Hp) (Q : VK) : Prop := ∃ (here : Nat) (z : Str), vh = .int here ∧ v = .str z ∧ 1 ≤ z.length ∧ z.length ≤ 1000 ∧ Q (.int (startAt here z : Nat)) H
theorem start_eq {z : Str} {c : Nat} {r : List Nat} {here : Nat} (e : tl z = c :: r) : startAt here z = if decide ((⟨#[c]⟩ : Str) = "/") = true then 0 else here := by
  unfold startAt
  rw [e, dec_tl, tl_sg, tl_slash]
  show (if [c] = [47] then 0 else here) = _
  by_cases h : c = 47
  · rw [h]
    rfl
  · rw [if_neg (fun q => h (List.cons.inj q).1), if_neg (by rw [decide_eq_false (fun q => h (List.cons.inj q).1)]; exact Bool.noConfusion)]
theorem ok_start_of (T : Txt P K mg) {f : Addr} {fd : FuncData} (F : Fun K "start_of" "start_of" s_start_of f fd) : Keeps P w K mg base CX0 1 f fd ["here", "path"] (sp2 (Φ_start_of K)) := by
  refine keeps0_of F sc_start_of (fun vs H Q E h => ?_) (fun cdv A outer s H vs Q E hr h => ?_)
  · obtain ⟨_, _, rfl, _⟩ := h
    rfl
  obtain ⟨v_here, v_path, rfl, h⟩ := h
  have hu := hr.hu
  refine ⟨_, (pss_one (ps_ret (pe_ifExp (pt_cmpR (oEq (K := K) hr.u65) (pe_ix (ixX (K := K)) (pv 1) pe_int (fun _ _ => rfl)) (pe_gk (by rfl) T.c_ROOT) (nomark _)) pe_int (pv 0)))), ?_⟩
  rw [show start ["here", "path"] [v_here, v_path] = [some v_here, some v_path] from rfl]
  try dsimp only [cxOf, Cx.nox, Cx.wish]
  obtain ⟨here, z, rfl, rfl, h1, hz, q⟩ := h
  obtain ⟨c, r, ez⟩ : ∃ c r, tl z = c :: r := by
    rcases tl_cases z with e | h
    · rw [← len_tl, e] at h1; cases h1
    · exact h
  rw [start_eq ez] at q
  walk_at "rd"
  refine rd_ixS (c := c) (szOk (by omega)) (by rw [show z.cps.toList = c :: r from ez]; exact atI_nat (j := 0) rfl) ?_
  walk_at "rd"
  cases hc : decide ((⟨#[c]⟩ : Str) = "/") with
  | true =>
    rw [hc, if_pos rfl] at q
    walk_at "rd"
    exact q
  | false =>
    rw [hc, if_neg Bool.false_ne_true] at q
    walk_at "rd"
    exact q
theorem inV_nats {r : Nat} : ∀ {l : List Nat}, inV (.int (r : Int)) (l.map fun n : Nat => V.int (n : Int)) = l.contains r
  | [] => rfl
  | x :: l => by
    rw [List.map_cons, List.contains_cons, ← inV_nats (l := l)]
    show (eqV (.int (x : Int)) (.int (r : Int)) || _) = _
    congr 1
    show ((x : Int) == (r : Int)) = (r == x)
    rw [Bool.eq_iff_iff, beq_iff_eq, beq_iff_eq]
    omega
theorem flat_nats (l : List Nat) : (l.map fun n : Nat => V.int (n : Int)).all flatV = true := by
  rw [List.all_map, List.all_eq_true]
  intro x _
  rfl
theorem parent_of {s : Sto} {r i : Nat} (hi : i < s.length) (h : ((entsAt s i).map (·.2)).contains r = true) (no : ∀ j, j < i → ((entsAt s j).map (·.2)).contains r = false) : parentOf s r = i := by
  unfold parentOf
  have : (List.range s.length).find? (fun k => ((entsAt s k).map (·.2)).contains r) = some i := by
    rw [List.find?_range_eq_some]
    exact ⟨h, List.mem_range.mpr hi, fun j hj => by rw [no j hj]; rfl⟩
  rw [this]
  rfl
theorem parent_no {s : Sto} {r : Nat} (no : ∀ j, j < s.length → ((entsAt s j).map (·.2)).contains r = false) : parentOf s r = 0 := by
  unfold parentOf
  rw [List.find?_eq_none.mpr fun k hk => by rw [no k (List.mem_range.mp hk)]; exact Bool.false_ne_true]
  rfl
def Φ_parent_of (K : PySem.W.Frag) (vs v : V) (H : Hp) (Q : VK) : Prop := ∃ (s : Sto) (r : Nat), StAt H vs s ∧ v = .int r ∧ s.length ≤ 1000 ∧ (∀ k, (entsAt s k).length ≤ 1000) ∧ ∀ H', Same H H' → Q (.int (parentOf s r : Nat)) H'
theorem ents_no {s : Sto} {k : Nat} {n : Option Nd} (h : s[k]? = some n) (hr : isRoom n = false) : entsAt s k = [] := by
  unfold entsAt
  rw [h]
  match n, hr with
  | none, _ => rfl
  | some (.file _), _ => rfl
  | some (.sign _), _ => rfl
theorem ok_parent_of (T : Txt P K mg) {f : Addr} {fd : FuncData} (F : Fun K "parent_of" "parent_of" s_parent_of f fd) : Keeps P w K mg base CX0 1 f fd ["store", "number"] (sp2 (Φ_parent_of K)) := by
  refine keeps0_of F sc_parent_of (fun vs H Q E h => ?_) (fun cdv A outer s H vs Q E hr h => ?_)
  · obtain ⟨_, _, rfl, _⟩ := h
    rfl
  obtain ⟨v_store, v_number, rfl, h⟩ := h
  have hu := hr.hu
  refine ⟨_, (pss_cons (ps_for PassesOwn.never rfl (pi_enumT (K := K) (by rfl) T.b_enumerate (pa_cons (pv 0) pa_nil)) (pg_seqX (K := K) (n := 2) rfl (pgs_cons (pg_name (i := 2) sc_parent_of.nd rfl (by first | exact Or.inl rfl | exact Or.inr rfl)) (pgs_cons (pg_name (i := 3) sc_parent_of.nd rfl (by first | exact Or.inl rfl | exact Or.inr rfl)) pgs_nil))) (pss_one (ps_if (PW.pt (pw_and (pt_cmpR oIsNot (pv 3) pe_non (nomark _)) (pw_and (pt_cmpR (oEq (K := K) hr.u65) (pe_ix (ixX (K := K)) (pv 3) pe_int (fun _ _ => rfl)) (pe_gk (by rfl) T.c_ROOM) (nomark _)) (pw_and1 (pt_cmpR (oIn (K := K) hr.u65) (pv 1) (pe_lc (own := [("name", 4), ("other", 5)]) rfl sc_parent_of.nd (pi_any (K := K) (pe_ix (ixX (K := K)) (pv 3) pe_int (fun _ _ => rfl))) (blkOk_by (own := [("name", 4), ("other", 5)]) (N := ["store", "number", "at", "node", "name", "other"]) (sc := defScope s_parent_of) (by decide +kernel)) (fun _ _ _ _ _ => pg_seqX (K := K) (n := 2) rfl (pgs_cons (pg_name (i := 4) sc_parent_of.nd rfl (by first | exact Or.inl rfl | exact Or.inr rfl)) (pgs_cons (pg_name (i := 5) sc_parent_of.nd rfl (by first | exact Or.inl rfl | exact Or.inr rfl)) pgs_nil))) (fun _ _ _ _ _ => pts_nil) (fun _ _ _ _ _ => (pv 5))) (by rfl)))))) (pss_one (ps_ret (pv 2))) pss_nil)))
      (pss_one (ps_ret pe_int))), ?_⟩
  rw [show start ["store", "number", "at", "node", "name", "other"] [v_store, v_number] = [some v_store, some v_number, none, none, none, none] from rfl]
  try dsimp only [cxOf, Cx.nox, Cx.wish]
  obtain ⟨s, r, ⟨a, xs, rfl, ha, ps⟩, rfl, hl, few, q⟩ := h
  have lx := Paired.length ps
  walk_at "rd"
  refine rd_itET (xs := xs) ha.sq (fun i σ H' => Same H H' ∧ (∀ j, j < i → ((entsAt s j).map (·.2)).contains r = false) ∧ ∃ x2 x3 x4 x5, σ = [some (.ref a), some (.int r), x2, x3, x4, x5]) ⟨Same.refl H, (fun _ h => absurd h (by omega)), _, _, _, _, rfl⟩ ?_ ?_ ?_
  · rintro i σ H' _ ⟨k, _⟩
    exact (ha.up (Ty.of k)).sq
  · rintro i x t σ H1 hx ⟨k1, no, x2, x3, x4, x5, rfl⟩ ht
    obtain ⟨n, hn, at1⟩ := pd_getL ps hx
    have il : i < s.length := (List.getElem?_eq_some_iff.mp hn).1
    have k2 := k1.new (o := .tup [.int (i : Int), x]) ht
    refine rd_gtup (SqT.of upd_same) rfl ?_
    generalize upd H1 t (.tup [.int (i : Int), x]) = H2 at k2 ⊢
    have next : isRoom n = false → Same H H2 ∧ (∀ j, j < i + 1 → ((entsAt s j).map (·.2)).contains r = false) := fun h => ⟨k2, fun j hj => by
      rcases Nat.lt_or_ge j i with c | c
      · exact no j c
      · rw [show j = i by omega, ents_no hn h]
        rfl⟩
    have at2 := at1.up (Ty.of k2)
    walk_at "rd"
    rw [at1.non]
    cases n with
    | none =>
      rw [show (none : Option Nd).isNone = true from rfl]
      walk_at "rd"
      obtain ⟨a1, a2⟩ := next rfl
      exact ⟨a1, a2, _, _, _, _, rfl⟩
    | some nd =>
      rw [show (some nd : Option Nd).isNone = false from rfl]
      obtain ⟨a1, y1, rfl, hh1⟩ := at2.head
      walk_at "rd"
      refine rd_ixT hh1.sq rfl ?_
      walk_at "rd"
      rw [wordN_room]
      cases nd with
      | file t =>
        rw [show isRoom (some (.file t)) = false from rfl]
        walk_at "rd"
        obtain ⟨a1, a2⟩ := next rfl
        exact ⟨a1, a2, _, _, _, _, rfl⟩
      | sign t =>
        rw [show isRoom (some (.sign t)) = false from rfl]
        walk_at "rd"
        obtain ⟨a1, a2⟩ := next rfl
        exact ⟨a1, a2, _, _, _, _, rfl⟩
      | room es =>
        rw [show isRoom (some (.room es)) = true from rfl]
        obtain ⟨na, nb, e, hna, ys, hys, pys⟩ := at2
        cases e
        have ly := Paired.length pys
        have hen := entsAt_room hn
        have fw := few i
        rw [hen] at fw
        walk_at "rd"
        refine rd_lcT ?_
        walk_at "rd"
        refine rd_ixT hna.sq rfl ?_
        refine rd_clT (xs := ys) hys.rt.sq (fun D i H' => Same H2 H' ∧ H' D = some (.lst ((es.take i).map fun e => V.int (e.2 : Int)))) (fun D hD => ⟨(Same.refl H2).new (o := .lst []) hD, upd_same⟩) (fun D i H' _ _ h => (hys.up (Ty.of h.1)).rt.sq) (fun D i x H' hD hx hP => ?_) (fun D H' hD hP => ?_)
        · obtain ⟨k3, hL⟩ := hP
          obtain ⟨e, he, p, rfl, hp⟩ := pd_getL pys hx
          refine rd_lcT1 ?_
          refine rd_gtup (hp.up (Ty.of k3)).sq rfl ?_
          walk_at "rd"
          refine ⟨_, hL, szLt (by rw [List.length_map, List.length_take]; omega), k3.put hD, ?_⟩
          rw [upd_same, List.take_add_one, he, List.map_append]
          rfl
        · obtain ⟨k3, hL⟩ := hP
          rw [ly, List.take_length] at hL
          have em : (es.map fun e => V.int (e.2 : Int)) = ((entsAt s i).map (·.2)).map fun n : Nat => V.int (n : Int) := by rw [hen, List.map_map]; rfl
          rw [em] at hL
          refine rd_inL (SqL.of hL) rfl (flat_nats _) ?_
          rw [inV_nats]
          cases hc : ((entsAt s i).map (·.2)).contains r with
          | true =>
            walk_at "rd"
            have := q H' (k2.trans k3)
            rwa [parent_of il hc no] at this
          | false =>
            walk_at "rd"
            refine ⟨k2.trans k3, fun j hj => ?_, _, _, _, _, rfl⟩
            rcases Nat.lt_or_ge j i with c | c
            · exact no j c
            · rw [show j = i by omega]
              exact hc
  · rintro σ H1 ⟨k1, no, x2, x3, x4, x5, rfl⟩
    walk_at "rd"
    have := q H1 k1
    rwa [parent_no (by rw [lx] at no; exact no)] at this
theorem rd_dGet1 {td ty : TE} {σ : St} {H : Hp} {Q : VK} (q : td σ H fun x H1 => ∃ a, x = .ref a ∧ IsD H1 a ∧ ty σ H1 fun y H2 => ∃ o, DGet H2 a y o ∧ Q (o.getD .non) H2) : tDGet1 td ty σ H Q := q
def optV : Option Nat → V
  | some k => .int (k : Nat)
  | none => .non
def Φ_entry_of (K : PySem.W.Frag) (vs vr vn : V) (H : Hp) (Q : VK) : Prop := ∃ (s : Sto) (r : Nat) (w : Str), StAt H vs s ∧ vr = .int r ∧ vn = .str w ∧ roomAt s r ∧ (entsAt s r).Pairwise (fun a b => tl a.1 < tl b.1) ∧ (entsAt s r).length ≤ 1000 ∧
  ∀ H', Same H H' → Q (optV (entryOf s r w)) H'
theorem put_new {kvs : List (Key × V)} {k : Key} {v : V} (h : k ∉ kvs.map (·.1)) : putK kvs k v = kvs ++ [(k, v)] := by
  unfold putK
  rw [if_neg]
  intro q
  obtain ⟨e, he, q⟩ := List.any_eq_true.mp q
  exact h (by rw [← of_decide_eq_true q]; exact List.mem_map_of_mem he)
theorem merge_fresh : ∀ {more kvs : List (Key × V)}, ((kvs ++ more).map (·.1)).Nodup → mergeK kvs more = kvs ++ more
  | [], kvs, _ => (List.append_nil kvs).symm
  | x :: more, kvs, h => by
    have e : kvs ++ x :: more = (kvs ++ [x]) ++ more := by rw [List.append_assoc]; rfl
    have hx : x.1 ∉ kvs.map (·.1) := by
      intro q
      rw [List.map_append, List.nodup_append] at h
      exact h.2.2 _ q _ (List.mem_map_of_mem (List.mem_cons_self)) rfl
    rw [e] at h ⊢
    rw [← merge_fresh h]
    show mergeK (putK kvs x.1 x.2) more = _
    rw [put_new hx]
abbrev kvE (e : Str × Nat) : Key × V := (Sum.inr e.1, .int e.2)
theorem valV_ents {w : Str} : ∀ {es : List (Str × Nat)}, (valV (es.map kvE) (Sum.inr w)).getD .non = optV ((es.find? fun e => decide (e.1 = w)).map (·.2))
  | [] => rfl
  | e :: es => by
    rw [List.map_cons, List.find?_cons]
    by_cases h : e.1 = w
    · rw [valV_pos (show (kvE e).1 = Sum.inr w by rw [← h]), decide_eq_true h]
      rfl
    · rw [valV_neg (show ¬ (kvE e).1 = Sum.inr w from fun q => h (Sum.inr.inj q)), decide_eq_false h]
      exact valV_ents
theorem ents_refs {H : Hp} : ∀ {ys : List V} {es : List (Str × Nat)}, Paired (pairV H) ys es → ∃ ps : List Addr, ys = ps.map V.ref ∧ Paired (fun p kv => SqT K H p [kV kv.1, kv.2]) ps (es.map kvE)
  | _, _, .nil => ⟨[], rfl, .nil⟩
  | _, _, .cons h t => by
    obtain ⟨p, rfl, hp⟩ := h
    obtain ⟨ps, rfl, q⟩ := ents_refs t
    exact ⟨p :: ps, rfl, .cons hp.sq q⟩
theorem ents_nodup {es : List (Str × Nat)} (up : es.Pairwise fun a b => tl a.1 < tl b.1) : ((es.map kvE).map (·.1)).Nodup := by
  rw [List.map_map, List.nodup_iff_pairwise_ne, List.pairwise_map]
  refine up.imp fun {a b} h e => ?_
  have : a.1 = b.1 := Sum.inr.inj e
  rw [this] at h
  exact absurd h (List.lt_irrefl _)
theorem ok_entry_of (T : Txt P K mg) {f : Addr} {fd : FuncData} (F : Fun K "entry_of" "entry_of" s_entry_of f fd) : Keeps P w K mg base CX0 1 f fd ["store", "room", "name"] (sp3 (Φ_entry_of K)) := by
  refine keeps0_of F sc_entry_of (fun vs H Q E h => ?_) (fun cdv A outer s H vs Q E hr h => ?_)
  · obtain ⟨_, _, _, rfl, _⟩ := h
    rfl
  obtain ⟨v_store, v_room, v_name, rfl, h⟩ := h
  have hu := hr.hu
  refine ⟨_, (pss_one (ps_ret (pe_dget1 hu (pe_callTy (callDictT (K := K) rfl) (by rfl) T.b_dict (by decide +kernel) (pa_cons (pe_ix (ixX (K := K)) (pe_ix (ixX (K := K)) (pv 0) (pv 1) (fun _ _ => rfl)) pe_int (fun _ _ => rfl)) pa_nil)) (pv 2) ⟨by rfl, by rfl, by rfl, by rfl⟩))), ?_⟩
  rw [show start ["store", "room", "name"] [v_store, v_room, v_name] = [some v_store, some v_room, some v_name] from rfl]
  try dsimp only [cxOf, Cx.nox, Cx.wish]
  obtain ⟨s, r, w', ⟨a, xs, rfl, ha, ps⟩, rfl, rfl, ⟨es, hes⟩, up, hl, q⟩ := h
  have hen := entsAt_room hes
  rw [hen] at up hl
  obtain ⟨v, hv, na, nb, rfl, hna, ys, hys, pys⟩ := pd_getR ps hes
  obtain ⟨rs, rfl, prs⟩ := ents_refs (K := K) pys
  walk_at "rd"
  refine rd_dGet1 ?_
  walk_at "rd"
  refine rd_ixT ha.sq (atI_nat hv) ?_
  walk_at "rd"
  refine rd_ixT hna.sq rfl ?_
  walk_at "rd"
  refine ⟨nb, rs, es.map kvE, rfl, hys, prs, fun p hp => ⟨p, rfl, .inl ⟨_, .inl upd_same⟩, ?_⟩⟩
  walk_at "rd"
  refine ⟨_, DGet.k (k := Sum.inr w') upd_same, ?_⟩
  rw [merge_fresh (by rw [List.nil_append]; exact ents_nodup up), List.nil_append, valV_ents]
  have := q _ ((Same.refl H).new (o := .dK (mergeK [] (es.map kvE))) hp)
  rw [merge_fresh (by rw [List.nil_append]; exact ents_nodup up), List.nil_append] at this
  unfold entryOf at this
  rwa [hen] at this
def stepsOf (ws : List Str) (f : Bool) : List Stp := ws.mapIdx fun i w => (w, i, f || decide (i + 1 < ws.length))
theorem steps_len {ws : List Str} {f : Bool} : (stepsOf ws f).length = ws.length := List.length_mapIdx
theorem steps_at {ws : List Str} {f : Bool} {i : Nat} {w : Str} (h : ws[i]? = some w) : (stepsOf ws f)[i]? = some (w, i, f || decide (i + 1 < ws.length)) := by
  unfold stepsOf
  rw [List.getElem?_mapIdx, h]
  rfl
theorem pd_snoc {α β : Type} {F : α → β → Prop} {as : List α} {bs : List β} {a : α} {b : β} (h : Paired F as bs) (q : F a b) : Paired F (as ++ [a]) (bs ++ [b]) := pd_app h (.cons q .nil)
theorem last_lt {i n : Nat} : decide ((i : Int) < (n : Int) - 1) = decide (i + 1 < n) := by
  rw [decide_eq_decide]
  omega
def Φ_steps_of (K : PySem.W.Frag) (v vf : V) (H : Hp) (Q : VK) : Prop := ∃ (a : Addr) (ws : List Str) (f : Bool), v = .ref a ∧ H a = some (.lst (ws.map V.str)) ∧ vf = .bl f ∧ ws.length ≤ 1000 ∧ ∀ D H', H D = none → Same H H' → StepsAt H' D (stepsOf ws f) → Q (.ref D) H'
theorem ok_steps_of (T : Txt P K mg) {f : Addr} {fd : FuncData} (F : Fun K "steps_of" "steps_of" s_steps_of f fd) : Keeps P w K mg base CX0 1 f fd ["words", "follows"] (sp2 (Φ_steps_of K)) := by
  refine keeps0_of F sc_steps_of (fun vs H Q E h => ?_) (fun cdv A outer s H vs Q E hr h => ?_)
  · obtain ⟨_, _, rfl, _⟩ := h
    rfl
  obtain ⟨v_words, v_follows, rfl, h⟩ := h
  have hu := hr.hu
  refine ⟨_, (pss_one (ps_ret (pe_lc (own := [("index", 2), ("word", 3)]) rfl sc_steps_of.nd (pi_enumX (K := K) (by rfl) T.b_enumerate (pa_cons (pv 0) pa_nil)) (blkOk_by (own := [("index", 2), ("word", 3)]) (N := ["words", "follows", "index", "word"]) (sc := defScope s_steps_of) (by decide +kernel)) (fun _ _ _ _ _ => pg_seqX (K := K) (n := 2) rfl (pgs_cons (pg_name (i := 2) sc_steps_of.nd rfl (by first | exact Or.inl rfl | exact Or.inr rfl)) (pgs_cons (pg_name (i := 3) sc_steps_of.nd rfl (by first | exact Or.inl rfl | exact Or.inr rfl)) pgs_nil))) (fun _ _ _ _ _ => pts_nil) (fun _ _ _ _ _ => (pe_tup (pa_cons (pv 3) (pa_cons (pv 2) (pa_cons (pe_or (pv 1) (pe_one (pe_cmpR oLt (pv 2) (pe_op oSub (pe_callB (call_lenX (K := K)) (by rfl) T.b_len (by decide +kernel) (pa_cons (pv 0) pa_nil)) pe_int) (nomark _)))) pa_nil)))))))), ?_⟩
  rw [show start ["words", "follows", "index", "word"] [v_words, v_follows] = [some v_words, some v_follows, none, none] from rfl]
  try dsimp only [cxOf, Cx.nox, Cx.wish]
  obtain ⟨a, ws, f, rfl, ha, rfl, hl, q⟩ := h
  walk_at "rd"
  refine rd_clE (xs := ws.map V.str) (SqL.of ha) (fun D i H' => Same H H' ∧ ∃ ys, H' D = some (.lst ys) ∧ Paired (stpV H') ys ((stepsOf ws f).take i)) (fun D hD => ⟨(Same.refl H).new (o := .lst []) hD, [], upd_same, .nil⟩) (fun D i H' hD _ h => SqL.of (h.1 a _ ha)) (fun D i x T H' hD hx hP hT => ?_) (fun D H' hD hP => ?_)
  · obtain ⟨k1, ys, hL, py⟩ := hP
    rw [List.getElem?_map] at hx
    obtain ⟨w, hw, rfl⟩ := Option.map_eq_some_iff.mp hx
    have il : i < ws.length := (List.getElem?_eq_some_iff.mp hw).1
    have k2 := (Same.refl H').new (o := .tup [.int (i : Int), .str w]) hT
    have hL2 := k2 _ _ hL
    refine rd_lcT1 ?_
    refine rd_gtup (SqT.of upd_same) rfl ?_
    have py2 := pd_mono (fun _ _ q => stpV.up q (Ty.of k2)) py
    have k12 := k1.trans k2
    generalize upd H' T (.tup [.int (i : Int), .str w]) = H2 at k12 hL2 py2 ⊢
    have ha2 := k12 _ _ ha
    have pt := steps_at (f := f) hw
    have ly : ys.length ≤ 1000 := by
      have := Paired.length py2
      rw [List.length_take, steps_len] at this
      omega
    have fin : ∀ p, H2 p = none → ∀ b, b = (f || decide (i + 1 < ws.length)) → ∃ zs, (upd H2 p (.tup [.str w, .int (i : Int), .bl b])) D = some (.lst zs) ∧ zs.length < sizeLine ∧ (Same H (upd (upd H2 p (.tup [.str w, .int (i : Int), .bl b])) D (.lst (zs ++ [.ref p]))) ∧ ∃ ys, (upd (upd H2 p (.tup [.str w, .int (i : Int), .bl b])) D (.lst (zs ++ [.ref p]))) D = some (.lst ys) ∧ Paired (stpV (upd (upd H2 p (.tup [.str w, .int (i : Int), .bl b])) D (.lst (zs ++ [.ref p])))) ys ((stepsOf ws f).take (i + 1))) := by
      rintro p hp b rfl
      have k3 := (Same.refl H2).new (o := .tup [.str w, .int (i : Int), .bl (f || decide (i + 1 < ws.length))]) hp
      have hL3 := k3 _ _ hL2
      have hp3 : upd H2 p (.tup [.str w, .int (i : Int), .bl (f || decide (i + 1 < ws.length))]) p = some (.tup [.str w, .int (i : Int), .bl (f || decide (i + 1 < ws.length))]) := upd_same
      have py3 := pd_mono (fun _ _ q => stpV.up q (Ty.of k3)) py2
      have k13 := k12.trans k3
      generalize upd H2 p (.tup [.str w, .int (i : Int), .bl (f || decide (i + 1 < ws.length))]) = H3 at k13 hL3 hp3 py3 ⊢
      have ty : Ty H3 (upd H3 D (.lst (ys ++ [.ref p]))) := (Ty.refl H3).lst hL3
      refine ⟨ys, hL3, szLt (by omega), k13.put hD, _, upd_same, ?_⟩
      rw [List.take_add_one, pt]
      exact pd_snoc (pd_mono (fun _ _ q => stpV.up q ty) py3) ⟨p, rfl, ty.t _ _ hp3⟩
    walk_at "rd"
    refine rd_ite (fun hf => ?_) (fun hf => ?_)
    · subst hf
      walk_at "rd"
      exact fun p hp => fin p hp true rfl
    · have hf : f = false := hf
      subst hf
      walk_at "rd"
      refine rd_lenL (SqL.of ha2) ?_
      walk_at "rd"
      exact fun p hp => fin p hp _ (by rw [List.length_map, last_lt, Bool.false_or])
  · obtain ⟨k1, ys, hL, py⟩ := hP
    rw [List.length_map] at py
    rw [List.take_of_length_le (by rw [steps_len]; exact Nat.le_refl _)] at py
    walk_at "rd"
    exact q D H' hD k1 ⟨ys, hL, py⟩
def Φ_gone (K : PySem.W.Frag) (mg : Str → Option Value) (vs va vt : V) (H : Hp) (Q : VK) (E : XK) : Prop := ∃ (s : Sto) (k : Nat) (p : Addr) (ws : List Stp), StAt H vs s ∧ Wf s ∧ va = .int k ∧ k < s.length ∧ vt = .ref p ∧ StepsAt H p ws ∧ ws.length ≤ 150 ∧
  (∀ j H', Same H H' → Walks s k ws 0 (.node j) → Q (.int j) H') ∧
  (∀ i H' C d, Same H H' → Walks s k ws 0 (.room i) → mg "NotRoom" = some (.ref C) → H' d = some (.xd [("index", .int i)]) → E (.ref C) (some d) H') ∧
  (∀ i H' C d, Same H H' → Walks s k ws 0 (.entry i) → mg "NoEntry" = some (.ref C) → H' d = some (.xd [("index", .int i)]) → E (.ref C) (some d) H') ∧
  (∀ H' C d, Same H H' → Walks s k ws 0 .signs → mg "TooManySigns" = some (.ref C) → H' d = some (.xd [("limit", .int 20)]) → E (.ref C) (some d) H')
theorem pd_unsnoc {α β : Type} {F : α → β → Prop} : ∀ {bs : List β} {as : List α} {b : β}, Paired F as (bs ++ [b]) → ∃ cs a, as = cs ++ [a] ∧ Paired F cs bs ∧ F a b
  | [], _, b, .cons h .nil => ⟨[], _, rfl, .nil, h⟩
  | x :: bs, _, b, .cons h t => by
    obtain ⟨cs, a, rfl, p, q⟩ := pd_unsnoc t
    exact ⟨_ :: cs, a, rfl, .cons h p, q⟩
theorem pd_rev {α β : Type} {F : α → β → Prop} : ∀ {as : List α} {bs : List β}, Paired F as bs → Paired F as.reverse bs.reverse
  | _, _, .nil => .nil
  | _, _, .cons h t => by
    rw [List.reverse_cons, List.reverse_cons]
    exact pd_snoc (pd_rev t) h
theorem room_is {s : Sto} {k : Nat} (h : isRoom (s.getD k none) = true) : roomAt s k := by
  rw [List.getD_eq_getElem?_getD] at h
  cases e : s[k]? with
  | none => rw [e] at h; cases h
  | some n =>
    rw [e] at h
    match n, h with
    | some (.room es), _ => exact ⟨es, e⟩
theorem room_not {s : Sto} {k : Nat} (h : isRoom (s.getD k none) = false) : ¬ roomAt s k := by
  rintro ⟨es, e⟩
  rw [List.getD_eq_getElem?_getD, e] at h
  cases h
theorem Wf.up {s : Sto} (wf : Wf s) (k : Nat) : (entsAt s k).Pairwise fun a b => tl a.1 < tl b.1 := by
  unfold entsAt
  split
  · next es h => exact (wf.nodes _ (List.mem_of_getElem? h)).2
  · exact .nil
theorem Wf.sign {s : Sto} (wf : Wf s) {k : Nat} {p : Str} (h : s[k]? = some (some (.sign p))) : pathB (.str p) = true := wf.nodes _ (List.mem_of_getElem? h)
theorem wordN_sign (n : Nd) : decide (wordN n = "sign") = true ↔ ∃ p, n = .sign p := by
  cases n with
  | file t => exact ⟨fun h => absurd h (by show ¬ decide (("file" : Str) = "sign") = true; decide +kernel), fun ⟨_, h⟩ => nomatch h⟩
  | sign t => exact ⟨fun _ => ⟨t, rfl⟩, fun _ => decide_eq_true rfl⟩
  | room es => exact ⟨fun h => absurd h (by show ¬ decide (("room" : Str) = "sign") = true; decide +kernel), fun ⟨_, h⟩ => nomatch h⟩
theorem ok_gone (T : Txt P K mg) {f : Addr} {fd : FuncData} (F : Fun K "gone" "gone" s_gone f fd) : Keeps P w K mg base (L2.CX P w) 2 f fd ["store", "at", "steps"] (sp3x (Φ_gone K mg)) := by
  obtain ⟨C_NotRoom, F_NotRoom, e_NotRoom⟩ := T.e_NotRoom
  obtain ⟨C_NoEntry, F_NoEntry, e_NoEntry⟩ := T.e_NoEntry
  obtain ⟨C_TooManySigns, F_TooManySigns, e_TooManySigns⟩ := T.e_TooManySigns
  have c_is_room := cal (P := P) (w := w) (base := base) T.d_is_room fun F => ok_is_room T F
  have c_parent_of := cal (P := P) (w := w) (base := base) T.d_parent_of fun F => ok_parent_of T F
  have c_entry_of := cal (P := P) (w := w) (base := base) T.d_entry_of fun F => ok_entry_of T F
  have c_start_of := cal (P := P) (w := w) (base := base) T.d_start_of fun F => ok_start_of T F
  have c_words_of := cal (P := P) (w := w) (base := base) T.d_words_of fun F => ok_words_of T F
  refine keeps_of F sc_gone (fun vs H Q E h => ?_) (fun cdv A outer s H vs Q E hr h => ?_)
  · obtain ⟨_, _, _, rfl, _⟩ := h
    rfl
  obtain ⟨v_store, v_at, v_steps, rfl, h⟩ := h
  have hu := hr.hu
  refine ⟨_, (pss_cons (ps_par (i := 3) (j := 4) rfl sc_gone.nd rfl rfl (by decide) rfl rfl (pa_cons (pe_revX (K := K) (pv 2)) (pa_cons pe_int pa_nil)) (by rfl))
      (pss_cons (ps_while (passes_of rfl) (pt_cmpR (oNe (K := K) hr.u65) (pv 3) (pe_lst pa_nil) (nomark _)) (pss_cons (ps_asg (pe_bm0X (K := K) PySem.F.plainAttrs_list PySem.F.slot_list_pop PySem.F.type_list_pop mt_pop (pv 3)) (pg_seqX (K := K) (n := 3) rfl (pgs_cons (pg_name (i := 5) sc_gone.nd rfl (by first | exact Or.inl rfl | exact Or.inr rfl)) (pgs_cons (pg_name (i := 6) sc_gone.nd rfl (by first | exact Or.inl rfl | exact Or.inr rfl)) (pgs_cons (pg_name (i := 7) sc_gone.nd rfl (by first | exact Or.inl rfl | exact Or.inr rfl)) pgs_nil)))))
      (pss_cons (ps_if (pt_not (pt_val (pe_cal c_is_room (hr.mono (by decide)) (by rfl) pass0 (pa_cons (pv 0) (pa_cons (pv 1) pa_nil))))) (pss_one (ps_raiseS rfl e_NotRoom hr (by decide) (takes_of rfl rfl rfl rfl) (pa_cons (pv 6) pa_nil) (by rfl))) pss_nil)
      (pss_one (ps_if (pt_cmpR (oEq (K := K) hr.u65) (pv 5) (pe_gk (by rfl) T.c_ABOVE) (nomark _)) (pss_one (ps_set (i := 1) sc_gone.nd rfl (by first | exact Or.inl rfl | exact Or.inr rfl) (pe_cal c_parent_of (hr.mono (by decide)) (by rfl) pass0 (pa_cons (pv 0) (pa_cons (pv 1) pa_nil))))) (pss_one (ps_if (pt_cmpR (oNe (K := K) hr.u65) (pv 5) (pe_gk (by rfl) T.c_HERE) (nomark _)) (pss_cons (ps_set (i := 8) sc_gone.nd rfl (by first | exact Or.inl rfl | exact Or.inr rfl) (pe_cal c_entry_of (hr.mono (by decide)) (by rfl) pass0 (pa_cons (pv 0) (pa_cons (pv 1) (pa_cons (pv 5) pa_nil)))))
      (pss_cons (ps_if (pt_cmpR oIs (pv 8) pe_non (nomark _)) (pss_one (ps_raiseS rfl e_NoEntry hr (by decide) (takes_of rfl rfl rfl rfl) (pa_cons (pv 6) pa_nil) (by rfl))) pss_nil)
      (pss_cons (ps_if (PW.pt (pw_or (pt_cmpR (oNe (K := K) hr.u65) (pe_ix (ixX (K := K)) (pe_ix (ixX (K := K)) (pv 0) (pv 8) (fun _ _ => rfl)) pe_int (fun _ _ => rfl)) (pe_gk (by rfl) T.c_SIGN) (nomark _)) (pw_or1 (pt_not (pt_val (pv 7)))))) (pss_cons (ps_set (i := 1) sc_gone.nd rfl (by first | exact Or.inl rfl | exact Or.inr rfl) (pv 8))
      (pss_one ps_continue)) pss_nil)
      (pss_cons (ps_aug (i := 4) sc_gone.nd rfl (by first | exact Or.inl rfl | exact Or.inr rfl) pe_int ip_add)
      (pss_cons (ps_if (pt_cmpR oGt (pv 4) (pe_gk (by rfl) T.c_MOST_SIGNS) (nomark _)) (pss_one (ps_raiseS rfl e_TooManySigns hr (by decide) (takes_of rfl rfl rfl rfl) (pa_cons (pe_gk (by rfl) T.c_MOST_SIGNS) pa_nil) (by rfl))) pss_nil)
      (pss_cons (ps_set (i := 9) sc_gone.nd rfl (by first | exact Or.inl rfl | exact Or.inr rfl) (pe_ix (ixX (K := K)) (pe_ix (ixX (K := K)) (pv 0) (pv 8) (fun _ _ => rfl)) pe_int (fun _ _ => rfl)))
      (pss_cons (ps_expr (pe_bmX (K := K) PySem.F.plainAttrs_list PySem.F.slot_list_extend PySem.F.type_list_extend mt_extend (pv 3) (pa_cons (pe_lc (own := [("one", 10)]) rfl sc_gone.nd (pi_any (K := K) (pe_revX (K := K) (pe_cal c_words_of (hr.mono (by decide)) (by rfl) pass0 (pa_cons (pv 9) pa_nil)))) (blkOk_by (own := [("one", 10)]) (N := ["store", "at", "steps", "waiting", "signs", "word", "index", "is_followed", "number", "inner", "one"]) (sc := defScope s_gone) (by decide +kernel)) (fun _ _ _ _ _ => pg_name (i := 10) sc_gone.nd rfl (by first | exact Or.inl rfl | exact Or.inr rfl)) (fun _ _ _ _ _ => pts_nil) (fun _ _ _ _ _ => (pe_tup (pa_cons (pv 10) (pa_cons (pv 6) (pa_cons pe_bl pa_nil)))))) pa_nil)))
      (pss_one (ps_set (i := 1) sc_gone.nd rfl (by first | exact Or.inl rfl | exact Or.inr rfl) (pe_cal c_start_of (hr.mono (by decide)) (by rfl) pass0 (pa_cons (pv 1) (pa_cons (pv 9) pa_nil)))))))))))) pss_nil)))))))
      (pss_one (ps_ret (pv 1))))), ?_⟩
  rw [show start ["store", "at", "steps", "waiting", "signs", "word", "index", "is_followed", "number", "inner", "one"] [v_store, v_at, v_steps] = [some v_store, some v_at, some v_steps, none, none, none, none, none, none, none, none] from rfl]
  try dsimp only [cxOf, Cx.nox, Cx.wish]
  obtain ⟨s, k, l, ws, hS, wf, rfl, kl, rfl, ⟨xs, hl, pl⟩, lw, q1, q2, q3, q4⟩ := h
  have hS' := hS
  obtain ⟨a, nds, rfl, ha, ps⟩ := hS'
  have l1 := wf.l1
  have l2 := wf.l2
  walk_at "rd"
  refine ⟨l, xs, rfl, SqL.of hl, fun p hp => ?_⟩
  have k1 := (Same.refl H).new (o := .lst xs.reverse) hp
  have hL1 : upd H p (.lst xs.reverse) p = some (.lst xs.reverse) := upd_same
  have pp1 : Paired (stpV (upd H p (.lst xs.reverse))) xs.reverse ws.reverse := pd_rev (pd_mono (fun _ _ q => stpV.up q (Ty.of k1)) pl)
  generalize upd H p (.lst xs.reverse) = H1 at k1 hL1 pp1 ⊢
  walk_at "rd"
  refine rd_while (fun m σ H' => ∃ (n : Nat) (zs : List Stp) (j : Nat) (ys : List V) (x5 x6 x7 x8 x9 x10 : Option V), m = (21 - n) * 200 + zs.length ∧ n ≤ 20 ∧ zs.length ≤ 150 + 101 * n ∧ j < s.length ∧ Same H H' ∧ H' p = some (.lst ys) ∧ Paired (stpV H') ys zs.reverse ∧ (∀ r, Walks s j zs n r → Walks s k ws 0 r) ∧
    σ = [some (.ref a), some (.int (j : Nat)), some (.ref l), some (.ref p), some (.int (n : Nat)), x5, x6, x7, x8, x9, x10]) (21 * 200 + ws.length) ⟨0, ws, k, xs.reverse, _, _, _, _, _, _, rfl, by omega, by omega, kl, k1, hL1, pp1, fun r h => h, rfl⟩ ?_
  rintro m σ H2 ⟨n, zs, j, ys, x5, x6, x7, x8, x9, x10, rfl, hn, lz, jl, k2, hL2, pp2, back, rfl⟩
  walk_at "rd"
  intro e he
  have k3 := (Same.refl H2).new (o := .lst []) he
  have k23 := k2.trans k3
  have hL3 := k3 _ _ hL2
  have pp3 := pd_mono (fun _ _ q => stpV.up q (Ty.of k3)) pp2
  have e3 : upd H2 e (.lst []) e = some (.lst []) := upd_same
  generalize upd H2 e (.lst []) = H3 at k23 hL3 pp3 e3 ⊢
  refine rd_neNil (SqL.of hL3) (SqL.of e3) ?_
  walk_at "rd"
  cases zs with
  | nil =>
    cases pp3
    rw [show ([] : List V).isEmpty = true from rfl]
    walk_at "rd"
    exact q1 j H3 k23 (back _ .done)
  | cons z zs =>
    obtain ⟨w, i, f⟩ := z
    rw [List.reverse_cons] at pp3
    obtain ⟨cs, v, rfl, pc, t, rfl, ht⟩ := pd_unsnoc pp3
    have ne : (cs ++ [V.ref t]).isEmpty = false := by cases cs <;> rfl
    rw [List.length_cons] at lz
    rw [ne]
    walk_at "rd"
    refine rd_turn ?_
    walk_at "rd"
    refine rd_tyL (SqL.of hL3) ?_
    refine ⟨p, cs ++ [.ref t], .ref t, rfl, rfl, hL3, by simp, ?_⟩
    rw [List.dropLast_concat]
    have ty4 : Ty H3 (upd H3 p (.lst cs)) := (Ty.refl H3).lst hL3
    have k4 : Same H (upd H3 p (.lst cs)) := k23.put hp
    have hL4 : upd H3 p (.lst cs) p = some (.lst cs) := upd_same
    have pp4 := pd_mono (fun _ _ q => stpV.up q ty4) pc
    have ht4 := ty4.t _ _ ht
    generalize upd H3 p (.lst cs) = H4 at k4 hL4 pp4 ht4 ⊢
    refine rd_gtup (SqT.of ht4) rfl ?_
    walk_at "rd"
    have hS4 := hS.up (Ty.of k4)
    refine ⟨s, j, hS4, rfl, jl, ?_⟩
    walk_at "rd"
    cases hr : isRoom (s.getD j none) with
    | false =>
      walk_at "rd"
      intro d hd
      exact q2 i _ _ d (k4.new (o := .xd [("index", .int (i : Int))]) hd) (back _ (.noroom (room_not hr))) e_NotRoom.gC upd_same
    | true =>
      have rj := room_is hr
      walk_at "rd"
      cases hu : decide (w = "..") with
      | true =>
        walk_at "rd"
        refine ⟨s, j, hS4, rfl, by omega, wf.few, fun H5 k5 => ?_⟩
        walk_at "rd"
        exact ⟨(21 - n) * 200 + zs.length, by rw [List.length_cons]; omega, n, zs, parentOf s j, cs, _, _, _, _, _, _, rfl, hn, by omega, parent_lt l1 j, k4.trans k5, k5 _ _ hL4, pd_mono (fun _ _ q => stpV.up q (Ty.of k5)) pp4, fun r h => back _ (.above rj (of_decide_eq_true hu) h), rfl⟩
      | false =>
        have hu' := of_decide_eq_false hu
        walk_at "rd"
        cases hh : decide (w = ".") with
        | true =>
          walk_at "rd"
          exact ⟨(21 - n) * 200 + zs.length, by rw [List.length_cons]; omega, n, zs, j, cs, _, _, _, _, _, _, rfl, hn, by omega, jl, k4, hL4, pp4, fun r h => back _ (.here rj (of_decide_eq_true hh) h), rfl⟩
        | false =>
          have hh' := of_decide_eq_false hh
          walk_at "rd"
          refine ⟨s, j, w, hS4, rfl, rfl, rj, wf.up j, wf.few j, fun H5 k5 => ?_⟩
          have k45 := k4.trans k5
          have hL5 := k5 _ _ hL4
          have pp5 := pd_mono (fun _ _ q => stpV.up q (Ty.of k5)) pp4
          walk_at "rd"
          cases hen : entryOf s j w with
          | none =>
            rw [show optV none = V.non from rfl]
            walk_at "rd"
            refine rd_yesI (decide_eq_true rfl) ?_
            walk_at "rd"
            intro d hd
            exact q3 i _ _ d (k45.new (o := .xd [("index", .int (i : Int))]) hd) (back _ (.none rj hu' hh' hen)) e_NoEntry.gC upd_same
          | some u =>
            rw [show optV (some u) = V.int (u : Nat) from rfl]
            obtain ⟨nd, hnd⟩ := wf.there _ _ (entry_some hen)
            have ul : u < s.length := (List.getElem?_eq_some_iff.mp hnd).1
            obtain ⟨v, hv, at1⟩ := pd_getR (pd_mono (fun _ _ q => NdAt.up q (Ty.of k45)) ps) hnd
            obtain ⟨na, y1, rfl, hna⟩ := at1.head
            walk_at "rd"
            refine rd_noI (decide_eq_false fun e => nomatch e) ?_
            walk_at "rd"
            refine rd_ixT (ha.up (Ty.of k45)).sq (atI_nat hv) ?_
            walk_at "rd"
            refine rd_ixT hna.sq rfl ?_
            walk_at "rd"
            have go_ : (∀ p, nd = .sign p → f = false) → ∀ (σ : St) (H' : Hp), H' = H5 → (∃ x5 x6 x7 x8 x9 x10, σ = [some (.ref a), some (.int (u : Nat)), some (.ref l), some (.ref p), some (.int (n : Nat)), x5, x6, x7, x8, x9, x10]) → ∃ m', m' < (21 - n) * 200 + ((w, i, f) :: zs).length ∧ ∃ (n : Nat) (zs : List Stp) (j : Nat) (ys : List V) (x5 x6 x7 x8 x9 x10 : Option V), m' = (21 - n) * 200 + zs.length ∧ n ≤ 20 ∧ zs.length ≤ 150 + 101 * n ∧ j < s.length ∧ Same H H' ∧ H' p = some (.lst ys) ∧ Paired (stpV H') ys zs.reverse ∧ (∀ r, Walks s j zs n r → Walks s k ws 0 r) ∧
                σ = [some (.ref a), some (.int (j : Nat)), some (.ref l), some (.ref p), some (.int (n : Nat)), x5, x6, x7, x8, x9, x10] := by
              rintro h0 σ H' rfl ⟨_, _, _, _, _, _, rfl⟩
              exact ⟨(21 - n) * 200 + zs.length, by rw [List.length_cons]; omega, n, zs, u, cs, _, _, _, _, _, _, rfl, hn, by omega, ul, k45, hL5, pp5, fun r h => back _ (.go rj hu' hh' hen (fun p e => h0 p (by rw [hnd] at e; cases e; rfl)) h), rfl⟩
            cases hsg : decide (wordN nd = "sign") with
            | false =>
              walk_at "rd"
              exact go_ (fun p e => by rw [(wordN_sign nd).mpr ⟨p, e⟩] at hsg; cases hsg) _ _ rfl ⟨_, _, _, _, _, _, rfl⟩
            | true =>
              obtain ⟨z, rfl⟩ := (wordN_sign nd).mp hsg
              walk_at "rd"
              cases f with
              | false =>
                walk_at "rd"
                exact go_ (fun _ _ => rfl) _ _ rfl ⟨_, _, _, _, _, _, rfl⟩
              | true =>
                clear go_
                walk_at "rd"
                refine rd_ite (fun hm => ?_) (fun hm => ?_)
                · have hm := of_decide_eq_true hm
                  walk_at "rd"
                  intro d hd
                  exact q4 _ _ d (k45.new (o := .xd [("limit", .int 20)]) hd) (back _ (.many rj hu' hh' hen hnd (by omega))) e_TooManySigns.gC upd_same
                · have hm := of_decide_eq_false hm
                  walk_at "rd"
                  have zl := pathB_len (wf.sign hnd)
                  obtain ⟨nb, e', hnb⟩ := at1
                  cases e'
                  refine rd_ixT (ha.up (Ty.of k45)).sq (atI_nat hv) ?_
                  walk_at "rd"
                  refine rd_ixT hnb.sq rfl ?_
                  walk_at "rd"
                  refine rd_tyL (SqL.of hL5) ?_
                  walk_at "rd"
                  refine rd_lcL ?_
                  walk_at "rd"
                  refine ⟨z, rfl, by omega, fun D1 H6 hD1 k6 h6 => ?_⟩
                  walk_at "rd"
                  refine ⟨D1, _, rfl, SqL.of h6, fun p2 hp2 => ?_⟩
                  rw [← List.map_reverse]
                  have k57 := k6.trans ((Same.refl H6).new (o := .lst ((wordsOf z).reverse.map V.str)) hp2)
                  have h7 : upd H6 p2 (.lst ((wordsOf z).reverse.map V.str)) p2 = some (.lst ((wordsOf z).reverse.map V.str)) := upd_same
                  generalize upd H6 p2 (.lst ((wordsOf z).reverse.map V.str)) = H7 at k57 h7 ⊢
                  have hL7 := k57 _ _ hL5
                  have pp7 := pd_mono (fun _ _ q => stpV.up q (Ty.of k57)) pp5
                  have k7 := k45.trans k57
                  have lwz : (wordsOf z).length ≤ 101 := Nat.le_trans (words_len z) (by omega)
                  walk_at "rd"
                  refine rd_clL (xs := (wordsOf z).reverse.map V.str) (SqL.of h7) (fun D c H' => Same H7 H' ∧ ∃ ys, H' D = some (.lst ys) ∧ Paired (stpV H') ys (((wordsOf z).reverse.map fun o => ((o, i, true) : Stp)).take c)) (fun D hD => ⟨(Same.refl H7).new (o := .lst []) hD, [], upd_same, .nil⟩) (fun D c H' hD _ h => SqL.of (h.1 _ _ h7)) (fun D c x H' hD hx hP => ?_) (fun D H' hD hP => ?_)
                  · obtain ⟨k8, ys, hY, py⟩ := hP
                    rw [List.getElem?_map] at hx
                    obtain ⟨o, ho, rfl⟩ := Option.map_eq_some_iff.mp hx
                    refine rd_lcT1 ?_
                    walk_at "rd"
                    intro q hq
                    have k9 := (Same.refl H').new (o := .tup [.str o, .int (i : Int), .bl true]) hq
                    have hY9 := k9 _ _ hY
                    have hq9 : upd H' q (.tup [.str o, .int (i : Int), .bl true]) q = some (.tup [.str o, .int (i : Int), .bl true]) := upd_same
                    have py9 := pd_mono (fun _ _ q => stpV.up q (Ty.of k9)) py
                    have k89 := k8.trans k9
                    generalize upd H' q (.tup [.str o, .int (i : Int), .bl true]) = H9 at k89 hY9 hq9 py9 ⊢
                    have ty : Ty H9 (upd H9 D (.lst (ys ++ [.ref q]))) := (Ty.refl H9).lst hY9
                    have ly := Paired.length py9
                    rw [List.length_take, List.length_map, List.length_reverse] at ly
                    refine ⟨ys, hY9, szLt (by omega), k89.put hD, _, upd_same, ?_⟩
                    rw [List.take_add_one, List.getElem?_map, ho]
                    exact pd_snoc (pd_mono (fun _ _ q => stpV.up q ty) py9) ⟨q, rfl, ty.t _ _ hq9⟩
                  · obtain ⟨k8, ys, hY, py⟩ := hP
                    rw [List.length_map, List.take_of_length_le (by rw [List.length_map]; exact Nat.le_refl _)] at py
                    have hL8 := k8 _ _ hL7
                    have pp8 := pd_mono (fun _ _ q => stpV.up q (Ty.of k8)) pp7
                    have k8' := k7.trans k8
                    have ly := Paired.length py
                    have lc := Paired.length pp8
                    rw [List.length_map, List.length_reverse] at ly
                    rw [List.length_reverse] at lc
                    walk_at "rd"
                    refine ⟨p, D, cs, ys, rfl, rfl, hL8, hY, szOk (by omega), ?_⟩
                    have ty : Ty H' (upd H' p (.lst (cs ++ ys))) := (Ty.refl H').lst hL8
                    have k9 : Same H (upd H' p (.lst (cs ++ ys))) := k8'.put hp
                    have hL9 : upd H' p (.lst (cs ++ ys)) p = some (.lst (cs ++ ys)) := upd_same
                    have pp9 := pd_mono (fun _ _ q => stpV.up q ty) (pd_app pp8 py)
                    generalize upd H' p (.lst (cs ++ ys)) = H9 at k9 hL9 pp9 ⊢
                    walk_at "rd"
                    refine ⟨j, z, rfl, rfl, by omega, by omega, ?_⟩
                    walk_at "rd"
                    refine ⟨(21 - (n + 1)) * 200 + ((wordsOf z).map (fun o => ((o, i, true) : Stp)) ++ zs).length, ?_, n + 1, (wordsOf z).map (fun o => ((o, i, true) : Stp)) ++ zs, startAt j z, cs ++ ys, _, _, _, _, _, _, rfl, by omega, ?_, ?_, k9, hL9, ?_, fun r h => back _ (.sign rj hu' hh' hen hnd (by omega) h), rfl⟩
                    · rw [List.length_append, List.length_map, List.length_cons]
                      omega
                    · rw [List.length_append, List.length_map]
                      omega
                    · unfold startAt
                      split <;> omega
                    · rw [List.reverse_append, ← List.map_reverse]
                      exact pp9
def resQ (mg : Str → Option Value) (H : Hp) (Q : VK) (E : XK) (R : Res → Prop) : Prop :=
  (∀ j H', Same H H' → R (.node j) → Q (.int (j : Nat)) H') ∧
  (∀ i H' C d, Same H H' → R (.room i) → mg "NotRoom" = some (.ref C) → H' d = some (.xd [("index", .int (i : Nat))]) → E (.ref C) (some d) H') ∧
  (∀ i H' C d, Same H H' → R (.entry i) → mg "NoEntry" = some (.ref C) → H' d = some (.xd [("index", .int (i : Nat))]) → E (.ref C) (some d) H') ∧
  (∀ H' C d, Same H H' → R .signs → mg "TooManySigns" = some (.ref C) → H' d = some (.xd [("limit", .int 20)]) → E (.ref C) (some d) H')
/-- where a path leads -/
def Leads (s : Sto) (here : Nat) (z : Str) (f : Bool) (r : Res) : Prop := Walks s (startAt here z) (stepsOf (wordsOf z) f) 0 r
def Φ_need_path (K : PySem.W.Frag) (mg : Str → Option Value) (v : V) (H : Hp) (Q : VK) (E : XK) : Prop := AnyV K H v ∧ (pathB v = true → ∀ H', Same H H' → Q .non H') ∧ (pathB v = false → ∀ C H', mg "InvalidPath" = some (.ref C) → Same H H' → E (.ref C) none H')
theorem ok_need_path (T : Txt P K mg) {f : Addr} {fd : FuncData} (F : Fun K "need_path" "need_path" s_need_path f fd) : Keeps P w K mg base (L2.CX P w) 3 f fd ["path"] (sp1x (Φ_need_path K mg)) := by
  obtain ⟨C_InvalidPath, e_InvalidPath⟩ := T.e_InvalidPath
  have c_is_a_path := cal (P := P) (w := w) (base := base) T.d_is_a_path fun F => ok_is_a_path T F
  refine keeps_of F sc_need_path (fun vs H Q E h => ?_) (fun cdv A outer s H vs Q E hr h => ?_)
  · obtain ⟨_, rfl, _⟩ := h
    rfl
  obtain ⟨v_path, rfl, h⟩ := h
  have hu := hr.hu
  refine ⟨_, (pss_one (ps_if (pt_not (pt_val (pe_cal c_is_a_path (hr.mono (by decide)) (by rfl) pass0 (pa_cons (pv 0) pa_nil)))) (pss_one (ps_raiseX rfl (takes_of rfl rfl rfl rfl) e_InvalidPath (by rfl))) pss_nil)), ?_⟩
  rw [show start ["path"] [v_path] = [some v_path] from rfl]
  try dsimp only [cxOf, Cx.nox, Cx.wish]
  obtain ⟨hv, q1, q2⟩ := h
  walk_at "rd"
  refine ⟨hv, fun H1 k1 => ?_⟩
  walk_at "rd"
  cases hp : pathB v_path with
  | true =>
    walk_at "rd"
    exact q1 hp H1 k1
  | false =>
    walk_at "rd"
    exact q2 hp _ _ e_InvalidPath.g k1
theorem roomV_is {s : Sto} {k : Nat} (h : roomAt s k) : roomV s (.int k) = true := by
  have lt := room_lt h
  obtain ⟨es, h⟩ := h
  rw [roomV_int, decide_eq_true (Int.natCast_nonneg k), decide_eq_true (show (k : Int) < s.length by omega), List.getD_eq_getElem?_getD, Int.toNat_natCast, h]
  rfl
theorem path_any {K : PySem.W.Frag} {H : Hp} {z : Str} (h : pathB (.str z) = true) : AnyV K H (.str z) := .inl ⟨z, rfl, by have := pathB_len h; omega⟩
def Φ_need_three (K : PySem.W.Frag) (mg : Str → Option Value) (vs vh vp : V) (H : Hp) (Q : VK) (E : XK) : Prop := ∃ (s : Sto) (k : Nat) (z : Str), StAt H vs s ∧ Wf s ∧ vh = .int k ∧ roomAt s k ∧ vp = .str z ∧ pathB (.str z) = true ∧ ∀ H', Same H H' → Q .non H'
theorem ok_need_three (T : Txt P K mg) {f : Addr} {fd : FuncData} (F : Fun K "need_three" "need_three" s_need_three f fd) : Keeps P w K mg base (L2.CX P w) 6 f fd ["store", "here", "path"] (sp3x (Φ_need_three K mg)) := by
  have c_need_store := cal (P := P) (w := w) (base := base) T.d_need_store fun F => ok_need_store T F
  have c_need_room := cal (P := P) (w := w) (base := base) T.d_need_room fun F => ok_need_room T F
  have c_need_path := cal (P := P) (w := w) (base := base) T.d_need_path fun F => ok_need_path T F
  refine keeps_of F sc_need_three (fun vs H Q E h => ?_) (fun cdv A outer s H vs Q E hr h => ?_)
  · obtain ⟨_, _, _, rfl, _⟩ := h
    rfl
  obtain ⟨v_store, v_here, v_path, rfl, h⟩ := h
  have hu := hr.hu
  refine ⟨_, (pss_cons (ps_expr (pe_calS c_need_store (hr.mono (by decide)) (by rfl) (fun σ => passAt (takes_of rfl rfl rfl rfl) σ) (pa_cons (pv 0) pa_nil)))
      (pss_cons (ps_expr (pe_calS c_need_room (hr.mono (by decide)) (by rfl) (fun σ => passAt (takes_of rfl rfl rfl rfl) σ) (pa_cons (pv 0) (pa_cons (pv 1) pa_nil))))
      (pss_one (ps_expr (pe_calS c_need_path (hr.mono (by decide)) (by rfl) (fun σ => passAt (takes_of rfl rfl rfl rfl) σ) (pa_cons (pv 2) pa_nil)))))), ?_⟩
  rw [show start ["store", "here", "path"] [v_store, v_here, v_path] = [some v_store, some v_here, some v_path] from rfl]
  try dsimp only [cxOf, Cx.nox, Cx.wish]
  obtain ⟨s, k, z, hS, wf, rfl, hr, rfl, hz, q⟩ := h
  have rv := roomV_is hr
  walk_at "rd"
  refine .inl ⟨s, hS, wf, fun H1 k1 => ?_⟩
  walk_at "rd"
  refine ⟨s, hS.up (Ty.of k1), .inl ⟨_, rfl⟩, fun _ => ?_, fun h => by rw [rv] at h; cases h⟩
  walk_at "rd"
  refine ⟨path_any hz, fun _ H2 k2 => ?_, fun h => by rw [hz] at h; cases h⟩
  walk_at "rd"
  exact q H2 (k1.trans k2)

/-! ## The law's own stores -/
def strB (B : Str → Bool) : V → Bool
  | .str z => B z
  | _ => false
theorem pickB {K : PySem.W.Frag} {p : Addr} {xs : List V} {v : Int} {H : Hp} {Q : VK} (B : Str → Bool) (h : SqL K H p xs) (h0 : 0 ≤ v) (h1 : v < xs.length) (hB : xs.all (strB B) = true) (q : ∀ z, B z = true → Q (.str z) H) : xIx K (.ref p) (.int v) H Q := by
  refine pick h h0 h1 fun x hx => ?_
  have := List.all_eq_true.mp hB x hx
  match x, this with
  | .str z, this => exact q z this
theorem Kp.ty {d : Addr} {m : Nat} {H H' : Hp} (k : Kp d H H') (h : Dk d m H) : Ty H H' := by
  obtain ⟨_, _, _, hd, _⟩ := h
  exact ⟨fun a xs e => k a _ (fun q => by rw [q, hd] at e; cases e) e, fun a o xs e => k a _ (fun q => by rw [q, hd] at e; cases e) e⟩
def Φ_law_one_of (K : PySem.W.Frag) (vd vi : V) (H : Hp) (Q : VK) : Prop := ∃ (d p : Addr) (xs : List V) (m : Nat), vd = .ref d ∧ vi = .ref p ∧ (H p = some (.lst xs) ∨ Rt H p xs) ∧ p ≠ d ∧ 1 ≤ xs.length ∧ xs.length ≤ 1000 ∧ Dk d m H ∧ m + 1 ≤ LIM ∧
  ∀ x H', x ∈ xs → Dk d (m + 1) H' → Kp d H H' → Q x H'
theorem ok_law_one_of (T : Txt P K mg) {f : Addr} {fd : FuncData} (F : Fun K "_law_one_of" "_law_one_of" s_law_one_of f fd) : Keeps P w K mg base CX0 2 f fd ["deck", "items"] (sp2 (Φ_law_one_of K)) := by
  have c_law_draw := cal (P := P) (w := w) (base := base) T.d_law_draw fun F => ok_law_draw T F
  refine keeps0_of F sc_law_one_of (fun vs H Q E h => ?_) (fun cdv A outer s H vs Q E hr h => ?_)
  · obtain ⟨_, _, rfl, _⟩ := h
    rfl
  obtain ⟨v_deck, v_items, rfl, h⟩ := h
  have hu := hr.hu
  refine ⟨_, (pss_one (ps_ret (pe_ix (ixX (K := K)) (pv 1) (pe_cal c_law_draw (hr.mono (by decide)) (by rfl) pass0 (pa_cons (pv 0) (pa_cons (pe_callB (call_lenX (K := K)) (by rfl) T.b_len (by decide +kernel) (pa_cons (pv 1) pa_nil)) pa_nil))) (fun _ _ => rfl)))), ?_⟩
  rw [show start ["deck", "items"] [v_deck, v_items] = [some v_deck, some v_items] from rfl]
  try dsimp only [cxOf, Cx.nox, Cx.wish]
  obtain ⟨d, p, xs, m, rfl, rfl, hp, pd, h1, h2, hd, hm, q⟩ := h
  rcases hp with hp | hp
  · walk_at "rd"
    refine rd_lenL (SqL.of hp) ?_
    walk_at "rd"
    refine use_draw hd (by omega) (by omega) (by omega) fun v H1 v0 v1 d1 k1 => ?_
    exact pick (SqL.of (k1 _ _ pd hp)) v0 v1 fun x hx => q x H1 hx d1 k1
  · walk_at "rd"
    refine rd_lenT hp.sq ?_
    walk_at "rd"
    refine use_draw hd (by omega) (by omega) (by omega) fun v H1 v0 v1 d1 k1 => ?_
    exact pickT (hp.up (k1.ty hd)).sq v0 v1 fun x hx => q x H1 hx d1 k1
def Φ_law_mixed (K : PySem.W.Frag) (vd vi : V) (H : Hp) (Q : VK) : Prop := ∃ (d p : Addr) (α : Type) (as : List α) (f : α → V) (m : Nat), vd = .ref d ∧ vi = .ref p ∧ H p = some (.lst (as.map f)) ∧ p ≠ d ∧ as.length ≤ 1000 ∧ Dk d m H ∧ m + as.length ≤ LIM ∧
  ∀ (r : Addr) (bs : List α) (H' : Hp), H r = none → bs.Perm as → H' r = some (.lst (bs.map f)) → Dk d (m + as.length) H' → Kp d H H' → Q (.ref r) H'
theorem seqIdx {n k : Nat} (h : k < n) : PySem.seqIndex? (k : Int) n = some k := by
  unfold PySem.seqIndex?
  have h1 : ¬ ((k : Int) < 0) := by omega
  have h2 : (decide (0 ≤ (k : Int)) && decide ((k : Int) < (n : Int))) = true := by
    rw [Bool.and_eq_true, decide_eq_true_eq, decide_eq_true_eq]
    omega
  simp only [h1, if_false]
  rw [if_pos h2, Int.toNat_natCast]
theorem erase_perm {α : Type} : ∀ {l : List α} {k : Nat} {x : α}, l[k]? = some x → (x :: l.eraseIdx k).Perm l
  | [], k, x, h => by simp at h
  | y :: l, 0, x, h => by
    cases h
    exact List.Perm.refl _
  | y :: l, k + 1, x, h => by
    have := erase_perm (l := l) (k := k) h
    exact (List.Perm.swap y x _).trans (this.cons y)
theorem ok_law_mixed (T : Txt P K mg) {f : Addr} {fd : FuncData} (F : Fun K "_law_mixed" "_law_mixed" s_law_mixed f fd) : Keeps P w K mg base CX0 2 f fd ["deck", "items"] (sp2 (Φ_law_mixed K)) := by
  have c_law_draw := cal (P := P) (w := w) (base := base) T.d_law_draw fun F => ok_law_draw T F
  refine keeps0_of F sc_law_mixed (fun vs H Q E h => ?_) (fun cdv A outer s H vs Q E hr h => ?_)
  · obtain ⟨_, _, rfl, _⟩ := h
    rfl
  obtain ⟨v_deck, v_items, rfl, h⟩ := h
  have hu := hr.hu
  refine ⟨_, (pss_cons (ps_set (i := 2) sc_law_mixed.nd rfl (by first | exact Or.inl rfl | exact Or.inr rfl) (pe_callTy (callListX (K := K)) (by rfl) T.b_list (by decide +kernel) (pa_cons (pv 1) pa_nil)))
      (pss_cons (ps_set (i := 3) sc_law_mixed.nd rfl (by first | exact Or.inl rfl | exact Or.inr rfl) (pe_lst pa_nil))
      (pss_cons (ps_for PassesOwn.never rfl (pi_range1 (by rfl) T.b_range (pa_cons (pe_callB (call_lenX (K := K)) (by rfl) T.b_len (by decide +kernel) (pa_cons (pv 2) pa_nil)) pa_nil)) (pg_name (i := 4) sc_law_mixed.nd rfl (by first | exact Or.inl rfl | exact Or.inr rfl)) (pss_one (ps_expr (pe_bmX (K := K) PySem.F.plainAttrs_list PySem.F.slot_list_append PySem.F.type_list_append mt_append (pv 3) (pa_cons (pe_bmX (K := K) PySem.F.plainAttrs_list PySem.F.slot_list_pop PySem.F.type_list_pop mt_popAt (pv 2) (pa_cons (pe_cal c_law_draw (hr.mono (by decide)) (by rfl) pass0 (pa_cons (pv 0) (pa_cons (pe_callB (call_lenX (K := K)) (by rfl) T.b_len (by decide +kernel) (pa_cons (pv 2) pa_nil)) pa_nil))) pa_nil)) pa_nil)))))
      (pss_one (ps_ret (pv 3)))))), ?_⟩
  rw [show start ["deck", "items", "left", "found", "turn"] [v_deck, v_items] = [some v_deck, some v_items, none, none, none] from rfl]
  try dsimp only [cxOf, Cx.nox, Cx.wish]
  obtain ⟨d, p, α, as, f, m, rfl, rfl, hp, pd, hl, hd, hm, q⟩ := h
  walk_at "rd"
  refine rd_lstL (SqL.of hp) fun l hl1 => ?_
  have d1 := hd.new (o := .lst (as.map f)) hl1
  have k1 := (Kp.refl d H).new (o := .lst (as.map f)) hl1
  have ld := (hd.ne hl1).symm
  have p1 : upd H l (.lst (as.map f)) l = some (.lst (as.map f)) := upd_same
  generalize upd H l (.lst (as.map f)) = H1 at d1 k1 p1 ⊢
  walk_at "rd"
  intro r hr
  have d2 := d1.new (o := .lst []) hr
  have k2 := k1.new (o := .lst []) hr
  have rd' := (d1.ne hr).symm
  have rl : r ≠ l := fun e => by rw [e, p1] at hr; cases hr
  have hrH : H r = none := k1.free rd' hr
  have p2 : upd H1 r (.lst []) l = some (.lst (as.map f)) := by rw [upd_ne rl.symm]; exact p1
  have r2 : upd H1 r (.lst []) r = some (.lst ([].map f)) := upd_same
  generalize upd H1 r (.lst []) = H2 at d2 k2 p2 r2 ⊢
  walk_at "rd"
  refine rd_lenL (SqL.of p2) ?_
  rw [List.length_map]
  walk_at "rd"
  refine rd_itR (by omega) (by omega) (fun i σ H' => Kp d H H' ∧ Dk d (m + i) H' ∧ ∃ (ls fs : List α) (x4 : Option V), ls.length + i = as.length ∧ (fs ++ ls).Perm as ∧ H' l = some (.lst (ls.map f)) ∧ H' r = some (.lst (fs.map f)) ∧ σ = [some (.ref d), some (.ref p), some (.ref l), some (.ref r), x4]) ⟨k2, d2, as, [], _, rfl, List.Perm.refl _, p2, r2, rfl⟩ ?_ ?_
  · rintro i σ H3 hi ⟨k3, d3, ls, fs, x4, ll, pm, p3, r3, rfl⟩
    have fl := pm.length_eq
    rw [List.length_append] at fl
    walk_at "rd"
    refine rd_tyL (SqL.of r3) ?_
    walk_at "rd"
    refine rd_tyL (SqL.of p3) ?_
    walk_at "rd"
    refine rd_lenL (SqL.of p3) ?_
    rw [List.length_map]
    walk_at "rd"
    have hi2 : i < as.length := by omega
    refine use_draw d3 (by omega) (by omega) (by omega) fun v H4 v0 v1 d4 k4 => ?_
    obtain ⟨v, rfl⟩ : ∃ k : Nat, v = (k : Int) := ⟨v.toNat, by omega⟩
    have vl : v < ls.length := by omega
    have p4 := k4 _ _ ld p3
    have r4 := k4 _ _ rd' r3
    have hx : ls[v]? = some ls[v] := List.getElem?_eq_getElem vl
    walk_at "rd"
    refine ⟨l, ls.map f, v, v, f ls[v], rfl, rfl, p4, by omega, by omega, by rw [List.length_map]; exact seqIdx vl, by rw [List.getElem?_map, hx]; rfl, ?_⟩
    walk_at "rd"
    have r5 : upd H4 l (.lst ((ls.map f).eraseIdx v)) r = some (.lst (fs.map f)) := by rw [upd_ne rl]; exact r4
    refine rd_app r5 (szLt (by rw [List.length_map]; omega)) ?_
    refine ⟨((k3.trans k4).put hl1).put hrH, ((d4.put ld.symm).put rd'.symm).mono (by omega), ls.eraseIdx v, fs ++ [ls[v]], _, by rw [List.length_eraseIdx_of_lt vl]; omega, ?_, ?_, ?_, rfl⟩
    · rw [List.append_assoc]
      exact ((erase_perm hx).append_left fs).trans pm
    · rw [upd_ne rl.symm, upd_same, DT.map_erase]
    · rw [upd_same, List.map_append]
      rfl
  · rintro σ H3 ⟨k3, d3, ls, fs, x4, ll, pm, p3, r3, rfl⟩
    walk_at "rd"
    have : ls = [] := List.length_eq_zero_iff.mp (by omega)
    rw [this, List.append_nil] at pm
    exact q r fs H3 hrH pm r3 d3 k3
def Φ_law_name (K : PySem.W.Frag) (vd : V) (H : Hp) (Q : VK) : Prop := ∃ (d : Addr) (m : Nat), vd = .ref d ∧ Dk d m H ∧ m + 1 ≤ LIM ∧ ∀ (z : Str) (H' : Hp), entB z = true → Dk d (m + 1) H' → Kp d H H' → Q (.str z) H'
theorem ok_law_name (T : Txt P K mg) {f : Addr} {fd : FuncData} (F : Fun K "_law_name" "_law_name" s_law_name f fd) : Keeps P w K mg base CX0 2 f fd ["deck"] (sp1 (Φ_law_name K)) := by
  have c_law_draw := cal (P := P) (w := w) (base := base) T.d_law_draw fun F => ok_law_draw T F
  refine keeps0_of F sc_law_name (fun vs H Q E h => ?_) (fun cdv A outer s H vs Q E hr h => ?_)
  · obtain ⟨_, rfl, _⟩ := h
    rfl
  obtain ⟨v_deck, rfl, h⟩ := h
  have hu := hr.hu
  refine ⟨_, (pss_one (ps_ret (pe_ix (ixX (K := K)) (pe_lst (pa_cons pe_str (pa_cons pe_str (pa_cons pe_str (pa_cons pe_str (pa_cons pe_str (pa_cons pe_str (pa_cons pe_str (pa_cons pe_str (pa_cons pe_str (pa_cons pe_str (pa_cons pe_str (pa_cons pe_str pa_nil))))))))))))) (pe_cal c_law_draw (hr.mono (by decide)) (by rfl) pass0 (pa_cons (pv 0) (pa_cons pe_int pa_nil))) (fun _ _ => rfl)))), ?_⟩
  rw [show start ["deck"] [v_deck] = [some v_deck] from rfl]
  try dsimp only [cxOf, Cx.nox, Cx.wish]
  obtain ⟨d, m, rfl, hd, hm, q⟩ := h
  walk_at "rd"
  intro p hp
  walk_at "rd"
  refine use_draw (hd.new hp) (by decide) (by decide) (by omega) fun v H1 v0 v1 d1 k1 => ?_
  refine pickB entB (SqL.of (k1 p _ (hd.ne hp).symm upd_same)) v0 v1 (by decide +kernel) fun z hz => ?_
  exact q z H1 hz d1 (((Kp.refl d H).new hp).trans k1)
def Φ_law_text (K : PySem.W.Frag) (vd : V) (H : Hp) (Q : VK) : Prop := ∃ (d : Addr) (m : Nat), vd = .ref d ∧ Dk d m H ∧ m + 1 ≤ LIM ∧ ∀ (z : Str) (H' : Hp), textB z = true → Dk d (m + 1) H' → Kp d H H' → Q (.str z) H'
theorem ok_law_text (T : Txt P K mg) {f : Addr} {fd : FuncData} (F : Fun K "_law_text" "_law_text" s_law_text f fd) : Keeps P w K mg base CX0 2 f fd ["deck"] (sp1 (Φ_law_text K)) := by
  have c_law_draw := cal (P := P) (w := w) (base := base) T.d_law_draw fun F => ok_law_draw T F
  refine keeps0_of F sc_law_text (fun vs H Q E h => ?_) (fun cdv A outer s H vs Q E hr h => ?_)
  · obtain ⟨_, rfl, _⟩ := h
    rfl
  obtain ⟨v_deck, rfl, h⟩ := h
  have hu := hr.hu
  refine ⟨_, (pss_one (ps_ret (pe_ix (ixX (K := K)) (pe_lst (pa_cons pe_str (pa_cons pe_str (pa_cons pe_str (pa_cons pe_str (pa_cons pe_str (pa_cons pe_str (pa_cons pe_str (pa_cons (pe_op (oMul (K := K)) pe_str pe_int) (pa_cons pe_str pa_nil)))))))))) (pe_cal c_law_draw (hr.mono (by decide)) (by rfl) pass0 (pa_cons (pv 0) (pa_cons pe_int pa_nil))) (fun _ _ => rfl)))), ?_⟩
  rw [show start ["deck"] [v_deck] = [some v_deck] from rfl]
  try dsimp only [cxOf, Cx.nox, Cx.wish]
  obtain ⟨d, m, rfl, hd, hm, q⟩ := h
  walk_at "rd"
  intro p hp
  walk_at "rd"
  refine use_draw (hd.new hp) (by decide) (by decide) (by omega) fun v H1 v0 v1 d1 k1 => ?_
  refine pickB textB (SqL.of (k1 p _ (hd.ne hp).symm upd_same)) v0 v1 (by decide +kernel) fun z hz => ?_
  exact q z H1 hz d1 (((Kp.refl d H).new hp).trans k1)
/-! ### paths, put together -/
theorem word_noslash {w : Str} (h : wordB w = true) : 47 ∉ tl w := by
  unfold wordB at h
  rw [Bool.or_eq_true, Bool.or_eq_true] at h
  rcases h with (h | h) | h
  · rw [beq_iff_eq.mp h]; decide +kernel
  · rw [beq_iff_eq.mp h]; decide +kernel
  · unfold entB at h
    rw [Bool.and_eq_true] at h
    intro m
    have := List.all_eq_true.mp h.2 47 m
    revert this
    decide +kernel
theorem word_len {w : Str} (h : wordB w = true) : 1 ≤ w.length ∧ w.length ≤ 12 := by
  unfold wordB at h
  rw [Bool.or_eq_true, Bool.or_eq_true] at h
  rcases h with (h | h) | h
  · rw [beq_iff_eq.mp h]; decide +kernel
  · rw [beq_iff_eq.mp h]; decide +kernel
  · exact entB_len h
theorem ent_word {w : Str} (h : entB w = true) : wordB w = true := by
  unfold wordB
  rw [h, Bool.or_true]
theorem split_words {ws : List Str} (hne : ws ≠ []) (hw : ∀ w ∈ ws, wordB w = true) : Txt.split (Txt.join "/" ws) "/" = ws :=
  TL.split_join (s := 47) (S := []) tl_slash (by decide +kernel) hne fun w h => word_noslash (hw w h)
theorem join_tl {w : Str} {ws : List Str} : ∃ r, tl (Txt.join "/" (w :: ws)) = tl w ++ r := by
  rw [TL.join_eq, TL.tl_join]
  cases ws with
  | nil => exact ⟨[], by rw [List.append_nil]; rfl⟩
  | cons u ws => exact ⟨_, rfl⟩
theorem join_len {ws : List Str} (hw : ∀ w ∈ ws, wordB w = true) : (Txt.join "/" ws).length ≤ ws.length * 13 := by
  have s1 := join_le "/" ws 12 fun w h => (word_len (hw w h)).2
  have s2 := len_join "/" ws
  have s3 : ("/" : Str).length = 1 := by decide +kernel
  rw [s3] at s2
  omega
theorem path_of {z : Str} {ws : List Str} (hne : ws ≠ []) (hl : ws.length ≤ 7) (hw : ∀ w ∈ ws, wordB w = true) (hz : z = "" ∨ z = "/") : pathB (.str (z ++ Txt.join "/" ws)) = true := by
  have jl := join_len hw
  have zl : z.length ≤ 1 := by rcases hz with rfl | rfl <;> decide +kernel
  cases ws with
  | nil => exact absurd rfl hne
  | cons w ws =>
    obtain ⟨r, hr⟩ := join_tl (w := w) (ws := ws)
    obtain ⟨c, q, hc⟩ : ∃ c q, tl w = c :: q := by
      cases e : tl w with
      | nil => have := (word_len (hw w List.mem_cons_self)).1; rw [← len_tl, e] at this; cases this
      | cons c q => exact ⟨c, q, rfl⟩
    have c47 : c ≠ 47 := fun e => word_noslash (hw w List.mem_cons_self) (by rw [hc, e]; exact List.mem_cons_self)
    rw [hc] at hr
    have rest : restOf (z ++ Txt.join "/" (w :: ws)) = Txt.join "/" (w :: ws) := by
      rcases hz with rfl | rfl
      · have e : ("" : Str) ++ Txt.join "/" (w :: ws) = Txt.join "/" (w :: ws) := str_ext (by rw [tl_app, tl_nil]; rfl)
        rw [e, rest_cons hr, if_neg]
        intro e
        have := congrArg tl e
        rw [tl_sg, tl_slash] at this
        exact c47 (List.cons.inj this).1
      · have e : tl (("/" : Str) ++ Txt.join "/" (w :: ws)) = 47 :: tl (Txt.join "/" (w :: ws)) := by rw [tl_app, tl_slash]; rfl
        rw [rest_cons e, if_pos (by decide +kernel)]
        refine str_ext ?_
        rw [show (1 : Int) = ((1 : Nat) : Int) from rfl, tl_drop, e]
        rfl
    have hlen : (z ++ Txt.join "/" (w :: ws)).length ≤ 100 := by rw [len_app]; omega
    have hlen1 : 1 ≤ (z ++ Txt.join "/" (w :: ws)).length := by
      rw [len_app, ← len_tl (Txt.join "/" (w :: ws)), hr]
      rw [List.length_append, List.length_cons]
      omega
    rw [pathB_str, decide_eq_true hlen1, decide_eq_true hlen, rest, split_words (List.cons_ne_nil _ _) hw, List.all_eq_true.mpr hw, Bool.or_true]
    rfl
def Φ_law_path (K : PySem.W.Frag) (vd vm : V) (H : Hp) (Q : VK) : Prop := ∃ (d : Addr) (n m : Nat), vd = .ref d ∧ vm = .int n ∧ n ≤ 6 ∧ Dk d m H ∧ m + 20 ≤ LIM ∧ ∀ (z : Str) (H' : Hp), pathB (.str z) = true → Dk d (m + 20) H' → Kp d H H' → Q (.str z) H'
theorem ok_law_path (T : Txt P K mg) {f : Addr} {fd : FuncData} (F : Fun K "_law_path" "_law_path" s_law_path f fd) : Keeps P w K mg base CX0 3 f fd ["deck", "most"] (sp2 (Φ_law_path K)) := by
  have c_law_draw := cal (P := P) (w := w) (base := base) T.d_law_draw fun F => ok_law_draw T F
  have c_law_name := cal (P := P) (w := w) (base := base) T.d_law_name fun F => ok_law_name T F
  refine keeps0_of F sc_law_path (fun vs H Q E h => ?_) (fun cdv A outer s H vs Q E hr h => ?_)
  · obtain ⟨_, _, rfl, _⟩ := h
    rfl
  obtain ⟨v_deck, v_most, rfl, h⟩ := h
  have hu := hr.hu
  refine ⟨_, (pss_cons (ps_set (i := 2) sc_law_path.nd rfl (by first | exact Or.inl rfl | exact Or.inr rfl) (pe_lst pa_nil))
      (pss_cons (ps_for PassesOwn.never rfl (pi_range1 (by rfl) T.b_range (pa_cons (pe_cal c_law_draw (hr.mono (by decide)) (by rfl) pass0 (pa_cons (pv 0) (pa_cons (pe_op (oAdd (K := K)) (pv 1) pe_int) pa_nil))) pa_nil)) (pg_name (i := 3) sc_law_path.nd rfl (by first | exact Or.inl rfl | exact Or.inr rfl)) (pss_one (ps_expr (pe_bmX (K := K) PySem.F.plainAttrs_list PySem.F.slot_list_append PySem.F.type_list_append mt_append (pv 2) (pa_cons (pe_ifExp (pt_cmpR oGt (pe_cal c_law_draw (hr.mono (by decide)) (by rfl) pass0 (pa_cons (pv 0) (pa_cons pe_int pa_nil))) pe_int (nomark _)) (pe_cal c_law_name (hr.mono (by decide)) (by rfl) pass0 (pa_cons (pv 0) pa_nil)) (pe_ix (ixX (K := K)) (pe_lst (pa_cons pe_str (pa_cons pe_str (pa_cons pe_str pa_nil)))) (pe_cal c_law_draw (hr.mono (by decide)) (by rfl) pass0 (pa_cons (pv 0) (pa_cons pe_int pa_nil))) (fun _ _ => rfl))) pa_nil)))))
      (pss_cons (ps_if (pt_cmpR (oEq (K := K) hr.u65) (pv 2) (pe_lst pa_nil) (nomark _)) (pss_one (ps_ret (pe_ix (ixX (K := K)) (pe_lst (pa_cons pe_str (pa_cons pe_str pa_nil))) (pe_cal c_law_draw (hr.mono (by decide)) (by rfl) pass0 (pa_cons (pv 0) (pa_cons pe_int pa_nil))) (fun _ _ => rfl)))) pss_nil)
      (pss_one (ps_ret (pe_op (oAdd (K := K)) (pe_ix (ixX (K := K)) (pe_lst (pa_cons pe_str (pa_cons pe_str (pa_cons pe_str pa_nil)))) (pe_cal c_law_draw (hr.mono (by decide)) (by rfl) pass0 (pa_cons (pv 0) (pa_cons pe_int pa_nil))) (fun _ _ => rfl)) (pe_join pe_str (pv 2)))))))), ?_⟩
  rw [show start ["deck", "most", "words", "turn"] [v_deck, v_most] = [some v_deck, some v_most, none, none] from rfl]
  try dsimp only [cxOf, Cx.nox, Cx.wish]
  obtain ⟨d, mm, m, rfl, rfl, hmm, hd, hm, q⟩ := h
  walk_at "rd"
  intro p hp
  walk_at "rd"
  refine use_draw (hd.new hp) (by omega) (by omega) (by omega) fun n H1 n0 n1 d1 k1 => ?_
  have np := hd.ne hp
  have kk := ((Kp.refl d H).new (o := .lst []) hp).trans k1
  walk_at "rd"
  refine rd_itR (by omega) (by omega) (fun i σ H' => Kp d H H' ∧ Dk d (m + 1 + 2 * i) H' ∧ ∃ (ws : List Str) (v : Option V), ws.length = i ∧ (∀ w ∈ ws, wordB w = true) ∧ H' p = some (.lst (ws.map V.str)) ∧ σ = [some (.ref d), some (.int mm), some (.ref p), v])
    ⟨kk, d1, [], none, rfl, (fun _ h => nomatch h), k1.at np, rfl⟩ ?_ ?_
  · rintro i σ H2 hi ⟨k2, d2, ws, v, hl, hw, h2, rfl⟩
    walk_at "rd"
    refine rd_tyL (SqL.of h2) ?_
    walk_at "rd"
    refine use_draw d2 (by decide) (by decide) (by omega) fun a H3 a0 a1 d3 k3 => ?_
    have h3 := k3 p _ np.symm h2
    have fin : ∀ (z : Str) (H4 : Hp), wordB z = true → Dk d (m + 1 + 2 * (i + 1)) H4 → Kp d H3 H4 → rAppend (.ref p) [.str z] H4 fun _ H5 => (Kp d H H5 ∧ Dk d (m + 1 + 2 * (i + 1)) H5 ∧ ∃ (ws : List Str) (u : Option V), ws.length = i + 1 ∧ (∀ w ∈ ws, wordB w = true) ∧ H5 p = some (.lst (ws.map V.str)) ∧ [some (.ref d), some (.int mm), some (.ref p), some (.int i)] = [some (.ref d), some (.int mm), some (.ref p), u]) := by
      intro z H4 hz d4 k4
      have h4 := k4 p _ np.symm h3
      refine rd_app h4 (szLt (by rw [List.length_map]; omega)) ⟨((k2.trans k3).trans k4).put hp, d4.put np, ws ++ [z], _, by rw [List.length_append, hl]; rfl, ?_, by rw [upd_same, List.map_append]; rfl, rfl⟩
      intro y hy
      rcases List.mem_append.mp hy with hy | hy
      · exact hw y hy
      · rw [List.mem_singleton.mp hy]; exact hz
    walk_at "rd"
    refine rd_ite (fun _ => ?_) (fun _ => ?_)
    · walk_at "rd"
      exact ⟨d, _, rfl, d3, by omega, fun z H4 hz d4 k4 => fin z H4 (ent_word hz) d4 k4⟩
    · walk_at "rd"
      intro l hl
      walk_at "rd"
      refine use_draw (d3.new hl) (by decide) (by decide) (by omega) fun b H4 b0 b1 d4 k4 => ?_
      refine pickB wordB (SqL.of (k4.at (d3.ne hl))) b0 b1 (by decide +kernel) fun z hz => ?_
      exact fin z H4 hz d4 (((Kp.refl d H3).new hl).trans k4)
  · rintro σ H2 ⟨k2, d2, ws, v, hl, hw, h2, rfl⟩
    walk_at "rd"
    intro l hl2
    refine rd_eqNil (SqL.of (by rw [upd_ne (ne_of_none h2 hl2)]; exact h2)) (SqL.of upd_same) ?_
    have d3 := d2.new (o := .lst []) hl2
    have k3 := k2.new (o := .lst []) hl2
    have h3 : upd H2 l (.lst []) p = some (.lst (ws.map V.str)) := by
      rw [upd_ne (ne_of_none h2 hl2)]
      exact h2
    walk_at "rd"
    refine rd_ite (fun _ => ?_) (fun hne => ?_)
    · walk_at "rd"
      intro l2 hl3
      walk_at "rd"
      refine use_draw (d3.new hl3) (by decide) (by decide) (by omega) fun b H4 b0 b1 d4 k4 => ?_
      refine pickB (fun z => pathB (.str z)) (SqL.of (k4.at (d3.ne hl3))) b0 b1 (by decide +kernel) fun z hz => ?_
      exact q z H4 hz (d4.mono (by omega)) ((k3.new hl3).trans k4)
    · walk_at "rd"
      intro l2 hl3
      walk_at "rd"
      refine use_draw (d3.new hl3) (by decide) (by decide) (by omega) fun b H4 b0 b1 d4 k4 => ?_
      refine pickB (fun z => z == "" || z == "/") (SqL.of (k4.at (d3.ne hl3))) b0 b1 (by decide +kernel) fun z hz => ?_
      walk_at "rd"
      have h4 := k4 p _ np.symm (by rw [upd_ne (ne_of_none h3 hl3)]; exact h3)
      have s0 := join_len hw
      have s1 := join_le "/" ws 12 fun w h => (word_len (hw w h)).2
      have s3 : ("/" : Str).length = 1 := by decide +kernel
      have hz2 : z = "" ∨ z = "/" := by rw [Bool.or_eq_true] at hz; exact hz.imp beq_iff_eq.mp beq_iff_eq.mp
      have zl : z.length ≤ 1 := by rcases hz2 with rfl | rfl <;> decide +kernel
      refine ⟨_, p, ws, rfl, rfl, .inl (SqL.of h4), by rw [s3]; omega, ?_⟩
      refine rd_addS (szOk (by omega)) ?_
      refine q _ H4 (path_of (fun e => ?_) (by omega) hw hz2) (d4.mono (by omega)) ((k3.new hl3).trans k4)
      rw [e] at hne
      cases hne

/-! ### a drawn store, step by step -/
abbrev Gh := List (Nat × Addr × List (Str × Nat))
inductive GR (G : Gh) : Nat → Prop
  | root : GR G 0
  | step {r : Nat} {a : Addr} {es : List (Str × Nat)} {e : Str × Nat} : GR G r → (r, a, es) ∈ G → e ∈ es → GR G e.2
def rms (G : Gh) : List Nat := G.map (·.1)
theorem rms_mem {G : Gh} {r : Nat} : r ∈ rms G ↔ ∃ a es, (r, a, es) ∈ G := by
  unfold rms
  rw [List.mem_map]
  constructor
  · rintro ⟨⟨r', a, es⟩, h, rfl⟩
    exact ⟨a, es, h⟩
  · rintro ⟨a, es, h⟩
    exact ⟨_, h, rfl⟩
structure GI (G : Gh) (M : List Nat) (c L : Nat) : Prop where
  g0 : 0 ∈ rms G
  nd : (rms G ++ M).Nodup
  lt : ∀ k ∈ rms G ++ M, k < L
  ent : ∀ r a es, (r, a, es) ∈ G → ∀ e ∈ es, entB e.1 = true ∧ e.2 ∈ rms G ++ M ∧ e.2 ≠ 0
  nam : ∀ r a es, (r, a, es) ∈ G → (es.map (·.1)).Nodup ∧ es.length ≤ c
  one : ∀ r a es r' a' es' e e', (r, a, es) ∈ G → (r', a', es') ∈ G → e ∈ es → e' ∈ es' → e.2 = e'.2 → e.2 ∈ rms G → r = r' ∧ e = e'
  rch : ∀ k ∈ rms G ++ M, GR G k
def addE (G : Gh) (r : Nat) (x : Str × Nat) : Gh := G.map fun g => if g.1 = r then (g.1, g.2.1, g.2.2 ++ [x]) else g
section
variable {G : Gh} {M : List Nat} {c L r k : Nat} {x : Str × Nat} {nm : Str}
theorem rms_add : rms (addE G r x) = rms G := by
  unfold rms addE
  rw [List.map_map]
  refine List.map_congr_left fun g _ => ?_
  show (if g.1 = r then (g.1, g.2.1, g.2.2 ++ [x]) else g).1 = g.1
  split <;> rfl
theorem mem_add {r' : Nat} {a : Addr} {es : List (Str × Nat)} : (r', a, es) ∈ addE G r x ↔ (r' ≠ r ∧ (r', a, es) ∈ G) ∨ (r' = r ∧ ∃ es0, (r', a, es0) ∈ G ∧ es = es0 ++ [x]) := by
  unfold addE
  rw [List.mem_map]
  constructor
  · rintro ⟨⟨r1, a1, es1⟩, h, e⟩
    by_cases hr : r1 = r
    · rw [if_pos hr] at e
      cases e
      exact .inr ⟨hr, es1, h, rfl⟩
    · rw [if_neg hr] at e
      cases e
      exact .inl ⟨hr, h⟩
  · rintro (⟨h1, h2⟩ | ⟨h1, es0, h2, rfl⟩)
    · exact ⟨_, h2, by rw [if_neg h1]⟩
    · exact ⟨_, h2, by rw [if_pos h1]⟩
theorem GR.mono {G' : Gh} (h : ∀ r a es, (r, a, es) ∈ G → ∃ es', (r, a, es') ∈ G' ∧ ∀ e ∈ es, e ∈ es') (g : GR G k) : GR G' k := by
  induction g with
  | root => exact .root
  | step _ h1 h2 ih =>
    obtain ⟨es', h3, h4⟩ := h _ _ _ h1
    exact .step ih h3 (h4 _ h2)
theorem add_le : ∀ r' a es, (r', a, es) ∈ G → ∃ es', (r', a, es') ∈ addE G r x ∧ ∀ e ∈ es, e ∈ es' := fun r' a es h => by
  by_cases hr : r' = r
  · exact ⟨es ++ [x], mem_add.mpr (.inr ⟨hr, es, h, rfl⟩), fun e he => List.mem_append_left _ he⟩
  · exact ⟨es, mem_add.mpr (.inl ⟨hr, h⟩), fun e he => he⟩
/-- an entry of the changed list is an old one or the new one, in its room -/
theorem ent_old {r' : Nat} {a : Addr} {es : List (Str × Nat)} {e : Str × Nat} (h : (r', a, es) ∈ addE G r x) (he : e ∈ es) : (∃ es0, (r', a, es0) ∈ G ∧ e ∈ es0) ∨ (r' = r ∧ e = x) := by
  rcases mem_add.mp h with ⟨_, h2⟩ | ⟨h1, es0, h2, rfl⟩
  · exact .inl ⟨es, h2, he⟩
  · rcases List.mem_append.mp he with he | he
    · exact .inl ⟨es0, h2, he⟩
    · exact .inr ⟨h1, List.mem_singleton.mp he⟩
theorem nam_add (g : GI G M c L) (fresh : ∀ a es, (r, a, es) ∈ G → nm ∉ es.map (·.1)) {r' : Nat} {a : Addr} {es : List (Str × Nat)} (h : (r', a, es) ∈ addE G r (nm, k)) : (es.map (·.1)).Nodup ∧ es.length ≤ c + 1 := by
  rcases mem_add.mp h with ⟨_, h2⟩ | ⟨h1, es0, h2, rfl⟩
  · exact ⟨(g.nam _ _ _ h2).1, Nat.le_succ_of_le (g.nam _ _ _ h2).2⟩
  · subst h1
    obtain ⟨n1, n2⟩ := g.nam _ _ _ h2
    refine ⟨?_, by rw [List.length_append]; exact Nat.succ_le_succ n2⟩
    rw [List.map_append]
    refine List.nodup_append.mpr ⟨n1, List.nodup_cons.mpr ⟨List.not_mem_nil, List.nodup_nil⟩, fun y hy z hz e => ?_⟩
    have hz : z ∈ [nm] := hz
    rw [List.mem_singleton.mp hz] at e
    exact fresh _ _ h2 (e ▸ hy)
theorem GI.link (g : GI G M c L) (hr : r ∈ rms G) (ok : entB nm = true) (fresh : ∀ a es, (r, a, es) ∈ G → nm ∉ es.map (·.1)) (hk : k ∈ M) : GI (addE G r (nm, k)) M (c + 1) L := by
  have disj : ∀ j ∈ M, j ∉ rms G := fun j hj h => (List.nodup_append.mp g.nd).2.2 j h j hj rfl
  refine ⟨by rw [rms_add]; exact g.g0, by rw [rms_add]; exact g.nd, by rw [rms_add]; exact g.lt, fun r' a es h e he => ?_, fun r' a es h => nam_add g fresh h, ?_, fun j hj => ?_⟩
  · rw [rms_add]
    rcases ent_old h he with ⟨es0, h2, he⟩ | ⟨_, rfl⟩
    · exact g.ent _ _ _ h2 e he
    · exact ⟨ok, List.mem_append_right _ hk, fun e => disj _ hk (by show k ∈ _; rw [show k = 0 from e]; exact g.g0)⟩
  · rw [rms_add]
    intro r1 a1 es1 r2 a2 es2 e e' h1 h2 he he' eq hroom
    rcases ent_old h1 he with ⟨es0, h3, he⟩ | ⟨_, rfl⟩
    · rcases ent_old h2 he' with ⟨es0', h4, he'⟩ | ⟨_, rfl⟩
      · exact g.one _ _ _ _ _ _ _ _ h3 h4 he he' eq hroom
      · exact absurd hroom (by rw [eq]; exact disj _ hk)
    · exact absurd hroom (disj _ hk)
  · rw [rms_add] at hj
    exact (g.rch j hj).mono add_le
theorem GI.other (g : GI G M c L) (hr : r ∈ rms G) (ok : entB nm = true) (fresh : ∀ a es, (r, a, es) ∈ G → nm ∉ es.map (·.1)) (hk : k ∉ rms G ++ M) (hL : k < L) : GI (addE G r (nm, k)) (M ++ [k]) (c + 1) L := by
  have kr : k ∉ rms G := fun h => hk (List.mem_append_left _ h)
  refine ⟨by rw [rms_add]; exact g.g0, ?_, fun j hj => ?_, fun r' a es h e he => ?_, fun r' a es h => nam_add g fresh h, ?_, fun j hj => ?_⟩
  · rw [rms_add, ← List.append_assoc]
    refine List.nodup_append.mpr ⟨g.nd, List.nodup_cons.mpr ⟨List.not_mem_nil, List.nodup_nil⟩, fun y hy z hz e => ?_⟩
    rw [List.mem_singleton.mp hz] at e
    exact hk (e ▸ hy)
  · rw [rms_add, ← List.append_assoc] at hj
    rcases List.mem_append.mp hj with h | h
    · exact g.lt j h
    · rw [List.mem_singleton.mp h]; exact hL
  · rw [rms_add, ← List.append_assoc]
    rcases ent_old h he with ⟨es0, h2, he⟩ | ⟨_, rfl⟩
    · obtain ⟨a1, a2, a3⟩ := g.ent _ _ _ h2 e he
      exact ⟨a1, List.mem_append_left _ a2, a3⟩
    · exact ⟨ok, List.mem_append_right _ (List.mem_singleton.mpr rfl), fun e => kr (by rw [show k = 0 from e]; exact g.g0)⟩
  · rw [rms_add]
    intro r1 a1 es1 r2 a2 es2 e e' h1 h2 he he' eq hroom
    rcases ent_old h1 he with ⟨es0, h3, he⟩ | ⟨_, rfl⟩
    · rcases ent_old h2 he' with ⟨es0', h4, he'⟩ | ⟨_, rfl⟩
      · exact g.one _ _ _ _ _ _ _ _ h3 h4 he he' eq hroom
      · exact absurd hroom (by rw [eq]; exact kr)
    · exact absurd hroom kr
  · rw [rms_add, ← List.append_assoc] at hj
    rcases List.mem_append.mp hj with h | h
    · exact (g.rch j h).mono add_le
    · rw [List.mem_singleton.mp h]
      obtain ⟨a, es, hm⟩ := rms_mem.mp hr
      exact .step (e := (nm, k)) ((g.rch r (List.mem_append_left _ hr)).mono add_le) (mem_add.mpr (.inr ⟨rfl, es, hm, rfl⟩)) (List.mem_append_right _ (List.mem_singleton.mpr rfl))
theorem GI.room (g : GI G M c L) (hr : r ∈ rms G) (ok : entB nm = true) (fresh : ∀ a es, (r, a, es) ∈ G → nm ∉ es.map (·.1)) (hk : k ∉ rms G ++ M) (hL : k < L) (b : Addr) : GI (addE G r (nm, k) ++ [(k, b, [])]) M (c + 1) L := by
  have kr : k ∉ rms G := fun h => hk (List.mem_append_left _ h)
  have er : rms (addE G r (nm, k) ++ [(k, b, [])]) = rms G ++ [k] := by
    unfold rms
    rw [List.map_append]
    show rms (addE G r (nm, k)) ++ [k] = _
    rw [rms_add]
    rfl
  have old : ∀ {r' a es e}, (r', a, es) ∈ addE G r (nm, k) ++ [(k, b, [])] → e ∈ es → (r', a, es) ∈ addE G r (nm, k) := by
    intro r' a es e h he
    rcases List.mem_append.mp h with h | h
    · exact h
    · cases List.mem_singleton.mp h
      cases he
  have pm : (rms G ++ [k] ++ M).Perm (rms G ++ M ++ [k]) := by
    rw [List.append_assoc, List.append_assoc]
    exact List.Perm.append_left _ List.perm_append_comm
  have kz : k ≠ 0 := fun e => kr (e ▸ g.g0)
  refine ⟨by rw [er]; exact List.mem_append_left _ g.g0, ?_, fun j hj => ?_, fun r' a es h e he => ?_, fun r' a es h => ?_, ?_, fun j hj => ?_⟩
  · rw [er]
    refine pm.nodup_iff.mpr ?_
    refine List.nodup_append.mpr ⟨g.nd, List.nodup_cons.mpr ⟨List.not_mem_nil, List.nodup_nil⟩, fun y hy z hz e => ?_⟩
    rw [List.mem_singleton.mp hz] at e
    exact hk (e ▸ hy)
  · rw [er] at hj
    rcases List.mem_append.mp (pm.mem_iff.mp hj) with h | h
    · exact g.lt j h
    · rw [List.mem_singleton.mp h]; exact hL
  · rw [er]
    rcases ent_old (old h he) he with ⟨es0, h2, he⟩ | ⟨_, rfl⟩
    · obtain ⟨a1, a2, a3⟩ := g.ent _ _ _ h2 e he
      exact ⟨a1, pm.mem_iff.mpr (List.mem_append_left _ a2), a3⟩
    · exact ⟨ok, pm.mem_iff.mpr (List.mem_append_right _ (List.mem_singleton.mpr rfl)), kz⟩
  · rcases List.mem_append.mp h with h | h
    · exact nam_add g fresh h
    · cases List.mem_singleton.mp h
      exact ⟨List.nodup_nil, Nat.zero_le _⟩
  · rw [er]
    intro r1 a1 es1 r2 a2 es2 e e' h1 h2 he he' eq hroom
    rcases ent_old (old h1 he) he with ⟨es0, h3, he⟩ | ⟨rfl, rfl⟩
    · have me := (g.ent _ _ _ h3 e he).2.1
      have hroom : e.2 ∈ rms G := by
        rcases List.mem_append.mp hroom with h | h
        · exact h
        · rw [List.mem_singleton.mp h] at me
          exact absurd me hk
      rcases ent_old (old h2 he') he' with ⟨es0', h4, he'⟩ | ⟨_, rfl⟩
      · exact g.one _ _ _ _ _ _ _ _ h3 h4 he he' eq hroom
      · rw [eq] at me
        exact absurd me hk
    · rcases ent_old (old h2 he') he' with ⟨es0', h4, he'⟩ | ⟨rfl, rfl⟩
      · have me := (g.ent _ _ _ h4 e' he').2.1
        rw [← eq] at me
        exact absurd me hk
      · exact ⟨rfl, rfl⟩
  · rw [er] at hj
    have le : ∀ r' a es, (r', a, es) ∈ G → ∃ es', (r', a, es') ∈ addE G r (nm, k) ++ [(k, b, [])] ∧ ∀ e ∈ es, e ∈ es' := fun r' a es h => by
      obtain ⟨es', h1, h2⟩ := add_le (x := (nm, k)) (r := r) r' a es h
      exact ⟨es', List.mem_append_left _ h1, h2⟩
    rcases List.mem_append.mp (pm.mem_iff.mp hj) with h | h
    · exact (g.rch j h).mono le
    · rw [List.mem_singleton.mp h]
      obtain ⟨a, es, hm⟩ := rms_mem.mp hr
      exact .step (e := (nm, k)) ((g.rch r (List.mem_append_left _ hr)).mono le) (List.mem_append_left _ (mem_add.mpr (.inr ⟨rfl, es, hm, rfl⟩))) (List.mem_append_right _ (List.mem_singleton.mpr rfl))
theorem GI.mono {c' : Nat} (g : GI G M c L) (h : c ≤ c') : GI G M c' L := ⟨g.g0, g.nd, g.lt, g.ent, fun r a es q => ⟨(g.nam r a es q).1, Nat.le_trans (g.nam r a es q).2 h⟩, g.one, g.rch⟩
end
/-! ### entries in their sequence -/
def entN (e : Str × Nat) : PyData := .tuple [.str e.1, .int e.2]
def srtE (es : List (Str × Nat)) : List (Str × Nat) := es.mergeSort (PySem.W.dataLe false entN)
theorem mem_srtE {es : List (Str × Nat)} {e : Str × Nat} : e ∈ srtE es ↔ e ∈ es := List.mem_mergeSort
theorem len_srtE (es : List (Str × Nat)) : (srtE es).length = es.length := List.length_mergeSort es
theorem srtE_up {es : List (Str × Nat)} (nd : (es.map (·.1)).Nodup) : (srtE es).Pairwise fun a b => tl a.1 < tl b.1 := by
  have h1 : (srtE es).Pairwise fun a b => PySem.W.dataLe false entN a b = true := PySem.W.sort_pairwise (PySem.W.sortLe_total _ false _) es
  have h2 : ((srtE es).map (·.1)).Nodup := ((List.mergeSort_perm es _).map _).nodup_iff.mpr nd
  have h3 : (srtE es).Pairwise fun a b => a.1 ≠ b.1 := List.pairwise_map.mp h2
  refine (List.Pairwise.and h1 h3).imp ?_
  rintro ⟨a, i⟩ ⟨b, j⟩ ⟨h, ne⟩
  have ne : a ≠ b := ne
  rw [PySem.W.dataLe_eq] at h
  have h : (!PySem.W.dataLt (entN (b, j)) (entN (a, i))) = true := h
  unfold entN at h
  rw [PySem.W.dataLt_pair rfl rfl, if_neg (fun e => ne (by rw [beq_iff_eq.mp (show (b == a) = true from e)]))] at h
  have e2 := congrFun (congrFun (PySem.W.dataLe_str (fun x : Str => x)) a) b
  rw [PySem.W.dataLe_eq] at e2
  have e2 : (!PySem.W.dataLt (.str b) (.str a)) = decide (a.cps.toList ≤ b.cps.toList) := e2
  rw [e2] at h
  rcases List.le_iff_lt_or_eq.mp (of_decide_eq_true h) with h | h
  · exact h
  · exact absurd (str_ext h) ne
/-! ### such a store is one -/
theorem wf_of {G : Gh} {O : List (Nat × Nd)} {c L : Nat} {s : Sto} (g : GI G (O.map (·.1)) c L) (hc : c ≤ 1000) (hO : ∀ o ∈ O, (∃ t, o.2 = .file t ∧ textB t = true) ∨ ∃ p, o.2 = .sign p ∧ pathB (.str p) = true)
    (hs : ∀ k nd, s[k]? = some (some nd) ↔ (k, nd) ∈ O ∨ ∃ a es, (k, a, es) ∈ G ∧ nd = .room (srtE es)) (hl : s.length ≤ 60) (hlast : ∃ n, s[s.length - 1]? = some (some n)) : Wf s ∧ ∀ r, (entsAt s r).length ≤ c := by
  have node : ∀ k ∈ rms G ++ O.map (·.1), ∃ n, s[k]? = some (some n) := fun k hk => by
    rcases List.mem_append.mp hk with h | h
    · obtain ⟨a, es, h⟩ := rms_mem.mp h
      exact ⟨_, (hs k _).mpr (.inr ⟨a, es, h, rfl⟩)⟩
    · obtain ⟨⟨k', nd⟩, h2, e⟩ := List.mem_map.mp h
      cases e
      exact ⟨nd, (hs _ _).mpr (.inl h2)⟩
  have nums : ∀ k n, s[k]? = some (some n) → k ∈ rms G ++ O.map (·.1) := fun k n h => by
    rcases (hs k n).mp h with h | ⟨a, es, h, _⟩
    · exact List.mem_append_right _ (List.mem_map.mpr ⟨_, h, rfl⟩)
    · exact List.mem_append_left _ (rms_mem.mpr ⟨a, es, h⟩)
  have rooms : ∀ r es', s[r]? = some (some (.room es')) → ∃ a es, (r, a, es) ∈ G ∧ es' = srtE es := fun r es' h => by
    rcases (hs r _).mp h with h2 | ⟨a, es, h2, e⟩
    · rcases hO _ h2 with ⟨t, e, _⟩ | ⟨t, e, _⟩ <;> cases e
    · cases e
      exact ⟨a, es, h2, rfl⟩
  have ents : ∀ r e, e ∈ entsAt s r → ∃ a es, (r, a, es) ∈ G ∧ e ∈ es := fun r e h => by
    unfold entsAt at h
    split at h
    · rename_i es' hr
      obtain ⟨a, es, h1, rfl⟩ := rooms r es' hr
      exact ⟨a, es, h1, mem_srtE.mp h⟩
    · cases h
  have at_ : ∀ r a es, (r, a, es) ∈ G → entsAt s r = srtE es := fun r a es h => entsAt_room ((hs r _).mpr (.inr ⟨a, es, h, rfl⟩))
  have hfew : ∀ r, (entsAt s r).length ≤ c := fun r => by
    unfold entsAt
    split
    · rename_i es' hr
      obtain ⟨a, es, h1, rfl⟩ := rooms r es' hr
      rw [len_srtE]
      exact (g.nam _ _ _ h1).2
    · exact Nat.zero_le _
  obtain ⟨a0, es0, h0⟩ := rms_mem.mp g.g0
  have root : s[0]? = some (some (.room (srtE es0))) := (hs 0 _).mpr (.inr ⟨a0, es0, h0, rfl⟩)
  refine ⟨⟨?_, hl, hlast, ⟨_, root⟩, fun n hn => ?_, fun r e he => ?_, fun r r' e e' he he' eq hroom => ?_, fun k n hk => ?_, fun r => Nat.le_trans (hfew r) hc⟩, hfew⟩
  · have := (List.getElem?_eq_some_iff.mp root).1
    omega
  · obtain ⟨k, hk⟩ := List.mem_iff_getElem?.mp hn
    rcases (hs k n).mp hk with h | ⟨a, es, h, rfl⟩
    · rcases hO _ h with ⟨t, e, q⟩ | ⟨t, e, q⟩
      · have e : n = .file t := e
        subst e
        exact q
      · have e : n = .sign t := e
        subst e
        exact q
    · refine ⟨fun e he => ?_, srtE_up (g.nam _ _ _ h).1⟩
      obtain ⟨a1, a2, a3⟩ := g.ent _ _ _ h e (mem_srtE.mp he)
      obtain ⟨n, hn⟩ := node _ a2
      exact ⟨a1, (List.getElem?_eq_some_iff.mp hn).1⟩
  · obtain ⟨a, es, h, he⟩ := ents r e he
    exact node _ (g.ent _ _ _ h e he).2.1
  · obtain ⟨a, es, h, he⟩ := ents r e he
    obtain ⟨a', es', h', he'⟩ := ents r' e' he'
    obtain ⟨esx, hx⟩ := hroom
    obtain ⟨ax, ex, hgx, _⟩ := rooms _ _ hx
    obtain ⟨q1, q2⟩ := g.one _ _ _ _ _ _ _ _ h h' he he' eq (rms_mem.mpr ⟨ax, ex, hgx⟩)
    exact ⟨(g.ent _ _ _ h e he).2.2, q1, q2⟩
  · have gr := g.rch k (nums k n hk)
    clear hk
    induction gr with
    | root => exact .root
    | @step r a es e _ h1 h2 ih =>
      refine .step ih ?_
      rw [at_ _ _ _ h1]
      exact mem_srtE.mpr h2

/-! ### places, the store itself -/
abbrev nv (n : Nat) : V := .int (n : Int)
theorem rd_lstRg2 {ta tb : TE} {σ : St} {H : Hp} {Q : VK} (q : ta σ H fun x H1 => tb σ H1 fun y H2 => ∃ i j, x = .int i ∧ y = .int j ∧ RgOk i j ∧ ∀ q', H2 q' = none → Q (.ref q') (upd H2 q' (.lst (rgV i j)))) : tLstRg (tRg2 ta tb) σ H Q := q
theorem rd_dNotIn {ty td : TE} {σ : St} {H : Hp} {Q : VK} (q : ty σ H fun y H1 => td σ H1 fun x H2 => ∃ a o, x = .ref a ∧ DGet H2 a y o ∧ Q (.bl (!o.isSome)) H2) : tDNotIn ty td σ H Q := q
theorem rd_dGet {ty td : TE} {σ : St} {H : Hp} {Q : VK} (q : td σ H fun x H1 => ty σ H1 fun y H2 => ∃ a v, x = .ref a ∧ DGet H2 a y (some v) ∧ Q v H2) : tDGet td ty σ H Q := q
theorem rg_nats (n : Nat) : rgV 1 ((n : Int) + 1) = (List.range n).map fun i => nv (i + 1) := by
  unfold rgV
  rw [show ((n : Int) + 1 - 1).toNat = n by omega]
  refine List.map_congr_left fun i _ => ?_
  show V.int (1 + (i : Int)) = V.int ((i + 1 : Nat) : Int)
  congr 1
  omega
def Φ_law_places (K : PySem.W.Frag) (vd vm : V) (H : Hp) (Q : VK) : Prop := ∃ (d : Addr) (n m : Nat), vd = .ref d ∧ vm = .int n ∧ n ≤ 60 ∧ Dk d m H ∧ m + 70 ≤ LIM ∧
  ∀ (r : Addr) (ks : List Nat) (H' : Hp), H r = none → H' r = some (.lst (ks.map nv)) → r ≠ d → ks.length = n → ks.Nodup → (∀ k ∈ ks, 1 ≤ k ∧ k ≤ n + 2) → Dk d (m + 70) H' → Kp d H H' → Q (.ref r) H'
theorem ok_law_places (T : Txt P K mg) {f : Addr} {fd : FuncData} (F : Fun K "_law_places" "_law_places" s_law_places f fd) : Keeps P w K mg base CX0 3 f fd ["deck", "many"] (sp2 (Φ_law_places K)) := by
  have c_law_draw := cal (P := P) (w := w) (base := base) T.d_law_draw fun F => ok_law_draw T F
  have c_law_mixed := cal (P := P) (w := w) (base := base) T.d_law_mixed fun F => ok_law_mixed T F
  refine keeps0_of F sc_law_places (fun vs H Q E h => ?_) (fun cdv A outer s H vs Q E hr h => ?_)
  · obtain ⟨_, _, rfl, _⟩ := h
    rfl
  obtain ⟨v_deck, v_many, rfl, h⟩ := h
  have hu := hr.hu
  refine ⟨_, (pss_cons (ps_set (i := 2) sc_law_places.nd rfl (by first | exact Or.inl rfl | exact Or.inr rfl) (pe_op (oAdd (K := K)) (pv 1) (pe_cal c_law_draw (hr.mono (by decide)) (by rfl) pass0 (pa_cons (pv 0) (pa_cons pe_int pa_nil)))))
      (pss_one (ps_ret (pe_slice (sX (K := K)) (pe_cal c_law_mixed (hr.mono (by decide)) (by rfl) pass0 (pa_cons (pv 0) (pa_cons (pe_listRg rfl (by rfl) T.b_list (prg_2 (by rfl) T.b_range pe_int (pe_op (oAdd (K := K)) (pv 2) pe_int))) pa_nil))) po_none (po_some (pv 1)))))), ?_⟩
  rw [show start ["deck", "many", "last"] [v_deck, v_many] = [some v_deck, some v_many, none] from rfl]
  try dsimp only [cxOf, Cx.nox, Cx.wish]
  obtain ⟨d, n, m, rfl, rfl, hn, hd, hm, q⟩ := h
  walk_at "rd"
  refine use_draw hd (by omega) (by omega) (by omega) fun v H1 v0 v1 d1 k1 => ?_
  obtain ⟨v, rfl⟩ : ∃ k : Nat, v = (k : Int) := ⟨v.toNat, by omega⟩
  walk_at "rd"
  refine rd_lstRg2 ?_
  walk_at "rd"
  refine ⟨1, (n : Int) + v + 1, rfl, rfl, RgOk.of_le (by omega) (by omega) (by omega) (by omega), fun p hp => ?_⟩
  rw [show (n : Int) + (v : Int) + 1 = ((n + v : Nat) : Int) + 1 by omega, rg_nats]
  have k2 := k1.new (o := .lst ((List.range (n + v)).map fun i => nv (i + 1))) hp
  walk_at "rd"
  refine ⟨d, p, Nat, List.range (n + v), fun i => nv (i + 1), m + 1, rfl, rfl, upd_same, (d1.ne hp).symm, by rw [List.length_range]; omega, d1.new hp, by rw [List.length_range]; omega, fun r bs H2 hr pm hr2 d2 k3 => ?_⟩
  rw [List.length_range] at d2
  have lb := pm.length_eq
  rw [List.length_range] at lb
  walk_at "rd"
  refine rd_slL (SqL.of hr2) fun l hl => ?_
  rw [cutV_take]
  have nd : (bs.map (· + 1)).Nodup := (pm.nodup_iff.mpr List.nodup_range).map _ fun a b e h => e (by omega)
  have lH : H l = none := (k2.trans k3).free (d2.ne hl).symm hl
  refine q l ((bs.take n).map (· + 1)) _ lH (by rw [upd_same, ← List.map_take, List.map_map]; rfl) (d2.ne hl).symm (by rw [List.length_map, List.length_take]; omega) ?_ (fun k hk => ?_) ((d2.new hl).mono (by omega)) ((k2.trans k3).new hl)
  · exact List.Nodup.sublist ((List.take_sublist n bs).map _) nd
  · obtain ⟨j, hj, rfl⟩ := List.mem_map.mp hk
    have := List.mem_range.mp (pm.mem_iff.mp (List.mem_of_mem_take hj))
    omega
def kvN (e : Str × Nat) : Key × V := (Sum.inr e.1, nv e.2)
def kvG (g : Nat × Addr × List (Str × Nat)) : Key × V := (Sum.inl (g.1 : Int), V.ref g.2.1)
/-- what stands while a store is drawn -/
structure SS (d : Addr) (H0 : Hp) (u nA rA D oA : Addr) (ks R M : List Nat) (G : Gh) (s : Sto) (H : Hp) : Prop where
  kp : Kp d H0 H
  hu : H u = some (.lst (ks.map nv))
  hn : ∃ xs, H nA = some (.lst xs) ∧ Paired (NdAt H) xs s
  hr : H rA = some (.lst (R.map nv))
  ho : H oA = some (.lst (M.map nv))
  hD : H D = some (.dK (G.map kvG))
  hg : ∀ r a es, (r, a, es) ∈ G → H a = some (.dK (es.map kvN))
  ga : (G.map (·.2.1)).Nodup
  Da : D ∉ G.map (·.2.1)
  df : [u, nA, rA, oA].Nodup
  nw : ∀ a ∈ [u, nA, rA, oA, D] ++ G.map (·.2.1), H0 a = none ∧ a ≠ d
section
variable {d : Addr} {H0 H H' : Hp} {u nA rA D oA : Addr} {ks R M : List Nat} {G : Gh} {s : Sto}
theorem SS.mem_a {r : Nat} {a : Addr} {es : List (Str × Nat)} (h : (r, a, es) ∈ G) : a ∈ G.map (·.2.1) := List.mem_map.mpr ⟨_, h, rfl⟩
theorem SS.step (h : SS d H0 u nA rA D oA ks R M G s H) (k : ∀ a ∈ [u, nA, rA, oA, D] ++ G.map (·.2.1), ∀ o, H a = some o → H' a = some o) (kp : Kp d H0 H') (ty : Ty H H') : SS d H0 u nA rA D oA ks R M G s H' where
  kp := kp
  hu := k u (by simp) _ h.hu
  hn := by
    obtain ⟨xs, h1, h2⟩ := h.hn
    exact ⟨xs, k nA (by simp) _ h1, pd_mono (fun _ _ q => NdAt.up q ty) h2⟩
  hr := k rA (by simp) _ h.hr
  ho := k oA (by simp) _ h.ho
  hD := k D (by simp) _ h.hD
  hg := fun r a es q => k a (List.mem_append_right _ (SS.mem_a q)) _ (h.hg r a es q)
  ga := h.ga
  Da := h.Da
  df := h.df
  nw := h.nw
theorem SS.draw {m : Nat} (h : SS d H0 u nA rA D oA ks R M G s H) (dk : Dk d m H) (k : Kp d H H') : SS d H0 u nA rA D oA ks R M G s H' :=
  h.step (fun a ha o e => k a o (h.nw a ha).2 e) (h.kp.trans k) (k.ty dk)
theorem SS.same (h : SS d H0 u nA rA D oA ks R M G s H) (k : Same H H') : SS d H0 u nA rA D oA ks R M G s H' :=
  h.step (fun a ha o e => k a o e) (h.kp.trans (Kp.of k)) (Ty.of k)
theorem SS.D_ne (h : SS d H0 u nA rA D oA ks R M G s H) {a : Addr} {xs : List V} (e : H a = some (.lst xs)) : a ≠ D := fun q => by
  rw [q, h.hD] at e
  cases e
theorem SS.g_ne (h : SS d H0 u nA rA D oA ks R M G s H) {a : Addr} {xs : List V} (e : H a = some (.lst xs)) {r : Nat} {b : Addr} {es : List (Str × Nat)} (hb : (r, b, es) ∈ G) : b ≠ a := fun q => by
  rw [← q, h.hg _ _ _ hb] at e
  cases e
theorem SS.app_r (h : SS d H0 u nA rA D oA ks R M G s H) (k : Nat) : SS d H0 u nA rA D oA ks (R ++ [k]) M G s (upd H rA (.lst ((R ++ [k]).map nv))) := by
  have df := h.df
  simp only [List.nodup_cons, List.mem_cons, List.not_mem_nil, or_false, not_or, List.nodup_nil, and_true] at df
  obtain ⟨⟨a1, a2, a3⟩, ⟨b1, b2⟩, c1, _⟩ := df
  refine ⟨h.kp.put (h.nw rA (by simp)).1, by rw [upd_ne a2]; exact h.hu, ?_, upd_same, by rw [upd_ne (fun e => c1 e.symm)]; exact h.ho, by rw [upd_ne (h.D_ne h.hr).symm]; exact h.hD, fun r a es q => by rw [upd_ne (h.g_ne h.hr q)]; exact h.hg r a es q, h.ga, h.Da, h.df, h.nw⟩
  obtain ⟨xs, h1, h2⟩ := h.hn
  exact ⟨xs, by rw [upd_ne b1]; exact h1, pd_mono (fun _ _ q => NdAt.up q ((Ty.refl H).lst h.hr)) h2⟩
theorem SS.app_o (h : SS d H0 u nA rA D oA ks R M G s H) (k : Nat) : SS d H0 u nA rA D oA ks R (M ++ [k]) G s (upd H oA (.lst ((M ++ [k]).map nv))) := by
  have df := h.df
  simp only [List.nodup_cons, List.mem_cons, List.not_mem_nil, or_false, not_or, List.nodup_nil, and_true] at df
  obtain ⟨⟨a1, a2, a3⟩, ⟨b1, b2⟩, c1, _⟩ := df
  refine ⟨h.kp.put (h.nw oA (by simp)).1, by rw [upd_ne a3]; exact h.hu, ?_, by rw [upd_ne c1]; exact h.hr, upd_same, by rw [upd_ne (h.D_ne h.ho).symm]; exact h.hD, fun r a es q => by rw [upd_ne (h.g_ne h.ho q)]; exact h.hg r a es q, h.ga, h.Da, h.df, h.nw⟩
  obtain ⟨xs, h1, h2⟩ := h.hn
  exact ⟨xs, by rw [upd_ne b2]; exact h1, pd_mono (fun _ _ q => NdAt.up q ((Ty.refl H).lst h.ho)) h2⟩
/-- nodes[k] = x -/
theorem SS.set_n (h : SS d H0 u nA rA D oA ks R M G s H) {xs : List V} (hx : H nA = some (.lst xs)) (k : Nat) {x : V} {nd : Option Nd} (at_ : NdAt H x nd) : SS d H0 u nA rA D oA ks R M G (s.set k nd) (upd H nA (.lst (xs.set k x))) := by
  have df := h.df
  simp only [List.nodup_cons, List.mem_cons, List.not_mem_nil, or_false, not_or, List.nodup_nil, and_true] at df
  obtain ⟨⟨a1, a2, a3⟩, ⟨b1, b2⟩, c1, _⟩ := df
  refine ⟨h.kp.put (h.nw nA (by simp)).1, by rw [upd_ne a1]; exact h.hu, ?_, by rw [upd_ne (fun e => b1 e.symm)]; exact h.hr, by rw [upd_ne (fun e => b2 e.symm)]; exact h.ho, by rw [upd_ne (h.D_ne hx).symm]; exact h.hD, fun r a es q => by rw [upd_ne (h.g_ne hx q)]; exact h.hg r a es q, h.ga, h.Da, h.df, h.nw⟩
  obtain ⟨xs', h1, h2⟩ := h.hn
  rw [hx] at h1
  cases h1
  exact ⟨_, upd_same, pd_set k (pd_mono (fun _ _ q => NdAt.up q ((Ty.refl H).lst hx)) h2) (at_.up ((Ty.refl H).lst hx))⟩
theorem SS.pop_n (h : SS d H0 u nA rA D oA ks R M G s H) {xs : List V} {s' : Sto} (hx : ∃ ys, H nA = some (.lst ys)) (hp : Paired (NdAt H) xs s') : SS d H0 u nA rA D oA ks R M G s' (upd H nA (.lst xs)) := by
  have df := h.df
  simp only [List.nodup_cons, List.mem_cons, List.not_mem_nil, or_false, not_or, List.nodup_nil, and_true] at df
  obtain ⟨⟨a1, a2, a3⟩, ⟨b1, b2⟩, c1, _⟩ := df
  obtain ⟨ys, hy⟩ := hx
  exact ⟨h.kp.put (h.nw nA (by simp)).1, by rw [upd_ne a1]; exact h.hu, ⟨xs, upd_same, pd_mono (fun _ _ q => NdAt.up q ((Ty.refl H).lst hy)) hp⟩, by rw [upd_ne (fun e => b1 e.symm)]; exact h.hr, by rw [upd_ne (fun e => b2 e.symm)]; exact h.ho, by rw [upd_ne (h.D_ne hy).symm]; exact h.hD, fun r a es q => by rw [upd_ne (h.g_ne hy q)]; exact h.hg r a es q, h.ga, h.Da, h.df, h.nw⟩
theorem kvG_add {r : Nat} {x : Str × Nat} : (addE G r x).map kvG = G.map kvG := by
  unfold addE
  rw [List.map_map]
  refine List.map_congr_left fun g _ => ?_
  show kvG (if g.1 = r then (g.1, g.2.1, g.2.2 ++ [x]) else g) = kvG g
  split <;> rfl
theorem adr_add {r : Nat} {x : Str × Nat} : (addE G r x).map (·.2.1) = G.map (·.2.1) := by
  unfold addE
  rw [List.map_map]
  refine List.map_congr_left fun g _ => ?_
  show (if g.1 = r then (g.1, g.2.1, g.2.2 ++ [x]) else g).2.1 = g.2.1
  split <;> rfl
/-- one address, one room -/
theorem adr_inj : ∀ {G : Gh}, (G.map (·.2.1)).Nodup → ∀ {r r' : Nat} {a : Addr} {es es' : List (Str × Nat)}, (r, a, es) ∈ G → (r', a, es') ∈ G → r = r' ∧ es = es'
  | [], _, _, _, _, _, _, h, _ => nomatch h
  | g :: G, nd, r, r', a, es, es', h, h' => by
    rw [List.map_cons, List.nodup_cons] at nd
    rcases List.mem_cons.mp h with e | h
    · rcases List.mem_cons.mp h' with e' | h'
      · have := e.trans e'.symm
        cases this
        exact ⟨rfl, rfl⟩
      · rw [← e] at nd
        exact absurd (SS.mem_a h') nd.1
    · rcases List.mem_cons.mp h' with e' | h'
      · rw [← e'] at nd
        exact absurd (SS.mem_a h) nd.1
      · exact adr_inj nd.2 h h'
theorem num_inj : ∀ {G : Gh}, (rms G).Nodup → ∀ {r : Nat} {a a' : Addr} {es es' : List (Str × Nat)}, (r, a, es) ∈ G → (r, a', es') ∈ G → a = a' ∧ es = es'
  | [], _, _, _, _, _, _, h, _ => nomatch h
  | g :: G, nd, r, a, a', es, es', h, h' => by
    have nd : g.1 ∉ rms G ∧ (rms G).Nodup := List.nodup_cons.mp nd
    rcases List.mem_cons.mp h with e | h
    · rcases List.mem_cons.mp h' with e' | h'
      · have := e.trans e'.symm
        cases this
        exact ⟨rfl, rfl⟩
      · rw [← e] at nd
        exact absurd (rms_mem.mpr ⟨_, _, h'⟩) nd.1
    · rcases List.mem_cons.mp h' with e' | h'
      · rw [← e'] at nd
        exact absurd (rms_mem.mpr ⟨_, _, h⟩) nd.1
      · exact num_inj nd.2 h h'
/-- entries[r][x.1] = x.2 -/
theorem SS.put_e (h : SS d H0 u nA rA D oA ks R M G s H) (nd : (rms G).Nodup) {r : Nat} {a : Addr} {es : List (Str × Nat)} (hm : (r, a, es) ∈ G) (x : Str × Nat) : SS d H0 u nA rA D oA ks R M (addE G r x) s (upd H a (.dK ((es ++ [x]).map kvN))) := by
  have ha := h.hg _ _ _ hm
  have ne : ∀ {b : Addr} {xs : List V}, H b = some (.lst xs) → b ≠ a := fun e q => h.g_ne e hm q.symm
  have nD : D ≠ a := fun e => h.Da (e ▸ SS.mem_a hm)
  refine ⟨h.kp.put (h.nw a (List.mem_append_right _ (SS.mem_a hm))).1, by rw [upd_ne (ne h.hu)]; exact h.hu, ?_, by rw [upd_ne (ne h.hr)]; exact h.hr, by rw [upd_ne (ne h.ho)]; exact h.ho, by rw [upd_ne nD, kvG_add]; exact h.hD, fun r' b es' q => ?_, by rw [adr_add]; exact h.ga, by rw [adr_add]; exact h.Da, h.df, by rw [adr_add]; exact h.nw⟩
  · obtain ⟨xs, h1, h2⟩ := h.hn
    exact ⟨xs, by rw [upd_ne (ne h1)]; exact h1, pd_mono (fun _ _ q => NdAt.up q ((Ty.refl H).dct ha)) h2⟩
  · rcases mem_add.mp q with ⟨q1, q2⟩ | ⟨q1, es0, q2, rfl⟩
    · have : b ≠ a := fun e => q1 (adr_inj h.ga (e ▸ q2) hm).1
      rw [upd_ne this]
      exact h.hg _ _ _ q2
    · subst q1
      obtain ⟨e1, e2⟩ := num_inj nd q2 hm
      subst e1 e2
      exact upd_same
/-- entries[k] = {} -/
theorem SS.put_D (h : SS d H0 u nA rA D oA ks R M G s H) {m : Nat} (dk : Dk d m H) (k : Nat) {b : Addr} (hb : H b = none) : SS d H0 u nA rA D oA ks R M (G ++ [(k, b, [])]) s (upd (upd H b (.dK [])) D (.dK ((G ++ [(k, b, [])]).map kvG))) := by
  have h1 := h.same ((Same.refl H).new (o := .dK []) hb)
  have bD : b ≠ D := fun e => by rw [e, h.hD] at hb; cases hb
  have bG : b ∉ G.map (·.2.1) := fun e => by
    obtain ⟨⟨r, a, es⟩, hm, rfl⟩ := List.mem_map.mp e
    have hb : H a = none := hb
    rw [h.hg _ _ _ hm] at hb
    cases hb
  have ne : ∀ {c : Addr} {xs : List V}, upd H b (.dK []) c = some (.lst xs) → c ≠ D := fun e => h1.D_ne e
  refine ⟨h1.kp.put (h.nw D (by simp)).1, by rw [upd_ne (ne h1.hu)]; exact h1.hu, ?_, by rw [upd_ne (ne h1.hr)]; exact h1.hr, by rw [upd_ne (ne h1.ho)]; exact h1.ho, upd_same, fun r' a es' q => ?_, ?_, ?_, h.df, ?_⟩
  · obtain ⟨xs, q1, q2⟩ := h1.hn
    exact ⟨xs, by rw [upd_ne (ne q1)]; exact q1, pd_mono (fun _ _ q => NdAt.up q ((Ty.refl _).dct h1.hD)) q2⟩
  · rcases List.mem_append.mp q with q | q
    · have : a ≠ D := fun e => h.Da (e ▸ SS.mem_a q)
      rw [upd_ne this]
      exact h1.hg _ _ _ q
    · cases List.mem_singleton.mp q
      rw [upd_ne bD]
      exact upd_same
  · rw [List.map_append]
    refine List.nodup_append.mpr ⟨h.ga, List.nodup_cons.mpr ⟨List.not_mem_nil, List.nodup_nil⟩, fun y hy z hz e => ?_⟩
    have hz : z ∈ [b] := hz
    rw [List.mem_singleton.mp hz] at e
    exact bG (e ▸ hy)
  · rw [List.map_append]
    intro e
    rcases List.mem_append.mp e with e | e
    · exact h.Da e
    · exact bD (List.mem_singleton.mp e).symm
  · intro a ha
    rw [List.map_append, ← List.append_assoc] at ha
    rcases List.mem_append.mp ha with ha | ha
    · exact h.nw a ha
    · have ha : a ∈ [b] := ha
      rw [List.mem_singleton.mp ha]
      exact ⟨h.kp.free (dk.ne hb).symm hb, (dk.ne hb).symm⟩
theorem val_G : ∀ {G : Gh}, (rms G).Nodup → ∀ {r : Nat} {a : Addr} {es : List (Str × Nat)}, (r, a, es) ∈ G → valV (G.map kvG) (Sum.inl (r : Int)) = some (.ref a)
  | [], _, _, _, _, h => nomatch h
  | g :: G, nd, r, a, es, h => by
    have nd : g.1 ∉ rms G ∧ (rms G).Nodup := List.nodup_cons.mp nd
    rw [List.map_cons]
    rcases List.mem_cons.mp h with e | h
    · rw [← e]
      exact valV_pos rfl
    · have ne : (kvG g).1 ≠ Sum.inl (r : Int) := fun e => by
        have e : (g.1 : Int) = r := Sum.inl.inj e
        have : g.1 = r := by omega
        exact nd.1 (this ▸ rms_mem.mpr ⟨a, es, h⟩)
      have e : valV (kvG g :: G.map kvG) (Sum.inl (r : Int)) = valV (G.map kvG) (Sum.inl (r : Int)) := by
        unfold valV
        rw [List.find?_cons_of_neg (by simpa using ne)]
      rw [e]
      exact val_G nd.2 h
theorem val_e {es : List (Str × Nat)} {nm : Str} : (valV (es.map kvN) (Sum.inr nm)).isSome = decide (nm ∈ es.map (·.1)) := by
  rw [Bool.eq_iff_iff, val_some, decide_eq_true_eq, List.map_map, List.mem_map, List.mem_map]
  constructor
  · rintro ⟨e, h, q⟩
    exact ⟨e, h, Sum.inr.inj q⟩
  · rintro ⟨e, h, q⟩
    exact ⟨e, h, congrArg Sum.inr q⟩
theorem putK_fresh {κ : Type} [DecidableEq κ] {es : List (κ × V)} {k : κ} {v : V} (h : k ∉ es.map (·.1)) : putK es k v = es ++ [(k, v)] := by
  unfold putK
  rw [if_neg]
  intro q
  obtain ⟨e, he, q⟩ := List.any_eq_true.mp q
  exact h (by rw [← of_decide_eq_true q]; exact List.mem_map_of_mem he)
theorem flat_nonS (n : Nat) : (List.replicate n [V.non]).flatten = List.replicate n V.non := by
  induction n with
  | zero => rfl
  | succ n ih => rw [List.replicate_succ, List.flatten_cons, ih, List.replicate_succ]; rfl
end
theorem rd_max1 {K : PySem.W.Frag} {H : Hp} {Q : VK} {p : Addr} {ns : List Int} (h : H p = some (.lst (ns.map V.int))) (hn : 0 < ns.length) (q : ∀ m, m ∈ ns → (∀ y, y ∈ ns → y ≤ m) → Q (.int m) H) : rMax K [V.ref p] H Q := ⟨p, ns, rfl, SqL.of h, hn, q⟩
theorem rd_dispD {σ : St} {H : Hp} {Q : VK} {n : Int} (q : ∀ p, H p = none → ∀ b, upd H p (.dK []) b = none → Q (.ref p) (upd (upd (upd H p (.dK [])) b (.dK [])) p (.dK [(Sum.inl n, .ref b)]))) : tDisp [(tC (V.int n), tDNewK)] σ H Q :=
  fun p hp b hb => ⟨by rw [upd_ne (fun e => by rw [← e, upd_same] at hb; cases hb)]; exact upd_same, [(Sum.inl n, .ref b)], rfl, (by show 1 ≤ 15; omega), q p hp b hb⟩
theorem pd_entries {H : Hp} : ∀ {ps : List (Addr × Str × Int)} {L : List (Str × Nat)}, ps.map (·.2) = L.map (fun e => (e.1, (e.2 : Int))) → (∀ z ∈ ps, H z.1 = some (.tup [.str z.2.1, .int z.2.2])) → Paired (pairV H) (ps.map fun z => V.ref z.1) L
  | [], [], _, _ => .nil
  | [], _ :: _, e, _ => by simp at e
  | _ :: _, [], e, _ => by simp at e
  | z :: ps, x :: L, e, h => by
    rw [List.map_cons, List.map_cons] at e
    obtain ⟨e1, e2⟩ := List.cons.inj e
    refine .cons ⟨z.1, rfl, Rt.of ?_⟩ (pd_entries e2 fun z' hz => h z' (List.mem_cons_of_mem _ hz))
    have := h z List.mem_cons_self
    have e1 : z.2 = (x.1, (x.2 : Int)) := e1
    rw [e1] at this
    exact this
theorem srt_ints (es : List (Str × Nat)) : (es.map fun e => (e.1, (e.2 : Int))).mergeSort (PySem.W.dataLe false entD) = (srtE es).map fun e => (e.1, (e.2 : Int)) := by
  unfold srtE
  rw [List.map_mergeSort]
  intro a _ b _
  rfl
theorem ss_start {d : Addr} {H0 H3 : Hp} {u nA rA D b0 oA : Addr} {ks : List Nat} {L m : Nat} (kp : Kp d H0 H3) (dk : Dk d m H3) (ud : u ≠ d) (uH : H0 u = none) (hu : H3 u = some (.lst (ks.map nv))) (nd : nA ≠ d) (nH : H0 nA = none) (hn : H3 nA = some (.lst (List.replicate L V.non))) (nu : u ≠ nA)
    (h1 : H3 rA = none) (h2 : upd H3 rA (.lst [nv 0]) D = none) (h3 : upd (upd H3 rA (.lst [nv 0])) D (.dK []) b0 = none)
    (h4 : upd (upd (upd (upd H3 rA (.lst [nv 0])) D (.dK [])) b0 (.dK [])) D (.dK [(Sum.inl 0, .ref b0)]) oA = none) :
    SS d H0 u nA rA D oA ks [0] [] [(0, b0, [])] (List.replicate L none) (upd (upd (upd (upd (upd H3 rA (.lst [nv 0])) D (.dK [])) b0 (.dK [])) D (.dK [(Sum.inl 0, .ref b0)])) oA (.lst [])) ∧
    Dk d m (upd (upd (upd (upd (upd H3 rA (.lst [nv 0])) D (.dK [])) b0 (.dK [])) D (.dK [(Sum.inl 0, .ref b0)])) oA (.lst [])) := by
  have e1 := (Same.refl H3).new (o := .lst [nv 0]) h1
  have e2 := e1.new (o := .dK []) h2
  have e3 := e2.new (o := .dK []) h3
  have D3 : H3 D = none := Sub.of e1 D h2
  have e4 := e3.put (o := .dK [(Sum.inl 0, .ref b0)]) D3
  have e5 := e4.new (o := .lst []) h4
  have b3 : H3 b0 = none := Sub.of e2 b0 h3
  have o3 : H3 oA = none := Sub.of e4 oA h4
  have rD : D ≠ rA := fun e => by rw [e, upd_same] at h2; cases h2
  have bD : b0 ≠ D := fun e => by rw [e, upd_same] at h3; cases h3
  have br : b0 ≠ rA := fun e => by rw [e, upd_ne rD.symm, upd_same] at h3; cases h3
  have oD : oA ≠ D := fun e => by rw [e, upd_same] at h4; cases h4
  have ob : oA ≠ b0 := fun e => by rw [e, upd_ne bD, upd_same] at h4; cases h4
  have or_ : oA ≠ rA := fun e => by rw [e, upd_ne rD.symm, upd_ne br.symm, upd_ne rD.symm, upd_same] at h4; cases h4
  have ne3 : ∀ {a x : Addr} {o : HO}, H3 a = some o → H3 x = none → a ≠ x := fun h h' e => by rw [e, h'] at h; cases h
  refine ⟨⟨kp.trans (Kp.of e5), e5 _ _ hu, ⟨_, e5 _ _ hn, pd_rep (show NdAt _ V.non none from rfl) L⟩, ?_, upd_same, ?_, ?_, List.nodup_cons.mpr ⟨List.not_mem_nil, List.nodup_nil⟩, ?_, ?_, ?_⟩, dk.same e5⟩
  · rw [upd_ne or_.symm, upd_ne rD.symm, upd_ne br.symm, upd_ne rD.symm, upd_same]
    rfl
  · rw [upd_ne oD.symm, upd_same]
    rfl
  · intro r a es h
    cases List.mem_singleton.mp h
    rw [upd_ne ob.symm, upd_ne bD, upd_same]
    rfl
  · intro h
    have h : D ∈ [b0] := h
    exact bD (List.mem_singleton.mp h).symm
  · simp only [List.nodup_cons, List.mem_cons, List.not_mem_nil, or_false, not_or, List.nodup_nil, and_true]
    exact ⟨⟨nu, ne3 hu h1, ne3 hu o3⟩, ⟨ne3 hn h1, ne3 hn o3⟩, or_.symm, fun h => h⟩
  · have fr : ∀ x, H3 x = none → H0 x = none ∧ x ≠ d := fun x hx => ⟨kp.free (dk.ne hx).symm hx, (dk.ne hx).symm⟩
    intro a ha
    have ha : a ∈ [u, nA, rA, oA, D, b0] := ha
    simp only [List.mem_cons, List.not_mem_nil, or_false] at ha
    rcases ha with rfl | rfl | rfl | rfl | rfl | rfl
    · exact ⟨uH, ud⟩
    · exact ⟨nH, nd⟩
    · exact fr _ h1
    · exact fr _ o3
    · exact fr _ D3
    · exact fr _ b3
def NAMES : List Str := ["a", "b", "f", "s", "x.y", "-", "_1", ".h", "zz-9", "abcdefghijkl"]
def Φ_law_store (K : PySem.W.Frag) (vd vm : V) (H : Hp) (Q : VK) : Prop := ∃ (d : Addr) (n m : Nat), vd = .ref d ∧ vm = .int n ∧ n ≤ 15 ∧ Dk d m H ∧ m + 1000 ≤ LIM ∧
  ∀ (v : V) (s : Sto) (H' : Hp), StAt H' v s → Wf s → s.length ≤ n + 3 → (∀ r, (entsAt s r).length ≤ n + 2) → Dk d (m + 1000) H' → Kp d H H' → Q v H'
theorem ok_law_store (T : Txt P K mg) {f : Addr} {fd : FuncData} (F : Fun K "_law_store" "_law_store" s_law_store f fd) : Keeps P w K mg base CX0 4 f fd ["deck", "most"] (sp2 (Φ_law_store K)) := by
  have c_law_draw := cal (P := P) (w := w) (base := base) T.d_law_draw fun F => ok_law_draw T F
  have c_law_places := cal (P := P) (w := w) (base := base) T.d_law_places fun F => ok_law_places T F
  have c_law_one_of := cal (P := P) (w := w) (base := base) T.d_law_one_of fun F => ok_law_one_of T F
  have c_law_name := cal (P := P) (w := w) (base := base) T.d_law_name fun F => ok_law_name T F
  have c_law_text := cal (P := P) (w := w) (base := base) T.d_law_text fun F => ok_law_text T F
  have c_law_path := cal (P := P) (w := w) (base := base) T.d_law_path fun F => ok_law_path T F
  refine keeps0_of F sc_law_store (fun vs H Q E h => ?_) (fun cdv A outer s H vs Q E hr h => ?_)
  · obtain ⟨_, _, rfl, _⟩ := h
    rfl
  obtain ⟨v_deck, v_most, rfl, h⟩ := h
  have hu := hr.hu
  refine ⟨_, (pss_cons (ps_set (i := 2) sc_law_store.nd rfl (by first | exact Or.inl rfl | exact Or.inr rfl) (pe_cal c_law_draw (hr.mono (by decide)) (by rfl) pass0 (pa_cons (pv 0) (pa_cons (pe_op (oAdd (K := K)) (pv 1) pe_int) pa_nil))))
      (pss_cons (ps_set (i := 3) sc_law_store.nd rfl (by first | exact Or.inl rfl | exact Or.inr rfl) (pe_cal c_law_places (hr.mono (by decide)) (by rfl) pass0 (pa_cons (pv 0) (pa_cons (pv 2) pa_nil))))
      (pss_cons (ps_set (i := 4) sc_law_store.nd rfl (by first | exact Or.inl rfl | exact Or.inr rfl) (pe_op (oMul (K := K)) (pe_lst (pa_cons pe_non pa_nil)) (pe_op (oAdd (K := K)) (pe_callB (cr_max rfl) (by rfl) T.b_max (by decide +kernel) (pa_cons (pe_op (oAdd (K := K)) (pv 3) (pe_lst (pa_cons pe_int pa_nil))) pa_nil)) pe_int)))
      (pss_cons (ps_set (i := 5) sc_law_store.nd rfl (by first | exact Or.inl rfl | exact Or.inr rfl) (pe_lst (pa_cons pe_int pa_nil)))
      (pss_cons (ps_set (i := 6) sc_law_store.nd rfl (by first | exact Or.inl rfl | exact Or.inr rfl) (pe_disp (pps_cons pe_int pe_dnewK pps_nil) (by rfl) (by rfl) (fun z => by cases z) (by decide)))
      (pss_cons (ps_set (i := 7) sc_law_store.nd rfl (by first | exact Or.inl rfl | exact Or.inr rfl) (pe_lst pa_nil))
      (pss_cons (ps_for PassesOwn.never rfl (pi_any (K := K) (pv 3)) (pg_name (i := 8) sc_law_store.nd rfl (by first | exact Or.inl rfl | exact Or.inr rfl)) (pss_cons (ps_set (i := 9) sc_law_store.nd rfl (by first | exact Or.inl rfl | exact Or.inr rfl) (pe_cal c_law_one_of (hr.mono (by decide)) (by rfl) pass0 (pa_cons (pv 0) (pa_cons (pv 5) pa_nil))))
      (pss_cons (ps_setLc (i := 10) (own := [("name", 11)]) rfl sc_law_store.nd rfl rfl (sw_true rfl rfl rfl (by decide +kernel)) (pi_any (K := K) (pe_lst (pa_cons pe_str (pa_cons pe_str (pa_cons pe_str (pa_cons pe_str (pa_cons pe_str (pa_cons pe_str (pa_cons pe_str (pa_cons pe_str (pa_cons pe_str (pa_cons pe_str pa_nil)))))))))))) (blkOk_by (own := [("name", 11)]) (N := ["deck", "most", "many", "numbers", "nodes", "rooms", "entries", "others", "number", "room", "free", "name", "way", "turn"]) (sc := defScope s_law_store) (by decide +kernel)) (fun _ _ _ _ _ => pg_name (i := 11) sc_law_store.nd rfl (by first | exact Or.inl rfl | exact Or.inr rfl)) (fun _ _ _ _ _ => pts_one (pt_cmp (pc_dnotin hu (pv 11) (pe_dget hu (pv 6) (pv 9) (fun _ _ => rfl))))) (fun _ _ _ _ _ => (pv 11)))
      (pss_one (ps_if (pt_cmpR (oNe (K := K) hr.u65) (pv 10) (pe_lst pa_nil) (nomark _)) (pss_cons (ps_set (i := 11) sc_law_store.nd rfl (by first | exact Or.inl rfl | exact Or.inr rfl) (pe_ix (ixX (K := K)) (pv 10) (pe_callB (call_minX rfl) (by rfl) T.b_min (by decide +kernel) (pa_cons (pe_cal c_law_draw (hr.mono (by decide)) (by rfl) pass0 (pa_cons (pv 0) (pa_cons pe_int pa_nil))) (pa_cons (pe_op oSub (pe_callB (call_lenX (K := K)) (by rfl) T.b_len (by decide +kernel) (pa_cons (pv 10) pa_nil)) pe_int) pa_nil))) (fun _ _ => rfl)))
      (pss_cons (ps_dput hu (pe_dget hu (pv 6) (pv 9) (fun _ _ => rfl)) (pv 11) (pv 8) rfl)
      (pss_cons (ps_set (i := 12) sc_law_store.nd rfl (by first | exact Or.inl rfl | exact Or.inr rfl) (pe_cal c_law_draw (hr.mono (by decide)) (by rfl) pass0 (pa_cons (pv 0) (pa_cons pe_int pa_nil))))
      (pss_one (ps_if (pt_cmpR oLt (pv 12) pe_int (nomark _)) (pss_cons (ps_expr (pe_bmX (K := K) PySem.F.plainAttrs_list PySem.F.slot_list_append PySem.F.type_list_append mt_append (pv 5) (pa_cons (pv 8) pa_nil)))
      (pss_one (ps_dput hu (pv 6) (pv 8) pe_dnewK rfl))) (pss_cons (ps_expr (pe_bmX (K := K) PySem.F.plainAttrs_list PySem.F.slot_list_append PySem.F.type_list_append mt_append (pv 7) (pa_cons (pv 8) pa_nil)))
      (pss_one (ps_asg (pe_ifExp (pt_cmpR oLt (pv 12) pe_int (nomark _)) (pe_tup (pa_cons pe_str (pa_cons (pe_cal c_law_text (hr.mono (by decide)) (by rfl) pass0 (pa_cons (pv 0) pa_nil)) pa_nil))) (pe_tup (pa_cons pe_str (pa_cons (pe_cal c_law_path (hr.mono (by decide)) (by rfl) pass0 (pa_cons (pv 0) (pa_cons pe_int pa_nil))) pa_nil)))) (pg_sub (pv 4) (pv 8) set_list))))))))) pss_nil)))))
      (pss_cons (ps_for PassesOwn.never rfl (pi_range1 (by rfl) T.b_range (pa_cons (pe_cal c_law_draw (hr.mono (by decide)) (by rfl) pass0 (pa_cons (pv 0) (pa_cons pe_int pa_nil))) pa_nil)) (pg_name (i := 13) sc_law_store.nd rfl (by first | exact Or.inl rfl | exact Or.inr rfl)) (pss_cons (ps_asg (pe_tup (pa_cons (pe_cal c_law_one_of (hr.mono (by decide)) (by rfl) pass0 (pa_cons (pv 0) (pa_cons (pv 5) pa_nil))) (pa_cons (pe_cal c_law_name (hr.mono (by decide)) (by rfl) pass0 (pa_cons (pv 0) pa_nil)) pa_nil))) (pg_seqX (K := K) (n := 2) rfl (pgs_cons (pg_name (i := 9) sc_law_store.nd rfl (by first | exact Or.inl rfl | exact Or.inr rfl)) (pgs_cons (pg_name (i := 11) sc_law_store.nd rfl (by first | exact Or.inl rfl | exact Or.inr rfl)) pgs_nil))))
      (pss_one (ps_if (PW.pt (pw_and (pt_cmpR (oNe (K := K) hr.u65) (pv 7) (pe_lst pa_nil) (nomark _)) (pw_and1 (pt_cmp (pc_dnotin hu (pv 11) (pe_dget hu (pv 6) (pv 9) (fun _ _ => rfl))))))) (pss_one (ps_dput hu (pe_dget hu (pv 6) (pv 9) (fun _ _ => rfl)) (pv 11) (pe_cal c_law_one_of (hr.mono (by decide)) (by rfl) pass0 (pa_cons (pv 0) (pa_cons (pv 7) pa_nil))) rfl)) pss_nil))))
      (pss_cons (ps_for PassesOwn.never rfl (pi_any (K := K) (pv 5)) (pg_name (i := 9) sc_law_store.nd rfl (by first | exact Or.inl rfl | exact Or.inr rfl)) (pss_one (ps_asg (pe_tup (pa_cons pe_str (pa_cons (pe_callTy (callTupF (K := K)) (by rfl) T.b_tuple (by decide +kernel) (pa_cons (pe_callB (call_sortIt rfl hr.u65) (by rfl) T.b_sorted (by decide +kernel) (pa_cons (pe_bm0X (K := K) PySem.F.plainAttrs_dict PySem.F.slot_dict_items PySem.F.type_dict_items mt_itemsK (pe_dget hu (pv 6) (pv 9) (fun _ _ => rfl))) pa_nil)) pa_nil)) pa_nil))) (pg_sub (pv 4) (pv 9) set_list))))
      (pss_cons (ps_while PassesOwn.never (pt_cmpR oIs (pe_ix (ixX (K := K)) (pv 4) (pe_un un_neg pe_int) (fun _ _ => rfl)) pe_non (nomark _)) (pss_one (ps_expr (pe_bm0X (K := K) PySem.F.plainAttrs_list PySem.F.slot_list_pop PySem.F.type_list_pop mt_pop (pv 4)))))
      (pss_one (ps_ret (pe_callTy (callTupF (K := K)) (by rfl) T.b_tuple (by decide +kernel) (pa_cons (pv 4) pa_nil)))))))))))))), ?_⟩
  rw [show start ["deck", "most", "many", "numbers", "nodes", "rooms", "entries", "others", "number", "room", "free", "name", "way", "turn"] [v_deck, v_most] = [some v_deck, some v_most, none, none, none, none, none, none, none, none, none, none, none, none] from rfl]
  try dsimp only [cxOf, Cx.nox, Cx.wish]
  obtain ⟨d, n, m, rfl, rfl, hn, hd, hm, q⟩ := h
  walk_at "rd"
  refine use_draw hd (by omega) (by omega) (by omega) fun v H1 v0 v1 d1 k1 => ?_
  obtain ⟨v, rfl⟩ : ∃ k : Nat, v = (k : Int) := ⟨v.toNat, by omega⟩
  walk_at "rd"
  refine ⟨d, v, m + 1, rfl, rfl, by omega, d1, by omega, fun u ks H2 hu1 hu ud lks ndk hks d2 k2 => ?_⟩
  have uH : H u = none := k1.free ud hu1
  have k12 := k1.trans k2
  walk_at "rd"
  intro p1 hp1
  have e1 := (Same.refl H2).new (o := .lst [V.non]) hp1
  have p1v : upd H2 p1 (.lst [V.non]) p1 = some (.lst [V.non]) := upd_same
  generalize upd H2 p1 (.lst [V.non]) = H2a at e1 p1v ⊢
  walk_at "rd"
  intro p2 hp2
  have e2 := e1.new (o := .lst [V.int 0]) hp2
  have p1w := ((Same.refl H2a).new (o := .lst [V.int 0]) hp2) _ _ p1v
  have p2v : upd H2a p2 (.lst [V.int 0]) p2 = some (.lst [V.int 0]) := upd_same
  generalize upd H2a p2 (.lst [V.int 0]) = H2b at e2 p1w p2v ⊢
  refine rd_cat (e2 _ _ hu) p2v (szOk (by rw [List.length_map]; show ks.length + 1 ≤ 1000000; omega)) fun p3 hp3 => ?_
  have eks : (ks.map nv ++ [V.int 0] : List V) = (ks.map (fun n : Nat => (n : Int)) ++ [0]).map V.int := by rw [List.map_append, List.map_map]; rfl
  rw [eks]
  have e3 := e2.new (o := .lst ((ks.map (fun n : Nat => (n : Int)) ++ [0]).map V.int)) hp3
  have p1x := ((Same.refl H2b).new (o := .lst ((ks.map (fun n : Nat => (n : Int)) ++ [0]).map V.int)) hp3) _ _ p1w
  have p3v : upd H2b p3 (.lst ((ks.map (fun n : Nat => (n : Int)) ++ [0]).map V.int)) p3 = some (.lst ((ks.map (fun n : Nat => (n : Int)) ++ [0]).map V.int)) := upd_same
  generalize upd H2b p3 (.lst ((ks.map (fun n : Nat => (n : Int)) ++ [0]).map V.int)) = H2c at e3 p1x p3v ⊢
  walk_at "rd"
  refine rd_max1 p3v (by rw [List.length_append]; exact Nat.succ_pos _) fun mx hmx hle => ?_
  have mx0 : 0 ≤ mx := hle 0 (List.mem_append_right _ (List.mem_singleton.mpr rfl))
  have ksle : ∀ k ∈ ks, (k : Int) ≤ mx := fun k hk => hle _ (List.mem_append_left _ (List.mem_map.mpr ⟨k, hk, rfl⟩))
  have mxn : mx ≤ n + 2 := by
    rcases List.mem_append.mp hmx with h | h
    · obtain ⟨k, hk, rfl⟩ := List.mem_map.mp h
      have := (hks k hk).2
      omega
    · rw [List.mem_singleton.mp h]
      omega
  obtain ⟨l, rfl⟩ : ∃ k : Nat, mx = (k : Int) := ⟨mx.toNat, by omega⟩
  walk_at "rd"
  refine rd_rep p1x (by omega) (by omega) (by show 1 * ((l : Int) + 1).toNat ≤ sizeLine; exact szOk (by omega)) fun nA hnA => ?_
  rw [flat_nonS, show ((l : Int) + 1).toNat = l + 1 by omega]
  have e4 := e3.new (o := .lst (List.replicate (l + 1) V.non)) hnA
  have nAv : upd H2c nA (.lst (List.replicate (l + 1) V.non)) nA = some (.lst (List.replicate (l + 1) V.non)) := upd_same
  have nA2 : H2 nA = none := Sub.of e3 nA hnA
  have nAu : u ≠ nA := fun e => by rw [← e, hu] at nA2; cases nA2
  generalize upd H2c nA (.lst (List.replicate (l + 1) V.non)) = H3 at e4 nAv ⊢
  have d3 := d2.same e4
  have k3 := k12.trans (Kp.of e4)
  walk_at "rd"
  intro rA hrA
  walk_at "rd"
  refine rd_dispD fun D hD b0 hb0 => ?_
  walk_at "rd"
  intro oA hoA
  obtain ⟨S0, d6⟩ := ss_start k3 d3 ud uH (e4 _ _ hu) (d2.ne nA2).symm (k12.free (d2.ne nA2).symm nA2) nAv nAu hrA hD hb0 hoA
  generalize upd (upd (upd (upd (upd H3 rA (.lst [V.int 0])) D (.dK [])) b0 (.dK [])) D (.dK [(Sum.inl 0, .ref b0)])) oA (.lst []) = H6 at S0 d6 ⊢
  clear e1 p1v p1w p1x e2 p2v p3v e3 hmx hle eks hp1 hp2 hp3 hnA k12 k2 d2 hu hu1 d1 k1 hrA hD hb0 hoA nAv nA2 nAu e4 d3 k3
  walk_at "rd"
  refine rd_forV (by with_unfolding_all rfl) (.inl S0.hu) (fun i σ H' => ∃ (G : Gh) (O : List (Nat × Nd)) (s : Sto) (x8 x9 x10 x11 x12 x13 : Option V), SS d H u nA rA D oA ks (rms G) (O.map (·.1)) G s H' ∧ Dk d (m + 71 + 30 * i) H' ∧ GI G (O.map (·.1)) i (l + 1) ∧ s.length = l + 1 ∧
      (∀ o ∈ O, (∃ t, o.2 = .file t ∧ textB t = true) ∨ ∃ p, o.2 = .sign p ∧ pathB (.str p) = true) ∧ (∀ k nd, s[k]? = some (some nd) ↔ (k, nd) ∈ O) ∧ (∀ k ∈ rms G ++ O.map (·.1), k = 0 ∨ k ∈ ks.take i) ∧
      σ = [some (.ref d), some (.int n), some (.int v), some (.ref u), some (.ref nA), some (.ref rA), some (.ref D), some (.ref oA), x8, x9, x10, x11, x12, x13])
    ⟨[(0, b0, [])], [], List.replicate (l + 1) none, _, _, _, _, _, _, S0, d6.mono (by omega), ?_, List.length_replicate, (fun _ h => nomatch h), fun k nd => ?_, fun k hk => .inl (List.mem_singleton.mp hk), rfl⟩ ?_ ?_ ?_
  · refine ⟨List.mem_singleton.mpr rfl, by show [0].Nodup; decide, fun k hk => by have : k = 0 := List.mem_singleton.mp hk; omega, fun r a es h e he => ?_, fun r a es h => ?_, fun r a es r' a' es' e e' h h' he he' => ?_, fun k hk => ?_⟩
    · cases List.mem_singleton.mp h
      cases he
    · cases List.mem_singleton.mp h
      exact ⟨List.nodup_nil, Nat.le_refl _⟩
    · cases List.mem_singleton.mp h
      cases he
    · rw [List.mem_singleton.mp hk]
      exact .root
  · rw [List.getElem?_replicate]
    constructor
    · intro h
      split at h <;> cases h
    · intro h
      cases h
  · rintro i σ H' ⟨_, _, _, _, _, _, _, _, _, S, _⟩ o e
    rw [S0.hu] at e
    cases e
    exact S.hu
  · rintro i x σ H7 hx ⟨G, O, s, x8, x9, x10, x11, x12, x13, S, dk, gi, ls, hO, hs, hmem, rfl⟩
    rw [List.getElem?_map] at hx
    obtain ⟨k, hk, rfl⟩ := Option.map_eq_some_iff.mp hx
    have hki : i < ks.length := (List.getElem?_eq_some_iff.mp hk).1
    have hi15 : i < 15 := by omega
    walk_at "rd"
    have lr : 1 ≤ (rms G).length := List.length_pos_iff.mpr fun e => by have := gi.g0; rw [e] at this; cases this
    have lr2 : (rms G).length ≤ l + 1 := few_nats _ (List.nodup_append.mp gi.nd).1 fun k hk => gi.lt k (List.mem_append_left _ hk)
    refine ⟨d, rA, (rms G).map nv, _, rfl, rfl, .inl S.hr, (S.nw rA (by simp)).2, (by rw [List.length_map]; exact lr), (by rw [List.length_map]; exact Nat.le_trans lr2 (by omega)), dk, (by omega), fun xr H8 hxr d8 k8 => ?_⟩
    obtain ⟨r, hrm, rfl⟩ := List.mem_map.mp hxr
    have S8 := S.draw dk k8
    obtain ⟨a, es, hmG⟩ := rms_mem.mp hrm
    have ndr : (rms G).Nodup := (List.nodup_append.mp gi.nd).1
    walk_at "rd"
    refine rd_lcL ?_
    walk_at "rd"
    intro l1 hl1
    rw [show ([V.str "a", V.str "b", V.str "f", V.str "s", V.str "x.y", V.str "-", V.str "_1", V.str ".h", V.str "zz-9", V.str "abcdefghijkl"] : List V) = NAMES.map V.str from rfl]
    have S9 := S8.same ((Same.refl H8).new (o := .lst (NAMES.map V.str)) hl1)
    have d9 := d8.new (o := .lst (NAMES.map V.str)) hl1
    have l1v : upd H8 l1 (.lst (NAMES.map V.str)) l1 = some (.lst (NAMES.map V.str)) := upd_same
    generalize upd H8 l1 (.lst (NAMES.map V.str)) = H9 at S9 d9 l1v ⊢
    have hDv := val_G ndr hmG
    have hga := S9.hg _ _ _ hmG
    refine rd_mapL (SqL.of l1v) (fun x => match x with | .str z => decide (z ∉ es.map (·.1)) | _ => false) (fun x => x) (fun _ => rfl) (by decide) (fun x hx => ?_) (fun x hx hp => ?_) ?_
    · obtain ⟨z, hz, rfl⟩ := List.mem_map.mp hx
      intro H1 s1 QE q1
      walk_at "rd"
      refine rd_dNotIn ?_
      walk_at "rd"
      refine rd_dGet ?_
      walk_at "rd"
      refine ⟨D, .ref a, rfl, by rw [← hDv]; exact DGet.k (k := Sum.inl (r : Int)) (s1 _ _ S9.hD), a, _, rfl, DGet.k (k := Sum.inr z) (s1 _ _ hga), ?_⟩
      rw [val_e]
      walk_at "rd"
      have e : (!decide (z ∈ es.map (·.1))) = decide (z ∉ es.map (·.1)) := by rw [decide_not]
      rw [e]
      exact q1 H1 (Same.refl H1)
    · intro H1 s1 QE q1
      walk_at "rd"
      exact q1 H1 (Same.refl H1)
    · intro fA H10 hfA s10 hf
      have S10 := S9.same s10
      have d10 := d9.same s10
      walk_at "rd"
      intro l2 hl2
      have s11 := (Same.refl H10).new (o := .lst []) hl2
      have S11 := S10.same s11
      have d11 := d10.same s11
      have hf11 := s11 _ _ hf
      have l2v : upd H10 l2 (.lst []) l2 = some (.lst []) := upd_same
      generalize upd H10 l2 (.lst []) = H11 at s11 S11 d11 hf11 l2v ⊢
      have hmap : ((NAMES.map V.str).filter fun x => match x with | .str z => decide (z ∉ es.map (·.1)) | _ => false).map (fun x => x) = (NAMES.filter fun z => decide (z ∉ es.map (·.1))).map V.str := by
        rw [List.map_id', List.filter_map]
        rfl
      rw [hmap] at hf11
      obtain ⟨fr, hfr⟩ : ∃ fr, fr = NAMES.filter fun z => decide (z ∉ es.map (·.1)) := ⟨_, rfl⟩
      rw [← hfr] at hf11
      have frl : fr.length ≤ 10 := by rw [hfr]; exact List.length_filter_le _ _
      have kss : ks.take (i + 1) = ks.take i ++ [k] := by rw [List.take_add_one, hk]; rfl
      refine rd_neNil (SqL.of hf11) (SqL.of l2v) ?_
      walk_at "rd"
      refine rd_ite (fun hc => ?_) (fun hc => ?_)
      rotate_left
      · walk_at "rd"
        exact ⟨G, O, s, _, _, _, _, _, _, S11, d11.mono (by omega), gi.mono (by omega), ls, hO, hs, fun j hj => (hmem j hj).imp id fun h => by rw [kss]; exact List.mem_append_left _ h, rfl⟩
      have fr1 : 1 ≤ fr.length := by
        cases fr with
        | nil => cases hc
        | cons => exact Nat.succ_pos _
      have kfresh : k ∉ rms G ++ O.map (·.1) := fun h => by
        have kz := hks k (List.mem_of_getElem? hk)
        rcases hmem k h with h | h
        · omega
        · obtain ⟨j, hj⟩ := List.mem_iff_getElem?.mp h
          rw [List.getElem?_take] at hj
          split at hj
          · rename_i hji
            have := (List.getElem?_inj (List.getElem?_eq_some_iff.mp hj).1 ndk).mp (hj.trans hk.symm)
            omega
          · cases hj
      have kL : k < l + 1 := by have := ksle k (List.mem_of_getElem? hk); omega
      walk_at "rd"
      refine use_draw d11 (by omega) (by omega) (by omega) fun w H12 w0 w1 d12 k12 => ?_
      have S12 := S11.draw d11 k12
      have fAd : fA ≠ d := fun e => by
        obtain ⟨_, _, _, q, _⟩ := d11
        rw [e, q] at hf11
        cases fr with
        | nil => cases fr1
        | cons a b => cases hf11
      have hf12 := k12 _ _ fAd hf11
      walk_at "rd"
      refine rd_lenL (SqL.of hf12) ?_
      rw [List.length_map]
      walk_at "rd"
      refine pick (SqL.of hf12) (by omega) (by rw [List.length_map]; omega) fun x hx => ?_
      obtain ⟨nm, hnm, rfl⟩ := List.mem_map.mp hx
      rw [hfr] at hnm
      obtain ⟨hnm1, hnm2⟩ := List.mem_filter.mp hnm
      have hnmB : entB nm = true := List.all_eq_true.mp (show NAMES.all entB = true by decide +kernel) nm hnm1
      have hfre : ∀ a' es', (r, a', es') ∈ G → nm ∉ es'.map (·.1) := fun a' es' h => by
        obtain ⟨e1, e2⟩ := num_inj ndr hmG h
        rw [← e2]
        exact of_decide_eq_true hnm2
      have hesl := (gi.nam _ _ _ hmG).2
      walk_at "rd"
      refine rd_dGet ?_
      walk_at "rd"
      refine ⟨D, .ref a, rfl, by rw [← hDv]; exact DGet.k (k := Sum.inl (r : Int)) S12.hD, ?_⟩
      walk_at "rd"
      refine rd_putS (S12.hg _ _ _ hmG) (szLt (by rw [List.length_map]; omega)) ?_
      have hpk : putK (es.map kvN) (Sum.inr nm) (nv k) = (es ++ [(nm, k)]).map kvN := by
        rw [putK_fresh, List.map_append]
        · rfl
        · intro h
          rw [List.map_map] at h
          obtain ⟨e, he, q⟩ := List.mem_map.mp h
          exact of_decide_eq_true hnm2 (List.mem_map.mpr ⟨e, he, Sum.inr.inj q⟩)
      rw [hpk]
      have S13 := S12.put_e ndr hmG (nm, k)
      have d13 := d12.put (o := .dK ((es ++ [(nm, k)]).map kvN)) (fun e : d = a => (S12.nw a (List.mem_append_right _ (SS.mem_a hmG))).2 e.symm)
      generalize upd H12 a (.dK ((es ++ [(nm, k)]).map kvN)) = H13 at S13 d13 ⊢
      walk_at "rd"
      refine use_draw d13 (by omega) (by omega) (by omega) fun wy H14 wy0 wy1 d14 k14 => ?_
      have S14 := S13.draw d13 k14
      walk_at "rd"
      refine rd_ite (fun hw => ?_) (fun hw => ?_)
      · walk_at "rd"
        refine rd_tyL (SqL.of S14.hr) ?_
        walk_at "rd"
        refine rd_app S14.hr (szLt (by rw [List.length_map]; omega)) ?_
        rw [show ((rms G).map nv ++ [V.int (k : Int)] : List V) = (rms G ++ [k]).map nv by rw [List.map_append]; rfl]
        have S15 := S14.app_r k
        have d15 := d14.put (o := .lst ((rms G ++ [k]).map nv)) (fun e : d = rA => (S14.nw rA (by simp)).2 e.symm)
        generalize upd H14 rA (.lst ((rms G ++ [k]).map nv)) = H15 at S15 d15 ⊢
        walk_at "rd"
        intro b hb
        walk_at "rd"
        have S16 := S15.put_D d15 k hb
        have hGl : G.length = (rms G).length := by unfold rms; rw [List.length_map]
        have bD : D ≠ b := fun e => by rw [← e, S15.hD] at hb; cases hb
        refine rd_putI (kvs := (addE G r (nm, k)).map kvG) (by rw [upd_ne bD]; exact S15.hD) (szLt (by rw [List.length_map]; unfold addE; rw [List.length_map]; omega)) ?_
        have hpg : putK ((addE G r (nm, k)).map kvG) (Sum.inl (k : Int)) (V.ref b) = (addE G r (nm, k) ++ [(k, b, [])]).map kvG := by
          rw [putK_fresh, List.map_append]
          · rfl
          · intro h
            rw [List.map_map] at h
            obtain ⟨⟨r1, a1, es1⟩, he, q⟩ := List.mem_map.mp h
            have q : ((r1 : Nat) : Int) = k := Sum.inl.inj q
            have : r1 = k := by omega
            subst this
            exact kfresh (List.mem_append_left _ (by rw [← rms_add (r := r) (x := (nm, r1))]; exact rms_mem.mpr ⟨_, _, he⟩))
        rw [hpg]
        have d16 := (d15.new (o := .dK []) hb).put (o := .dK ((addE G r (nm, k) ++ [(k, b, [])]).map kvG)) (fun e : d = D => (S14.nw D (by simp)).2 e.symm)
        have er : rms (addE G r (nm, k) ++ [(k, b, [])]) = rms G ++ [k] := by
          unfold rms
          rw [List.map_append]
          show rms (addE G r (nm, k)) ++ [k] = _
          rw [rms_add]
          rfl
        refine ⟨addE G r (nm, k) ++ [(k, b, [])], O, s, _, _, _, _, _, _, by rw [er]; exact S16, d16.mono (by omega), gi.room hrm hnmB hfre kfresh kL b, ls, hO, hs, fun j hj => ?_, rfl⟩
        rw [er, List.append_assoc] at hj
        rw [kss]
        rcases List.mem_append.mp hj with h | h
        · exact (hmem j (List.mem_append_left _ h)).imp id fun h => List.mem_append_left _ h
        · rcases List.mem_append.mp h with h | h
          · exact .inr (List.mem_append_right _ h)
          · exact (hmem j (List.mem_append_right _ h)).imp id fun h => List.mem_append_left _ h
      · walk_at "rd"
        refine rd_tyL (SqL.of S14.ho) ?_
        have lo : (O.map (·.1)).length ≤ l + 1 := few_nats _ (List.nodup_append.mp gi.nd).2.1 fun k hk => gi.lt k (List.mem_append_right _ hk)
        walk_at "rd"
        refine rd_app S14.ho (szLt (by rw [List.length_map]; omega)) ?_
        rw [show ((O.map (·.1)).map nv ++ [V.int (k : Int)] : List V) = (O.map (·.1) ++ [k]).map nv by rw [List.map_append]; rfl]
        have S15 := S14.app_o k
        have d15 := d14.put (o := .lst ((O.map (·.1) ++ [k]).map nv)) (fun e : d = oA => (S14.nw oA (by simp)).2 e.symm)
        generalize upd H14 oA (.lst ((O.map (·.1) ++ [k]).map nv)) = H15 at S15 d15 ⊢
        have fin : ∀ (x : V) (nd : Nd) (H16 : Hp), NdAt H16 x (some nd) → ((∃ t, nd = .file t ∧ textB t = true) ∨ ∃ p, nd = .sign p ∧ pathB (.str p) = true) → SS d H u nA rA D oA ks (rms G) (O.map (·.1) ++ [k]) (addE G r (nm, k)) s H16 → Dk d (m + 71 + 30 * (i + 1)) H16 → rSetL (.ref nA) (nv k) x H16 fun H17 =>
            ∃ (G : Gh) (O : List (Nat × Nd)) (s : Sto) (x8' x9' x10' x11' x12' x13' : Option V), SS d H u nA rA D oA ks (rms G) (O.map (·.1)) G s H17 ∧ Dk d (m + 71 + 30 * (i + 1)) H17 ∧ GI G (O.map (·.1)) (i + 1) (l + 1) ∧ s.length = l + 1 ∧
              (∀ o ∈ O, (∃ t, o.2 = .file t ∧ textB t = true) ∨ ∃ p, o.2 = .sign p ∧ pathB (.str p) = true) ∧ (∀ k nd, s[k]? = some (some nd) ↔ (k, nd) ∈ O) ∧ (∀ k ∈ rms G ++ O.map (·.1), k = 0 ∨ k ∈ ks.take (i + 1)) ∧
              [some (.ref d), some (.int n), some (.int v), some (.ref u), some (.ref nA), some (.ref rA), some (.ref D), some (.ref oA), some (nv k), some (nv r), some (.ref fA), some (.str nm), some (.int wy), x13] = [some (.ref d), some (.int n), some (.int v), some (.ref u), some (.ref nA), some (.ref rA), some (.ref D), some (.ref oA), x8', x9', x10', x11', x12', x13'] := by
          intro x nd H16 hx hnd S16 d16
          obtain ⟨xs, hxs, pxs⟩ := S16.hn
          have lxs := Paired.length pxs
          refine rd_setL hxs (ixN_nat (by omega)) ?_
          have S17 := S16.set_n hxs k hx
          have em : (O ++ [(k, nd)]).map (·.1) = O.map (·.1) ++ [k] := by rw [List.map_append]; rfl
          refine ⟨addE G r (nm, k), O ++ [(k, nd)], s.set k (some nd), _, _, _, _, _, _, by rw [em, rms_add]; exact S17, d16.put (fun e : d = nA => (S14.nw nA (by simp)).2 e.symm), by rw [em]; exact gi.other hrm hnmB hfre kfresh kL, by rw [List.length_set]; exact ls, fun o ho => ?_, fun j nd' => ?_, fun j hj => ?_, rfl⟩
          · rcases List.mem_append.mp ho with h | h
            · exact hO o h
            · rw [List.mem_singleton.mp h]
              exact hnd
          · rw [List.getElem?_set, List.mem_append]
            by_cases hjk : k = j
            · subst hjk
              rw [if_pos rfl, if_pos (by omega)]
              constructor
              · intro h
                cases h
                exact .inr (List.mem_singleton.mpr rfl)
              · rintro (h | h)
                · exact absurd (List.mem_append_right _ (List.mem_map.mpr ⟨_, h, rfl⟩)) kfresh
                · cases List.mem_singleton.mp h
                  rfl
            · rw [if_neg hjk, hs]
              constructor
              · exact .inl
              · rintro (h | h)
                · exact h
                · cases List.mem_singleton.mp h
                  exact absurd rfl hjk
          · rw [em, rms_add, ← List.append_assoc] at hj
            rw [kss]
            rcases List.mem_append.mp hj with h | h
            · exact (hmem j h).imp id fun h => List.mem_append_left _ h
            · exact .inr (List.mem_append_right _ h)
        walk_at "rd"
        refine rd_ite (fun hw2 => ?_) (fun hw2 => ?_)
        · walk_at "rd"
          refine ⟨d, _, rfl, d15, by omega, fun z H16 hz d16 k16 => ?_⟩
          have S16 := S15.draw d15 k16
          walk_at "rd"
          intro t1 ht1
          walk_at "rd"
          exact fin _ (.file z) _ ⟨t1, rfl, Rt.of upd_same⟩ (.inl ⟨z, rfl, hz⟩) (S16.same ((Same.refl H16).new (o := .tup [V.str "file", V.str z]) ht1)) ((d16.new ht1).mono (by omega))
        · walk_at "rd"
          refine ⟨d, 3, _, rfl, rfl, by omega, d15, by omega, fun z H16 hz d16 k16 => ?_⟩
          have S16 := S15.draw d15 k16
          walk_at "rd"
          intro t1 ht1
          walk_at "rd"
          exact fin _ (.sign z) _ ⟨t1, rfl, Rt.of upd_same⟩ (.inr ⟨z, rfl, hz⟩) (S16.same ((Same.refl H16).new (o := .tup [V.str "sign", V.str z]) ht1)) ((d16.new ht1).mono (by omega))
  · rintro σ H7 ⟨G, O, s, x8, x9, x10, x11, x12, x13, S, dk, gi, ls, hO, hs, hmem, rfl⟩
    rw [List.length_map] at gi dk
    walk_at "rd"
    rw [show ks.length = v from lks] at gi dk
    refine use_draw dk (by omega) (by omega) (by omega) fun tn H8 t0 t1 d8 k8 => ?_
    have S8 := S.draw dk k8
    clear dk S k8 hmem
    walk_at "rd"
    refine rd_itR (by omega) (by omega) (fun i σ H' => ∃ (G : Gh) (x8 x9 x10 x11 x12 x13 : Option V), SS d H u nA rA D oA ks (rms G) (O.map (·.1)) G s H' ∧ Dk d (m + 71 + 30 * v + 1 + 3 * i) H' ∧ GI G (O.map (·.1)) (v + i) (l + 1) ∧
      σ = [some (.ref d), some (.int n), some (.int v), some (.ref u), some (.ref nA), some (.ref rA), some (.ref D), some (.ref oA), x8, x9, x10, x11, x12, x13])
      ⟨G, _, _, _, _, _, _, S8, d8, gi, rfl⟩ ?_ ?_
    · clear S8 d8 gi
      rintro i σ H9 hi ⟨G, x8, x9, x10, x11, x12, x13, S, dk, gi, rfl⟩
      have hi2 : i < 2 := by omega
      walk_at "rd"
      have lr : 1 ≤ (rms G).length := List.length_pos_iff.mpr fun e => by have := gi.g0; rw [e] at this; cases this
      have lr2 : (rms G).length ≤ l + 1 := few_nats _ (List.nodup_append.mp gi.nd).1 fun k hk => gi.lt k (List.mem_append_left _ hk)
      have lo : (O.map (·.1)).length ≤ l + 1 := few_nats _ (List.nodup_append.mp gi.nd).2.1 fun k hk => gi.lt k (List.mem_append_right _ hk)
      refine ⟨d, rA, (rms G).map nv, _, rfl, rfl, .inl S.hr, (S.nw rA (by simp)).2, (by rw [List.length_map]; exact lr), (by rw [List.length_map]; exact Nat.le_trans lr2 (by omega)), dk, (by omega), fun xr H10 hxr d10 k10 => ?_⟩
      obtain ⟨r, hrm, rfl⟩ := List.mem_map.mp hxr
      have S10 := S.draw dk k10
      obtain ⟨a, es, hmG⟩ := rms_mem.mp hrm
      have ndr : (rms G).Nodup := (List.nodup_append.mp gi.nd).1
      have hDv := val_G ndr hmG
      have hesl := (gi.nam _ _ _ hmG).2
      walk_at "rd"
      refine ⟨d, _, rfl, d10, by omega, fun nm H11 hnm d11 k11 => ?_⟩
      have S11 := S10.draw d10 k11
      walk_at "rd"
      intro tt htt
      have s12 := (Same.refl H11).new (o := .tup [nv r, V.str nm]) htt
      have S12 := S11.same s12
      have d12 := d11.same s12
      refine rd_gtup (SqT.of upd_same) rfl ?_
      generalize upd H11 tt (.tup [nv r, V.str nm]) = H12 at s12 S12 d12 ⊢
      walk_at "rd"
      intro l3 hl3
      have s13 := (Same.refl H12).new (o := .lst []) hl3
      have S13 := S12.same s13
      have d13 := d12.same s13
      have l3v : upd H12 l3 (.lst []) l3 = some (.lst []) := upd_same
      generalize upd H12 l3 (.lst []) = H13 at s13 S13 d13 l3v ⊢
      have stay : ∃ (G : Gh) (x8' x9' x10' x11' x12' x13' : Option V), SS d H u nA rA D oA ks (rms G) (O.map (·.1)) G s H13 ∧ Dk d (m + 71 + 30 * v + 1 + 3 * (i + 1)) H13 ∧ GI G (O.map (·.1)) (v + (i + 1)) (l + 1) ∧
          [some (.ref d), some (.int n), some (.int v), some (.ref u), some (.ref nA), some (.ref rA), some (.ref D), some (.ref oA), x8, some (nv r), x10, some (.str nm), x12, some (.int i)] = [some (.ref d), some (.int n), some (.int v), some (.ref u), some (.ref nA), some (.ref rA), some (.ref D), some (.ref oA), x8', x9', x10', x11', x12', x13'] :=
        ⟨G, _, _, _, _, _, _, S13, d13.mono (by omega), gi.mono (by omega), rfl⟩
      refine rd_neNil (SqL.of S13.ho) (SqL.of l3v) ?_
      walk_at "rd"
      refine rd_ite (fun hc => ?_) (fun hc => ?_)
      rotate_left
      · walk_at "rd"
        exact stay
      refine rd_tB ?_
      refine rd_dNotIn ?_
      walk_at "rd"
      refine rd_dGet ?_
      walk_at "rd"
      refine ⟨D, .ref a, rfl, by rw [← hDv]; exact DGet.k (k := Sum.inl (r : Int)) S13.hD, a, _, rfl, DGet.k (k := Sum.inr nm) (S13.hg _ _ _ hmG), ?_⟩
      rw [val_e]
      walk_at "rd"
      refine rd_ite (fun hf => ?_) (fun hf => ?_)
      rotate_left
      · walk_at "rd"
        exact stay
      have hfr : nm ∉ es.map (·.1) := by
        cases h : decide (nm ∈ es.map (·.1)) with
        | true => rw [h] at hf; cases hf
        | false => exact of_decide_eq_false h
      have lo1 : 1 ≤ (O.map (·.1)).length := by
        cases h : O.map (·.1) with
        | nil => rw [h] at hc; cases hc
        | cons => exact Nat.succ_pos _
      walk_at "rd"
      refine ⟨d, oA, (O.map (·.1)).map nv, _, rfl, rfl, .inl S13.ho, (S13.nw oA (by simp)).2, (by rw [List.length_map]; exact lo1), (by rw [List.length_map]; exact Nat.le_trans lo (by omega)), d13, (by omega), fun xk H14 hxk d14 k14 => ?_⟩
      obtain ⟨k, hk, rfl⟩ := List.mem_map.mp hxk
      have S14 := S13.draw d13 k14
      refine rd_dGet ?_
      walk_at "rd"
      refine ⟨D, .ref a, rfl, by rw [← hDv]; exact DGet.k (k := Sum.inl (r : Int)) S14.hD, ?_⟩
      walk_at "rd"
      refine rd_putS (S14.hg _ _ _ hmG) (szLt (by rw [List.length_map]; omega)) ?_
      have hpk : putK (es.map kvN) (Sum.inr nm) (nv k) = (es ++ [(nm, k)]).map kvN := by
        rw [putK_fresh, List.map_append]
        · rfl
        · intro h
          rw [List.map_map] at h
          obtain ⟨e, he, q⟩ := List.mem_map.mp h
          exact hfr (List.mem_map.mpr ⟨e, he, Sum.inr.inj q⟩)
      rw [hpk]
      refine ⟨addE G r (nm, k), _, _, _, _, _, _, by rw [rms_add]; exact S14.put_e ndr hmG (nm, k), (d14.put (o := .dK ((es ++ [(nm, k)]).map kvN)) (fun e : d = a => (S14.nw a (List.mem_append_right _ (SS.mem_a hmG))).2 e.symm)).mono (by omega), gi.link hrm hnm (fun a' es' h => ?_) hk, rfl⟩
      obtain ⟨e1, e2⟩ := num_inj ndr hmG h
      rw [← e2]
      exact hfr
    · clear S8 d8 gi
      rintro σ H9 ⟨G, x8, x9, x10, x11, x12, x13, S, dk, gi, rfl⟩
      have ndr : (rms G).Nodup := (List.nodup_append.mp gi.nd).1
      have c2 : v + tn.toNat ≤ n + 2 := by omega
      walk_at "rd"
      refine rd_forV (by with_unfolding_all rfl) (.inl S.hr) (fun i σ H' => ∃ (s' : Sto) (x8 x9 x10 x11 x12 x13 : Option V), SS d H u nA rA D oA ks (rms G) (O.map (·.1)) G s' H' ∧ Dk d (m + 600) H' ∧ s'.length = l + 1 ∧
        (∀ k nd, s'[k]? = some (some nd) ↔ (k, nd) ∈ O ∨ ∃ a es, (k, a, es) ∈ G ∧ k ∈ (rms G).take i ∧ nd = .room (srtE es)) ∧
        σ = [some (.ref d), some (.int n), some (.int v), some (.ref u), some (.ref nA), some (.ref rA), some (.ref D), some (.ref oA), x8, x9, x10, x11, x12, x13])
        ⟨s, _, _, _, _, _, _, S, dk.mono (by omega), ls, fun k nd => (hs k nd).trans ⟨.inl, fun h => h.resolve_right fun ⟨_, _, _, h, _⟩ => nomatch h⟩, rfl⟩ ?_ ?_ ?_
      · rintro i σ H' ⟨_, _, _, _, _, _, _, S', _⟩ o e
        rw [S.hr] at e
        cases e
        exact S'.hr
      · rintro i x σ H10 hx ⟨s', x8, x9, x10, x11, x12, x13, S, dk, ls, hs', rfl⟩
        rw [List.getElem?_map] at hx
        obtain ⟨r, hr, rfl⟩ := Option.map_eq_some_iff.mp hx
        obtain ⟨a, es, hmG⟩ := rms_mem.mp (List.mem_of_getElem? hr)
        have hDv := val_G ndr hmG
        have hga := S.hg _ _ _ hmG
        have rl := gi.lt r (List.mem_append_left _ (List.mem_of_getElem? hr))
        have grow : (rms G).take (i + 1) = (rms G).take i ++ [r] := by rw [List.take_add_one, hr]; rfl
        walk_at "rd"
        refine rd_dGet ?_
        walk_at "rd"
        refine ⟨D, .ref a, rfl, by rw [← hDv]; exact DGet.k (k := Sum.inl (r : Int)) S.hD, .inr (.inr (.inl ⟨rfl, .inl ⟨_, hga⟩⟩)), a, _, rfl, rfl, hga, fun p hp => ?_⟩
        have s11 := (Same.refl H10).new (o := L2.DX.itemsO p a) hp
        walk_at "rd"
        refine ⟨p, a, es.map (fun e => (e.1, (e.2 : Int))), rfl, upd_same, by rw [s11 _ _ hga, List.map_map]; rfl, fun H12 lA ps s12 hlA hps eps hz => ?_⟩
        rw [srt_ints] at eps
        have s1012 := s11.trans s12
        walk_at "rd"
        refine ⟨lA, _, rfl, SqL.of hps, fun tA o od htA => ?_⟩
        have s13 := (Same.refl H12).new (o := .frz o (.tup (ps.map fun z => V.ref z.1))) htA
        walk_at "rd"
        intro t2 ht2
        have s14 := s13.new (o := .tup [V.str "room", V.ref tA]) ht2
        have s1014 := s1012.trans s14
        have S14 := S.same s1014
        have d14 := dk.same s1014
        obtain ⟨xs, hxs, pxs⟩ := S14.hn
        have lxs := Paired.length pxs
        walk_at "rd"
        refine rd_setL hxs (ixN_nat (by omega)) ?_
        have at_ : NdAt (upd (upd H12 tA (.frz o (.tup (ps.map fun z => V.ref z.1)))) t2 (.tup [V.str "room", V.ref tA])) (.ref t2) (some (.room (srtE es))) := by
          refine ⟨t2, tA, rfl, Rt.of upd_same, _, ⟨o, od, ?_⟩, pd_entries eps fun z hz' => s14 _ _ (hz z hz')⟩
          have e : tA ≠ t2 := fun e => by rw [← e, upd_same] at ht2; cases ht2
          rw [upd_ne e]
          exact upd_same
        refine ⟨s'.set r (some (.room (srtE es))), _, _, _, _, _, _, S14.set_n hxs r at_, d14.put (fun e : d = nA => (S14.nw nA (by simp)).2 e.symm), by rw [List.length_set]; exact ls, fun k nd => ?_, rfl⟩
        rw [List.getElem?_set, grow]
        by_cases hrk : r = k
        · subst hrk
          rw [if_pos rfl, if_pos (by omega)]
          constructor
          · intro h
            cases h
            exact .inr ⟨a, es, hmG, List.mem_append_right _ (List.mem_singleton.mpr rfl), rfl⟩
          · rintro (h | ⟨a', es', h, _, rfl⟩)
            · exact absurd (List.mem_map.mpr ⟨_, h, rfl⟩) (fun h2 => (List.nodup_append.mp gi.nd).2.2 r (List.mem_of_getElem? hr) r h2 rfl)
            · rw [(num_inj ndr hmG h).2]
        · rw [if_neg hrk, hs']
          constructor
          · rintro (h | ⟨a', es', h1, h2, h3⟩)
            · exact .inl h
            · exact .inr ⟨a', es', h1, List.mem_append_left _ h2, h3⟩
          · rintro (h | ⟨a', es', h1, h2, h3⟩)
            · exact .inl h
            · rcases List.mem_append.mp h2 with h2 | h2
              · exact .inr ⟨a', es', h1, h2, h3⟩
              · exact absurd (List.mem_singleton.mp h2).symm hrk
      · rintro σ H10 ⟨s', x8, x9, x10, x11, x12, x13, S, dk, ls, hs', rfl⟩
        rw [List.length_map, List.take_length] at hs'
        have hs2 : ∀ k nd, s'[k]? = some (some nd) ↔ (k, nd) ∈ O ∨ ∃ a es, (k, a, es) ∈ G ∧ nd = .room (srtE es) := fun k nd => (hs' k nd).trans
          ⟨fun h => h.imp id fun ⟨a, es, h1, _, h3⟩ => ⟨a, es, h1, h3⟩, fun h => h.imp id fun ⟨a, es, h1, h3⟩ => ⟨a, es, h1, rms_mem.mpr ⟨a, es, h1⟩, h3⟩⟩
        walk_at "rd"
        refine rd_while (fun mm σ H' => ∃ s' : Sto, mm = s'.length ∧ SS d H u nA rA D oA ks (rms G) (O.map (·.1)) G s' H' ∧ Dk d (m + 600) H' ∧ s'.length ≤ l + 1 ∧ (∀ k nd, s'[k]? = some (some nd) ↔ (k, nd) ∈ O ∨ ∃ a es, (k, a, es) ∈ G ∧ nd = .room (srtE es)) ∧
          σ = [some (.ref d), some (.int n), some (.int v), some (.ref u), some (.ref nA), some (.ref rA), some (.ref D), some (.ref oA), x8, x9, x10, x11, x12, x13]) (l + 1) ⟨s', ls.symm, S, dk, Nat.le_of_eq ls, hs2, rfl⟩ ?_
        clear S dk ls hs' hs2
        rintro mm σ H11 ⟨s', rfl, S, dk, ls, hs2, rfl⟩
        obtain ⟨xs, hxs, pxs⟩ := S.hn
        have lxs := Paired.length pxs
        obtain ⟨a0, es0, h00⟩ := rms_mem.mp gi.g0
        have hroot := (hs2 0 _).mpr (.inr ⟨a0, es0, h00, rfl⟩)
        have l0 := (List.getElem?_eq_some_iff.mp hroot).1
        obtain ⟨sl, y, rfl⟩ : ∃ sl y, s' = sl ++ [y] := by
          rcases List.eq_nil_or_concat s' with rfl | ⟨sl, y, rfl⟩
          · cases l0
          · exact ⟨sl, y, List.concat_eq_append⟩
        obtain ⟨xl, z, rfl⟩ : ∃ xl z, xs = xl ++ [z] := by
          rcases List.eq_nil_or_concat xs with rfl | ⟨xl, z, rfl⟩
          · rw [← lxs] at l0; cases l0
          · exact ⟨xl, z, List.concat_eq_append⟩
        rw [List.length_append, List.length_append] at lxs
        have lxl : xl.length = sl.length := by simpa using lxs
        have hz : (xl ++ [z])[sl.length]? = some z := by rw [← lxl, List.getElem?_append_right (Nat.le_refl _), Nat.sub_self]; rfl
        have hy : (sl ++ [y])[sl.length]? = some y := by rw [List.getElem?_append_right (Nat.le_refl _), Nat.sub_self]; rfl
        obtain ⟨y', hy', atz⟩ := pd_getL pxs hz
        rw [hy] at hy'
        cases hy'
        walk_at "rd"
        refine ⟨1, rfl, ?_⟩
        refine rd_ixL (SqL.of hxs) (atI_last _ _) ?_
        walk_at "rd"
        rw [atz.non]
        cases y with
        | none =>
          rw [show (none : Option Nd).isNone = true from rfl]
          refine rd_yT ?_
          refine rd_turn ?_
          walk_at "rd"
          refine rd_tyL (SqL.of hxs) ?_
          refine rd_pop hxs ?_
          have psl : Paired (NdAt H11) xl sl := by
            have := pd_take sl.length pxs
            rwa [List.take_left' lxl, List.take_left' rfl] at this
          refine ⟨sl.length, by rw [List.length_append]; exact Nat.lt_succ_self _, sl, rfl, S.pop_n ⟨_, hxs⟩ psl, dk.put (fun e : d = nA => (S.nw nA (by simp)).2 e.symm), by rw [List.length_append] at ls; omega, fun k nd => ?_, rfl⟩
          rw [← hs2]
          constructor
          · intro h
            rw [List.getElem?_append_left (List.getElem?_eq_some_iff.mp h).1]
            exact h
          · intro h
            by_cases hk : k < sl.length
            · rwa [List.getElem?_append_left hk] at h
            · rw [List.getElem?_append_right (by omega)] at h
              cases e : k - sl.length with
              | zero => rw [e] at h; cases h
              | succ j => rw [e] at h; cases h
        | some nd =>
          rw [show (some nd : Option Nd).isNone = false from rfl]
          walk_at "rd"
          refine ⟨nA, _, rfl, SqL.of hxs, fun tA o od htA => ?_⟩
          have s12 := (Same.refl H11).new (o := .frz o (.tup (xl ++ [z]))) htA
          have lss : (sl ++ [some nd]).length = sl.length + 1 := by rw [List.length_append]; rfl
          obtain ⟨wf, few⟩ := wf_of gi (by omega) hO hs2 (by omega) ⟨nd, by rw [lss, Nat.add_sub_cancel]; exact hy⟩
          refine q (.ref tA) _ _ ⟨tA, _, rfl, Ft.rt ⟨o, od, upd_same⟩, pd_mono (fun _ _ q => NdAt.up q (Ty.of s12)) pxs⟩ wf (by omega) (fun r => Nat.le_trans (few r) c2) ((dk.same s12).mono (by omega)) (S.kp.trans (Kp.of s12))

def Φ_law_rooms (K : PySem.W.Frag) (v : V) (H : Hp) (Q : VK) : Prop := ∃ s, StAt H v s ∧ s.length ≤ 1000 ∧ ∀ D H', H D = none → Same H H' → H' D = some (.lst (((List.range s.length).filter fun k => isRoom (s.getD k none)).map fun n : Nat => V.int (n : Int))) → Q (.ref D) H'
theorem ok_law_rooms (T : Txt P K mg) {f : Addr} {fd : FuncData} (F : Fun K "_law_rooms" "_law_rooms" s_law_rooms f fd) : Keeps P w K mg base CX0 1 f fd ["store"] (sp1 (Φ_law_rooms K)) := by
  refine keeps0_of F sc_law_rooms (fun vs H Q E h => ?_) (fun cdv A outer s H vs Q E hr h => ?_)
  · obtain ⟨_, rfl, _⟩ := h
    rfl
  obtain ⟨v_store, rfl, h⟩ := h
  have hu := hr.hu
  refine ⟨_, (pss_one (ps_ret (pe_lc (own := [("number", 1)]) rfl sc_law_rooms.nd (pi_range1 (by rfl) T.b_range (pa_cons (pe_callB (call_lenX (K := K)) (by rfl) T.b_len (by decide +kernel) (pa_cons (pv 0) pa_nil)) pa_nil)) (blkOk_by (own := [("number", 1)]) (N := ["store", "number"]) (sc := defScope s_law_rooms) (by decide +kernel)) (fun _ _ _ _ _ => pg_name (i := 1) sc_law_rooms.nd rfl (by first | exact Or.inl rfl | exact Or.inr rfl)) (fun _ _ _ _ _ => pts_one (PW.pt (pw_and (pt_cmpR oIsNot (pe_ix (ixX (K := K)) (pv 0) (pv 1) (fun _ _ => rfl)) pe_non (nomark _)) (pw_and1 (pt_cmpR (oEq (K := K) hr.u65) (pe_ix (ixX (K := K)) (pe_ix (ixX (K := K)) (pv 0) (pv 1) (fun _ _ => rfl)) pe_int (fun _ _ => rfl)) pe_str (nomark _)))))) (fun _ _ _ _ _ => (pv 1))))), ?_⟩
  rw [show start ["store", "number"] [v_store] = [some v_store, none] from rfl]
  try dsimp only [cxOf, Cx.nox, Cx.wish]
  obtain ⟨s, ⟨a, xs, rfl, ha, ps⟩, hl, q⟩ := h
  have lx := Paired.length ps
  walk_at "rd"
  refine rd_lenT ha.sq ?_
  walk_at "rd"
  refine rd_clR (by omega) (by omega) (fun D i H' => Same H H' ∧ H' D = some (.lst (((List.range i).filter fun k => isRoom (s.getD k none)).map fun n : Nat => V.int (n : Int)))) (fun D hD => ⟨(Same.refl H).new (o := .lst []) hD, upd_same⟩) (fun D i H' hD hi hP => ?_) (fun D H' hD hP => ?_)
  · obtain ⟨k1, hL⟩ := hP
    have il : i < s.length := by omega
    have hs : s[i]? = some s[i] := List.getElem?_eq_getElem il
    obtain ⟨v, hv, at1⟩ := pd_getR ps hs
    have e0 : s.getD i none = s[i] := by rw [List.getD_eq_getElem?_getD, hs]; rfl
    have lf := List.length_filter_le (fun k => isRoom (s.getD k none)) (List.range i)
    rw [List.length_range] at lf
    have no : isRoom s[i] = false → Same H H' ∧ H' D = some (.lst (((List.range (i + 1)).filter fun k => isRoom (s.getD k none)).map fun n : Nat => V.int (n : Int))) := fun h => by
      refine ⟨k1, ?_⟩
      rw [hL, List.range_succ, List.filter_append, List.map_append]
      simp only [List.filter_cons, e0, h, List.filter_nil, Bool.false_eq_true, if_false, List.map_nil, List.append_nil]
    walk_at "rd"
    refine rd_ixT (ha.up (Ty.of k1)).sq (atI_nat hv) ?_
    walk_at "rd"
    rw [at1.non]
    cases e : s[i] with
    | none =>
      rw [show (none : Option Nd).isNone = true from rfl]
      walk_at "rd"
      exact no (by rw [e]; rfl)
    | some n =>
      rw [show (some n : Option Nd).isNone = false from rfl]
      rw [e] at at1
      obtain ⟨a1, y1, rfl, hh1⟩ := at1.head
      walk_at "rd"
      refine rd_ixT (ha.up (Ty.of k1)).sq (atI_nat hv) ?_
      walk_at "rd"
      refine rd_ixT (hh1.up (Ty.of k1)).sq rfl ?_
      walk_at "rd"
      rw [wordN_room]
      refine rd_ite (fun hr => ?_) (fun hr => ?_)
      · walk_at "rd"
        refine ⟨_, hL, szLt (by rw [List.length_map]; omega), k1.put hD, ?_⟩
        rw [upd_same, List.range_succ, List.filter_append, List.map_append]
        simp only [List.filter_cons, e0, e, hr, List.filter_nil, if_true, List.map_cons, List.map_nil]
      · exact no (by rw [e]; exact hr)
  · obtain ⟨k1, hL⟩ := hP
    rw [show ((xs.length : Nat) : Int).toNat = s.length by rw [lx, Int.toNat_natCast]] at hL
    exact q D H' hD k1 hL

/-! ## The law's own walks -/
def Φ_law_is_room (K : PySem.W.Frag) (v vn : V) (H : Hp) (Q : VK) : Prop := ∃ (s : Sto) (k : Nat), StAt H v s ∧ vn = .int k ∧ k < s.length ∧ Q (.bl (isRoom (s.getD k none))) H
theorem ok_law_is_room (T : Txt P K mg) {f : Addr} {fd : FuncData} (F : Fun K "_law_is_room" "_law_is_room" s_law_is_room f fd) : Keeps P w K mg base CX0 1 f fd ["store", "number"] (sp2 (Φ_law_is_room K)) := by
  refine keeps0_of F sc_law_is_room (fun vs H Q E h => ?_) (fun cdv A outer s H vs Q E hr h => ?_)
  · obtain ⟨_, _, rfl, _⟩ := h
    rfl
  obtain ⟨v_store, v_number, rfl, h⟩ := h
  have hu := hr.hu
  refine ⟨_, (pss_one (ps_ret (pe_and (pe_cmpR oIsNot (pe_ix (ixX (K := K)) (pv 0) (pv 1) (fun _ _ => rfl)) pe_non (nomark _)) (pe_one (pe_cmpR (oEq (K := K) hr.u65) (pe_ix (ixX (K := K)) (pe_ix (ixX (K := K)) (pv 0) (pv 1) (fun _ _ => rfl)) pe_int (fun _ _ => rfl)) pe_str (nomark _)))))), ?_⟩
  rw [show start ["store", "number"] [v_store, v_number] = [some v_store, some v_number] from rfl]
  try dsimp only [cxOf, Cx.nox, Cx.wish]
  obtain ⟨s, k, ⟨a, xs, rfl, ha, ps⟩, rfl, hk, q⟩ := h
  have hs : s[k]? = some s[k] := List.getElem?_eq_getElem hk
  obtain ⟨v, hv, at1⟩ := pd_getR ps hs
  have e0 : s.getD k none = s[k] := by rw [List.getD_eq_getElem?_getD, hs]; rfl
  rw [e0] at q
  walk_at "rd"
  refine rd_ixT ha.sq (atI_nat hv) ?_
  walk_at "rd"
  rw [at1.non]
  cases e : s[k] with
  | none =>
    rw [show (none : Option Nd).isNone = true from rfl]
    rw [e] at q
    walk_at "rd"
    exact q
  | some n =>
    rw [show (some n : Option Nd).isNone = false from rfl]
    rw [e] at q at1
    obtain ⟨a1, y1, rfl, hh1⟩ := at1.head
    walk_at "rd"
    refine rd_ixT ha.sq (atI_nat hv) ?_
    walk_at "rd"
    refine rd_ixT hh1.sq rfl ?_
    walk_at "rd"
    rw [wordN_room]
    exact q
def Φ_law_words (K : PySem.W.Frag) (v : V) (H : Hp) (Q : VK) : Prop := ∃ z : Str, v = .str z ∧ z.length ≤ 1000 ∧ ∀ D H', H D = none → Same H H' → H' D = some (.lst ((wordsOf z).map V.str)) → Q (.ref D) H'
theorem ok_law_words (T : Txt P K mg) {f : Addr} {fd : FuncData} (F : Fun K "_law_words" "_law_words" s_law_words f fd) : Keeps P w K mg base CX0 1 f fd ["path"] (sp1 (Φ_law_words K)) := by
  refine keeps0_of F sc_law_words (fun vs H Q E h => ?_) (fun cdv A outer s H vs Q E hr h => ?_)
  · obtain ⟨_, rfl, _⟩ := h
    rfl
  obtain ⟨v_path, rfl, h⟩ := h
  have hu := hr.hu
  refine ⟨_, (pss_one (ps_ret (pe_lc (own := [("word", 1)]) rfl sc_law_words.nd (pi_any (K := K) (pe_split (pv 0) pe_str)) (blkOk_by (own := [("word", 1)]) (N := ["path", "word"]) (sc := defScope s_law_words) (by decide +kernel)) (fun _ _ _ _ _ => pg_name (i := 1) sc_law_words.nd rfl (by first | exact Or.inl rfl | exact Or.inr rfl)) (fun _ _ _ _ _ => pts_one (pt_cmpR (oNe (K := K) hr.u65) (pv 1) pe_str (nomark _))) (fun _ _ _ _ _ => (pv 1))))), ?_⟩
  rw [show start ["path", "word"] [v_path] = [some v_path, none] from rfl]
  try dsimp only [cxOf, Cx.nox, Cx.wish]
  obtain ⟨z, rfl, hz, q⟩ := h
  obtain ⟨s1, s2⟩ := split_len (z := z) (y := "/") (by rw [tl_slash]; exact List.cons_ne_nil _ _) (by decide +kernel)
  walk_at "rd"
  refine rd_lcL ?_
  walk_at "rd"
  refine rd_split (by decide +kernel) (by omega) fun l hl1 => ?_
  refine rd_mapL (SqL.of upd_same) (fun x => match x with | .str w => !decide (w = "") | _ => false) (fun x => x) (fun _ => rfl) (by rw [List.length_map]; omega) (fun x hx => ?_) (fun x hx hp => ?_) ?_
  · obtain ⟨u, hu1, rfl⟩ := List.mem_map.mp hx
    intro H1 k1 QE q1
    walk_at "rd"
    exact q1 H1 (Same.refl H1)
  · intro H1 k1 QE q1
    walk_at "rd"
    exact q1 H1 (Same.refl H1)
  · intro D H1 hD k1 h5
    walk_at "rd"
    have k0 := (Same.refl H).new (o := .lst ((Txt.split z "/").map V.str)) hl1
    refine q D H1 (Sub.of k0 D hD) (k0.trans k1) ?_
    rw [h5, List.map_id', List.filter_map]
    rfl
theorem found_is {es : List (Str × Nat)} {r : Nat} : (es.filter fun e => decide (e.2 = r)).isEmpty = !((es.map (·.2)).contains r) := by
  induction es with
  | nil => rfl
  | cons e es ih =>
    rw [List.filter_cons, List.map_cons, List.contains_cons]
    by_cases h : e.2 = r
    · rw [decide_eq_true h, if_pos rfl, h, beq_self_eq_true, Bool.true_or]
      rfl
    · rw [decide_eq_false h, if_neg Bool.noConfusion, ih, show (r == e.2) = false from beq_eq_false_iff_ne.mpr fun q => h q.symm, Bool.false_or]
theorem map_empty {α β : Type} {f : α → β} {l : List α} : (l.map f).isEmpty = l.isEmpty := by cases l <;> rfl
def Φ_law_above (K : PySem.W.Frag) (vs v : V) (H : Hp) (Q : VK) : Prop := ∃ (s : Sto) (r : Nat), StAt H vs s ∧ v = .int r ∧ s.length ≤ 1000 ∧ (∀ k, (entsAt s k).length ≤ 1000) ∧ ∀ H', Same H H' → Q (.int (parentOf s r : Nat)) H'
theorem ok_law_above (T : Txt P K mg) {f : Addr} {fd : FuncData} (F : Fun K "_law_above" "_law_above" s_law_above f fd) : Keeps P w K mg base CX0 2 f fd ["store", "room"] (sp2 (Φ_law_above K)) := by
  have c_law_is_room := cal (P := P) (w := w) (base := base) T.d_law_is_room fun F => ok_law_is_room T F
  refine keeps0_of F sc_law_above (fun vs H Q E h => ?_) (fun cdv A outer s H vs Q E hr h => ?_)
  · obtain ⟨_, _, rfl, _⟩ := h
    rfl
  obtain ⟨v_store, v_room, rfl, h⟩ := h
  have hu := hr.hu
  refine ⟨_, (pss_cons (ps_for PassesOwn.never rfl (pi_range1 (by rfl) T.b_range (pa_cons (pe_callB (call_lenX (K := K)) (by rfl) T.b_len (by decide +kernel) (pa_cons (pv 0) pa_nil)) pa_nil)) (pg_name (i := 2) sc_law_above.nd rfl (by first | exact Or.inl rfl | exact Or.inr rfl)) (pss_one (ps_if (PW.pt (pw_and (pt_val (pe_cal c_law_is_room (hr.mono (by decide)) (by rfl) pass0 (pa_cons (pv 0) (pa_cons (pv 2) pa_nil)))) (pw_and1 (pt_cmpR (oNe (K := K) hr.u65) (pe_lc (own := [("name", 3), ("other", 4)]) rfl sc_law_above.nd (pi_any (K := K) (pe_ix (ixX (K := K)) (pe_ix (ixX (K := K)) (pv 0) (pv 2) (fun _ _ => rfl)) pe_int (fun _ _ => rfl))) (blkOk_by (own := [("name", 3), ("other", 4)]) (N := ["store", "room", "number", "name", "other"]) (sc := defScope s_law_above) (by decide +kernel)) (fun _ _ _ _ _ => pg_seqX (K := K) (n := 2) rfl (pgs_cons (pg_name (i := 3) sc_law_above.nd rfl (by first | exact Or.inl rfl | exact Or.inr rfl)) (pgs_cons (pg_name (i := 4) sc_law_above.nd rfl (by first | exact Or.inl rfl | exact Or.inr rfl)) pgs_nil))) (fun _ _ _ _ _ => pts_one (pt_cmpR (oEq (K := K) hr.u65) (pv 4) (pv 1) (nomark _))) (fun _ _ _ _ _ => (pv 4))) (pe_lst pa_nil) (nomark _))))) (pss_one (ps_ret (pv 2))) pss_nil)))
      (pss_one (ps_ret pe_int))), ?_⟩
  rw [show start ["store", "room", "number", "name", "other"] [v_store, v_room] = [some v_store, some v_room, none, none, none] from rfl]
  try dsimp only [cxOf, Cx.nox, Cx.wish]
  obtain ⟨s, r, hS, rfl, hl, few, q⟩ := h
  have hS' := hS
  obtain ⟨a, xs, rfl, ha, ps⟩ := hS'
  have lx := Paired.length ps
  walk_at "rd"
  refine rd_lenT ha.sq ?_
  walk_at "rd"
  refine rd_itR (by omega) (by omega) (fun i σ H' => Same H H' ∧ (∀ j, j < i → ((entsAt s j).map (·.2)).contains r = false) ∧ ∃ x2 x3 x4, σ = [some (.ref a), some (.int r), x2, x3, x4]) ⟨Same.refl H, (fun _ h => absurd h (by omega)), _, _, _, rfl⟩ ?_ ?_
  · rintro i σ H1 hi ⟨k1, no, x2, x3, x4, rfl⟩
    have il : i < s.length := by omega
    have next : ((entsAt s i).map (·.2)).contains r = false → ∀ j, j < i + 1 → ((entsAt s j).map (·.2)).contains r = false := fun h j hj => by
      rcases Nat.lt_or_ge j i with c | c
      · exact no j c
      · rw [show j = i by omega]
        exact h
    walk_at "rd"
    refine ⟨s, i, hS.up (Ty.of k1), rfl, il, ?_⟩
    cases hr : isRoom (s.getD i none) with
    | false =>
      walk_at "rd"
      have hs : s[i]? = some s[i] := List.getElem?_eq_getElem il
      exact ⟨k1, next (by rw [ents_no hs (by rw [List.getD_eq_getElem?_getD, hs] at hr; exact hr)]; rfl), _, _, _, rfl⟩
    | true =>
      obtain ⟨es, hes⟩ := room_is hr
      have hen := entsAt_room hes
      have fw := few i
      rw [hen] at fw
      obtain ⟨v, hv, na, nb, rfl, hna, ys, hys, pys⟩ := pd_getR ps hes
      have ly := Paired.length pys
      walk_at "rd"
      refine rd_lcT ?_
      walk_at "rd"
      refine rd_ixT (ha.up (Ty.of k1)).sq (atI_nat hv) ?_
      walk_at "rd"
      refine rd_ixT (hna.up (Ty.of k1)).sq rfl ?_
      refine rd_clT (xs := ys) (hys.up (Ty.of k1)).rt.sq (fun D c H' => Same H1 H' ∧ H' D = some (.lst (((es.take c).filter fun e => decide (e.2 = r)).map fun e => V.int (e.2 : Int)))) (fun D hD => ⟨(Same.refl H1).new (o := .lst []) hD, upd_same⟩) (fun D c H' _ _ h => (hys.up (Ty.of (k1.trans h.1))).rt.sq) (fun D c x H' hD hx hP => ?_) (fun D H' hD hP => ?_)
      · obtain ⟨k2, hL⟩ := hP
        obtain ⟨e, he, p, rfl, hp⟩ := pd_getL pys hx
        have grow : es.take (c + 1) = es.take c ++ [e] := by rw [List.take_add_one, he]; rfl
        have lf := List.length_filter_le (fun e : Str × Nat => decide (e.2 = r)) (es.take c)
        rw [List.length_take] at lf
        refine rd_lcT1 ?_
        refine rd_gtup (hp.up (Ty.of (k1.trans k2))).sq rfl ?_
        walk_at "rd"
        refine rd_ite (fun hf => ?_) (fun hf => ?_)
        · have hf : e.2 = r := by have := of_decide_eq_true hf; omega
          walk_at "rd"
          refine ⟨_, hL, szLt (by rw [List.length_map]; omega), k2.put hD, ?_⟩
          rw [upd_same, grow, List.filter_append, List.map_append]
          simp only [List.filter_cons, decide_eq_true hf, List.filter_nil, if_true, List.map_cons, List.map_nil]
        · have hf : ¬ e.2 = r := by have := of_decide_eq_false hf; omega
          refine ⟨k2, ?_⟩
          rw [hL, grow, List.filter_append, List.map_append]
          simp only [List.filter_cons, decide_eq_false hf, List.filter_nil, Bool.false_eq_true, if_false, List.map_nil, List.append_nil]
      · obtain ⟨k2, hL⟩ := hP
        rw [ly, List.take_length] at hL
        walk_at "rd"
        intro e he
        refine rd_neNil (SqL.of (((Same.refl H').new (o := .lst []) he) _ _ hL)) (SqL.of upd_same) ?_
        rw [map_empty, found_is, Bool.not_not]
        have k3 := (k1.trans k2).new (o := .lst []) he
        walk_at "rd"
        cases hc : (es.map (·.2)).contains r with
        | true =>
          walk_at "rd"
          have := q _ k3
          rwa [parent_of il (by rw [hen]; exact hc) no] at this
        | false =>
          walk_at "rd"
          exact ⟨k3, next (by rw [hen]; exact hc), _, _, _, rfl⟩
  · rintro σ H1 ⟨k1, no, x2, x3, x4, rfl⟩
    walk_at "rd"
    have := q H1 k1
    rwa [parent_no (by rw [lx] at no; exact no)] at this
def resT : Res → List V
  | .node k => [.str "node", .int k]
  | .room i => [.str "room", .int i]
  | .entry i => [.str "entry", .int i]
  | .signs => [.str "signs", .int 20]
theorem entry_head {s : Sto} {j : Nat} {w : Str} : entryOf s j w = (((entsAt s j).filter fun e => decide (e.1 = w)).map (·.2)).head? := by
  unfold entryOf
  rw [List.head?_map, List.head?_filter]
theorem start_dec {z : Str} : decide (cutS z none (some 1) = "/") = decide ((tl z).take 1 = [47]) := by
  rw [dec_tl, show (1 : Int) = ((1 : Nat) : Int) from rfl, tl_take, tl_slash]
theorem start_if {z : Str} {here : Nat} {σ : St} {H : Hp} {C : VK} (h1 : σ[1]? = some (some (.int (here : Nat)))) (q : C (.int (startAt here z : Nat)) H) : if decide (cutS z none (some 1) = "/") = true then tC (.int 0) σ H C else tVar 1 σ H C := by
  rw [start_dec]
  unfold startAt at q
  by_cases h : (tl z).take 1 = [47]
  · rw [if_pos h] at q
    rw [decide_eq_true h, if_pos rfl]
    exact q
  · rw [if_neg h] at q
    rw [decide_eq_false h, if_neg Bool.noConfusion]
    exact ⟨_, h1, q⟩
def Φ_law_walk (K : PySem.W.Frag) (vs vh vp vf : V) (H : Hp) (Q : VK) : Prop := ∃ (s : Sto) (here : Nat) (z : Str) (f : Bool), StAt H vs s ∧ Wf s ∧ vh = .int here ∧ here < s.length ∧ vp = .str z ∧ 1 ≤ z.length ∧ z.length ≤ 100 ∧ vf = .bl f ∧
  ∀ r t H', Same H H' → Leads s here z f r → H' t = some (.tup (resT r)) → Q (.ref t) H'
theorem ok_law_walk (T : Txt P K mg) {f : Addr} {fd : FuncData} (F : Fun K "_law_walk" "_law_walk" s_law_walk f fd) : Keeps P w K mg base CX0 3 f fd ["store", "here", "path", "follow"] (sp4 (Φ_law_walk K)) := by
  have c_law_words := cal (P := P) (w := w) (base := base) T.d_law_words fun F => ok_law_words T F
  have c_law_is_room := cal (P := P) (w := w) (base := base) T.d_law_is_room fun F => ok_law_is_room T F
  have c_law_above := cal (P := P) (w := w) (base := base) T.d_law_above fun F => ok_law_above T F
  refine keeps0_of F sc_law_walk (fun vs H Q E h => ?_) (fun cdv A outer s H vs Q E hr h => ?_)
  · obtain ⟨_, _, _, _, rfl, _⟩ := h
    rfl
  obtain ⟨v_store, v_here, v_path, v_follow, rfl, h⟩ := h
  have hu := hr.hu
  refine ⟨_, (pss_cons (ps_set (i := 4) sc_law_walk.nd rfl (by first | exact Or.inl rfl | exact Or.inr rfl) (pe_ifExp (pt_cmpR (oEq (K := K) hr.u65) (pe_slice (sX (K := K)) (pv 2) po_none (po_some pe_int)) pe_str (nomark _)) pe_int (pv 1)))
      (pss_cons (ps_set (i := 5) sc_law_walk.nd rfl (by first | exact Or.inl rfl | exact Or.inr rfl) (pe_cal c_law_words (hr.mono (by decide)) (by rfl) pass0 (pa_cons (pv 2) pa_nil)))
      (pss_cons (ps_setLc (i := 6) (own := [("index", 9), ("word", 8)]) rfl sc_law_walk.nd rfl rfl (sw_true rfl rfl rfl (by decide +kernel)) (pi_enumX (K := K) (by rfl) T.b_enumerate (pa_cons (pv 5) pa_nil)) (blkOk_by (own := [("index", 9), ("word", 8)]) (N := ["store", "here", "path", "follow", "at", "words", "waiting", "signs", "word", "index", "is_followed", "found", "inner", "name", "number", "own"]) (sc := defScope s_law_walk) (by decide +kernel)) (fun _ _ _ _ _ => pg_seqX (K := K) (n := 2) rfl (pgs_cons (pg_name (i := 9) sc_law_walk.nd rfl (by first | exact Or.inl rfl | exact Or.inr rfl)) (pgs_cons (pg_name (i := 8) sc_law_walk.nd rfl (by first | exact Or.inl rfl | exact Or.inr rfl)) pgs_nil))) (fun _ _ _ _ _ => pts_nil) (fun _ _ _ _ _ => (pe_tup (pa_cons (pv 8) (pa_cons (pv 9) (pa_cons (pe_or (pv 3) (pe_one (pe_cmpR oLt (pv 9) (pe_op oSub (pe_callB (call_lenX (K := K)) (by rfl) T.b_len (by decide +kernel) (pa_cons (pv 5) pa_nil)) pe_int) (nomark _)))) pa_nil))))))
      (pss_cons (ps_set (i := 7) sc_law_walk.nd rfl (by first | exact Or.inl rfl | exact Or.inr rfl) pe_int)
      (pss_cons (ps_while PassesOwn.never (pt_cmpR (oNe (K := K) hr.u65) (pv 6) (pe_lst pa_nil) (nomark _)) (pss_cons (ps_asg (pe_ix (ixX (K := K)) (pv 6) pe_int (fun _ _ => rfl)) (pg_seqX (K := K) (n := 3) rfl (pgs_cons (pg_name (i := 8) sc_law_walk.nd rfl (by first | exact Or.inl rfl | exact Or.inr rfl)) (pgs_cons (pg_name (i := 9) sc_law_walk.nd rfl (by first | exact Or.inl rfl | exact Or.inr rfl)) (pgs_cons (pg_name (i := 10) sc_law_walk.nd rfl (by first | exact Or.inl rfl | exact Or.inr rfl)) pgs_nil)))))
      (pss_cons (ps_set (i := 6) sc_law_walk.nd rfl (by first | exact Or.inl rfl | exact Or.inr rfl) (pe_slice (sX (K := K)) (pv 6) (po_some pe_int) po_none))
      (pss_cons (ps_if (pt_not (pt_val (pe_cal c_law_is_room (hr.mono (by decide)) (by rfl) pass0 (pa_cons (pv 0) (pa_cons (pv 4) pa_nil))))) (pss_one (ps_ret (pe_tup (pa_cons pe_str (pa_cons (pv 9) pa_nil))))) pss_nil)
      (pss_one (ps_if (pt_cmpR (oEq (K := K) hr.u65) (pv 8) pe_str (nomark _)) (pss_one (ps_set (i := 4) sc_law_walk.nd rfl (by first | exact Or.inl rfl | exact Or.inr rfl) (pe_cal c_law_above (hr.mono (by decide)) (by rfl) pass0 (pa_cons (pv 0) (pa_cons (pv 4) pa_nil))))) (pss_one (ps_if (pt_cmpR (oNe (K := K) hr.u65) (pv 8) pe_str (nomark _)) (pss_cons (ps_setLc (i := 11) (own := [("name", 13), ("number", 14)]) rfl sc_law_walk.nd rfl rfl (sw_true rfl rfl rfl (by decide +kernel)) (pi_any (K := K) (pe_ix (ixX (K := K)) (pe_ix (ixX (K := K)) (pv 0) (pv 4) (fun _ _ => rfl)) pe_int (fun _ _ => rfl))) (blkOk_by (own := [("name", 13), ("number", 14)]) (N := ["store", "here", "path", "follow", "at", "words", "waiting", "signs", "word", "index", "is_followed", "found", "inner", "name", "number", "own"]) (sc := defScope s_law_walk) (by decide +kernel)) (fun _ _ _ _ _ => pg_seqX (K := K) (n := 2) rfl (pgs_cons (pg_name (i := 13) sc_law_walk.nd rfl (by first | exact Or.inl rfl | exact Or.inr rfl)) (pgs_cons (pg_name (i := 14) sc_law_walk.nd rfl (by first | exact Or.inl rfl | exact Or.inr rfl)) pgs_nil))) (fun _ _ _ _ _ => pts_one (pt_cmpR (oEq (K := K) hr.u65) (pv 13) (pv 8) (nomark _))) (fun _ _ _ _ _ => (pv 14)))
      (pss_cons (ps_if (pt_cmpR (oEq (K := K) hr.u65) (pv 11) (pe_lst pa_nil) (nomark _)) (pss_one (ps_ret (pe_tup (pa_cons pe_str (pa_cons (pv 9) pa_nil))))) pss_nil)
      (pss_one (ps_if (PW.pt (pw_and (pt_cmpR (oEq (K := K) hr.u65) (pe_ix (ixX (K := K)) (pe_ix (ixX (K := K)) (pv 0) (pe_ix (ixX (K := K)) (pv 11) pe_int (fun _ _ => rfl)) (fun _ _ => rfl)) pe_int (fun _ _ => rfl)) pe_str (nomark _)) (pw_and1 (pt_val (pv 10))))) (pss_cons (ps_set (i := 7) sc_law_walk.nd rfl (by first | exact Or.inl rfl | exact Or.inr rfl) (pe_op (oAdd (K := K)) (pv 7) pe_int))
      (pss_cons (ps_if (pt_cmpR oGt (pv 7) pe_int (nomark _)) (pss_one (ps_ret (pe_tup (pa_cons pe_str (pa_cons pe_int pa_nil))))) pss_nil)
      (pss_cons (ps_set (i := 12) sc_law_walk.nd rfl (by first | exact Or.inl rfl | exact Or.inr rfl) (pe_ix (ixX (K := K)) (pe_ix (ixX (K := K)) (pv 0) (pe_ix (ixX (K := K)) (pv 11) pe_int (fun _ _ => rfl)) (fun _ _ => rfl)) pe_int (fun _ _ => rfl)))
      (pss_cons (ps_set (i := 6) sc_law_walk.nd rfl (by first | exact Or.inl rfl | exact Or.inr rfl) (pe_op (oAdd (K := K)) (pe_lc (own := [("own", 15)]) rfl sc_law_walk.nd (pi_any (K := K) (pe_cal c_law_words (hr.mono (by decide)) (by rfl) pass0 (pa_cons (pv 12) pa_nil))) (blkOk_by (own := [("own", 15)]) (N := ["store", "here", "path", "follow", "at", "words", "waiting", "signs", "word", "index", "is_followed", "found", "inner", "name", "number", "own"]) (sc := defScope s_law_walk) (by decide +kernel)) (fun _ _ _ _ _ => pg_name (i := 15) sc_law_walk.nd rfl (by first | exact Or.inl rfl | exact Or.inr rfl)) (fun _ _ _ _ _ => pts_nil) (fun _ _ _ _ _ => (pe_tup (pa_cons (pv 15) (pa_cons (pv 9) (pa_cons pe_bl pa_nil)))))) (pv 6)))
      (pss_one (ps_if (pt_cmpR (oEq (K := K) hr.u65) (pe_slice (sX (K := K)) (pv 12) po_none (po_some pe_int)) pe_str (nomark _)) (pss_one (ps_set (i := 4) sc_law_walk.nd rfl (by first | exact Or.inl rfl | exact Or.inr rfl) pe_int)) pss_nil)))))) (pss_one (ps_set (i := 4) sc_law_walk.nd rfl (by first | exact Or.inl rfl | exact Or.inr rfl) (pe_ix (ixX (K := K)) (pv 11) pe_int (fun _ _ => rfl)))))))) pss_nil))))))))
      (pss_one (ps_ret (pe_tup (pa_cons pe_str (pa_cons (pv 4) pa_nil)))))))))), ?_⟩
  rw [show start ["store", "here", "path", "follow", "at", "words", "waiting", "signs", "word", "index", "is_followed", "found", "inner", "name", "number", "own"] [v_store, v_here, v_path, v_follow] = [some v_store, some v_here, some v_path, some v_follow, none, none, none, none, none, none, none, none, none, none, none, none] from rfl]
  try dsimp only [cxOf, Cx.nox, Cx.wish]
  obtain ⟨s, here, z, f, hS, wf, rfl, hl, rfl, z1, z2, rfl, q⟩ := h
  have hS' := hS
  obtain ⟨a, nds, rfl, ha, ps⟩ := hS'
  have l1 := wf.l1
  have l2 := wf.l2
  have lw := words_len z
  walk_at "rd"
  refine start_if rfl ?_
  walk_at "rd"
  refine ⟨z, rfl, by omega, fun A H1 hA k1 h1 => ?_⟩
  walk_at "rd"
  refine rd_clE (xs := (wordsOf z).map V.str) (SqL.of h1) (fun D i H' => Same H1 H' ∧ ∃ ys, H' D = some (.lst ys) ∧ Paired (stpV H') ys ((stepsOf (wordsOf z) f).take i)) (fun D hD => ⟨(Same.refl H1).new (o := .lst []) hD, [], upd_same, .nil⟩) (fun D i H' hD _ h => SqL.of (h.1 A _ h1)) (fun D i x T H' hD hx hP hT => ?_) (fun D H' hD hP => ?_)
  · obtain ⟨k2, ys, hL, py⟩ := hP
    rw [List.getElem?_map] at hx
    obtain ⟨w, hw, rfl⟩ := Option.map_eq_some_iff.mp hx
    have il : i < (wordsOf z).length := (List.getElem?_eq_some_iff.mp hw).1
    have k3 := (Same.refl H').new (o := .tup [.int (i : Int), .str w]) hT
    have hL2 := k3 _ _ hL
    refine rd_lcT1 ?_
    refine rd_gtup (SqT.of upd_same) rfl ?_
    have py2 := pd_mono (fun _ _ q => stpV.up q (Ty.of k3)) py
    have k12 := k2.trans k3
    generalize upd H' T (.tup [.int (i : Int), .str w]) = H2 at k12 hL2 py2 ⊢
    have hA2 := k12 _ _ h1
    have pt := steps_at (f := f) hw
    have ly : ys.length ≤ 1000 := by
      have := Paired.length py2
      rw [List.length_take, steps_len] at this
      omega
    have fin : ∀ p, H2 p = none → ∀ b, b = (f || decide (i + 1 < (wordsOf z).length)) → ∃ zs, (upd H2 p (.tup [.str w, .int (i : Int), .bl b])) D = some (.lst zs) ∧ zs.length < sizeLine ∧ (Same H1 (upd (upd H2 p (.tup [.str w, .int (i : Int), .bl b])) D (.lst (zs ++ [.ref p]))) ∧ ∃ ys, (upd (upd H2 p (.tup [.str w, .int (i : Int), .bl b])) D (.lst (zs ++ [.ref p]))) D = some (.lst ys) ∧ Paired (stpV (upd (upd H2 p (.tup [.str w, .int (i : Int), .bl b])) D (.lst (zs ++ [.ref p])))) ys ((stepsOf (wordsOf z) f).take (i + 1))) := by
      rintro p hp b rfl
      have k3 := (Same.refl H2).new (o := .tup [.str w, .int (i : Int), .bl (f || decide (i + 1 < (wordsOf z).length))]) hp
      have hL3 := k3 _ _ hL2
      have hp3 : upd H2 p (.tup [.str w, .int (i : Int), .bl (f || decide (i + 1 < (wordsOf z).length))]) p = some (.tup [.str w, .int (i : Int), .bl (f || decide (i + 1 < (wordsOf z).length))]) := upd_same
      have py3 := pd_mono (fun _ _ q => stpV.up q (Ty.of k3)) py2
      have k13 := k12.trans k3
      generalize upd H2 p (.tup [.str w, .int (i : Int), .bl (f || decide (i + 1 < (wordsOf z).length))]) = H3 at k13 hL3 hp3 py3 ⊢
      have ty : Ty H3 (upd H3 D (.lst (ys ++ [.ref p]))) := (Ty.refl H3).lst hL3
      refine ⟨ys, hL3, szLt (by omega), k13.put hD, _, upd_same, ?_⟩
      rw [List.take_add_one, pt]
      exact pd_snoc (pd_mono (fun _ _ q => stpV.up q ty) py3) ⟨p, rfl, ty.t _ _ hp3⟩
    walk_at "rd"
    refine rd_ite (fun hf => ?_) (fun hf => ?_)
    · subst hf
      walk_at "rd"
      exact fun p hp => fin p hp true rfl
    · have hf : f = false := hf
      subst hf
      walk_at "rd"
      refine rd_lenL (SqL.of hA2) ?_
      walk_at "rd"
      exact fun p hp => fin p hp _ (by rw [List.length_map, last_lt, Bool.false_or])
  · obtain ⟨k2, ys, hL, py⟩ := hP
    rw [List.length_map, List.take_of_length_le (by rw [steps_len]; exact Nat.le_refl _)] at py
    have k12 := k1.trans k2
    clear k2
    walk_at "rd"
    refine rd_while (fun m σ H' => ∃ (n : Nat) (zs : List Stp) (j : Nat) (p : Addr) (ys : List V) (x8 x9 x10 x11 x12 x13 x14 x15 : Option V), m = (21 - n) * 200 + zs.length ∧ n ≤ 20 ∧ zs.length ≤ 150 + 101 * n ∧ j < s.length ∧ Same H H' ∧ H' p = some (.lst ys) ∧ Paired (stpV H') ys zs ∧ (∀ r, Walks s j zs n r → Leads s here z f r) ∧
      σ = [some (.ref a), some (.int (here : Nat)), some (.str z), some (.bl f), some (.int (j : Nat)), some (.ref A), some (.ref p), some (.int (n : Nat)), x8, x9, x10, x11, x12, x13, x14, x15]) (21 * 200 + (stepsOf (wordsOf z) f).length) ⟨0, stepsOf (wordsOf z) f, startAt here z, D, ys, _, _, _, _, _, _, _, _, rfl, by omega, by rw [steps_len]; omega, by unfold startAt; split <;> omega, k12, hL, py, fun r h => h, rfl⟩ ?_
    rintro m σ H2 ⟨n, zs, j, p, ys, x8, x9, x10, x11, x12, x13, x14, x15, rfl, hn, lz, jl, k2, hL2, pp2, back, rfl⟩
    walk_at "rd"
    intro e he
    have k3 := (Same.refl H2).new (o := .lst []) he
    have k23 := k2.trans k3
    have hL3 := k3 _ _ hL2
    have pp3 := pd_mono (fun _ _ q => stpV.up q (Ty.of k3)) pp2
    have e3 : upd H2 e (.lst []) e = some (.lst []) := upd_same
    generalize upd H2 e (.lst []) = H3 at k23 hL3 pp3 e3 ⊢
    refine rd_neNil (SqL.of hL3) (SqL.of e3) ?_
    walk_at "rd"
    cases zs with
    | nil =>
      cases pp3
      rw [show ([] : List V).isEmpty = true from rfl]
      walk_at "rd"
      intro t ht
      exact q _ _ _ (k23.new (o := .tup [.str "node", .int (j : Int)]) ht) (back _ .done) upd_same
    | cons y zs =>
      obtain ⟨w, i, g⟩ := y
      obtain ⟨v, cs, rfl, ⟨t, rfl, ht⟩, pc⟩ : ∃ v cs, ys = v :: cs ∧ stpV H3 v (w, i, g) ∧ Paired (stpV H3) cs zs := by
        cases pp3 with
        | cons h t => exact ⟨_, _, rfl, h, t⟩
      rw [show (V.ref t :: cs).isEmpty = false from rfl]
      rw [List.length_cons] at lz
      walk_at "rd"
      refine rd_turn ?_
      walk_at "rd"
      refine rd_ixL (SqL.of hL3) (atI_nat (j := 0) rfl) ?_
      refine rd_gtup (SqT.of ht) rfl ?_
      walk_at "rd"
      refine rd_slL (SqL.of hL3) fun l hl => ?_
      rw [show cutV (V.ref t :: cs) (some 1) none = cs from cutV_drop (V.ref t :: cs) 1]
      have k4 := (Same.refl H3).new (o := .lst cs) hl
      have k24 := k23.trans k4
      have hL4 : upd H3 l (.lst cs) l = some (.lst cs) := upd_same
      have pp4 := pd_mono (fun _ _ q => stpV.up q (Ty.of k4)) pc
      generalize upd H3 l (.lst cs) = H4 at k24 hL4 pp4 ⊢
      walk_at "rd"
      have hS4 := hS.up (Ty.of k24)
      refine ⟨s, j, hS4, rfl, jl, ?_⟩
      cases hr : isRoom (s.getD j none) with
      | false =>
        walk_at "rd"
        intro t ht
        exact q _ _ _ (k24.new (o := .tup [.str "room", .int (i : Int)]) ht) (back _ (.noroom (room_not hr))) upd_same
      | true =>
        have rj := room_is hr
        walk_at "rd"
        cases hu : decide (w = "..") with
        | true =>
          walk_at "rd"
          refine ⟨s, j, hS4, rfl, by omega, wf.few, fun H5 k5 => ?_⟩
          walk_at "rd"
          exact ⟨(21 - n) * 200 + zs.length, by rw [List.length_cons]; omega, n, zs, parentOf s j, l, cs, _, _, _, _, _, _, _, _, rfl, hn, by omega, parent_lt l1 j, k24.trans k5, k5 _ _ hL4, pd_mono (fun _ _ q => stpV.up q (Ty.of k5)) pp4, fun r h => back _ (.above rj (of_decide_eq_true hu) h), rfl⟩
        | false =>
          have hu' := of_decide_eq_false hu
          walk_at "rd"
          cases hh : decide (w = ".") with
          | true =>
            walk_at "rd"
            exact ⟨(21 - n) * 200 + zs.length, by rw [List.length_cons]; omega, n, zs, j, l, cs, _, _, _, _, _, _, _, _, rfl, hn, by omega, jl, k24, hL4, pp4, fun r h => back _ (.here rj (of_decide_eq_true hh) h), rfl⟩
          | false =>
            have hh' := of_decide_eq_false hh
            walk_at "rd"
            obtain ⟨es, hes⟩ := rj
            have rj : roomAt s j := ⟨es, hes⟩
            have hes0 := entsAt_room hes
            have fw := wf.few j
            rw [hes0] at fw
            obtain ⟨v, hv, na, nb, rfl, hna, ys2, hys, pys⟩ := pd_getR (pd_mono (fun _ _ q => NdAt.up q (Ty.of k24)) ps) hes
            have ly := Paired.length pys
            refine rd_lcT ?_
            walk_at "rd"
            refine rd_ixT (ha.up (Ty.of k24)).sq (atI_nat hv) ?_
            walk_at "rd"
            refine rd_ixT hna.sq rfl ?_
            refine rd_clT (xs := ys2) hys.rt.sq (fun D c H' => Same H4 H' ∧ H' D = some (.lst (((es.take c).filter fun e => decide (e.1 = w)).map fun e => V.int (e.2 : Int)))) (fun D hD => ⟨(Same.refl H4).new (o := .lst []) hD, upd_same⟩) (fun D c H' _ _ h => (hys.up (Ty.of h.1)).rt.sq) (fun D c x H' hD hx hP => ?_) (fun F H5 hF hP => ?_)
            · obtain ⟨k5, hL⟩ := hP
              obtain ⟨e, he, p, rfl, hp⟩ := pd_getL pys hx
              have grow : es.take (c + 1) = es.take c ++ [e] := by rw [List.take_add_one, he]; rfl
              have lf := List.length_filter_le (fun e : Str × Nat => decide (e.1 = w)) (es.take c)
              rw [List.length_take] at lf
              refine rd_lcT1 ?_
              refine rd_gtup (hp.up (Ty.of k5)).sq rfl ?_
              walk_at "rd"
              refine rd_ite (fun hf => ?_) (fun hf => ?_)
              · walk_at "rd"
                refine ⟨_, hL, szLt (by rw [List.length_map]; omega), k5.put hD, ?_⟩
                rw [upd_same, grow, List.filter_append, List.map_append]
                simp only [List.filter_cons, hf, List.filter_nil, if_true, List.map_cons, List.map_nil]
              · refine ⟨k5, ?_⟩
                rw [hL, grow, List.filter_append, List.map_append]
                simp only [List.filter_cons, hf, List.filter_nil, Bool.false_eq_true, if_false, List.map_nil, List.append_nil]
            · obtain ⟨k5, hL5⟩ := hP
              rw [ly, List.take_length] at hL5
              have k25 := k24.trans k5
              have hW5 := k5 _ _ hL4
              have pp5 := pd_mono (fun _ _ q => stpV.up q (Ty.of k5)) pp4
              walk_at "rd"
              intro e he
              have k6 := (Same.refl H5).new (o := .lst []) he
              have k26 := k25.trans k6
              have hL6 := k6 _ _ hL5
              have hW6 := k6 _ _ hW5
              have pp6 := pd_mono (fun _ _ q => stpV.up q (Ty.of k6)) pp5
              have e6 : upd H5 e (.lst []) e = some (.lst []) := upd_same
              generalize upd H5 e (.lst []) = H6 at k26 hL6 hW6 pp6 e6 ⊢
              refine rd_eqNil (SqL.of hL6) (SqL.of e6) ?_
              rw [map_empty]
              have hd0 := entry_head (s := s) (j := j) (w := w)
              rw [hes0] at hd0
              clear k6 hL5 hW5 pp5 k25
              cases hfd : es.filter fun e => decide (e.1 = w) with
              | nil =>
                rw [hfd] at hd0
                rw [show ([] : List (Str × Nat)).isEmpty = true from rfl]
                walk_at "rd"
                intro t ht
                exact q _ _ _ (k26.new (o := .tup [.str "entry", .int (i : Int)]) ht) (back _ (.none rj hu' hh' hd0)) upd_same
              | cons e0 rest =>
                rw [hfd] at hd0 hL6
                have hen : entryOf s j w = some e0.2 := hd0
                obtain ⟨nd, hnd⟩ := wf.there _ _ (entry_some hen)
                have hL6 : H6 F = some (.lst (V.int (e0.2 : Nat) :: rest.map fun e => V.int (e.2 : Int))) := hL6
                generalize e0.2 = u at hen hnd hL6 ⊢
                have ul : u < s.length := (List.getElem?_eq_some_iff.mp hnd).1
                obtain ⟨v, hv, at1⟩ := pd_getR (pd_mono (fun _ _ q => NdAt.up q (Ty.of k26)) ps) hnd
                obtain ⟨nc, y1, rfl, hnc⟩ := at1.head
                rw [show (e0 :: rest).isEmpty = false from rfl]
                walk_at "rd"
                refine rd_ixL (SqL.of hL6) (atI_nat (j := 0) rfl) ?_
                refine rd_ixT (ha.up (Ty.of k26)).sq (atI_nat hv) ?_
                walk_at "rd"
                refine rd_ixT hnc.sq rfl ?_
                walk_at "rd"
                have go_ : (∀ p, nd = .sign p → g = false) → ∀ (σ : St) (H' : Hp), H' = H6 → (∃ x8 x9 x10 x11 x12 x13 x14 x15, σ = [some (.ref a), some (.int (here : Nat)), some (.str z), some (.bl f), some (.int (u : Nat)), some (.ref A), some (.ref l), some (.int (n : Nat)), x8, x9, x10, x11, x12, x13, x14, x15]) → ∃ m', m' < (21 - n) * 200 + ((w, i, g) :: zs).length ∧ ∃ (n : Nat) (zs : List Stp) (j : Nat) (p : Addr) (ys : List V) (x8 x9 x10 x11 x12 x13 x14 x15 : Option V), m' = (21 - n) * 200 + zs.length ∧ n ≤ 20 ∧ zs.length ≤ 150 + 101 * n ∧ j < s.length ∧ Same H H' ∧ H' p = some (.lst ys) ∧ Paired (stpV H') ys zs ∧ (∀ r, Walks s j zs n r → Leads s here z f r) ∧
                    σ = [some (.ref a), some (.int (here : Nat)), some (.str z), some (.bl f), some (.int (j : Nat)), some (.ref A), some (.ref p), some (.int (n : Nat)), x8, x9, x10, x11, x12, x13, x14, x15] := by
                  rintro h0 σ H' rfl ⟨_, _, _, _, _, _, _, _, rfl⟩
                  exact ⟨(21 - n) * 200 + zs.length, by rw [List.length_cons]; omega, n, zs, u, l, cs, _, _, _, _, _, _, _, _, rfl, hn, by omega, ul, k26, hW6, pp6, fun r h => back _ (.go rj hu' hh' hen (fun p e => h0 p (by rw [hnd] at e; cases e; rfl)) h), rfl⟩
                cases hsg : decide (wordN nd = "sign") with
                | false =>
                  walk_at "rd"
                  refine rd_ixL (SqL.of hL6) (atI_nat (j := 0) rfl) ?_
                  walk_at "rd"
                  exact go_ (fun p e => by rw [(wordN_sign nd).mpr ⟨p, e⟩] at hsg; cases hsg) _ _ rfl ⟨_, _, _, _, _, _, _, _, rfl⟩
                | true =>
                  obtain ⟨y, rfl⟩ := (wordN_sign nd).mp hsg
                  cases g with
                  | false =>
                    walk_at "rd"
                    refine rd_ixL (SqL.of hL6) (atI_nat (j := 0) rfl) ?_
                    walk_at "rd"
                    exact go_ (fun _ _ => rfl) _ _ rfl ⟨_, _, _, _, _, _, _, _, rfl⟩
                  | true =>
                    clear go_
                    walk_at "rd"
                    refine rd_ite (fun hm => ?_) (fun hm => ?_)
                    · have hm := of_decide_eq_true hm
                      walk_at "rd"
                      intro t ht
                      exact q _ _ _ (k26.new (o := .tup [.str "signs", .int 20]) ht) (back _ (.many rj hu' hh' hen hnd (by omega))) upd_same
                    · have hm := of_decide_eq_false hm
                      have yl := pathB_len (wf.sign hnd)
                      obtain ⟨nb, e', hnb⟩ := at1
                      cases e'
                      walk_at "rd"
                      refine rd_ixL (SqL.of hL6) (atI_nat (j := 0) rfl) ?_
                      refine rd_ixT (ha.up (Ty.of k26)).sq (atI_nat hv) ?_
                      walk_at "rd"
                      refine rd_ixT hnb.sq rfl ?_
                      walk_at "rd"
                      refine rd_lcL ?_
                      walk_at "rd"
                      refine ⟨y, rfl, by omega, fun W H7 hW k7 h7 => ?_⟩
                      have hW7 := k7 _ _ hW6
                      have pp7 := pd_mono (fun _ _ q => stpV.up q (Ty.of k7)) pp6
                      have k27 := k26.trans k7
                      have lwz : (wordsOf y).length ≤ 101 := Nat.le_trans (words_len y) (by omega)
                      refine ⟨W, rfl, ⟨_, SqL.of h7⟩, ?_⟩
                      refine (rd_clL (xs := (wordsOf y).map V.str) (SqL.of h7) (fun D c H' => Same H7 H' ∧ ∃ ys, H' D = some (.lst ys) ∧ Paired (stpV H') ys (((wordsOf y).map fun o => ((o, i, true) : Stp)).take c)) (fun D hD => ⟨(Same.refl H7).new (o := .lst []) hD, [], upd_same, .nil⟩) (fun D c H' hD _ h => SqL.of (h.1 _ _ h7)) (fun D c x H' hD hx hP => ?_) (fun D H' hD hP => ?_)).elim fun _ h => by cases h.1; exact h.2.2
                      · obtain ⟨k8, ys, hY, py⟩ := hP
                        rw [List.getElem?_map] at hx
                        obtain ⟨o, ho, rfl⟩ := Option.map_eq_some_iff.mp hx
                        refine rd_lcT1 ?_
                        walk_at "rd"
                        intro q hq
                        have k9 := (Same.refl H').new (o := .tup [.str o, .int (i : Int), .bl true]) hq
                        have hY9 := k9 _ _ hY
                        have hq9 : upd H' q (.tup [.str o, .int (i : Int), .bl true]) q = some (.tup [.str o, .int (i : Int), .bl true]) := upd_same
                        have py9 := pd_mono (fun _ _ q => stpV.up q (Ty.of k9)) py
                        have k89 := k8.trans k9
                        generalize upd H' q (.tup [.str o, .int (i : Int), .bl true]) = H9 at k89 hY9 hq9 py9 ⊢
                        have ty : Ty H9 (upd H9 D (.lst (ys ++ [.ref q]))) := (Ty.refl H9).lst hY9
                        have ly := Paired.length py9
                        rw [List.length_take, List.length_map] at ly
                        refine ⟨ys, hY9, szLt (by omega), k89.put hD, _, upd_same, ?_⟩
                        rw [List.take_add_one, List.getElem?_map, ho]
                        exact pd_snoc (pd_mono (fun _ _ q => stpV.up q ty) py9) ⟨q, rfl, ty.t _ _ hq9⟩
                      · obtain ⟨k8, ys, hY, py⟩ := hP
                        rw [List.length_map, List.take_of_length_le (by rw [List.length_map]; exact Nat.le_refl _)] at py
                        have hW8 := k8 _ _ hW7
                        have pp8 := pd_mono (fun _ _ q => stpV.up q (Ty.of k8)) pp7
                        have k28 := k27.trans k8
                        have ly := Paired.length py
                        have lc := Paired.length pp8
                        rw [List.length_map] at ly
                        walk_at "rd"
                        refine rd_cat hY hW8 (szOk (by omega)) fun R hR => ?_
                        have k9 := (Same.refl H').new (o := .lst (ys ++ cs)) hR
                        have k29 := k28.trans k9
                        have hR9 : upd H' R (.lst (ys ++ cs)) R = some (.lst (ys ++ cs)) := upd_same
                        have pp9 := pd_mono (fun _ _ q => stpV.up q (Ty.of k9)) (pd_app py pp8)
                        generalize upd H' R (.lst (ys ++ cs)) = H9 at k29 hR9 pp9 ⊢
                        have end_ : ∀ (σ : St) (H' : Hp) (j' : Nat), H' = H9 → j' = startAt j y → (∃ x8 x9 x10 x11 x12 x13 x14 x15, σ = [some (.ref a), some (.int (here : Nat)), some (.str z), some (.bl f), some (.int (j' : Nat)), some (.ref A), some (.ref R), some (.int ((n : Int) + 1)), x8, x9, x10, x11, x12, x13, x14, x15]) → ∃ m', m' < (21 - n) * 200 + ((w, i, true) :: zs).length ∧ ∃ (n : Nat) (zs : List Stp) (j : Nat) (p : Addr) (ys : List V) (x8 x9 x10 x11 x12 x13 x14 x15 : Option V), m' = (21 - n) * 200 + zs.length ∧ n ≤ 20 ∧ zs.length ≤ 150 + 101 * n ∧ j < s.length ∧ Same H H' ∧ H' p = some (.lst ys) ∧ Paired (stpV H') ys zs ∧ (∀ r, Walks s j zs n r → Leads s here z f r) ∧
                            σ = [some (.ref a), some (.int (here : Nat)), some (.str z), some (.bl f), some (.int (j : Nat)), some (.ref A), some (.ref p), some (.int (n : Nat)), x8, x9, x10, x11, x12, x13, x14, x15] := by
                          rintro σ H' j' rfl rfl ⟨_, _, _, _, _, _, _, _, rfl⟩
                          refine ⟨(21 - (n + 1)) * 200 + ((wordsOf y).map (fun o => ((o, i, true) : Stp)) ++ zs).length, ?_, n + 1, (wordsOf y).map (fun o => ((o, i, true) : Stp)) ++ zs, startAt j y, R, ys ++ cs, _, _, _, _, _, _, _, _, rfl, by omega, ?_, ?_, k29, hR9, pp9, fun r h => back _ (.sign rj hu' hh' hen hnd (by omega) h), rfl⟩
                          · rw [List.length_append, List.length_map, List.length_cons]
                            omega
                          · rw [List.length_append, List.length_map]
                            omega
                          · unfold startAt
                            split <;> omega
                        walk_at "rd"
                        rw [start_dec]
                        by_cases hs1 : (tl y).take 1 = [47]
                        · rw [decide_eq_true hs1]
                          walk_at "rd"
                          exact end_ _ _ 0 rfl (by unfold startAt; rw [if_pos hs1]) ⟨_, _, _, _, _, _, _, _, rfl⟩
                        · rw [decide_eq_false hs1]
                          walk_at "rd"
                          exact end_ _ _ j rfl (by unfold startAt; rw [if_neg hs1]) ⟨_, _, _, _, _, _, _, _, rfl⟩

/-! ### names of nodes -/
inductive Way (s : Sto) : Nat → Str → Prop
  | root : Way s 0 ""
  | step {r j : Nat} {p : Str} {e : Str × Nat} : Way s r p → e ∈ entsAt s r → e.2 = j → roomAt s j → Way s j (p ++ "/" ++ e.1)
theorem Way.room {s : Sto} (wf : Wf s) {j : Nat} {p : Str} (h : Way s j p) : roomAt s j := by
  cases h with
  | root => exact wf.root
  | step _ _ _ h => exact h
theorem Way.one {s : Sto} (wf : Wf s) {j : Nat} {p : Str} (h : Way s j p) : ∀ {q : Str}, Way s j q → p = q := by
  have nz : ∀ {r : Nat} {e : Str × Nat}, e ∈ entsAt s r → roomAt s e.2 → e.2 ≠ 0 := fun he hr => (wf.one _ _ _ _ he he rfl hr).1
  induction h with
  | root =>
    intro q h'
    cases h' with
    | root => rfl
    | step _ he e hr => exact absurd e (nz he (by rw [e]; exact hr))
  | @step r j p e h1 he ej hr ih =>
    intro q h'
    cases h' with
    | root => exact absurd ej (nz he (by rw [ej]; exact hr))
    | @step r' _ p' e' h2 he' ej' _ =>
      obtain ⟨_, e1, e2⟩ := wf.one _ _ _ _ he he' (ej.trans ej'.symm) (by rw [ej]; exact hr)
      subst e1
      subst e2
      rw [ih h2]
open Classical in
noncomputable def wayOf (s : Sto) (r : Nat) : Str := if h : ∃ p, Way s r p then h.choose else ""
theorem wayOf_eq {s : Sto} (wf : Wf s) {r : Nat} {p : Str} (h : Way s r p) : wayOf s r = p := by
  have e : ∃ p, Way s r p := ⟨p, h⟩
  unfold wayOf
  rw [dif_pos e]
  exact Way.one wf e.choose_spec h
def hitsE (k : Nat) (p : Str) (es : List (Str × Nat)) : List Str := (es.filter fun e => decide (e.2 = k)).map fun e => p ++ "/" ++ e.1
def kidsE (s : Sto) (p : Str) (es : List (Str × Nat)) : List (Nat × Str) := (es.filter fun e => isRoom (s.getD e.2 none)).map fun e => (e.2, p ++ "/" ++ e.1)
theorem hits_snoc {k : Nat} {p : Str} {es : List (Str × Nat)} {e : Str × Nat} : hitsE k p (es ++ [e]) = hitsE k p es ++ (if e.2 = k then [p ++ "/" ++ e.1] else []) := by
  unfold hitsE
  rw [List.filter_append, List.map_append]
  congr 1
  by_cases h : e.2 = k
  · rw [if_pos h, List.filter_cons_of_pos (by exact decide_eq_true h)]
    rfl
  · rw [if_neg h, List.filter_cons_of_neg (by rw [decide_eq_false h]; decide)]
    rfl
theorem kids_snoc {s : Sto} {p : Str} {es : List (Str × Nat)} {e : Str × Nat} : kidsE s p (es ++ [e]) = kidsE s p es ++ (if isRoom (s.getD e.2 none) = true then [(e.2, p ++ "/" ++ e.1)] else []) := by
  unfold kidsE
  rw [List.filter_append, List.map_append]
  congr 1
  by_cases h : isRoom (s.getD e.2 none) = true
  · rw [if_pos h, List.filter_cons_of_pos (by exact h)]
    rfl
  · rw [if_neg h, List.filter_cons_of_neg (by exact h)]
    rfl
theorem room_of {s : Sto} {k : Nat} (h : roomAt s k) : isRoom (s.getD k none) = true := by
  obtain ⟨es, e⟩ := h
  rw [List.getD_eq_getElem?_getD, e]
  rfl
noncomputable def allHits (s : Sto) (k : Nat) : List Str := ((List.range s.length).filter fun r => isRoom (s.getD r none)).flatMap fun r => hitsE k (wayOf s r) (entsAt s r)
def srtS (zs : List Str) : List Str := zs.mergeSort (PySem.W.dataLe false fun z : Str => PyData.str z)
theorem srtS_perm {zs ws : List Str} (h : zs.Perm ws) : srtS zs = srtS ws := by
  have tot : PySem.W.TotalLe (PySem.W.dataLe false fun z : Str => PyData.str z) := PySem.W.sortLe_total _ false _
  refine List.Perm.eq_of_pairwise (le := fun a b => PySem.W.dataLe false (fun z : Str => PyData.str z) a b = true) (fun a b _ _ h1 h2 => ?_) (PySem.W.sort_pairwise tot _) (PySem.W.sort_pairwise tot _) (((List.mergeSort_perm zs _).trans h).trans (List.mergeSort_perm ws _).symm)
  rw [PySem.W.dataLe_str (fun z : Str => z)] at h1 h2
  have h1 : tl a ≤ tl b := of_decide_eq_true h1
  have h2 : tl b ≤ tl a := of_decide_eq_true h2
  exact str_ext (List.le_antisymm h1 h2)
noncomputable def namesL (s : Sto) (k : Nat) : List Str := if k = 0 then ["/"] else srtS (allHits s k)
/-- rooms that were gone through, rooms that wait, paths that were found -/
structure Seen (s : Sto) (k : Nat) (E : List Nat) (W : List (Nat × Str)) (F : List Str) : Prop where
  way : ∀ x ∈ W, Way s x.1 x.2 ∧ x.2.length ≤ 13 * E.length
  er : ∀ r ∈ E, roomAt s r
  nd : (E ++ W.map (·.1)).Nodup
  root : 0 ∈ E ++ W.map (·.1)
  kids : ∀ r ∈ E, ∀ e ∈ entsAt s r, roomAt s e.2 → e.2 ∈ E ++ W.map (·.1)
  par : ∀ j ∈ E ++ W.map (·.1), j = 0 ∨ ∃ r ∈ E, ∃ e ∈ entsAt s r, e.2 = j
  hits : F.Perm (E.flatMap fun r => hitsE k (wayOf s r) (entsAt s r))
section
variable {s : Sto} {k r : Nat} {p : Str} {E : List Nat} {W W' : List (Nat × Str)} {F : List Str}
theorem Seen.init : Seen s k [] [(0, "")] [] where
  way := fun x h => by
    rw [List.mem_singleton.mp h]
    exact ⟨.root, by decide +kernel⟩
  er := fun _ h => nomatch h
  nd := List.nodup_cons.mpr ⟨List.not_mem_nil, List.nodup_nil⟩
  root := List.mem_singleton.mpr rfl
  kids := fun _ h => nomatch h
  par := fun j h => .inl (List.mem_singleton.mp h)
  hits := .nil
theorem Seen.perm (h : Seen s k E W F) (q : W.Perm W') : Seen s k E W' F := by
  have e : (E ++ W.map (·.1)).Perm (E ++ W'.map (·.1)) := (q.map _).append_left E
  exact ⟨fun x hx => h.way x (q.mem_iff.mpr hx), h.er, e.nodup_iff.mp h.nd, e.mem_iff.mp h.root, fun r hr e' he hr' => e.mem_iff.mp (h.kids r hr e' he hr'), fun j hj => h.par j (e.mem_iff.mpr hj), h.hits⟩
theorem Seen.next (wf : Wf s) (h : Seen s k E ((r, p) :: W) F) : Seen s k (r :: E) (W ++ kidsE s p (entsAt s r)) (F ++ hitsE k p (entsAt s r)) := by
  obtain ⟨hw, hl⟩ := h.way (r, p) List.mem_cons_self
  have hl : p.length ≤ 13 * E.length := hl
  have rE : r ∉ E := fun q => (List.nodup_append.mp h.nd).2.2 r q r List.mem_cons_self rfl
  have perm : (E ++ r :: W.map (·.1)).Perm (r :: E ++ W.map (·.1)) := List.perm_middle
  have mK : ∀ x ∈ kidsE s p (entsAt s r), ∃ e ∈ entsAt s r, roomAt s e.2 ∧ x = (e.2, p ++ "/" ++ e.1) := by
    intro x hx
    obtain ⟨e, he, rfl⟩ := List.mem_map.mp hx
    obtain ⟨h1, h2⟩ := List.mem_filter.mp he
    exact ⟨e, h1, room_is h2, rfl⟩
  have memK : ∀ e ∈ entsAt s r, roomAt s e.2 → e.2 ∈ (kidsE s p (entsAt s r)).map (·.1) := fun e he hr => List.mem_map.mpr ⟨_, List.mem_map.mpr ⟨e, List.mem_filter.mpr ⟨he, room_of hr⟩, rfl⟩, rfl⟩
  have old : ∀ j ∈ E ++ r :: W.map (·.1), j = 0 ∨ ∃ r ∈ E, ∃ e ∈ entsAt s r, e.2 = j := h.par
  refine ⟨fun x hx => ?_, fun j hj => ?_, ?_, ?_, fun j hj e he hr => ?_, fun j hj => ?_, ?_⟩
  · rw [List.length_cons]
    rcases List.mem_append.mp hx with hx | hx
    · obtain ⟨a, b⟩ := h.way x (List.mem_cons_of_mem _ hx)
      exact ⟨a, by omega⟩
    · obtain ⟨e, he, hr, rfl⟩ := mK x hx
      refine ⟨.step hw he rfl hr, ?_⟩
      have el : e.1.length ≤ 12 := by
        obtain ⟨es, hes⟩ := Way.room wf hw
        rw [entsAt_room hes] at he
        exact (entB_len ((wf.nodes _ (List.mem_of_getElem? hes)).1 e he).1).2
      have l1 : ("/" : Str).length = 1 := by decide +kernel
      show (p ++ "/" ++ e.1).length ≤ _
      rw [len_app, len_app, l1]
      omega
  · rcases List.mem_cons.mp hj with rfl | hj
    · exact Way.room wf hw
    · exact h.er j hj
  · rw [List.map_append, ← List.append_assoc]
    refine List.nodup_append.mpr ⟨perm.nodup_iff.mp h.nd, ?_, fun a ha b hb e => ?_⟩
    · rw [List.nodup_iff_pairwise_ne, List.pairwise_map]
      unfold kidsE
      rw [List.pairwise_map]
      refine ((wf.up r).filter _).imp_of_mem fun {a b} ha hb lt e => ?_
      obtain ⟨a1, a2⟩ := List.mem_filter.mp ha
      obtain ⟨b1, _⟩ := List.mem_filter.mp hb
      rw [(wf.one r r a b a1 b1 e (room_is a2)).2.2] at lt
      exact List.lt_irrefl _ lt
    · subst e
      obtain ⟨x, hx, rfl⟩ := List.mem_map.mp hb
      obtain ⟨e, he, hr, rfl⟩ := mK x hx
      rcases old _ (perm.mem_iff.mpr ha) with h0 | ⟨r', hr', e', he', ej⟩
      · exact (wf.one r r e e he he rfl hr).1 h0
      · have := (wf.one r r' e e' he he' ej.symm hr).2.1
        exact rE (this ▸ hr')
  · rw [List.map_append, ← List.append_assoc]
    exact List.mem_append_left _ (perm.mem_iff.mp h.root)
  · rw [List.map_append, ← List.append_assoc]
    rcases List.mem_cons.mp hj with rfl | hj
    · exact List.mem_append_right _ (memK e he hr)
    · exact List.mem_append_left _ (perm.mem_iff.mp (h.kids j hj e he hr))
  · rw [List.map_append, ← List.append_assoc] at hj
    rcases List.mem_append.mp hj with hj | hj
    · exact (old j (perm.mem_iff.mpr hj)).imp id fun ⟨r', hr', q⟩ => ⟨r', List.mem_cons_of_mem _ hr', q⟩
    · obtain ⟨x, hx, rfl⟩ := List.mem_map.mp hj
      obtain ⟨e, he, _, rfl⟩ := mK x hx
      exact .inr ⟨r, List.mem_cons_self, e, he, rfl⟩
  · rw [List.flatMap_cons, wayOf_eq wf hw]
    exact (h.hits.append_right _).trans List.perm_append_comm
theorem Seen.less (wf : Wf s) (h : Seen s k E ((r, p) :: W) F) : E.length < s.length := by
  have := few_nats s.length (ks := r :: E) (List.nodup_cons.mpr ⟨fun q => (List.nodup_append.mp h.nd).2.2 r q r List.mem_cons_self rfl, (List.nodup_append.mp h.nd).1⟩) fun j hj => by
    rcases List.mem_cons.mp hj with rfl | hj
    · exact room_lt (Way.room wf (h.way (j, p) List.mem_cons_self).1)
    · exact room_lt (h.er j hj)
  rw [List.length_cons] at this
  omega
theorem Seen.done (wf : Wf s) (h : Seen s k E [] F) : F.Perm (allHits s k) := by
  have hk : ∀ j, FoundS s E j → roomAt s j → j ∈ E := by
    intro j hj hr
    rcases hj with rfl | ⟨r, hr', e, he, rfl⟩
    · simpa using h.root
    · simpa using h.kids r hr' e he hr
  have nd : E.Nodup := by simpa using h.nd
  refine h.hits.trans (List.Perm.flatMap_right _ ?_)
  refine (List.perm_ext_iff_of_nodup nd (List.Nodup.sublist List.filter_sublist List.nodup_range)).mpr fun j => ?_
  rw [List.mem_filter, List.mem_range]
  constructor
  · intro hj
    exact ⟨room_lt (h.er j hj), room_of (h.er j hj)⟩
  · rintro ⟨_, hr⟩
    obtain ⟨es, hes⟩ := room_is hr
    exact hk j (found_all wf hk hes) ⟨es, hes⟩
end
def rowV (H : Hp) (v : V) (x : Nat × Str) : Prop := ∃ t, v = .ref t ∧ Rt H t [.int x.1, .str x.2]
theorem rowV.up {H H' : Hp} {v : V} {x : Nat × Str} (h : rowV H v x) (k : Ty H H') : rowV H' v x := let ⟨t, e, q⟩ := h; ⟨t, e, q.up k⟩
theorem same_free {H H' : Hp} {a : Addr} (k : Same H H') (h : H' a = none) : H a = none := by
  cases e : H a with
  | none => rfl
  | some o => rw [k a o e] at h; cases h
theorem flat_len {α β : Type} {f : α → List β} {c : Nat} : ∀ {l : List α}, (∀ x ∈ l, (f x).length ≤ c) → (l.flatMap f).length ≤ c * l.length
  | [], _ => Nat.zero_le _
  | x :: l, h => by
    rw [List.flatMap_cons, List.length_append, List.length_cons]
    have h1 := h x List.mem_cons_self
    have h2 := flat_len (l := l) fun y hy => h y (List.mem_cons_of_mem _ hy)
    rw [Nat.mul_succ]
    omega
theorem names_len {s : Sto} (wf : Wf s) {k : Nat} : (namesL s k).length ≤ 60000 := by
  unfold namesL
  split
  · show 1 ≤ 60000
    decide
  · unfold srtS allHits
    rw [List.length_mergeSort]
    have l2 := wf.l2
    have h := flat_len (f := fun r => hitsE k (wayOf s r) (entsAt s r)) (c := 1000) (l := (List.range s.length).filter fun r => isRoom (s.getD r none)) fun r _ => by
      unfold hitsE
      rw [List.length_map]
      exact Nat.le_trans (List.length_filter_le _ _) (wf.few r)
    have h2 := List.length_filter_le (fun r => isRoom (s.getD r none)) (List.range s.length)
    rw [List.length_range] at h2
    omega

def nodeAt (s : Sto) (k : Nat) : Option Nat := match s[k]? with
  | some (some _) => some k
  | _ => none
def namesOk (s : Sto) : V → Option Nat
  | .int i => if 0 ≤ i then nodeAt s i.toNat else none
  | _ => none
theorem namesOk_nat {s : Sto} {k : Nat} : namesOk s (.int (k : Int)) = nodeAt s k := by
  show (if (0 : Int) ≤ (k : Int) then nodeAt s (k : Int).toNat else none) = _
  rw [if_pos (Int.natCast_nonneg k)]
  rfl
theorem nodeAt_none {s : Sto} {k : Nat} (h : s.length ≤ k) : nodeAt s k = none := by
  unfold nodeAt
  rw [List.getElem?_eq_none h]
theorem nodeAt_gap {s : Sto} {k : Nat} (h : s[k]? = some none) : nodeAt s k = none := by
  unfold nodeAt
  rw [h]
theorem nodeAt_some {s : Sto} {k : Nat} {n : Nd} (h : s[k]? = some (some n)) : nodeAt s k = some k := by
  unfold nodeAt
  rw [h]
def RowsAt (H : Hp) (p : Addr) (W : List (Nat × Str)) : Prop := ∃ xs, H p = some (.lst xs) ∧ Paired (rowV H) xs W
theorem RowsAt.same {H H' : Hp} {p : Addr} {W : List (Nat × Str)} (h : RowsAt H p W) (k : Same H H') : RowsAt H' p W := let ⟨xs, a, b⟩ := h; ⟨xs, k _ _ a, pd_mono (fun _ _ q => rowV.up q (Ty.of k)) b⟩
theorem srt_strs {F : List Str} : (((F.map fun z => (V.str z, PyData.str z)).mergeSort (PySem.W.dataLe false (·.2))).map (·.1)) = (srtS F).map V.str := by
  have e1 : PySem.W.EachIs (fun (p : V × PyData) (z : Str) => p = (V.str z, PyData.str z)) (F.map fun z => (V.str z, PyData.str z)) F := by
    induction F with
    | nil => exact .nil
    | cons z F ih => exact .cons rfl ih
  have e2 := PySem.W.sort_each (r := PySem.W.dataLe false fun b : V × PyData => b.2) (s := PySem.W.dataLe false fun z : Str => PyData.str z) e1 fun x hx y hy => by
    rw [PySem.W.dataLe_eq, PySem.W.dataLe_eq]
    show cond false _ _ = cond false _ _
    rw [e1.zip x hx, e1.zip y hy]
  unfold srtS
  revert e2
  generalize (F.map fun z => (V.str z, PyData.str z)).mergeSort (PySem.W.dataLe false fun b : V × PyData => b.2) = as
  generalize F.mergeSort (PySem.W.dataLe false fun z : Str => PyData.str z) = bs
  intro e2
  induction e2 with
  | nil => rfl
  | cons h _ ih => rw [List.map_cons, List.map_cons, ih, h]
def Φ_names_of (K : PySem.W.Frag) (mg : Str → Option Value) (vs vn : V) (H : Hp) (Q : VK) (E : XK) : Prop := ∃ s, StAt H vs s ∧ Wf s ∧ KV vn ∧
  (∀ k, namesOk s vn = some k → ∀ D H', H D = none → Same H H' → H' D = some (.lst ((namesL s k).map V.str)) → Q (.ref D) H') ∧ (namesOk s vn = none → ∀ C H', mg "InvalidIndex" = some (.ref C) → Same H H' → E (.ref C) none H')
def Φ_last_index (K : PySem.W.Frag) (v : V) (H : Hp) (Q : VK) : Prop := ∃ z : Str, v = .str z ∧ z.length ≤ 1000 ∧ ∀ H', Same H H' → Q (.int (((wordsOf z).length - 1 : Nat) : Int)) H'
theorem last_max {n : Nat} : max (0 : Int) ((n : Int) - 1) = ((n - 1 : Nat) : Int) := by omega
theorem ok_last_index (T : Txt P K mg) {f : Addr} {fd : FuncData} (F : Fun K "last_index" "last_index" s_last_index f fd) : Keeps P w K mg base CX0 2 f fd ["path"] (sp1 (Φ_last_index K)) := by
  have c_words_of := cal (P := P) (w := w) (base := base) T.d_words_of fun F => ok_words_of T F
  refine keeps0_of F sc_last_index (fun vs H Q E h => ?_) (fun cdv A outer s H vs Q E hr h => ?_)
  · obtain ⟨_, rfl, _⟩ := h
    rfl
  obtain ⟨v_path, rfl, h⟩ := h
  have hu := hr.hu
  refine ⟨_, (pss_one (ps_ret (pe_callB (call_maxX rfl) (by rfl) T.b_max (by decide +kernel) (pa_cons pe_int (pa_cons (pe_op oSub (pe_callB (call_lenX (K := K)) (by rfl) T.b_len (by decide +kernel) (pa_cons (pe_cal c_words_of (hr.mono (by decide)) (by rfl) pass0 (pa_cons (pv 0) pa_nil)) pa_nil)) pe_int) pa_nil))))), ?_⟩
  rw [show start ["path"] [v_path] = [some v_path] from rfl]
  try dsimp only [cxOf, Cx.nox, Cx.wish]
  obtain ⟨z, rfl, hz, q⟩ := h
  walk_at "rd"
  refine ⟨z, rfl, hz, fun D H1 hD k1 h1 => ?_⟩
  walk_at "rd"
  refine rd_lenL (SqL.of h1) ?_
  walk_at "rd"
  rw [List.length_map, last_max]
  exact q H1 k1
/-- the end of a path must be a room -/
def fixR (s : Sto) (z : Str) : Res → Res
  | .node k => if isRoom (s.getD k none) = true then .node k else .room ((wordsOf z).length - 1)
  | r => r
def Told (s : Sto) (here : Nat) (z : Str) (r : Res) : Prop := ∃ r0, Leads s here z true r0 ∧ fixR s z r0 = r
theorem Told.one {s : Sto} {here : Nat} {z : Str} {r r' : Res} (h : Told s here z r) (h' : Told s here z r') : r = r' := by
  obtain ⟨a, h1, rfl⟩ := h
  obtain ⟨b, h2, rfl⟩ := h'
  rw [Walks.one h1 h2]
theorem Walks.lt {s : Sto} (wf : Wf s) {k : Nat} {ws : List Stp} {n : Nat} {r : Res} (h : Walks s k ws n r) : k < s.length → ∀ j, r = .node j → j < s.length := by
  have l1 := wf.l1
  induction h with
  | done => intro hk j e; cases e; exact hk
  | noroom _ => intro _ j e; cases e
  | above _ _ _ ih => intro _ j e; exact ih (parent_lt l1 _) j e
  | here _ _ _ ih => intro hk j e; exact ih hk j e
  | none _ _ _ _ => intro _ j e; cases e
  | go _ _ _ he _ _ ih =>
    intro _ j e
    obtain ⟨nd, hn⟩ := wf.there _ _ (entry_some he)
    exact ih (List.getElem?_eq_some_iff.mp hn).1 j e
  | many _ _ _ _ _ _ => intro _ j e; cases e
  | sign _ _ _ _ _ _ _ ih =>
    intro hk j e
    refine ih ?_ j e
    unfold startAt
    split
    · exact l1
    · exact hk
def Φ_room_at (K : PySem.W.Frag) (mg : Str → Option Value) (vs vh vp : V) (H : Hp) (Q : VK) (E : XK) : Prop := ∃ (s : Sto) (here : Nat) (z : Str), StAt H vs s ∧ Wf s ∧ vh = .int here ∧ here < s.length ∧ vp = .str z ∧ pathB (.str z) = true ∧ resQ mg H Q E (Told s here z)
def Φ_entries_of (K : PySem.W.Frag) (mg : Str → Option Value) (vs vh vp : V) (H : Hp) (Q : VK) (E : XK) : Prop := ∃ (s : Sto) (here : Nat) (z : Str), StAt H vs s ∧ Wf s ∧ vh = .int here ∧ roomAt s here ∧ vp = .str z ∧ pathB (.str z) = true ∧
  (∀ j es D H', Same H H' → Told s here z (.node j) → s[j]? = some (some (.room es)) → H' D = some (.lst (es.map fun e => V.str e.1)) → Q (.ref D) H') ∧
  (∀ i H' C d, Same H H' → Told s here z (.room i) → mg "NotRoom" = some (.ref C) → H' d = some (.xd [("index", .int (i : Nat))]) → E (.ref C) (some d) H') ∧
  (∀ i H' C d, Same H H' → Told s here z (.entry i) → mg "NoEntry" = some (.ref C) → H' d = some (.xd [("index", .int (i : Nat))]) → E (.ref C) (some d) H') ∧
  (∀ H' C d, Same H H' → Told s here z .signs → mg "TooManySigns" = some (.ref C) → H' d = some (.xd [("limit", .int 20)]) → E (.ref C) (some d) H')
theorem told_room {s : Sto} {here j : Nat} {z : Str} (h : Told s here z (.node j)) : roomAt s j := by
  obtain ⟨r0, _, e⟩ := h
  cases r0 with
  | node k =>
    have e : (if isRoom (s.getD k none) = true then Res.node k else Res.room ((wordsOf z).length - 1)) = Res.node j := e
    cases hr : isRoom (s.getD k none) with
    | true =>
      rw [hr, if_pos rfl] at e
      cases e
      exact room_is hr
    | false =>
      rw [hr, if_neg (by decide)] at e
      cases e
  | room i => cases e
  | entry i => cases e
  | signs => cases e


/-! ### errors of deeds, places -/
inductive Er where
  | room (i : Nat)
  | entry (i : Nat)
  | plain (i : Nat)
  | exist (i : Nat)
  | signs
  | large
  | isroom
  | nofile
  | full
  | inside
def Er.nm : Er → Str
  | .room _ => "NotRoom"
  | .entry _ => "NoEntry"
  | .plain _ => "NotPlain"
  | .exist _ => "Exists"
  | .signs => "TooManySigns"
  | .large => "TooLarge"
  | .isroom => "IsRoom"
  | .nofile => "NotFile"
  | .full => "NotEmpty"
  | .inside => "Inside"
def Er.At (H : Hp) (d : Option Addr) : Er → Prop
  | .room i => ∃ a, d = some a ∧ H a = some (.xd [("index", .int (i : Nat))])
  | .entry i => ∃ a, d = some a ∧ H a = some (.xd [("index", .int (i : Nat))])
  | .plain i => ∃ a, d = some a ∧ H a = some (.xd [("index", .int (i : Nat))])
  | .exist i => ∃ a, d = some a ∧ H a = some (.xd [("index", .int (i : Nat))])
  | .signs => ∃ a, d = some a ∧ H a = some (.xd [("limit", .int 20)])
  | .large => ∃ a, d = some a ∧ H a = some (.xd [("limit", .int 60)])
  | _ => d = none
def Res.er : Res → Option Er
  | .node _ => none
  | .room i => some (.room i)
  | .entry i => some (.entry i)
  | .signs => some .signs
/-- what is raised -/
def erQ (mg : Str → Option Value) (H : Hp) (E : XK) (R : Er → Prop) : Prop := ∀ (e : Er) (H' : Hp) (C : Addr) (d : Option Addr), Same H H' → R e → mg e.nm = some (.ref C) → e.At H' d → E (.ref C) d H'
theorem resQ_of {mg : Str → Option Value} {H : Hp} {Q : VK} {E : XK} {R : Res → Prop} (q1 : ∀ j H', Same H H' → R (.node j) → Q (.int (j : Nat)) H') (q2 : erQ mg H E fun e => ∃ r, R r ∧ r.er = some e) : resQ mg H Q E R :=
  ⟨q1, fun i H' C d k h g x => q2 (.room i) H' C (some d) k ⟨_, h, rfl⟩ g ⟨d, rfl, x⟩, fun i H' C d k h g x => q2 (.entry i) H' C (some d) k ⟨_, h, rfl⟩ g ⟨d, rfl, x⟩, fun H' C d k h g x => q2 .signs H' C (some d) k ⟨_, h, rfl⟩ g ⟨d, rfl, x⟩⟩
theorem errs_of {mg : Str → Option Value} {H : Hp} {E : XK} {R : Res → Prop} (q2 : erQ mg H E fun e => ∃ r, R r ∧ r.er = some e) :
    (∀ i H' C d, Same H H' → R (.room i) → mg "NotRoom" = some (.ref C) → H' d = some (.xd [("index", .int (i : Nat))]) → E (.ref C) (some d) H') ∧
    (∀ i H' C d, Same H H' → R (.entry i) → mg "NoEntry" = some (.ref C) → H' d = some (.xd [("index", .int (i : Nat))]) → E (.ref C) (some d) H') ∧
    (∀ H' C d, Same H H' → R .signs → mg "TooManySigns" = some (.ref C) → H' d = some (.xd [("limit", .int 20)]) → E (.ref C) (some d) H') := (resQ_of (Q := fun _ _ => True) (fun _ _ _ _ => trivial) q2).2
theorem erQ.up {mg : Str → Option Value} {H H1 : Hp} {E : XK} {R R' : Er → Prop} (q : erQ mg H E R) (k : Same H H1) (h : ∀ e, R' e → R e) : erQ mg H1 E R' := fun e H' C d k' r g x => q e H' C d (k.trans k') (h e r) g x
inductive Plc where
  | at_ (r : Nat) (w : Str)
  | no (e : Er)
def endB (w : Str) : Bool := !(w == "." || w == "..")
def lastW (z : Str) : Str := (wordsOf z).getLast?.getD "."
def plainE (z : Str) : Bool := !(wordsOf z).isEmpty && endB (lastW z)
def lastI (z : Str) : Nat := (wordsOf z).length - 1
def fixD (s : Sto) (i : Nat) : Res → Res
  | .node k => if isRoom (s.getD k none) = true then .node k else .room i
  | r => r
def plcR (w : Str) : Res → Plc
  | .node k => .at_ k w
  | .room i => .no (.room i)
  | .entry i => .no (.entry i)
  | .signs => .no .signs
/-- the place that a path means -/
def Place (s : Sto) (here : Nat) (z : Str) (p : Plc) : Prop :=
  if plainE z = true then ∃ r, Walks s (startAt here z) (stepsOf (wordsOf z).dropLast true) 0 r ∧ p = plcR (lastW z) (fixD s (lastI z) r) else p = .no (.plain (lastI z))
theorem Place.one {s : Sto} {here : Nat} {z : Str} {p p' : Plc} (h : Place s here z p) (h' : Place s here z p') : p = p' := by
  unfold Place at h h'
  split at h
  · next e =>
    rw [if_pos e] at h'
    obtain ⟨r, h1, rfl⟩ := h
    obtain ⟨r', h2, rfl⟩ := h'
    rw [Walks.one h1 h2]
  · next e =>
    rw [if_neg e] at h'
    rw [h, h']
def dotS (i : Nat) : Stp := (".", i, true)
theorem walks_dot {s : Sto} {k : Nat} {ws : List Stp} {n : Nat} {r : Res} (h : Walks s k ws n r) (i : Nat) : Walks s k (ws ++ [dotS i]) n (fixD s i r) := by
  induction h with
  | @done at_ n =>
    show Walks s at_ [dotS i] n (if isRoom (s.getD at_ none) = true then .node at_ else .room i)
    cases e : isRoom (s.getD at_ none) with
    | true => exact .here (room_is e) rfl .done
    | false => exact .noroom (room_not e)
  | noroom h => exact .noroom h
  | above h1 h2 _ ih => exact .above h1 h2 ih
  | here h1 h2 _ ih => exact .here h1 h2 ih
  | none h1 h2 h3 h4 => exact .none h1 h2 h3 h4
  | go h1 h2 h3 h4 h5 _ ih => exact .go h1 h2 h3 h4 h5 ih
  | many h1 h2 h3 h4 h5 h6 => exact .many h1 h2 h3 h4 h5 h6
  | sign h1 h2 h3 h4 h5 h6 _ ih => exact .sign h1 h2 h3 h4 h5 h6 (by
    have e : ∀ (a b c : List Stp), a ++ (b ++ c) = a ++ b ++ c := fun a b c => (List.append_assoc a b c).symm
    exact (e _ _ _).symm ▸ ih)
theorem steps_snoc {ws : List Str} {w : Str} : stepsOf (ws ++ [w]) true = stepsOf ws true ++ [(w, ws.length, true)] := by
  unfold stepsOf
  rw [List.mapIdx_append]
  congr 1
  show [(w, 0 + ws.length, true)] = _
  rw [Nat.zero_add]
theorem Place.at_room {s : Sto} {here k : Nat} {z w : Str} (h : Place s here z (.at_ k w)) : roomAt s k ∧ plainE z = true ∧ w = lastW z := by
  unfold Place at h
  split at h
  · next e =>
    obtain ⟨r, _, h2⟩ := h
    cases r with
    | node j =>
      have h2 : Plc.at_ k w = plcR (lastW z) (if isRoom (s.getD j none) = true then .node j else .room (lastI z)) := h2
      cases hj : isRoom (s.getD j none) with
      | true =>
        rw [hj, if_pos rfl] at h2
        cases h2
        exact ⟨room_is hj, e, rfl⟩
      | false =>
        rw [hj, if_neg (by decide)] at h2
        cases h2
    | room i => cases h2
    | entry i => cases h2
    | signs => cases h2
  · cases h
/-! ### the words of a path -/
theorem joinL_snoc (sp a : List Nat) : ∀ xs : List (List Nat), ∃ P, ∀ a, TL.joinL sp (xs ++ [a]) = P ++ a
  | [] => ⟨[], fun _ => rfl⟩
  | [x] => ⟨x ++ sp, fun a => by simp [TL.joinL]⟩
  | x :: y :: xs => by
    obtain ⟨P, h⟩ := joinL_snoc sp a (y :: xs)
    refine ⟨x ++ sp ++ P, fun a => ?_⟩
    have := h a
    simp only [TL.joinL, List.cons_append, List.append_assoc] at this ⊢
    rw [this]
theorem joinL_len {sp : List Nat} {xs : List (List Nat)} {a b : List Nat} (h : a.length ≤ b.length) : (TL.joinL sp (xs ++ [a])).length ≤ (TL.joinL sp (xs ++ [b])).length := by
  obtain ⟨P, hP⟩ := joinL_snoc sp [] xs
  rw [hP, hP, List.length_append, List.length_append]
  omega
theorem words_pre {ws : List Str} (hne : ws ≠ []) (hw : ∀ w ∈ ws, wordB w = true) {pre : Str} (hp : pre = "" ∨ pre = "/") : wordsOf (pre ++ Txt.join "/" ws) = ws := by
  have keep : ws.filter (fun w : Str => !decide (w = "")) = ws := List.filter_eq_self.mpr fun w h => by
    have := (word_len (hw w h)).1
    rw [decide_eq_false (show ¬ w = "" from fun e => by rw [e] at this; revert this; decide +kernel)]
    rfl
  have e0 : ("" : Str) ++ Txt.join "/" ws = Txt.join "/" ws := str_ext (by rw [tl_app, tl_nil]; rfl)
  unfold wordsOf
  rcases hp with rfl | rfl
  · rw [e0, split_words hne hw, keep]
  · have e1 : ("/" : Str) ++ Txt.join "/" ws = Txt.join "/" ("" :: ws) := by
      refine str_ext ?_
      rw [tl_app, TL.join_eq, TL.join_eq, TL.tl_join, TL.tl_join, List.map_cons, tl_nil]
      cases ws with
      | nil => exact absurd rfl hne
      | cons w ws => rfl
    rw [e1, TL.split_join (s := 47) (S := []) tl_slash (by decide +kernel) (List.cons_ne_nil _ _) (fun p hp => by
      rcases List.mem_cons.mp hp with rfl | hp
      · rw [tl_nil]; exact List.not_mem_nil
      · exact word_noslash (hw p hp)), List.filter_cons_of_neg (by decide +kernel), keep]
theorem join_head {ws : List Str} (hne : ws ≠ []) (hw : ∀ w ∈ ws, wordB w = true) : ∃ c r, tl (Txt.join "/" ws) = c :: r ∧ c ≠ 47 := by
  cases ws with
  | nil => exact absurd rfl hne
  | cons w ws =>
    obtain ⟨r, hr⟩ := join_tl (w := w) (ws := ws)
    have h := hw w List.mem_cons_self
    have l := (word_len h).1
    have nm := word_noslash h
    rw [hr]
    rw [← len_tl] at l
    cases e : tl w with
    | nil => rw [e] at l; cases l
    | cons c u => exact ⟨c, u ++ r, rfl, fun q => nm (by rw [e, q]; exact List.mem_cons_self)⟩
theorem start_pre {ws : List Str} (hne : ws ≠ []) (hw : ∀ w ∈ ws, wordB w = true) {k : Nat} : startAt k ("" ++ Txt.join "/" ws) = k ∧ startAt k ("/" ++ Txt.join "/" ws) = 0 := by
  obtain ⟨c, r, e, hc⟩ := join_head hne hw
  unfold startAt
  rw [tl_app, tl_app, tl_nil, tl_slash, e]
  refine ⟨if_neg fun q => ?_, if_pos rfl⟩
  cases q
  exact hc rfl
/-- what a path is -/
theorem path_form {z : Str} (h : pathB (.str z) = true) : z = "/" ∨ ∃ (pre : Str) (ws : List Str), (pre = "" ∨ pre = "/") ∧ ws ≠ [] ∧ (∀ w ∈ ws, wordB w = true) ∧ z = pre ++ Txt.join "/" ws := by
  rw [pathB_str, Bool.and_eq_true, Bool.or_eq_true] at h
  rcases h.2 with e | e
  · exact .inl (beq_iff_eq.mp e)
  · have hw : ∀ w ∈ Txt.split (restOf z) "/", wordB w = true := List.all_eq_true.mp e
    have hj : Txt.join "/" (Txt.split (restOf z) "/") = restOf z := by rw [TL.join_eq]; exact PySem.StrLaws.join_split _ _
    have l1 : 1 ≤ z.length := by
      have := h.1
      rw [Bool.and_eq_true] at this
      exact of_decide_eq_true this.1
    rw [← len_tl] at l1
    cases ez : tl z with
    | nil => rw [ez] at l1; cases l1
    | cons c r =>
      by_cases hne : Txt.split (restOf z) "/" = []
      · refine .inl ((rest_nil ez).mp ?_)
        rw [← hj, hne]
        rfl
      · right
        have er := rest_cons ez
        by_cases hc : (⟨#[c]⟩ : Str) = "/"
        · refine ⟨"/", _, .inr rfl, hne, hw, ?_⟩
          have e1 : tl (⟨#[c]⟩ : Str) = [c] := rfl
          have hc' : [c] = [47] := by rw [← e1, hc, tl_slash]
          rw [hj, er, if_pos hc]
          refine str_ext ?_
          rw [tl_app, tl_slash, show (1 : Int) = ((1 : Nat) : Int) from rfl, tl_drop, ez]
          cases hc'
          rfl
        · refine ⟨"", _, .inl rfl, hne, hw, ?_⟩
          rw [hj, er, if_neg hc]
          refine str_ext ?_
          rw [tl_app, tl_nil]
          rfl
theorem walks_undot {s : Sto} {i : Nat} {k : Nat} {zs : List Stp} {n : Nat} {r : Res} (h : Walks s k zs n r) : ∀ ws, zs = ws ++ [dotS i] → ∃ r0, Walks s k ws n r0 ∧ fixD s i r0 = r := by
  have hd : ∀ {w : Str} {j : Nat} {f : Bool} {zs : List Stp} {ws : List Stp}, (w, j, f) :: zs = ws ++ [dotS i] → (ws = [] ∧ zs = [] ∧ w = "." ∧ j = i ∧ f = true) ∨ ∃ ws', ws = (w, j, f) :: ws' ∧ zs = ws' ++ [dotS i] := by
    intro w j f zs ws e
    cases ws with
    | nil =>
      obtain ⟨e1, e2⟩ := List.cons.inj e
      cases e1
      exact .inl ⟨rfl, e2, rfl, rfl, rfl⟩
    | cons x ws =>
      obtain ⟨e1, e2⟩ := List.cons.inj e
      subst e1
      exact .inr ⟨ws, rfl, e2⟩
  have dd : ("." : Str) ≠ ".." := by decide +kernel
  induction h with
  | done =>
    intro ws e
    cases ws <;> cases e
  | @noroom at_ w j f zs n h =>
    intro ws e
    rcases hd e with ⟨rfl, _, _, rfl, _⟩ | ⟨ws', rfl, rfl⟩
    · refine ⟨.node at_, .done, if_neg fun q => h (room_is q)⟩
    · exact ⟨_, .noroom h, rfl⟩
  | above h1 h2 _ ih =>
    intro ws e
    rcases hd e with ⟨_, _, hw, _, _⟩ | ⟨ws', rfl, rfl⟩
    · exact absurd (hw.symm.trans h2) dd
    · obtain ⟨r0, a, b⟩ := ih ws' rfl
      exact ⟨r0, .above h1 h2 a, b⟩
  | @here at_ w j f zs n r h1 h2 hrest ih =>
    intro ws e
    rcases hd e with ⟨rfl, rfl, _, _, _⟩ | ⟨ws', rfl, rfl⟩
    · cases hrest
      exact ⟨.node at_, .done, if_pos (room_of h1)⟩
    · obtain ⟨r0, a, b⟩ := ih ws' rfl
      exact ⟨r0, .here h1 h2 a, b⟩
  | none h1 h2 h3 h4 =>
    intro ws e
    rcases hd e with ⟨_, _, hw, _, _⟩ | ⟨ws', rfl, rfl⟩
    · exact absurd hw h3
    · exact ⟨_, .none h1 h2 h3 h4, rfl⟩
  | go h1 h2 h3 h4 h5 _ ih =>
    intro ws e
    rcases hd e with ⟨_, _, hw, _, _⟩ | ⟨ws', rfl, rfl⟩
    · exact absurd hw h3
    · obtain ⟨r0, a, b⟩ := ih ws' rfl
      exact ⟨r0, .go h1 h2 h3 h4 h5 a, b⟩
  | many h1 h2 h3 h4 h5 h6 =>
    intro ws e
    rcases hd e with ⟨_, _, hw, _, _⟩ | ⟨ws', rfl, rfl⟩
    · exact absurd hw h3
    · exact ⟨_, .many h1 h2 h3 h4 h5 h6, rfl⟩
  | sign h1 h2 h3 h4 h5 h6 _ ih =>
    intro ws e
    rcases hd e with ⟨_, _, hw, _, _⟩ | ⟨ws', rfl, rfl⟩
    · exact absurd hw h3
    · obtain ⟨r0, a, b⟩ := ih _ (by rw [List.append_assoc])
      exact ⟨r0, .sign h1 h2 h3 h4 h5 h6 a, b⟩
theorem dot_path {init : List Str} {w : Str} {pre : Str} (hw : ∀ u ∈ init ++ [w], wordB u = true) : (∀ u ∈ init ++ [("." : Str)], wordB u = true) ∧ (pre ++ Txt.join "/" (init ++ [("." : Str)])).length ≤ (pre ++ Txt.join "/" (init ++ [w])).length := by
  refine ⟨fun u hu => ?_, ?_⟩
  · rcases List.mem_append.mp hu with h | h
    · exact hw u (List.mem_append_left _ h)
    · rw [List.mem_singleton.mp h]
      decide +kernel
  · have h1 := (word_len (hw w (List.mem_append_right _ (List.mem_singleton.mpr rfl)))).1
    have l1 : (tl ("." : Str)).length ≤ (tl w).length := by
      rw [len_tl, len_tl]
      have : ("." : Str).length = 1 := by decide +kernel
      omega
    rw [len_app, len_app, ← len_tl (Txt.join "/" (init ++ [("." : Str)])), ← len_tl (Txt.join "/" (init ++ [w])), TL.join_eq, TL.join_eq, TL.tl_join, TL.tl_join, List.map_append, List.map_append]
    have := joinL_len (sp := tl "/") (xs := init.map tl) l1
    show _ + (TL.joinL (tl "/") (init.map tl ++ [tl "."])).length ≤ _ + (TL.joinL (tl "/") (init.map tl ++ [tl w])).length
    omega

theorem dp_ents {K : PySem.W.Frag} {H : Hp} : ∀ {ys : List V} {es : List (Str × Nat)}, Paired (pairV H) ys es → DpAll K H ys (es.map fun e => PyData.tuple [.str e.1, .int (e.2 : Int)])
  | _, _, .nil => .nil
  | _, _, .cons h t => by
    obtain ⟨p, rfl, hp⟩ := h
    exact .cons (.tup hp.sq (.cons (.str _) (.cons (.int _) .nil))) (dp_ents t)
theorem signs_ok : ∀ c ∈ tl SIGNS, c < 0x110000 := by decide +kernel
theorem ents_shaped {es : List (Str × Nat)} {n : Nat} (hn : n ≤ 1000) (h : ∀ e ∈ es, entB e.1 = true ∧ e.2 < n) : SeqAt.shaped (.tuple (es.map fun e => PyData.tuple [.str e.1, .int (e.2 : Int)])) = true := by
  refine (Bd.tup (k := 1) (w := 42) fun d hd => ?_).shaped (by omega)
  obtain ⟨e, he, rfl⟩ := List.mem_map.mp hd
  obtain ⟨h1, h2⟩ := h e he
  have lt : ∀ c ∈ tl e.1, c < 0x110000 := fun c hc => by
    unfold entB at h1
    rw [Bool.and_eq_true] at h1
    exact signs_ok c (of_decide_eq_true (List.all_eq_true.mp h1.2 c hc))
  refine (Bd.tup (k := 0) (w := 20) (ds := [.str e.1, .int (e.2 : Int)]) fun d hd => ?_).mono (Nat.le_refl _) (by show 2 * 21 ≤ 42; decide)
  rcases List.mem_cons.mp hd with rfl | hd
  · exact (Bd.str lt).mono (Nat.le_refl _) (by have := entB_len h1; omega)
  · rw [List.mem_singleton.mp hd]
    exact Bd.int (by omega)
theorem ents_eqv (es : List (Str × Nat)) : PyData.eqv (.tuple (es.map fun e => PyData.tuple [.str e.1, .int (e.2 : Int)])) (.tuple []) = es.isEmpty := by cases es <;> rfl

theorem rd_slR {K : PySem.W.Frag} {p : Addr} {xs : List V} {lo hi : Option Int} {H : Hp} {Q : VK} (h : Rt H p xs) (q : ∀ r H', Same H H' → Rt H' r (cutV xs lo hi) → Q (.ref r) H') : xSl K (.ref p) lo hi H Q := by
  refine .inr ⟨p, xs, rfl, h.sq, fun c => ?_, fun _ r hr => ?_⟩
  · refine q p H (Same.refl H) ?_
    unfold cutV
    rw [c.1, c.2, List.drop_zero, Nat.sub_zero, List.take_length]
    exact h
  · exact q r _ ((Same.refl H).new hr) (.inl upd_same)
theorem rd_catR {K : PySem.W.Frag} {p l : Addr} {xs ys : List V} {H : Hp} {Q : VK} (h : Rt H p xs) (h' : Rt H l ys) (hz : xs.length + ys.length ≤ sizeLine) (q : ∀ r H', Same H H' → Rt H' r (xs ++ ys) → Q (.ref r) H') : xAdd K (.ref p) (.ref l) H Q := by
  refine .inr ⟨p, l, xs, ys, rfl, rfl, h.sq, h'.sq, hz, fun e => ?_, fun _ e => ?_, fun _ _ r hr => q r _ ((Same.refl H).new hr) (.inl upd_same)⟩
  · exact q l H (Same.refl H) (by rw [e, List.nil_append]; exact h')
  · exact q p H (Same.refl H) (by rw [e, List.append_nil]; exact h)
theorem cutV_init (xs : List V) : cutV xs none (some (-1)) = xs.dropLast := by
  unfold cutV
  rw [HT.sIx_none, List.drop_zero, Nat.sub_zero, List.dropLast_eq_take]
  congr 1
  show (if (-1 : Int) < 0 then ((-1 : Int) + (xs.length : Int)).toNat else min (-1 : Int).toNat xs.length) = xs.length - 1
  rw [if_pos (by decide)]
  omega
def Φ_has_plain_end (K : PySem.W.Frag) (v : V) (H : Hp) (Q : VK) : Prop := ∃ z : Str, v = .str z ∧ z.length ≤ 1000 ∧ ∀ H', Same H H' → Q (.bl (plainE z)) H'
theorem ok_has_plain_end (T : Txt P K mg) {f : Addr} {fd : FuncData} (F : Fun K "has_plain_end" "has_plain_end" s_has_plain_end f fd) : Keeps P w K mg base CX0 2 f fd ["path"] (sp1 (Φ_has_plain_end K)) := by
  have c_words_of := cal (P := P) (w := w) (base := base) T.d_words_of fun F => ok_words_of T F
  refine keeps0_of F sc_has_plain_end (fun vs H Q E h => ?_) (fun cdv A outer s H vs Q E hr h => ?_)
  · obtain ⟨_, rfl, _⟩ := h
    rfl
  obtain ⟨v_path, rfl, h⟩ := h
  have hu := hr.hu
  refine ⟨_, (pss_cons (ps_set (i := 1) sc_has_plain_end.nd rfl (by first | exact Or.inl rfl | exact Or.inr rfl) (pe_cal c_words_of (hr.mono (by decide)) (by rfl) pass0 (pa_cons (pv 0) pa_nil)))
      (pss_one (ps_ret (pe_and (pe_cmpR (oNe (K := K) hr.u65) (pv 1) (pe_lst pa_nil) (nomark _)) (pe_one (pe_cmpR (oNotIn (K := K) hr.u65) (pe_ix (ixX (K := K)) (pv 1) (pe_un un_neg pe_int) (fun _ _ => rfl)) (pe_tup (pa_cons (pe_gk (by rfl) T.c_HERE) (pa_cons (pe_gk (by rfl) T.c_ABOVE) pa_nil))) (by rfl))))))), ?_⟩
  rw [show start ["path", "words"] [v_path] = [some v_path, none] from rfl]
  try dsimp only [cxOf, Cx.nox, Cx.wish]
  obtain ⟨z, rfl, hz, q⟩ := h
  walk_at "rd"
  refine ⟨z, rfl, hz, fun D H1 hD k1 h1 => ?_⟩
  walk_at "rd"
  intro e he
  have k2 := (Same.refl H1).new (o := .lst []) he
  have h2 := k2 _ _ h1
  have e2 : upd H1 e (.lst []) e = some (.lst []) := upd_same
  have k12 := k1.trans k2
  generalize upd H1 e (.lst []) = H2 at k12 h2 e2 ⊢
  refine rd_neNil (SqL.of h2) (SqL.of e2) ?_
  walk_at "rd"
  rcases List.eq_nil_or_concat (wordsOf z) with hw | ⟨ws, w, hw⟩
  · rw [hw]
    rw [show ((([] : List Str).map V.str).isEmpty) = true from rfl]
    walk_at "rd"
    have := q H2 k12
    unfold plainE at this
    rw [hw] at this
    exact this
  · rw [List.concat_eq_append] at hw
    rw [hw] at h2 ⊢
    have ne : ((ws ++ [w]).map V.str).isEmpty = false := by cases ws <;> rfl
    rw [ne]
    walk_at "rd"
    refine ⟨1, rfl, ?_⟩
    rw [List.map_append] at h2
    refine rd_ixL (SqL.of h2) (atI_last _ _) ?_
    walk_at "rd"
    intro t ht
    have k3 := k12.new (o := .tup [.str ".", .str ".."]) ht
    refine rd_notInT (SqT.of upd_same) rfl rfl ?_
    rw [← inV2 (z := w) (a := ".") (b := "..") rfl]
    have := q _ k3
    unfold plainE lastW at this
    rw [hw, List.getLast?_concat] at this
    have ne' : (ws ++ [w]).isEmpty = false := by cases ws <;> rfl
    rw [ne'] at this
    exact this
theorem place_err {s : Sto} {here : Nat} {z : Str} {e : Er} {r : Res} (h : plainE z = true) (hw : Walks s (startAt here z) (stepsOf (wordsOf z).dropLast true) 0 r) (he : r.er = some e) : Place s here z (.no e) := by
  unfold Place
  rw [if_pos h]
  refine ⟨r, hw, ?_⟩
  cases r <;> cases he <;> rfl
def plQ (mg : Str → Option Value) (H : Hp) (Q : VK) (E : XK) (R : Plc → Prop) : Prop := (∀ r w t H', Same H H' → R (.at_ r w) → H' t = some (.tup [.int (r : Nat), .str w]) → Q (.ref t) H') ∧ erQ mg H E fun e => R (.no e)
def Φ_place_of (K : PySem.W.Frag) (mg : Str → Option Value) (vs vh vp : V) (H : Hp) (Q : VK) (E : XK) : Prop := ∃ (s : Sto) (here : Nat) (z : Str), StAt H vs s ∧ Wf s ∧ vh = .int here ∧ here < s.length ∧ vp = .str z ∧ pathB (.str z) = true ∧ plQ mg H Q E (Place s here z)
theorem ok_place_of (T : Txt P K mg) {f : Addr} {fd : FuncData} (F : Fun K "place_of" "place_of" s_place_of f fd) : Keeps P w K mg base (L2.CX P w) 3 f fd ["store", "here", "path"] (sp3x (Φ_place_of K mg)) := by
  obtain ⟨C_NotPlain, F_NotPlain, e_NotPlain⟩ := T.e_NotPlain
  obtain ⟨C_NotRoom, F_NotRoom, e_NotRoom⟩ := T.e_NotRoom
  have c_words_of := cal (P := P) (w := w) (base := base) T.d_words_of fun F => ok_words_of T F
  have c_gone := cal (P := P) (w := w) (base := base) T.d_gone fun F => ok_gone T F
  have c_has_plain_end := cal (P := P) (w := w) (base := base) T.d_has_plain_end fun F => ok_has_plain_end T F
  have c_start_of := cal (P := P) (w := w) (base := base) T.d_start_of fun F => ok_start_of T F
  have c_steps_of := cal (P := P) (w := w) (base := base) T.d_steps_of fun F => ok_steps_of T F
  have c_is_room := cal (P := P) (w := w) (base := base) T.d_is_room fun F => ok_is_room T F
  have c_last_index := cal (P := P) (w := w) (base := base) T.d_last_index fun F => ok_last_index T F
  refine keeps_of F sc_place_of (fun vs H Q E h => ?_) (fun cdv A outer s H vs Q E hr h => ?_)
  · obtain ⟨_, _, _, rfl, _⟩ := h
    rfl
  obtain ⟨v_store, v_here, v_path, rfl, h⟩ := h
  have hu := hr.hu
  refine ⟨_, (pss_cons (ps_if (pt_not (pt_val (pe_cal c_has_plain_end (hr.mono (by decide)) (by rfl) pass0 (pa_cons (pv 2) pa_nil)))) (pss_one (ps_raiseS rfl e_NotPlain hr (by decide) (takes_of rfl rfl rfl rfl) (pa_cons (pe_cal c_last_index (hr.mono (by decide)) (by rfl) pass0 (pa_cons (pv 2) pa_nil)) pa_nil) (by rfl))) pss_nil)
      (pss_cons (ps_set (i := 3) sc_place_of.nd rfl (by first | exact Or.inl rfl | exact Or.inr rfl) (pe_cal c_words_of (hr.mono (by decide)) (by rfl) pass0 (pa_cons (pv 2) pa_nil)))
      (pss_cons (ps_set (i := 4) sc_place_of.nd rfl (by first | exact Or.inl rfl | exact Or.inr rfl) (pe_calS c_gone (hr.mono (by decide)) (by rfl) (fun σ => passAt (takes_of rfl rfl rfl rfl) σ) (pa_cons (pv 0) (pa_cons (pe_cal c_start_of (hr.mono (by decide)) (by rfl) pass0 (pa_cons (pv 1) (pa_cons (pv 2) pa_nil))) (pa_cons (pe_cal c_steps_of (hr.mono (by decide)) (by rfl) pass0 (pa_cons (pe_slice (sX (K := K)) (pv 3) po_none (po_some (pe_un un_neg pe_int))) (pa_cons pe_bl pa_nil))) pa_nil)))))
      (pss_cons (ps_if (pt_not (pt_val (pe_cal c_is_room (hr.mono (by decide)) (by rfl) pass0 (pa_cons (pv 0) (pa_cons (pv 4) pa_nil))))) (pss_one (ps_raiseS rfl e_NotRoom hr (by decide) (takes_of rfl rfl rfl rfl) (pa_cons (pe_cal c_last_index (hr.mono (by decide)) (by rfl) pass0 (pa_cons (pv 2) pa_nil)) pa_nil) (by rfl))) pss_nil)
      (pss_one (ps_ret (pe_tup (pa_cons (pv 4) (pa_cons (pe_ix (ixX (K := K)) (pv 3) (pe_un un_neg pe_int) (fun _ _ => rfl)) pa_nil))))))))), ?_⟩
  rw [show start ["store", "here", "path", "words", "room"] [v_store, v_here, v_path] = [some v_store, some v_here, some v_path, none, none] from rfl]
  try dsimp only [cxOf, Cx.nox, Cx.wish]
  obtain ⟨s, here, z, hS, wf, rfl, hl, rfl, hz, q1, q2⟩ := h
  have zl := pathB_len hz
  have l1 := wf.l1
  have lw := words_len z
  have sl : startAt here z < s.length := by unfold startAt; split <;> omega
  walk_at "rd"
  refine ⟨z, rfl, by omega, fun H1 k1 => ?_⟩
  cases hp : plainE z with
  | false =>
    walk_at "rd"
    refine ⟨z, rfl, by omega, fun H2 k2 => ?_⟩
    walk_at "rd"
    intro d hd
    exact q2 (.plain (lastI z)) _ _ _ ((k1.trans k2).new (o := .xd [("index", .int (((wordsOf z).length - 1 : Nat) : Int))]) hd) (by show Place _ _ _ _; unfold Place; rw [if_neg (by rw [hp]; decide)]) e_NotPlain.gC ⟨d, rfl, upd_same⟩
  | true =>
    walk_at "rd"
    refine ⟨z, rfl, by omega, fun D H2 hD k2 h2 => ?_⟩
    have k12 := k1.trans k2
    walk_at "rd"
    refine ⟨here, z, rfl, rfl, zl.1, by omega, ?_⟩
    walk_at "rd"
    refine ⟨1, rfl, ?_⟩
    walk_at "rd"
    refine rd_slL (SqL.of h2) fun l hl => ?_
    rw [cutV_init, ← List.map_dropLast]
    have k3 := (Same.refl H2).new (o := .lst ((wordsOf z).dropLast.map V.str)) hl
    have h3 := k3 _ _ h2
    have g3 : upd H2 l (.lst ((wordsOf z).dropLast.map V.str)) l = some (.lst ((wordsOf z).dropLast.map V.str)) := upd_same
    have k13 := k12.trans k3
    generalize upd H2 l (.lst ((wordsOf z).dropLast.map V.str)) = H3 at k13 h3 g3 ⊢
    walk_at "rd"
    have dl : (wordsOf z).dropLast.length ≤ 101 := by rw [List.length_dropLast]; omega
    refine ⟨l, (wordsOf z).dropLast, true, rfl, g3, rfl, by omega, fun D2 H4 hD2 k4 h4 => ?_⟩
    have k14 := k13.trans k4
    walk_at "rd"
    refine ⟨s, startAt here z, D2, stepsOf (wordsOf z).dropLast true, hS.up (Ty.of k14), wf, rfl, sl, rfl, h4, by rw [steps_len]; omega, ?_⟩
    refine ⟨fun j H5 k5 hwk => ?_, errs_of (R := Walks s (startAt here z) (stepsOf (wordsOf z).dropLast true) 0) fun e H' C d k r g x => ?_⟩
    · have k15 := k14.trans k5
      have h5 := (k4.trans k5) _ _ h3
      have jl : j < s.length := Walks.lt wf hwk sl j rfl
      walk_at "rd"
      refine ⟨s, j, hS.up (Ty.of k15), rfl, jl, ?_⟩
      cases hr : isRoom (s.getD j none) with
      | false =>
        walk_at "rd"
        refine ⟨z, rfl, by omega, fun H6 k6 => ?_⟩
        walk_at "rd"
        intro d hd
        refine q2 (.room (lastI z)) _ _ _ ((k15.trans k6).new (o := .xd [("index", .int (((wordsOf z).length - 1 : Nat) : Int))]) hd) ?_ e_NotRoom.gC ⟨d, rfl, upd_same⟩
        show Place _ _ _ _
        unfold Place
        rw [if_pos hp]
        refine ⟨_, hwk, ?_⟩
        show _ = plcR _ (if isRoom (s.getD j none) = true then _ else _)
        rw [if_neg (by rw [hr]; decide)]
        rfl
      | true =>
        walk_at "rd"
        refine ⟨1, rfl, ?_⟩
        obtain ⟨ws, w, hw⟩ : ∃ ws w, wordsOf z = ws ++ [w] := by
          rcases List.eq_nil_or_concat (wordsOf z) with hw | ⟨ws, w, hw⟩
          · unfold plainE at hp
            rw [hw] at hp
            cases hp
          · exact ⟨ws, w, by rw [hw, List.concat_eq_append]⟩
        have lastw : lastW z = w := by
          unfold lastW
          rw [hw, List.getLast?_concat]
          rfl
        rw [hw, List.map_append] at h5
        refine rd_ixL (SqL.of h5) (atI_last _ _) ?_
        walk_at "rd"
        intro t ht
        refine q1 j w t _ (k15.new (o := .tup [.int (j : Nat), .str w]) ht) ?_ upd_same
        show Place _ _ _ _
        unfold Place
        rw [if_pos hp]
        refine ⟨_, hwk, ?_⟩
        show _ = plcR _ (if isRoom (s.getD j none) = true then _ else _)
        rw [if_pos hr, lastw]
        rfl
    · obtain ⟨r0, h1, h2⟩ := r
      exact q2 e H' C d (k14.trans k) (place_err hp h1 h2) g x
def Φ_with_node (K : PySem.W.Frag) (vs vk vn : V) (H : Hp) (Q : VK) : Prop := ∃ (s : Sto) (k : Nat) (nd : Option Nd), StAt H vs s ∧ vk = .int k ∧ k < s.length ∧ s.length ≤ 1000 ∧ NdAt H vn nd ∧ ∀ v H', Same H H' → StAt H' v (s.set k nd) → Q v H'
theorem ok_with_node (T : Txt P K mg) {f : Addr} {fd : FuncData} (F : Fun K "with_node" "with_node" s_with_node f fd) : Keeps P w K mg base CX0 1 f fd ["store", "number", "node"] (sp3 (Φ_with_node K)) := by
  refine keeps0_of F sc_with_node (fun vs H Q E h => ?_) (fun cdv A outer s H vs Q E hr h => ?_)
  · obtain ⟨_, _, _, rfl, _⟩ := h
    rfl
  obtain ⟨v_store, v_number, v_node, rfl, h⟩ := h
  have hu := hr.hu
  refine ⟨_, (pss_one (ps_ret (pe_op (oAdd (K := K)) (pe_op (oAdd (K := K)) (pe_slice (sX (K := K)) (pv 0) po_none (po_some (pv 1))) (pe_tup (pa_cons (pv 2) pa_nil))) (pe_slice (sX (K := K)) (pv 0) (po_some (pe_op (oAdd (K := K)) (pv 1) pe_int)) po_none)))), ?_⟩
  rw [show start ["store", "number", "node"] [v_store, v_number, v_node] = [some v_store, some v_number, some v_node] from rfl]
  try dsimp only [cxOf, Cx.nox, Cx.wish]
  obtain ⟨s, k, nd, ⟨a, xs, rfl, ha, ps⟩, rfl, hk, hl, hn, q⟩ := h
  have lx := Paired.length ps
  walk_at "rd"
  refine rd_slR ha fun r1 H1 k1 h1 => ?_
  rw [cutV_take] at h1
  walk_at "rd"
  intro t ht
  have k2 := (Same.refl H1).new (o := .tup [v_node]) ht
  have h2 := h1.up (Ty.of k2)
  have g2 : Rt (upd H1 t (.tup [v_node])) t [v_node] := .inl upd_same
  have k12 := k1.trans k2
  generalize upd H1 t (.tup [v_node]) = H2 at k12 h2 g2 ⊢
  refine rd_catR h2 g2 (szOk (by rw [List.length_take]; show min k xs.length + 1 ≤ 1000000; omega)) fun r3 H3 k3 h3 => ?_
  walk_at "rd"
  rw [show (k : Int) + 1 = ((k + 1 : Nat) : Int) by omega]
  have k13 := k12.trans k3
  refine rd_slR (ha.up (Ty.of k13)) fun r4 H4 k4 h4 => ?_
  rw [cutV_drop] at h4
  refine rd_catR (h3.up (Ty.of k4)) h4 (szOk (by rw [List.length_append, List.length_take, List.length_drop]; show min k xs.length + 1 + (xs.length - (k + 1)) ≤ 1000000; omega)) fun r5 H5 k5 h5 => ?_
  have k15 := (k13.trans k4).trans k5
  have e : xs.take k ++ [v_node] ++ xs.drop (k + 1) = xs.set k v_node := by
    rw [List.set_eq_take_append_cons_drop, if_pos (by omega), List.append_assoc]
    rfl
  rw [e] at h5
  exact q _ _ k15 ⟨r5, _, rfl, h5, pd_set k (pd_mono (fun _ _ q => NdAt.up q (Ty.of k15)) ps) (hn.up (Ty.of k15))⟩
/-- entries with one name set, or without it -/
def wE (es : List (Str × Nat)) (nm : Str) (o : Option Nat) : List (Str × Nat) := srtE ((es.filter fun e => decide (e.1 ≠ nm)) ++ (o.map fun n => (nm, n)).toList)
def withE (s : Sto) (r : Nat) (nm : Str) (o : Option Nat) : Sto := s.set r (some (.room (wE (entsAt s r) nm o)))
theorem drop_ents {es : List (Str × Nat)} {nm : Str} : dropK (es.map kvE) (Sum.inr nm) = (es.filter fun e => decide (e.1 ≠ nm)).map kvE := by
  unfold dropK
  rw [List.filter_map]
  congr 1
  refine List.filter_congr fun e _ => ?_
  show decide ((Sum.inr e.1 : Key) ≠ Sum.inr nm) = decide (e.1 ≠ nm)
  rw [decide_eq_decide]
  exact not_congr ⟨fun h => Sum.inr.inj h, fun h => by rw [h]⟩
theorem keep_ents : ∀ {es : List (Str × Nat)} {nm : Str}, valV (es.map kvE) (Sum.inr nm) = none → (es.filter fun e => decide (e.1 ≠ nm)) = es
  | [], _, _ => rfl
  | e :: es, nm, h => by
    rw [List.map_cons] at h
    by_cases q : e.1 = nm
    · rw [valV_pos (show (kvE e).1 = Sum.inr nm by rw [← q])] at h
      cases h
    · rw [valV_neg (show ¬ (kvE e).1 = Sum.inr nm from fun h => q (Sum.inr.inj h))] at h
      rw [List.filter_cons_of_pos (by exact decide_eq_true q), keep_ents h]
theorem put_ents {es : List (Str × Nat)} {nm : Str} {n : Nat} : putK ((es.filter fun e => decide (e.1 ≠ nm)).map kvE) (Sum.inr nm) (.int (n : Nat)) = ((es.filter fun e => decide (e.1 ≠ nm)) ++ [(nm, n)]).map kvE := by
  rw [put_new (fun h => by
    obtain ⟨kv, h1, h2⟩ := List.mem_map.mp h
    obtain ⟨e, h3, rfl⟩ := List.mem_map.mp h1
    have h4 := of_decide_eq_true (List.mem_filter.mp h3).2
    exact h4 (Sum.inr.inj h2)), List.map_append]
  rfl
theorem rd_popE {i j : Nat} {σ : St} {H : Hp} {Q : VK} {a : Addr} {nm : Str} {es : List (Str × Nat)} (hi : σ[i]? = some (some (.ref a))) (hj : σ[j]? = some (some (.str nm))) (ha : H a = some (.dK (es.map kvE)))
    (q : ∀ v H4, H4 a = some (.dK ((es.filter fun e => decide (e.1 ≠ nm)).map kvE)) → (∀ b, b ≠ a → H4 b = H b) → Q v H4) : tDPop2 (tVar i) (tVar j) (tC .non) σ H Q :=
  ⟨.ref a, hi, a, rfl, .inl ⟨_, .inl ha⟩, .str nm, hj, es.map kvE, Sum.inr nm, ha, rfl, fun v _ => q _ _ (by rw [upd_same, drop_ents]) (fun b hb => upd_ne hb), fun hv => q _ _ (by rw [keep_ents hv]; exact ha) (fun _ _ => rfl)⟩
def Φ_with_entry (K : PySem.W.Frag) (vs vr vn vk : V) (H : Hp) (Q : VK) : Prop := ∃ (s : Sto) (r : Nat) (nm : Str) (o : Option Nat), StAt H vs s ∧ vr = .int r ∧ vn = .str nm ∧ vk = optV o ∧ roomAt s r ∧ ((entsAt s r).map (·.1)).Nodup ∧ (entsAt s r).length ≤ 1000 ∧ s.length ≤ 1000 ∧
  ∀ v H', Same H H' → StAt H' v (withE s r nm o) → Q v H'
theorem ok_with_entry (T : Txt P K mg) {f : Addr} {fd : FuncData} (F : Fun K "with_entry" "with_entry" s_with_entry f fd) : Keeps P w K mg base CX0 2 f fd ["store", "room", "name", "number"] (sp4 (Φ_with_entry K)) := by
  have c_with_node := cal (P := P) (w := w) (base := base) T.d_with_node fun F => ok_with_node T F
  refine keeps0_of F sc_with_entry (fun vs H Q E h => ?_) (fun cdv A outer s H vs Q E hr h => ?_)
  · obtain ⟨_, _, _, _, rfl, _⟩ := h
    rfl
  obtain ⟨v_store, v_room, v_name, v_number, rfl, h⟩ := h
  have hu := hr.hu
  refine ⟨_, (pss_cons (ps_set (i := 4) sc_with_entry.nd rfl (by first | exact Or.inl rfl | exact Or.inr rfl) (pe_callTy (callDictT (K := K) rfl) (by rfl) T.b_dict (by decide +kernel) (pa_cons (pe_ix (ixX (K := K)) (pe_ix (ixX (K := K)) (pv 0) (pv 1) (fun _ _ => rfl)) pe_int (fun _ _ => rfl)) pa_nil)))
      (pss_cons (ps_expr (pe_dpop2 (pv 4) (pv 2) pe_non ⟨by rfl, by rfl, by rfl, by rfl⟩))
      (pss_meet (ps_if (pt_cmpR oIsNot (pv 3) pe_non (nomark _)) (pss_one (ps_dput hu (pv 4) (pv 2) (pv 3) rfl)) pss_nil)
      (pss_one (ps_ret (pe_cal c_with_node (hr.mono (by decide)) (by rfl) pass0 (pa_cons (pv 0) (pa_cons (pv 1) (pa_cons (pe_tup (pa_cons (pe_gk (by rfl) T.c_ROOM) (pa_cons (pe_callTy (callTupF (K := K)) (by rfl) T.b_tuple (by decide +kernel) (pa_cons (pe_callB (call_sortIt rfl hr.u65) (by rfl) T.b_sorted (by decide +kernel) (pa_cons (pe_bm0X (K := K) PySem.F.plainAttrs_dict PySem.F.slot_dict_items PySem.F.type_dict_items mt_itemsK (pv 4)) pa_nil)) pa_nil)) pa_nil))) pa_nil))))))))), ?_⟩
  rw [show start ["store", "room", "name", "number", "entries"] [v_store, v_room, v_name, v_number] = [some v_store, some v_room, some v_name, some v_number, none] from rfl]
  try dsimp only [cxOf, Cx.nox, Cx.wish]
  obtain ⟨s, r, nm, o, hS, rfl, rfl, rfl, ⟨es, hes⟩, nd, hl, hsl, q⟩ := h
  have hS' := hS
  obtain ⟨a, xs, rfl, ha, ps⟩ := hS'
  have hen := entsAt_room hes
  have rl := (List.getElem?_eq_some_iff.mp hes).1
  rw [hen] at nd hl
  obtain ⟨v, hv, na, nb, rfl, hna, ys, hys, pys⟩ := pd_getR ps hes
  obtain ⟨rs, rfl, prs⟩ := ents_refs (K := K) pys
  walk_at "rd"
  refine rd_ixT ha.sq (atI_nat hv) ?_
  walk_at "rd"
  refine rd_ixT hna.sq rfl ?_
  walk_at "rd"
  refine ⟨nb, rs, es.map kvE, rfl, hys, prs, fun p hp => ?_⟩
  have nk : ((es.map kvE).map (·.1)).Nodup := by
    rw [List.map_map, List.nodup_iff_pairwise_ne, List.pairwise_map]
    rw [List.nodup_iff_pairwise_ne, List.pairwise_map] at nd
    exact nd.imp fun h e => h (Sum.inr.inj e)
  rw [merge_fresh (by rw [List.nil_append]; exact nk), List.nil_append]
  have k1 := (Same.refl H).new (o := .dK (es.map kvE)) hp
  have h1 : upd H p (.dK (es.map kvE)) p = some (.dK (es.map kvE)) := upd_same
  generalize upd H p (.dK (es.map kvE)) = H1 at k1 h1 ⊢
  walk_at "rd"
  refine rd_popE (by with_unfolding_all rfl) (by with_unfolding_all rfl) h1 fun _ H2 h2 g2 => ?_
  have k2 : Same H H2 := fun b o e => by
    rw [g2 b (fun q => by rw [q, hp] at e; cases e)]
    exact k1 b o e
  clear h1 g2 k1
  generalize hfe : (es.filter fun e => decide (e.1 ≠ nm)) = fe at h2
  have fl : fe.length ≤ 1000 := by rw [← hfe]; exact Nat.le_trans (List.length_filter_le _ _) hl
  refine rd_meet (fun σ' H' => Same H H' ∧ H' p = some (.dK ((fe ++ (o.map fun n => (nm, n)).toList).map kvE)) ∧ σ' = [some (.ref a), some (.int (r : Nat)), some (.str nm), some (optV o), some (.ref p)]) ?_ ?_
  · cases o with
    | none =>
      rw [show optV none = V.non from rfl]
      walk_at "rd"
      refine rd_noI (by decide +kernel) ?_
      walk_at "rd"
      refine ⟨k2, ?_, rfl⟩
      rw [show (Option.map (fun n => (nm, n)) (none : Option Nat)).toList = [] from rfl, List.append_nil]
      exact h2
    | some n =>
      rw [show optV (some n) = V.int (n : Nat) from rfl]
      walk_at "rd"
      refine rd_yesI (by rw [decide_eq_false (fun h => nomatch h)]; rfl) ?_
      walk_at "rd"
      refine rd_putS h2 (szLt (by rw [List.length_map]; omega)) ?_
      refine ⟨k2.put hp, ?_, rfl⟩
      rw [upd_same, ← hfe, put_ents]
      rfl
  · rintro σ' H3 ⟨k3, h3, rfl⟩
    generalize hge : fe ++ (o.map fun n => (nm, n)).toList = ge at h3
    have hwE : wE es nm o = srtE ge := by
      unfold wE
      rw [hfe, hge]
    walk_at "rd"
    refine ⟨.inr (.inr (.inl ⟨rfl, .inl ⟨_, h3⟩⟩)), p, _, rfl, rfl, h3, fun it hit => ?_⟩
    have s4 := (Same.refl H3).new (o := L2.DX.itemsO it p) hit
    walk_at "rd"
    refine ⟨it, p, ge.map (fun e => (e.1, (e.2 : Int))), rfl, upd_same, by rw [s4 _ _ h3, List.map_map]; rfl, fun H5 lA ps s5 hlA hps eps hz => ?_⟩
    rw [srt_ints] at eps
    have k5 := (k3.trans s4).trans s5
    walk_at "rd"
    refine ⟨lA, _, rfl, SqL.of hps, fun tA o' od htA => ?_⟩
    have s6 := (Same.refl H5).new (o := .frz o' (.tup (ps.map fun z => V.ref z.1))) htA
    have g6 : upd H5 tA (.frz o' (.tup (ps.map fun z => V.ref z.1))) tA = some (.frz o' (.tup (ps.map fun z => V.ref z.1))) := upd_same
    generalize upd H5 tA (.frz o' (.tup (ps.map fun z => V.ref z.1))) = H6 at s6 g6 ⊢
    walk_at "rd"
    intro t2 ht2
    have s7 := (Same.refl H6).new (o := .tup [V.str "room", V.ref tA]) ht2
    have g7 : upd H6 t2 (.tup [V.str "room", V.ref tA]) t2 = some (.tup [V.str "room", V.ref tA]) := upd_same
    generalize upd H6 t2 (.tup [V.str "room", V.ref tA]) = H7 at s7 g7 ⊢
    have k7 := (k5.trans s6).trans s7
    walk_at "rd"
    refine ⟨s, r, some (.room (srtE ge)), hS.up (Ty.of k7), rfl, rl, hsl, ⟨t2, tA, rfl, Rt.of g7, _, ⟨o', od, s7 _ _ g6⟩, pd_entries eps fun z hz' => (s6.trans s7) _ _ (hz z hz')⟩, fun v H8 k8 hS8 => ?_⟩
    walk_at "rd"
    refine q v H8 (k7.trans k8) ?_
    unfold withE
    rw [hen, hwE]
    exact hS8
def Φ_need_text (K : PySem.W.Frag) (mg : Str → Option Value) (v : V) (H : Hp) (Q : VK) (E : XK) : Prop := ∃ z : Str, v = .str z ∧ textB z = true ∧ ∀ H', Same H H' → Q .non H'
/-- where the node of a path is -/
def isFile : Option Nd → Bool
  | some (.file _) => true
  | _ => false
inductive Linked (s : Sto) (here : Nat) (old path : Str) : Sto ⊕ Er → Prop
  | walk {r : Res} {e : Er} : Leads s here old false r → r.er = some e → Linked s here old path (.inr e)
  | place {n : Nat} {e : Er} : Leads s here old false (.node n) → Place s here path (.no e) → Linked s here old path (.inr e)
  | room {n r : Nat} {w : Str} : Leads s here old false (.node n) → Place s here path (.at_ r w) → isRoom (s.getD n none) = true → Linked s here old path (.inr .isroom)
  | exist {n r m : Nat} {w : Str} : Leads s here old false (.node n) → Place s here path (.at_ r w) → isRoom (s.getD n none) = false → entryOf s r w = some m → Linked s here old path (.inr (.exist (lastI path)))
  | done {n r : Nat} {w : Str} : Leads s here old false (.node n) → Place s here path (.at_ r w) → isRoom (s.getD n none) = false → entryOf s r w = none → Linked s here old path (.inl (withE s r w (some n)))
def oQ (mg : Str → Option Value) (H : Hp) (Q : VK) (E : XK) (R : Sto ⊕ Er → Prop) : Prop := (∀ s v H', Same H H' → R (.inl s) → StAt H' v s → Q v H') ∧ erQ mg H E fun e => R (.inr e)
def Φ_linked (K : PySem.W.Frag) (mg : Str → Option Value) (vs vh vo vp : V) (H : Hp) (Q : VK) (E : XK) : Prop := ∃ (s : Sto) (here : Nat) (old path : Str), StAt H vs s ∧ Wf s ∧ vh = .int here ∧ here < s.length ∧ vo = .str old ∧ pathB (.str old) = true ∧ vp = .str path ∧ pathB (.str path) = true ∧ oQ mg H Q E (Linked s here old path)
def Φ_link (K : PySem.W.Frag) (mg : Str → Option Value) (vs vh vo vp : V) (H : Hp) (Q : VK) (E : XK) : Prop := ∃ (s : Sto) (here : Nat) (old path : Str), StAt H vs s ∧ Wf s ∧ vh = .int here ∧ roomAt s here ∧ vo = .str old ∧ pathB (.str old) = true ∧ vp = .str path ∧ pathB (.str path) = true ∧ oQ mg H Q E (Linked s here old path)
inductive Texted (s : Sto) (here : Nat) (path text : Str) : Sto ⊕ Er → Prop
  | walk {r : Res} {e : Er} : Leads s here path true r → r.er = some e → Texted s here path text (.inr e)
  | nofile {n : Nat} : Leads s here path true (.node n) → isFile (s.getD n none) = false → Texted s here path text (.inr .nofile)
  | done {n : Nat} : Leads s here path true (.node n) → isFile (s.getD n none) = true → Texted s here path text (.inl (s.set n (some (.file text))))
/-- each node that is walked to is there -/
theorem Walks.node {s : Sto} (wf : Wf s) {k : Nat} {ws : List Stp} {n : Nat} {r : Res} (h : Walks s k ws n r) : (∃ nd, s[k]? = some (some nd)) → ∀ j, r = .node j → ∃ nd, s[j]? = some (some nd) := by
  have root : ∃ nd, s[0]? = some (some nd) := let ⟨es, h⟩ := wf.root; ⟨_, h⟩
  have par : ∀ r, ∃ nd, s[parentOf s r]? = some (some nd) := fun r => by
    unfold parentOf
    cases e : (List.range s.length).find? fun k => ((entsAt s k).map (·.2)).contains r with
    | none => exact root
    | some k =>
      have := List.find?_some e
      rw [List.contains_iff_mem] at this
      obtain ⟨x, hx, _⟩ := List.mem_map.mp this
      show ∃ nd, s[k]? = some (some nd)
      unfold entsAt at hx
      split at hx
      · exact ⟨_, by assumption⟩
      · cases hx
  induction h with
  | done => intro hk j e; cases e; exact hk
  | noroom _ => intro _ j e; cases e
  | above _ _ _ ih => intro _ j e; exact ih (par _) j e
  | here _ _ _ ih => intro hk j e; exact ih hk j e
  | none _ _ _ _ => intro _ j e; cases e
  | go _ _ _ he _ _ ih => intro _ j e; exact ih (wf.there _ _ (entry_some he)) j e
  | many _ _ _ _ _ _ => intro _ j e; cases e
  | sign _ _ _ _ _ _ _ ih =>
    intro hk j e
    refine ih ?_ j e
    unfold startAt
    split
    · exact root
    · exact hk
theorem leads_there {s : Sto} (wf : Wf s) {here j : Nat} {z : Str} {f : Bool} (hr : roomAt s here) (h : Leads s here z f (.node j)) : ∃ nd, s[j]? = some (some nd) := by
  refine Walks.node wf h ?_ j rfl
  unfold startAt
  split
  · exact let ⟨es, h⟩ := wf.root; ⟨_, h⟩
  · exact let ⟨es, h⟩ := hr; ⟨_, h⟩
theorem wordN_file (n : Nd) : decide (wordN n = "file") = isFile (some n) := by
  cases n with
  | file t => exact decide_eq_true rfl
  | sign t => exact show decide (("sign" : Str) = "file") = false by decide +kernel
  | room es => exact show decide (("room" : Str) = "file") = false by decide +kernel
def Φ_texted (K : PySem.W.Frag) (mg : Str → Option Value) (vs vh vp vt : V) (H : Hp) (Q : VK) (E : XK) : Prop := ∃ (s : Sto) (here : Nat) (path text : Str), StAt H vs s ∧ Wf s ∧ vh = .int here ∧ roomAt s here ∧ vp = .str path ∧ pathB (.str path) = true ∧ vt = .str text ∧ oQ mg H Q E (Texted s here path text)
def Φ_with_text (K : PySem.W.Frag) (mg : Str → Option Value) (vs vh vp vt : V) (H : Hp) (Q : VK) (E : XK) : Prop := ∃ (s : Sto) (here : Nat) (path text : Str), StAt H vs s ∧ Wf s ∧ vh = .int here ∧ roomAt s here ∧ vp = .str path ∧ pathB (.str path) = true ∧ vt = .str text ∧ textB text = true ∧ oQ mg H Q E (Texted s here path text)

/-! ### one more entry, another text: still a store -/
theorem mem_wE {es : List (Str × Nat)} {nm : Str} {k : Nat} (fresh : nm ∉ es.map (·.1)) {e : Str × Nat} : e ∈ wE es nm (some k) ↔ e ∈ es ∨ e = (nm, k) := by
  unfold wE
  rw [mem_srtE, List.mem_append]
  refine or_congr ?_ ?_
  · rw [List.mem_filter]
    exact ⟨fun h => h.1, fun h => ⟨h, decide_eq_true fun q => fresh (q ▸ List.mem_map_of_mem (f := (·.1)) h)⟩⟩
  · show e ∈ [(nm, k)] ↔ _
    exact List.mem_singleton
theorem filt_fresh {es : List (Str × Nat)} {nm : Str} (fresh : nm ∉ es.map (·.1)) : (es.filter fun e => decide (e.1 ≠ nm)) = es := List.filter_eq_self.mpr fun e h => decide_eq_true fun q => fresh (q ▸ List.mem_map_of_mem (f := (·.1)) h)
theorem wE_up {es : List (Str × Nat)} {nm : Str} {k : Nat} (nd : (es.map (·.1)).Nodup) (fresh : nm ∉ es.map (·.1)) : (wE es nm (some k)).Pairwise fun a b => tl a.1 < tl b.1 := by
  unfold wE
  refine srtE_up ?_
  rw [filt_fresh fresh, List.map_append]
  refine List.nodup_append.mpr ⟨nd, List.nodup_cons.mpr ⟨List.not_mem_nil, List.nodup_nil⟩, fun a ha b hb e => ?_⟩
  have hb : b = nm := List.mem_singleton.mp hb
  exact fresh (hb ▸ e ▸ ha)
theorem wE_len {es : List (Str × Nat)} {nm : Str} {k : Nat} : (wE es nm (some k)).length ≤ es.length + 1 := by
  unfold wE
  rw [len_srtE, List.length_append]
  exact Nat.add_le_add_right (List.length_filter_le _ _) 1
theorem ents_nd {s : Sto} (wf : Wf s) (r : Nat) : ((entsAt s r).map (·.1)).Nodup := by
  rw [List.nodup_iff_pairwise_ne, List.pairwise_map]
  exact (wf.up r).imp fun {a b} h e => by rw [e] at h; exact absurd h (List.lt_irrefl _)
theorem entry_none {s : Sto} {r : Nat} {w : Str} (h : entryOf s r w = none) : w ∉ (entsAt s r).map (·.1) := by
  intro q
  obtain ⟨e, he, rfl⟩ := List.mem_map.mp q
  unfold entryOf at h
  rw [Option.map_eq_none_iff, List.find?_eq_none] at h
  exact h e he (decide_eq_true rfl)
theorem set_get {s : Sto} {r : Nat} (hr : r < s.length) {x : Option Nd} (j : Nat) : (s.set r x)[j]? = if j = r then some x else s[j]? := by
  rw [List.getElem?_set]
  by_cases h : r = j
  · rw [if_pos h, if_pos (h ▸ hr), if_pos h.symm]
  · rw [if_neg h, if_neg (fun q => h q.symm)]
theorem ents_set {s : Sto} {r : Nat} (hr : r < s.length) {es : List (Str × Nat)} (j : Nat) : entsAt (s.set r (some (.room es))) j = if j = r then es else entsAt s j := by
  unfold entsAt
  rw [set_get hr]
  by_cases h : j = r
  · rw [if_pos h, if_pos h]
  · rw [if_neg h, if_neg h]
theorem wf_link {s : Sto} (wf : Wf s) {r k : Nat} {nm : Str} {nd : Nd} (hr : roomAt s r) (hn : entB nm = true) (fresh : nm ∉ (entsAt s r).map (·.1)) (hk : s[k]? = some (some nd)) (hnr : isRoom (some nd) = false) (few : (entsAt s r).length ≤ 998) : Wf (withE s r nm (some k)) := by
  have rl := room_lt hr
  have hkl := (List.getElem?_eq_some_iff.mp hk).1
  unfold withE
  generalize hes' : wE (entsAt s r) nm (some k) = es'
  have mem : ∀ {e}, e ∈ es' ↔ e ∈ entsAt s r ∨ e = (nm, k) := fun {e} => by rw [← hes']; exact mem_wE fresh
  have A := fun j : Nat => set_get (s := s) rl (x := some (.room es')) j
  have B := fun j : Nat => ents_set (s := s) rl (es := es') j
  have C : ∀ j : Nat, (∃ n, (s.set r (some (.room es')))[j]? = some (some n)) ↔ ∃ n, s[j]? = some (some n) := fun j => by
    rw [A]
    by_cases h : j = r
    · rw [if_pos h]
      obtain ⟨es, he⟩ := hr
      exact ⟨fun _ => ⟨_, h ▸ he⟩, fun _ => ⟨_, rfl⟩⟩
    · rw [if_neg h]
  have D : ∀ j : Nat, roomAt (s.set r (some (.room es'))) j ↔ roomAt s j := fun j => by
    unfold roomAt
    rw [A]
    by_cases h : j = r
    · rw [if_pos h]
      exact ⟨fun _ => h ▸ hr, fun _ => ⟨_, rfl⟩⟩
    · rw [if_neg h]
  have old : ∀ {j : Nat} {e : Str × Nat}, e ∈ entsAt (s.set r (some (.room es'))) j → e ∈ entsAt s j ∨ e = (nm, k) := fun {j e} he => by
    rw [B] at he
    by_cases h : j = r
    · rw [if_pos h] at he
      rw [h]
      exact mem.mp he
    · rw [if_neg h] at he
      exact .inl he
  have notk : ¬ roomAt s k := by
    rintro ⟨es, h⟩
    rw [hk] at h
    cases h
    cases hnr
  refine ⟨by rw [List.length_set]; exact wf.l1, by rw [List.length_set]; exact wf.l2, by rw [List.length_set]; exact (C _).mpr wf.last, (D 0).mpr wf.root, fun n hn' => ?_, fun j e he => ?_, fun a b e e' he he' eq hroom => ?_, fun j n hj => ?_, fun j => ?_⟩
  · rw [List.length_set]
    obtain ⟨j, hj⟩ := List.mem_iff_getElem?.mp hn'
    rw [A] at hj
    by_cases h : j = r
    · rw [if_pos h] at hj
      cases hj
      refine ⟨fun e he => ?_, hes' ▸ wE_up (ents_nd wf r) fresh⟩
      rcases mem.mp he with h1 | rfl
      · obtain ⟨es, hes⟩ := hr
        rw [entsAt_room hes] at h1
        exact (wf.nodes _ (List.mem_of_getElem? hes)).1 e h1
      · exact ⟨hn, hkl⟩
    · rw [if_neg h] at hj
      exact wf.nodes n (List.mem_of_getElem? hj)
  · rw [C]
    rcases old he with h | rfl
    · exact wf.there _ _ h
    · exact ⟨_, hk⟩
  · have hroom := (D e.2).mp hroom
    rcases old he with h | rfl
    · rcases old he' with h' | rfl
      · exact wf.one _ _ _ _ h h' eq hroom
      · have eq : e.2 = k := eq
        rw [eq] at hroom
        exact absurd hroom notk
    · exact absurd hroom notk
  · have gen : ∀ a, Reach0 s a → Reach0 (s.set r (some (.room es'))) a := by
      intro a ha
      induction ha with
      | root => exact .root
      | @step a e _ he ih =>
        refine .step ih ?_
        rw [B]
        by_cases h : a = r
        · rw [if_pos h]
          exact mem.mpr (.inl (h ▸ he))
        · rw [if_neg h]
          exact he
    obtain ⟨n', hn'⟩ := (C j).mp ⟨n, hj⟩
    exact gen j (wf.reach j n' hn')
  · rw [B]
    split
    · rw [← hes']
      exact Nat.le_trans wE_len (by omega)
    · exact wf.few j
theorem wf_text {s : Sto} (wf : Wf s) {k : Nat} {t0 t : Str} (hk : s[k]? = some (some (.file t0))) (ht : textB t = true) : Wf (s.set k (some (.file t))) ∧ ∀ j, entsAt (s.set k (some (.file t))) j = entsAt s j := by
  have kl := (List.getElem?_eq_some_iff.mp hk).1
  have A := fun j : Nat => set_get (s := s) kl (x := some (.file t)) j
  have B : ∀ j : Nat, entsAt (s.set k (some (.file t))) j = entsAt s j := fun j => by
    unfold entsAt
    rw [A]
    by_cases h : j = k
    · rw [if_pos h, h, hk]
    · rw [if_neg h]
  have C : ∀ j : Nat, (∃ n, (s.set k (some (.file t)))[j]? = some (some n)) ↔ ∃ n, s[j]? = some (some n) := fun j => by
    rw [A]
    by_cases h : j = k
    · rw [if_pos h]
      exact ⟨fun _ => ⟨_, h ▸ hk⟩, fun _ => ⟨_, rfl⟩⟩
    · rw [if_neg h]
  have D : ∀ j : Nat, roomAt (s.set k (some (.file t))) j ↔ roomAt s j := fun j => by
    unfold roomAt
    rw [A]
    by_cases h : j = k
    · rw [if_pos h, h, hk]
      exact ⟨(fun ⟨_, h⟩ => nomatch h), (fun ⟨_, h⟩ => nomatch h)⟩
    · rw [if_neg h]
  refine ⟨⟨by rw [List.length_set]; exact wf.l1, by rw [List.length_set]; exact wf.l2, by rw [List.length_set]; exact (C _).mpr wf.last, (D 0).mpr wf.root, fun n hn' => ?_, fun j e he => ?_, fun a b e e' he he' eq hroom => ?_, fun j n hj => ?_, fun j => by rw [B]; exact wf.few j⟩, B⟩
  · rw [List.length_set]
    obtain ⟨j, hj⟩ := List.mem_iff_getElem?.mp hn'
    rw [A] at hj
    by_cases h : j = k
    · rw [if_pos h] at hj
      cases hj
      exact ht
    · rw [if_neg h] at hj
      exact wf.nodes n (List.mem_of_getElem? hj)
  · rw [B] at he
    exact (C _).mpr (wf.there _ _ he)
  · rw [B] at he he'
    exact wf.one _ _ _ _ he he' eq ((D e.2).mp hroom)
  · have gen : ∀ a, Reach0 s a → Reach0 (s.set k (some (.file t))) a := by
      intro a ha
      induction ha with
      | root => exact .root
      | @step a e _ he ih => exact .step ih (by rw [B]; exact he)
    obtain ⟨n', hn'⟩ := (C j).mp ⟨n, hj⟩
    exact gen j (wf.reach j n' hn')
/-! ### how many names -/
def hitN (j : Nat) (es : List (Str × Nat)) : Nat := (es.filter fun e => decide (e.2 = j)).length
def cntN (s : Sto) (j : Nat) : Nat := ((List.range s.length).map fun r => hitN j (entsAt s r)).sum
theorem flat_sum {α β : Type} {p : α → Bool} {f : α → List β} {g : α → Nat} : ∀ {l : List α}, (∀ x ∈ l, (if p x = true then (f x).length else 0) = g x) → ((l.filter p).flatMap f).length = (l.map g).sum
  | [], _ => rfl
  | x :: l, h => by
    have h1 := h x List.mem_cons_self
    have h2 := flat_sum (l := l) fun y hy => h y (List.mem_cons_of_mem _ hy)
    rw [List.map_cons, List.sum_cons, ← h1, ← h2]
    by_cases hp : p x = true
    · rw [List.filter_cons_of_pos hp, if_pos hp, List.flatMap_cons, List.length_append]
    · rw [List.filter_cons_of_neg hp, if_neg hp, Nat.zero_add]
theorem names_cnt {s : Sto} {j : Nat} (h : j ≠ 0) : (namesL s j).length = cntN s j := by
  unfold namesL
  rw [if_neg h]
  unfold srtS allHits cntN
  rw [List.length_mergeSort]
  refine flat_sum fun r _ => ?_
  cases hr : isRoom (s.getD r none) with
  | true =>
    rw [if_pos rfl]
    unfold hitsE hitN
    rw [List.length_map]
  | false =>
    rw [if_neg Bool.false_ne_true]
    have : entsAt s r = [] := by
      unfold entsAt
      split
      · next es he => exact absurd ⟨es, he⟩ (room_not hr)
      · rfl
    rw [this]
    rfl
theorem sum_one {f g : Nat → Nat} {r : Nat} (h1 : ∀ x, x ≠ r → g x = f x) (h2 : g r = f r + 1) : ∀ L, ((List.range L).map g).sum = ((List.range L).map f).sum + (if r < L then 1 else 0)
  | 0 => rfl
  | L + 1 => by
    rw [List.range_succ, List.map_append, List.map_append, List.sum_append, List.sum_append, sum_one h1 h2 L]
    show _ + (g L + 0) = _ + (f L + 0) + _
    by_cases h : r = L
    · subst h
      rw [h2, if_neg (Nat.lt_irrefl _), if_pos (Nat.lt_succ_self _)]
      omega
    · rw [h1 L (fun q => h q.symm)]
      by_cases q : r < L
      · have e : r < L + 1 := by omega
        rw [if_pos q, if_pos e]
        omega
      · have e : ¬ r < L + 1 := by omega
        rw [if_neg q, if_neg e]
        omega
theorem cnt_link {s : Sto} {r k : Nat} {nm : Str} (hr : roomAt s r) (fresh : nm ∉ (entsAt s r).map (·.1)) : cntN (withE s r nm (some k)) k = cntN s k + 1 := by
  have rl := room_lt hr
  unfold cntN withE
  rw [List.length_set]
  have := sum_one (f := fun x => hitN k (entsAt s x)) (g := fun x => hitN k (entsAt (s.set r (some (.room (wE (entsAt s r) nm (some k))))) x)) (r := r) (fun x hx => by
    show hitN k (entsAt _ x) = hitN k (entsAt s x)
    rw [ents_set rl, if_neg hx]) (by
    show hitN k (entsAt _ r) = hitN k (entsAt s r) + 1
    rw [ents_set rl, if_pos rfl]
    unfold hitN
    have p : (wE (entsAt s r) nm (some k)).Perm ((entsAt s r) ++ [(nm, k)]) := by
      unfold wE
      rw [filt_fresh fresh]
      exact List.mergeSort_perm _ _
    rw [(p.filter _).length_eq, List.filter_append, List.length_append, List.filter_cons_of_pos (by exact decide_eq_true rfl)]
    rfl) s.length
  rw [if_pos rl] at this
  exact this
theorem cnt_text {s s' : Sto} {j : Nat} (h : ∀ r, entsAt s' r = entsAt s r) (hl : s'.length = s.length) : cntN s' j = cntN s j := by
  unfold cntN
  rw [hl]
  simp only [h]
/-! ### a store as data -/
def ndD : Option Nd → PyData
  | none => .none
  | some (.file t) => .tuple [.str "file", .str t]
  | some (.sign p) => .tuple [.str "sign", .str p]
  | some (.room es) => .tuple [.str "room", .tuple (es.map entN)]
def stD (s : Sto) : PyData := .tuple (s.map ndD)
section
variable {K : PySem.W.Frag} {H : Hp}
theorem dp_entN : ∀ {ys : List V} {es : List (Str × Nat)}, Paired (pairV H) ys es → DpAll K H ys (es.map entN)
  | _, _, .nil => .nil
  | _, _, .cons h t => by
    obtain ⟨p, rfl, hp⟩ := h
    exact .cons (.tup hp.sq (.cons (.str _) (.cons (.int _) .nil))) (dp_entN t)
theorem dp_nd {v : V} : ∀ {n : Option Nd}, NdAt H v n → Dp K H v (ndD n)
  | none, h => by
    have h : v = .non := h
    rw [h]
    exact .non
  | some (.file t), ⟨a, e, r⟩ => by
    rw [e]
    exact .tup r.sq (.cons (.str _) (.cons (.str _) .nil))
  | some (.sign t), ⟨a, e, r⟩ => by
    rw [e]
    exact .tup r.sq (.cons (.str _) (.cons (.str _) .nil))
  | some (.room es), ⟨a, b, e, r, ys, f, p⟩ => by
    rw [e]
    exact .tup r.sq (.cons (.str _) (.cons (.tup f.rt.sq (dp_entN p)) .nil))
theorem dp_nds : ∀ {xs : List V} {s : Sto}, Paired (NdAt H) xs s → DpAll K H xs (s.map ndD)
  | _, _, .nil => .nil
  | _, _, .cons h t => .cons (dp_nd h) (dp_nds t)
theorem dp_st {v : V} {s : Sto} (h : StAt H v s) : Dp K H v (stD s) := by
  obtain ⟨a, xs, rfl, ha, ps⟩ := h
  exact .tup ha.sq (dp_nds ps)
end

/-! ### nodes that are in no entry any more -/
def keptP (s : Sto) (n k : Nat) : Prop := k = 0 ∨ ∃ r < n, ∃ e ∈ entsAt s r, e.2 = k
def keptB (s : Sto) (k : Nat) : Bool := decide (k = 0) || (List.range s.length).any fun r => (entsAt s r).any fun e => decide (e.2 = k)
theorem kept_iff {s : Sto} {k : Nat} : keptB s k = true ↔ keptP s s.length k := by
  unfold keptB keptP
  rw [Bool.or_eq_true, decide_eq_true_eq, List.any_eq_true]
  refine or_congr Iff.rfl ⟨?_, ?_⟩
  · rintro ⟨r, hr, h⟩
    obtain ⟨e, he, h⟩ := List.any_eq_true.mp h
    exact ⟨r, List.mem_range.mp hr, e, he, of_decide_eq_true h⟩
  · rintro ⟨r, hr, e, he, h⟩
    exact ⟨r, List.mem_range.mpr hr, List.any_eq_true.mpr ⟨e, he, decide_eq_true h⟩⟩
def clearS (s : Sto) : Sto := (List.range s.length).map fun k => if keptB s k = true then s.getD k none else none
def trimS (s : Sto) : Sto := (s.reverse.dropWhile Option.isNone).reverse
def letGo (s : Sto) : Sto := trimS (clearS s)
theorem trim_none {s : Sto} : trimS (s ++ [none]) = trimS s := by
  unfold trimS
  rw [List.reverse_append]
  rfl
theorem trim_some {s : Sto} {n : Nd} : trimS (s ++ [some n]) = s ++ [some n] := by
  unfold trimS
  rw [List.reverse_append]
  show ((some n :: s.reverse).dropWhile Option.isNone).reverse = _
  rw [List.dropWhile_cons_of_neg (by simp), List.reverse_cons, List.reverse_reverse]
theorem merge_keys : ∀ {more kvs : List (Key × V)} {ks ks2 : List Int}, kvs.map (·.1) = ks.map Sum.inl → more.map (·.1) = ks2.map Sum.inl → ks.Nodup → ∃ ks' : List Int, (mergeK kvs more).map (·.1) = ks'.map Sum.inl ∧ ks'.Nodup ∧ ∀ x, x ∈ ks' ↔ x ∈ ks ∨ x ∈ ks2
  | [], kvs, ks, ks2, h1, h2, h3 => by
    have : ks2 = [] := by
      cases ks2 with
      | nil => rfl
      | cons a b => cases h2
    subst this
    exact ⟨ks, h1, h3, fun x => ⟨.inl, fun h => h.resolve_right (fun h => nomatch h)⟩⟩
  | m :: more, kvs, ks, ks2, h1, h2, h3 => by
    cases ks2 with
    | nil => cases h2
    | cons k ks2 =>
      rw [List.map_cons, List.map_cons] at h2
      obtain ⟨e1, e2⟩ := List.cons.inj h2
      obtain ⟨ks', a, b, c⟩ := merge_keys (more := more) (kvs := putK kvs m.1 m.2) (ks := putI ks k) (ks2 := ks2) (by rw [e1]; exact keys_put h1) e2 (putI_nodup h3)
      refine ⟨ks', a, b, fun x => (c x).trans ?_⟩
      rw [putI_mem, List.mem_cons, or_assoc]
theorem KeysAre.merge {H : Hp} {D : Addr} {S S2 : Nat → Prop} {kvs more : List (Key × V)} (h : KeysAre H D S) (hk : H D = some (.dK kvs)) {E : Addr} {H0 : Hp} (h2 : KeysAre H0 E S2) (hm : H0 E = some (.dK more)) {H' : Hp} (hH : H' D = some (.dK (mergeK kvs more))) : KeysAre H' D fun k => S k ∨ S2 k := by
  obtain ⟨kvs', ks, a1, a2, a3, a4⟩ := h
  rw [hk] at a1
  cases a1
  obtain ⟨more', ks2, b1, b2, b3, b4⟩ := h2
  rw [hm] at b1
  cases b1
  obtain ⟨ks', c1, c2, c3⟩ := merge_keys a2 b2 a3
  refine ⟨_, ks', hH, c1, c2, fun x => (c3 x).trans ?_⟩
  rw [a4, b4]
  constructor
  · rintro (⟨k, e, h⟩ | ⟨k, e, h⟩)
    · exact ⟨k, e, .inl h⟩
    · exact ⟨k, e, .inr h⟩
  · rintro ⟨k, e, h | h⟩
    · exact .inl ⟨k, e, h⟩
    · exact .inr ⟨k, e, h⟩
theorem rd_dcTt {K : PySem.W.Frag} {ta : TE} {g : TG} {tt : TT} {tk tv : TE} {vs : List Nat} {σ : St} {H : Hp} {Q : VK} (q : ta σ H fun x H1 => ∃ a, x = .ref a ∧ (∃ xs, SqT K H1 a xs) ∧ DcW (Itt K a) g tt tk tv vs σ H1 Q) : tDc (iAny K ta) g tt tk tv vs σ H Q := .inr (.inl q)
theorem rd_ddT {K : PySem.W.Frag} {a : Addr} {xs : List V} {g : TG} {tt : TT} {tk tv : TE} {vs : List Nat} {σ : St} {H : Hp} {Q : VK} (h : SqT K H a xs) (Pv : Addr → Nat → Hp → Prop) (h0 : ∀ D, H D = none → Pv D 0 (upd H D (.dK []))) (hG : ∀ D i H', H D = none → i ≤ xs.length → Pv D i H' → SqT K H' a xs)
    (hs : ∀ D i x H', H D = none → xs[i]? = some x → Pv D i H' → DcT g tt tk tv vs σ D (Pv D (i + 1)) x H') (hd : ∀ D H', H D = none → Pv D xs.length H' → Q (.ref D) H') :
    ∃ b, V.ref a = .ref b ∧ (∃ xs, SqT K H b xs) ∧ DcW (Itt K b) g tt tk tv vs σ H Q := by
  refine ⟨a, rfl, ⟨xs, h⟩, fun D hD => ⟨fun i m H' => m = xs.length - i ∧ i ≤ xs.length ∧ Pv D i H', ⟨xs.length, by simp, Nat.zero_le _, h0 D hD⟩, ?_⟩⟩
  rintro i m H' ⟨rfl, hi, p⟩
  have q := hG D i H' hD hi p
  have w := walk_tup (K := K) (a := a) (xs := xs)
  by_cases hlt : i < xs.length
  · refine .inr ⟨w.goes i H' hlt q, Pv D (i + 1), fun H2 p' => ⟨xs.length - (i + 1), by omega, rfl, hlt, p'⟩, fun x H2 y => ?_⟩
    obtain ⟨e, hx⟩ := w.yields i H' x H2 hlt q y
    subst e
    exact hs D i x _ hD hx p
  · have e : i = xs.length := by omega
    subst e
    exact .inl ⟨w.stops H' q, hd D H' hD p⟩
theorem KeysAre.put1 {H : Hp} {D : Addr} {S : Nat → Prop} {kvs : List (Key × V)} {p : Nat} {v : V} (h : KeysAre H D S) (hk : H D = some (.dK kvs)) : KeysAre (upd H D (.dK (putK kvs (Sum.inl (p : Int)) v))) D fun k => S k ∨ k = p := by
  obtain ⟨kvs', ks, h1, h2, h3, h4⟩ := h
  rw [hk] at h1
  cases h1
  refine ⟨_, putI ks p, upd_same, keys_put h2, putI_nodup h3, fun x => ?_⟩
  rw [putI_mem, h4]
  constructor
  · rintro (⟨k, rfl, hk⟩ | rfl)
    · exact ⟨k, rfl, .inl hk⟩
    · exact ⟨p, rfl, .inr rfl⟩
  · rintro ⟨k, rfl, hk | rfl⟩
    · exact .inl ⟨k, rfl, hk⟩
    · exact .inr rfl
theorem tyD {K : PySem.W.Frag} {H : Hp} {D : Addr} {S : Nat → Prop} (h : KeysAre H D S) : tyV K "dict" (.ref D) H := by
  obtain ⟨kvs, _, h1, _⟩ := h
  exact .inr (.inr (.inl ⟨rfl, .inl ⟨_, h1⟩⟩))

/-! ### what is left when nodes are let go is a store -/
theorem clear_at {s : Sto} {k : Nat} : (clearS s)[k]? = if k < s.length then some (if keptB s k = true then s.getD k none else none) else none := by
  unfold clearS
  rw [List.getElem?_map]
  by_cases h : k < s.length
  · rw [List.getElem?_range h, if_pos h]
    rfl
  · rw [if_neg h, List.getElem?_eq_none (by rw [List.length_range]; omega)]
    rfl
theorem clear_node {s : Sto} {k : Nat} {nd : Nd} : (clearS s)[k]? = some (some nd) ↔ s[k]? = some (some nd) ∧ keptB s k = true := by
  rw [clear_at]
  by_cases h : k < s.length
  · rw [if_pos h, List.getD_eq_getElem?_getD, List.getElem?_eq_getElem h]
    cases keptB s k with
    | true =>
      rw [if_pos rfl]
      exact ⟨fun q => ⟨q, rfl⟩, fun q => q.1⟩
    | false =>
      rw [if_neg Bool.false_ne_true]
      exact ⟨(fun q => by cases q), fun q => by cases q.2⟩
  · rw [if_neg h, List.getElem?_eq_none (by omega)]
    exact ⟨(fun q => by cases q), fun q => by cases q.1⟩
theorem trim_parts : ∀ (n : Nat) (s : Sto), s.length = n → ∃ m, s = trimS s ++ List.replicate m none ∧ (trimS s = [] ∨ ∃ x, (trimS s)[(trimS s).length - 1]? = some (some x))
  | 0, s, h => by
    obtain rfl : s = [] := List.eq_nil_of_length_eq_zero h
    exact ⟨0, rfl, .inl rfl⟩
  | n + 1, s, h => by
    rcases List.eq_nil_or_concat s with rfl | ⟨sl, y, rfl⟩
    · cases h
    rw [List.concat_eq_append] at h ⊢
    rw [List.length_append, List.length_singleton] at h
    cases y with
    | none =>
      obtain ⟨m, e, l⟩ := trim_parts n sl (by omega)
      rw [trim_none]
      refine ⟨m + 1, ?_, l⟩
      rw [List.replicate_succ', ← List.append_assoc, ← e]
    | some x =>
      rw [trim_some]
      refine ⟨0, by rw [List.replicate_zero, List.append_nil], .inr ⟨x, ?_⟩⟩
      rw [List.length_append, List.length_singleton, Nat.add_sub_cancel, List.getElem?_append_right (Nat.le_refl _), Nat.sub_self]
      rfl
theorem trim_node {s : Sto} {k : Nat} {nd : Nd} : (trimS s)[k]? = some (some nd) ↔ s[k]? = some (some nd) := by
  obtain ⟨m, e, _⟩ := trim_parts _ s rfl
  constructor
  · intro h
    rw [e, List.getElem?_append_left (List.getElem?_eq_some_iff.mp h).1]
    exact h
  · intro h
    rw [e] at h
    by_cases q : k < (trimS s).length
    · rwa [List.getElem?_append_left q] at h
    · rw [List.getElem?_append_right (by omega), List.getElem?_replicate] at h
      split at h <;> cases h
theorem letGo_node {s : Sto} {k : Nat} {nd : Nd} : (letGo s)[k]? = some (some nd) ↔ s[k]? = some (some nd) ∧ keptB s k = true := trim_node.trans clear_node
theorem letGo_len (s : Sto) : (letGo s).length ≤ s.length := by
  obtain ⟨m, e, _⟩ := trim_parts _ (clearS s) rfl
  have : (clearS s).length = s.length := by unfold clearS; rw [List.length_map, List.length_range]
  rw [← this]
  have h := congrArg List.length e
  rw [List.length_append] at h
  show (trimS (clearS s)).length ≤ _
  omega
theorem mem_ents {s : Sto} {r : Nat} {e : Str × Nat} : e ∈ entsAt s r ↔ ∃ es, s[r]? = some (some (.room es)) ∧ e ∈ es := by
  constructor
  · intro h
    unfold entsAt at h
    split at h
    · next es hr => exact ⟨es, hr, h⟩
    · cases h
  · rintro ⟨es, hr, h⟩
    rw [entsAt_room hr]
    exact h
theorem wf_letgo {s : Sto} (l2 : s.length ≤ 60) (root : roomAt s 0) (nodes : ∀ n, some n ∈ s → NdOk s.length n) (there : ∀ r e, e ∈ entsAt s r → ∃ n, s[e.2]? = some (some n))
    (one : ∀ r r' e e', e ∈ entsAt s r → e' ∈ entsAt s r' → e.2 = e'.2 → (∃ es, s[e.2]? = some (some (.room es))) → e.2 ≠ 0 ∧ r = r' ∧ e = e') (few : ∀ r, (entsAt s r).length ≤ 1000)
    (R : ∀ k n, s[k]? = some (some n) → keptB s k = true → Reach0 s k) : Wf (letGo s) := by
  have kept0 : keptB s 0 = true := kept_iff.mpr (.inl rfl)
  have keptE : ∀ {r e}, e ∈ entsAt s r → keptB s e.2 = true := fun {r e} h => by
    obtain ⟨es, hr, _⟩ := mem_ents.mp h
    exact kept_iff.mpr (.inr ⟨r, (List.getElem?_eq_some_iff.mp hr).1, e, h, rfl⟩)
  have old : ∀ {r e}, e ∈ entsAt (letGo s) r → e ∈ entsAt s r := fun {r e} h => by
    obtain ⟨es, hr, he⟩ := mem_ents.mp h
    exact mem_ents.mpr ⟨es, (letGo_node.mp hr).1, he⟩
  have new : ∀ {r e}, e ∈ entsAt s r → keptB s r = true → e ∈ entsAt (letGo s) r := fun {r e} h k => by
    obtain ⟨es, hr, he⟩ := mem_ents.mp h
    exact mem_ents.mpr ⟨es, letGo_node.mpr ⟨hr, k⟩, he⟩
  have there' : ∀ r e, e ∈ entsAt s r → ∃ n, (letGo s)[e.2]? = some (some n) := fun r e h => by
    obtain ⟨n, hn⟩ := there r e h
    exact ⟨n, letGo_node.mpr ⟨hn, keptE h⟩⟩
  obtain ⟨es0, h0⟩ := root
  have r0 : (letGo s)[0]? = some (some (.room es0)) := letGo_node.mpr ⟨h0, kept0⟩
  have l1 := (List.getElem?_eq_some_iff.mp r0).1
  refine ⟨l1, Nat.le_trans (letGo_len s) l2, ?_, ⟨_, r0⟩, fun n hn => ?_, fun r e h => there' r e (old h), fun r r' e e' h h' eq hroom => ?_, fun k n hk => ?_, fun r => ?_⟩
  · obtain ⟨m, _, l⟩ := trim_parts _ (clearS s) rfl
    rcases l with l | l
    · have : letGo s = [] := l
      rw [this] at l1
      cases l1
    · exact l
  · obtain ⟨k, hk⟩ := List.mem_iff_getElem?.mp hn
    obtain ⟨hs, hkk⟩ := letGo_node.mp hk
    have ok := nodes n (List.mem_of_getElem? hs)
    match n, ok, hs with
    | .file t, ok, _ => exact ok
    | .sign p, ok, _ => exact ok
    | .room es, ok, hs =>
      refine ⟨fun e he => ⟨(ok.1 e he).1, ?_⟩, ok.2⟩
      obtain ⟨n', hn'⟩ := there' k e (by rw [entsAt_room hs]; exact he)
      exact (List.getElem?_eq_some_iff.mp hn').1
  · obtain ⟨es, hes⟩ := hroom
    exact one r r' e e' (old h) (old h') eq ⟨es, (letGo_node.mp hes).1⟩
  · obtain ⟨hs, hkk⟩ := letGo_node.mp hk
    have gen : ∀ j, Reach0 s j → Reach0 (letGo s) j ∧ keptB s j = true := by
      intro j hj
      induction hj with
      | root => exact ⟨.root, kept0⟩
      | @step r e _ he ih => exact ⟨.step ih.1 (new he ih.2), keptE he⟩
    exact (gen k (R k n hs hkk)).1
  · by_cases h : entsAt (letGo s) r = []
    · rw [h]
      exact Nat.zero_le _
    · obtain ⟨e, he⟩ := List.exists_mem_of_ne_nil _ h
      obtain ⟨es, hr, _⟩ := mem_ents.mp he
      rw [entsAt_room hr]
      have := few r
      rw [entsAt_room (letGo_node.mp hr).1] at this
      exact this
theorem entry_one {s : Sto} (wf : Wf s) {r n : Nat} {w : Str} (h : entryOf s r w = some n) {e : Str × Nat} (he : e ∈ entsAt s r) (hw : e.1 = w) : e = (w, n) := by
  have nd := ents_nd wf r
  have hm := entry_some h
  obtain ⟨i, hi⟩ := List.mem_iff_getElem?.mp he
  obtain ⟨j, hj⟩ := List.mem_iff_getElem?.mp hm
  have : ((entsAt s r).map (·.1))[i]? = ((entsAt s r).map (·.1))[j]? := by
    rw [List.getElem?_map, List.getElem?_map, hi, hj]
    show some e.1 = some w
    rw [hw]
  have il : i < ((entsAt s r).map (·.1)).length := by rw [List.length_map]; exact (List.getElem?_eq_some_iff.mp hi).1
  have ij : i = j := (List.getElem?_inj il nd).mp this
  rw [ij, hj] at hi
  exact (Option.some.inj hi).symm
/-- without an entry -/
theorem wf_removed {s : Sto} (wf : Wf s) {r n : Nat} {w : Str} (hr : roomAt s r) (he : entryOf s r w = some n) (hn : isRoom (s.getD n none) = true → entsAt s n = []) : Wf (letGo (withE s r w none)) := by
  have rl := room_lt hr
  have noents : entsAt s n = [] := by
    cases h : isRoom (s.getD n none) with
    | true => exact hn h
    | false =>
      cases e : entsAt s n with
      | nil => rfl
      | cons x l =>
        have : x ∈ entsAt s n := by rw [e]; exact List.mem_cons_self
        obtain ⟨es, h1, _⟩ := mem_ents.mp this
        exact absurd ⟨es, h1⟩ (room_not h)
  unfold withE
  generalize hes' : wE (entsAt s r) w none = es'
  have mem : ∀ {e}, e ∈ es' ↔ e ∈ entsAt s r ∧ e.1 ≠ w := fun {e} => by
    rw [← hes']
    unfold wE
    rw [mem_srtE, List.mem_append, List.mem_filter, decide_eq_true_eq]
    exact ⟨fun h => h.resolve_right (fun h => nomatch h), .inl⟩
  have up : es'.Pairwise fun a b => tl a.1 < tl b.1 := by
    rw [← hes']
    unfold wE
    refine srtE_up ?_
    show ((((entsAt s r).filter fun e : Str × Nat => decide (e.1 ≠ w)) ++ ([] : List (Str × Nat))).map (·.1)).Nodup
    rw [List.append_nil]
    exact List.Nodup.sublist (List.filter_sublist.map _) (ents_nd wf r)
  have len : es'.length ≤ (entsAt s r).length := by
    rw [← hes']
    unfold wE
    rw [len_srtE]
    show (((entsAt s r).filter fun e : Str × Nat => decide (e.1 ≠ w)) ++ ([] : List (Str × Nat))).length ≤ _
    rw [List.append_nil]
    exact List.length_filter_le _ _
  have A := fun j : Nat => set_get (s := s) rl (x := some (.room es')) j
  have B := fun j : Nat => ents_set (s := s) rl (es := es') j
  have C : ∀ j : Nat, (∃ n, (s.set r (some (.room es')))[j]? = some (some n)) ↔ ∃ n, s[j]? = some (some n) := fun j => by
    rw [A]
    by_cases h : j = r
    · rw [if_pos h]
      obtain ⟨es, he⟩ := hr
      exact ⟨fun _ => ⟨_, h ▸ he⟩, fun _ => ⟨_, rfl⟩⟩
    · rw [if_neg h]
  have D : ∀ j : Nat, roomAt (s.set r (some (.room es'))) j ↔ roomAt s j := fun j => by
    unfold roomAt
    rw [A]
    by_cases h : j = r
    · rw [if_pos h]
      exact ⟨fun _ => h ▸ hr, fun _ => ⟨_, rfl⟩⟩
    · rw [if_neg h]
  have old : ∀ {j : Nat} {e : Str × Nat}, e ∈ entsAt (s.set r (some (.room es'))) j → e ∈ entsAt s j := fun {j e} he => by
    rw [B] at he
    by_cases h : j = r
    · rw [if_pos h] at he
      rw [h]
      exact (mem.mp he).1
    · rw [if_neg h] at he
      exact he
  have keep : ∀ {j : Nat} {e : Str × Nat}, e ∈ entsAt s j → e.2 ≠ n → e ∈ entsAt (s.set r (some (.room es'))) j := fun {j e} h1 h2 => by
    rw [B]
    by_cases h : j = r
    · rw [if_pos h]
      rw [h] at h1
      refine mem.mpr ⟨h1, fun q => h2 ?_⟩
      rw [entry_one wf he h1 q]
    · rw [if_neg h]
      exact h1
  have notn : ∀ {j : Nat} {e : Str × Nat}, e ∈ entsAt s j → j ≠ n := fun {j e} h q => by
    rw [q, noents] at h
    cases h
  have gen : ∀ j, Reach0 s j → j ≠ n → Reach0 (s.set r (some (.room es'))) j := by
    intro j hj
    induction hj with
    | root => exact fun _ => .root
    | @step r' e _ he' ih => exact fun h => .step (ih (notn he')) (keep he' h)
  refine wf_letgo (by rw [List.length_set]; exact wf.l2) ((D 0).mpr wf.root) (fun x hx => ?_) (fun a e h => (C _).mpr (wf.there a e (old h))) (fun a b e e' h h' eq hroom => wf.one a b e e' (old h) (old h') eq ((D e.2).mp hroom)) (fun j => ?_) fun k x hk hkept => ?_
  · rw [List.length_set]
    obtain ⟨j, hj⟩ := List.mem_iff_getElem?.mp hx
    rw [A] at hj
    by_cases h : j = r
    · rw [if_pos h] at hj
      cases hj
      refine ⟨fun e he => ?_, up⟩
      obtain ⟨es, hes⟩ := hr
      have h1 := (mem.mp he).1
      rw [entsAt_room hes] at h1
      exact (wf.nodes _ (List.mem_of_getElem? hes)).1 e h1
    · rw [if_neg h] at hj
      exact wf.nodes x (List.mem_of_getElem? hj)
  · rw [B]
    split
    · exact Nat.le_trans len (wf.few r)
    · exact wf.few j
  · obtain ⟨x', hx'⟩ := (C k).mp ⟨x, hk⟩
    by_cases q : k = n
    · rcases kept_iff.mp hkept with h0 | ⟨a, _, e, h1, h2⟩
      · rw [h0]
        exact .root
      · have h3 := old h1
        obtain ⟨es, h4, _⟩ := mem_ents.mp h3
        rw [← h2]
        exact .step (gen a (wf.reach a _ h4) (notn h3)) h1
    · exact gen k (wf.reach k x' hx') q
theorem withE_none {s : Sto} {r : Nat} {w : Str} (hr : roomAt s r) : (∀ j e, e ∈ entsAt (withE s r w none) j → e ∈ entsAt s j) ∧ (∀ j, (entsAt (withE s r w none) j).length ≤ (entsAt s j).length) ∧ (∀ j, roomAt s j → roomAt (withE s r w none) j) := by
  have rl := room_lt hr
  unfold withE
  refine ⟨fun j e h => ?_, fun j => ?_, fun j h => ?_⟩
  · rw [ents_set rl] at h
    split at h
    · next q =>
      unfold wE at h
      rw [mem_srtE, List.mem_append, List.mem_filter] at h
      rw [q]
      exact (h.resolve_right (fun h => nomatch h)).1
    · exact h
  · rw [ents_set rl]
    split
    · next q =>
      rw [q]
      unfold wE
      rw [len_srtE]
      show (((entsAt s r).filter fun e : Str × Nat => decide (e.1 ≠ w)) ++ ([] : List (Str × Nat))).length ≤ _
      rw [List.append_nil]
      exact List.length_filter_le _ _
    · exact Nat.le_refl _
  · unfold roomAt
    rw [set_get rl]
    split
    · exact ⟨_, rfl⟩
    · exact h

def Φ_let_go (K : PySem.W.Frag) (vs : V) (H : Hp) (Q : VK) : Prop := ∃ s : Sto, StAt H vs s ∧ s.length ≤ 1000 ∧ (∀ r, (entsAt s r).length ≤ 1000) ∧ roomAt s 0 ∧ (∀ r e, e ∈ entsAt s r → e.2 < s.length) ∧ ∀ v H', Same H H' → StAt H' v (letGo s) → Q v H'
theorem ok_let_go (T : Txt P K mg) {f : Addr} {fd : FuncData} (F : Fun K "let_go" "let_go" s_let_go f fd) : Keeps P w K mg base CX0 1 f fd ["store"] (sp1 (Φ_let_go K)) := by
  refine keeps0_of F sc_let_go (fun vs H Q E h => ?_) (fun cdv A outer s H vs Q E hr h => ?_)
  · obtain ⟨_, rfl, _⟩ := h
    rfl
  obtain ⟨v_store, rfl, h⟩ := h
  have hu := hr.hu
  refine ⟨_, (pss_cons (ps_set (i := 1) sc_let_go.nd rfl (by first | exact Or.inl rfl | exact Or.inr rfl) (pe_disp (pps_cons pe_int pe_bl pps_nil) (by rfl) (by rfl) (fun z => by cases z) (by decide)))
      (pss_cons (ps_for PassesOwn.never rfl (pi_any (K := K) (pv 0)) (pg_name (i := 2) sc_let_go.nd rfl (by first | exact Or.inl rfl | exact Or.inr rfl)) (pss_one (ps_if (PW.pt (pw_and (pt_cmpR oIsNot (pv 2) pe_non (nomark _)) (pw_and1 (pt_cmpR (oEq (K := K) hr.u65) (pe_ix (ixX (K := K)) (pv 2) pe_int (fun _ _ => rfl)) (pe_gk (by rfl) T.c_ROOM) (nomark _))))) (pss_one (ps_expr (pe_bmX (K := K) PySem.F.plainAttrs_dict PySem.F.slot_dict_update PySem.F.type_dict_update mt_updK (pv 1) (pa_cons (pe_dc (own := [("name", 4), ("number", 5)]) rfl sc_let_go.nd (pi_any (K := K) (pe_ix (ixX (K := K)) (pv 2) pe_int (fun _ _ => rfl))) (blkOk_by (own := [("name", 4), ("number", 5)]) (N := ["store", "kept", "node", "nodes", "name", "number"]) (sc := defScope s_let_go) (by decide +kernel)) (fun _ _ _ _ _ => pg_seqX (K := K) (n := 2) rfl (pgs_cons (pg_name (i := 4) sc_let_go.nd rfl (by first | exact Or.inl rfl | exact Or.inr rfl)) (pgs_cons (pg_name (i := 5) sc_let_go.nd rfl (by first | exact Or.inl rfl | exact Or.inr rfl)) pgs_nil))) (fun _ _ _ _ _ => pts_nil) (fun _ _ _ _ _ => (pv 5)) (fun _ _ _ _ _ => pe_bl)) pa_nil)))) pss_nil)))
      (pss_cons (ps_setLc (i := 3) (own := [("number", 5), ("node", 2)]) rfl sc_let_go.nd rfl rfl (sw_true rfl rfl rfl (by decide +kernel)) (pi_enumT (K := K) (by rfl) T.b_enumerate (pa_cons (pv 0) pa_nil)) (blkOk_by (own := [("number", 5), ("node", 2)]) (N := ["store", "kept", "node", "nodes", "name", "number"]) (sc := defScope s_let_go) (by decide +kernel)) (fun _ _ _ _ _ => pg_seqX (K := K) (n := 2) rfl (pgs_cons (pg_name (i := 5) sc_let_go.nd rfl (by first | exact Or.inl rfl | exact Or.inr rfl)) (pgs_cons (pg_name (i := 2) sc_let_go.nd rfl (by first | exact Or.inl rfl | exact Or.inr rfl)) pgs_nil))) (fun _ _ _ _ _ => pts_nil) (fun _ _ _ _ _ => (pe_ifExp (pt_cmp (pc_din hu (pv 5) (pv 1))) (pv 2) pe_non)))
      (pss_cons (ps_while PassesOwn.never (pt_cmpR oIs (pe_ix (ixX (K := K)) (pv 3) (pe_un un_neg pe_int) (fun _ _ => rfl)) pe_non (nomark _)) (pss_one (ps_expr (pe_bm0X (K := K) PySem.F.plainAttrs_list PySem.F.slot_list_pop PySem.F.type_list_pop mt_pop (pv 3)))))
      (pss_one (ps_ret (pe_callTy (callTupF (K := K)) (by rfl) T.b_tuple (by decide +kernel) (pa_cons (pv 3) pa_nil)))))))), ?_⟩
  rw [show start ["store", "kept", "node", "nodes", "name", "number"] [v_store] = [some v_store, none, none, none, none, none] from rfl]
  try dsimp only [cxOf, Cx.nox, Cx.wish]
  obtain ⟨s, hS, hl, few, hroot, low, q⟩ := h
  have hS' := hS
  obtain ⟨a, xs, rfl, ha, ps⟩ := hS'
  have lx := Paired.length ps
  have l1 := room_lt hroot
  walk_at "rd"
  refine rd_dispI fun D hD => ?_
  have D0 := hD
  have k1 := (Same.refl H).new (o := .dK [(Sum.inl 0, .bl true)]) hD
  have K1 : KeysAre (upd H D (.dK [(Sum.inl 0, .bl true)])) D (keptP s 0) := ⟨_, [0], upd_same, rfl, List.nodup_cons.mpr ⟨List.not_mem_nil, List.nodup_nil⟩, fun x => by
    rw [List.mem_singleton]
    exact ⟨fun h => ⟨0, h, .inl rfl⟩, fun ⟨k, e, h⟩ => by
      rcases h with rfl | ⟨_, h, _⟩
      · exact e
      · exact absurd h (Nat.not_lt_zero _)⟩⟩
  generalize upd H D (.dK [(Sum.inl 0, .bl true)]) = H1 at k1 K1 ⊢
  walk_at "rd"
  refine rd_forT ?_
  walk_at "rd"
  refine rd_itT (xs := xs) (ha.up (Ty.of k1)).sq (fun i σ H' => ∃ x2 x3 x4 x5, Same H H' ∧ KeysAre H' D (keptP s i) ∧ σ = [some (.ref a), some (.ref D), x2, x3, x4, x5]) ⟨_, _, _, _, k1, K1, rfl⟩ ?_ ?_ ?_
  · rintro i σ H' _ ⟨_, _, _, _, k, _⟩
    exact (ha.up (Ty.of k)).sq
  · rintro i x σ H2 hx ⟨x2, x3, x4, x5, k2, K2, rfl⟩
    obtain ⟨n, hn, at1⟩ := pd_getL ps hx
    have il : i < s.length := (List.getElem?_eq_some_iff.mp hn).1
    have at2 := at1.up (Ty.of k2)
    have same : isRoom n = false → ∀ k, keptP s i k ↔ keptP s (i + 1) k := fun hr k => by
      have e0 : entsAt s i = [] := by
        unfold entsAt
        rw [hn]
        match n, hr with
        | none, _ => rfl
        | some (.file t), _ => rfl
        | some (.sign t), _ => rfl
      unfold keptP
      refine or_congr Iff.rfl ⟨fun ⟨r, hr, h⟩ => ⟨r, by omega, h⟩, fun ⟨r, hr, e, he, h⟩ => ?_⟩
      by_cases q : r = i
      · rw [q, e0] at he
        cases he
      · exact ⟨r, by omega, e, he, h⟩
    walk_at "rd"
    rw [at1.non]
    cases n with
    | none =>
      rw [show (none : Option Nd).isNone = true from rfl]
      walk_at "rd"
      exact ⟨_, _, _, _, k2, K2.congr (same rfl), rfl⟩
    | some nd =>
      rw [show (some nd : Option Nd).isNone = false from rfl]
      obtain ⟨a1, y1, rfl, hh1⟩ := at2.head
      walk_at "rd"
      refine rd_ixT hh1.sq rfl ?_
      walk_at "rd"
      rw [wordN_room]
      cases hr : isRoom (some nd) with
      | false =>
        walk_at "rd"
        exact ⟨_, _, _, _, k2, K2.congr (same hr), rfl⟩
      | true =>
        match nd, hr, hn, at2 with
        | .room es, _, hn, ⟨na, nb, e, hna, ys, hys, pys⟩ =>
        cases e
        have ly := Paired.length pys
        have hen := entsAt_room hn
        have fw := few i
        rw [hen] at fw
        have lw : ∀ e ∈ es, e.2 < s.length := fun e he => low i e (by rw [hen]; exact he)
        walk_at "rd"
        refine ⟨tyD K2, ?_⟩
        refine rd_cons ?_
        refine rd_dcTt ?_
        walk_at "rd"
        refine rd_ixT hna.sq rfl ?_
        refine rd_ddT (xs := ys) hys.rt.sq (fun D2 j H' => Same H2 H' ∧ KeysAre H' D2 fun k => ∃ e ∈ es.take j, e.2 = k) (fun D2 hD2 => ⟨(Same.refl H2).new (o := .dK []) hD2, KeysAre.zero.congr fun k => ⟨fun h => h.elim, fun ⟨_, h, _⟩ => nomatch h⟩⟩) (fun D2 j H' _ _ h => (hys.up (Ty.of h.1)).rt.sq) (fun D2 j x H' hD2 hx hP => ?_) (fun D2 H3 hD2 hP => ?_)
        · obtain ⟨k3, K3⟩ := hP
          obtain ⟨e, he, pp, rfl, hpp⟩ := pd_getL pys hx
          obtain ⟨kvs, hk, lk⟩ := K3.few (n := s.length) fun k ⟨e, he, h⟩ => h ▸ lw e (List.mem_of_mem_take he)
          refine rd_dcT1 ?_
          refine rd_gtup (hpp.up (Ty.of k3)).sq rfl ?_
          walk_at "rd"
          refine ⟨kvs, Sum.inl (e.2 : Int), rfl, hk, szLt (by omega), k3.put hD2, (K3.put1 hk).congr fun k => ?_⟩
          rw [List.take_add_one, he]
          show _ ↔ ∃ e' ∈ es.take j ++ [e], e'.2 = k
          constructor
          · rintro (⟨e', h1, h2⟩ | rfl)
            · exact ⟨e', List.mem_append_left _ h1, h2⟩
            · exact ⟨e, List.mem_append_right _ (List.mem_singleton.mpr rfl), rfl⟩
          · rintro ⟨e', h1, h2⟩
            rcases List.mem_append.mp h1 with h1 | h1
            · exact .inl ⟨e', h1, h2⟩
            · rw [List.mem_singleton.mp h1] at h2
              exact .inr h2.symm
        · obtain ⟨k3, K3⟩ := hP
          rw [ly, List.take_length] at K3
          have K23 := K2.same k3
          obtain ⟨kvs, hk, lk⟩ := K23.few (n := s.length + 1) fun k h => by
            rcases h with rfl | ⟨r, _, e, he, rfl⟩
            · omega
            · have := low r e he
              omega
          obtain ⟨more, hm, lm⟩ := K3.few (n := s.length) fun k ⟨e, he, h⟩ => h ▸ lw e he
          have DH : H D = none := D0
          have ne : D ≠ D2 := fun e => by
            obtain ⟨_, _, h0, _⟩ := K2
            rw [e, hD2] at h0
            cases h0
          walk_at "rd"
          refine ⟨D, D2, kvs, more, rfl, rfl, hk, hm, ne, szOk (by omega), ?_⟩
          refine ⟨_, _, _, _, (k2.trans k3).put DH, (K23.merge hk K3 hm upd_same).congr fun k => ?_, rfl⟩
          unfold keptP
          constructor
          · rintro ((h | ⟨r, hr, h⟩) | ⟨e, he, h⟩)
            · exact .inl h
            · exact .inr ⟨r, by omega, h⟩
            · exact .inr ⟨i, by omega, e, by rw [hen]; exact he, h⟩
          · rintro (h | ⟨r, hr, e, he, h⟩)
            · exact .inl (.inl h)
            · by_cases q : r = i
              · rw [q, hen] at he
                exact .inr ⟨e, he, h⟩
              · exact .inl (.inr ⟨r, by omega, e, he, h⟩)
  · rintro σ H2 ⟨x2, x3, x4, x5, k2, K2, rfl⟩
    rw [lx] at K2
    walk_at "rd"
    have dec : ∀ {o : Option V} {k : Nat}, (o.isSome = true ↔ keptP s s.length k) → o.isSome = keptB s k := fun {o k} h => by
      cases hb : keptB s k with
      | true => exact h.mpr (kept_iff.mp hb)
      | false =>
        cases ho : o.isSome with
        | false => rfl
        | true => rw [kept_iff.mpr (h.mp ho)] at hb; cases hb
    refine rd_clET (xs := xs) (ha.up (Ty.of k2)).sq (fun D3 i H' => Same H2 H' ∧ ∃ zs, H' D3 = some (.lst zs) ∧ Paired (NdAt H') zs ((clearS s).take i)) (fun D3 hD3 => ⟨(Same.refl H2).new (o := .lst []) hD3, [], upd_same, .nil⟩) (fun D3 i H' _ _ h => (ha.up (Ty.of (k2.trans h.1))).sq) (fun D3 i x T H' hD3 hx hP hT => ?_) (fun D3 H3 hD3 hP => ?_)
    · obtain ⟨k3, zs, hL, pz⟩ := hP
      obtain ⟨n, hn, at1⟩ := pd_getL ps hx
      have il : i < s.length := (List.getElem?_eq_some_iff.mp hn).1
      have cl : (clearS s)[i]? = some (if keptB s i = true then n else none) := by
        unfold clearS
        rw [List.getElem?_map, List.getElem?_range il]
        show some (if keptB s i = true then s.getD i none else none) = _
        rw [List.getD_eq_getElem?_getD, hn]
        rfl
      have lz := Paired.length pz
      rw [List.length_take] at lz
      have k4 := k3.new (o := .tup [.int (i : Int), x]) hT
      have s4 := (Same.refl H').new (o := .tup [.int (i : Int), x]) hT
      have hL4 := s4 _ _ hL
      have pz4 := pd_mono (fun _ _ q => NdAt.up q (Ty.of s4)) pz
      have at4 := at1.up (Ty.of (k2.trans k4))
      refine rd_lcT1 ?_
      refine rd_gtup (SqT.of upd_same) rfl ?_
      generalize upd H' T (.tup [.int (i : Int), x]) = H4 at k4 s4 hL4 pz4 at4 ⊢
      obtain ⟨o, ho, hiff⟩ := (K2.same k4).ask i
      have hb := dec hiff
      walk_at "rd"
      refine rd_dIn ?_
      walk_at "rd"
      refine ⟨D, o, rfl, ho, ?_⟩
      rw [hb]
      have fin : ∀ y, NdAt H4 y (if keptB s i = true then n else none) → ∃ acc, H4 D3 = some (.lst acc) ∧ acc.length < sizeLine ∧ (Same H2 (upd H4 D3 (.lst (acc ++ [y]))) ∧ ∃ zs, (upd H4 D3 (.lst (acc ++ [y]))) D3 = some (.lst zs) ∧ Paired (NdAt (upd H4 D3 (.lst (acc ++ [y])))) zs ((clearS s).take (i + 1))) := fun y hy => by
        have ty := (Ty.refl H4).lst (o := .lst (zs ++ [y])) hL4
        refine ⟨zs, hL4, szLt (by omega), k4.put hD3, _, upd_same, ?_⟩
        rw [List.take_add_one, cl]
        exact pd_app (pd_mono (fun _ _ q => NdAt.up q ty) pz4) (.cons (hy.up ty) .nil)
      cases hkb : keptB s i with
      | true =>
        rw [hkb, if_pos rfl] at fin
        walk_at "rd"
        exact fin x at4
      | false =>
        rw [hkb, if_neg Bool.false_ne_true] at fin
        walk_at "rd"
        exact fin .non rfl
    · obtain ⟨k3, zs, hL, pz⟩ := hP
      have cl : (clearS s).length = s.length := by unfold clearS; rw [List.length_map, List.length_range]
      rw [lx, ← cl, List.take_length] at pz
      have k13 := k2.trans k3
      have D3H : H D3 = none := same_free k2 hD3
      have rootc : ∃ es, (clearS s)[0]? = some (some (.room es)) := by
        obtain ⟨es, he⟩ := hroot
        refine ⟨es, ?_⟩
        unfold clearS
        rw [List.getElem?_map, List.getElem?_range l1]
        show some (if keptB s 0 = true then s.getD 0 none else none) = _
        rw [if_pos (kept_iff.mpr (.inl rfl)), List.getD_eq_getElem?_getD, he]
        rfl
      walk_at "rd"
      refine rd_while (fun mm σ H' => ∃ (s' : Sto) (zs : List V), mm = s'.length ∧ Same H H' ∧ H' D3 = some (.lst zs) ∧ Paired (NdAt H') zs s' ∧ s'.length ≤ s.length ∧ trimS s' = letGo s ∧ (∃ es, s'[0]? = some (some (.room es))) ∧
        σ = [some (.ref a), some (.ref D), x2, some (.ref D3), x4, x5]) (clearS s).length ⟨clearS s, zs, rfl, k13, hL, pz, by omega, rfl, rootc, rfl⟩ ?_
      clear k3 hL pz k13 rootc zs
      rintro mm σ H4 ⟨s', zs, rfl, k4, hL, pz, ls, htr, ⟨es, hroot'⟩, rfl⟩
      have lz := Paired.length pz
      have l0 := (List.getElem?_eq_some_iff.mp hroot').1
      obtain ⟨sl, y, rfl⟩ : ∃ sl y, s' = sl ++ [y] := by
        rcases List.eq_nil_or_concat s' with rfl | ⟨sl, y, rfl⟩
        · cases l0
        · exact ⟨sl, y, List.concat_eq_append⟩
      obtain ⟨xl, z, rfl, pxl, hz⟩ := pd_unsnoc pz
      walk_at "rd"
      refine ⟨1, rfl, ?_⟩
      refine rd_ixL (SqL.of hL) (atI_last _ _) ?_
      walk_at "rd"
      rw [hz.non]
      cases y with
      | none =>
        rw [show (none : Option Nd).isNone = true from rfl]
        walk_at "rd"
        refine rd_turn ?_
        walk_at "rd"
        refine rd_tyL (SqL.of hL) ?_
        refine rd_pop hL ?_
        have ty := (Ty.refl H4).lst (o := .lst xl) hL
        refine ⟨sl.length, by rw [List.length_append, List.length_singleton]; omega, sl, xl, rfl, k4.put D3H, upd_same, pd_mono (fun _ _ q => NdAt.up q ty) pxl, by rw [List.length_append, List.length_singleton] at ls; omega, by rw [← htr, trim_none], ⟨es, ?_⟩, rfl⟩
        have lsl : 0 < sl.length := by
          cases sl with
          | nil => cases hroot'
          | cons a b => exact Nat.succ_pos _
        rwa [List.getElem?_append_left lsl] at hroot'
      | some n =>
        rw [show (some n : Option Nd).isNone = false from rfl]
        walk_at "rd"
        refine ⟨D3, _, rfl, SqL.of hL, fun tA o' od htA => ?_⟩
        have k5 := (Same.refl H4).new (o := .frz o' (.tup (xl ++ [z]))) htA
        refine q _ _ (k4.trans k5) ⟨tA, _, rfl, .inr ⟨o', upd_same⟩, ?_⟩
        rw [← htr, trim_some]
        exact pd_mono (fun _ _ q => NdAt.up q (Ty.of k5)) pz
def Φ_entry_at (K : PySem.W.Frag) (mg : Str → Option Value) (vs vh vp : V) (H : Hp) (Q : VK) (E : XK) : Prop := ∃ (s : Sto) (here : Nat) (z : Str), StAt H vs s ∧ Wf s ∧ vh = .int here ∧ here < s.length ∧ vp = .str z ∧ pathB (.str z) = true ∧
  (∀ r w n t H', Same H H' → Place s here z (.at_ r w) → entryOf s r w = some n → H' t = some (.tup [.int (r : Nat), .str w, .int (n : Nat)]) → Q (.ref t) H') ∧
  erQ mg H E fun e => Place s here z (.no e) ∨ ∃ r w, Place s here z (.at_ r w) ∧ entryOf s r w = none ∧ e = .entry (lastI z)
theorem ok_entry_at (T : Txt P K mg) {f : Addr} {fd : FuncData} (F : Fun K "entry_at" "entry_at" s_entry_at f fd) : Keeps P w K mg base (L2.CX P w) 4 f fd ["store", "here", "path"] (sp3x (Φ_entry_at K mg)) := by
  obtain ⟨C_NoEntry, F_NoEntry, e_NoEntry⟩ := T.e_NoEntry
  have c_place_of := cal (P := P) (w := w) (base := base) T.d_place_of fun F => ok_place_of T F
  have c_entry_of := cal (P := P) (w := w) (base := base) T.d_entry_of fun F => ok_entry_of T F
  have c_last_index := cal (P := P) (w := w) (base := base) T.d_last_index fun F => ok_last_index T F
  refine keeps_of F sc_entry_at (fun vs H Q E h => ?_) (fun cdv A outer s H vs Q E hr h => ?_)
  · obtain ⟨_, _, _, rfl, _⟩ := h
    rfl
  obtain ⟨v_store, v_here, v_path, rfl, h⟩ := h
  have hu := hr.hu
  refine ⟨_, (pss_cons (ps_asg (pe_calS c_place_of (hr.mono (by decide)) (by rfl) (fun σ => passAt (takes_of rfl rfl rfl rfl) σ) (pa_cons (pv 0) (pa_cons (pv 1) (pa_cons (pv 2) pa_nil)))) (pg_seqX (K := K) (n := 2) rfl (pgs_cons (pg_name (i := 3) sc_entry_at.nd rfl (by first | exact Or.inl rfl | exact Or.inr rfl)) (pgs_cons (pg_name (i := 4) sc_entry_at.nd rfl (by first | exact Or.inl rfl | exact Or.inr rfl)) pgs_nil))))
      (pss_cons (ps_set (i := 5) sc_entry_at.nd rfl (by first | exact Or.inl rfl | exact Or.inr rfl) (pe_cal c_entry_of (hr.mono (by decide)) (by rfl) pass0 (pa_cons (pv 0) (pa_cons (pv 3) (pa_cons (pv 4) pa_nil)))))
      (pss_cons (ps_if (pt_cmpR oIs (pv 5) pe_non (nomark _)) (pss_one (ps_raiseS rfl e_NoEntry hr (by decide) (takes_of rfl rfl rfl rfl) (pa_cons (pe_cal c_last_index (hr.mono (by decide)) (by rfl) pass0 (pa_cons (pv 2) pa_nil)) pa_nil) (by rfl))) pss_nil)
      (pss_one (ps_ret (pe_tup (pa_cons (pv 3) (pa_cons (pv 4) (pa_cons (pv 5) pa_nil))))))))), ?_⟩
  rw [show start ["store", "here", "path", "room", "name", "number"] [v_store, v_here, v_path] = [some v_store, some v_here, some v_path, none, none, none] from rfl]
  try dsimp only [cxOf, Cx.nox, Cx.wish]
  obtain ⟨s, here, z, hS, wf, rfl, hl, rfl, hz, q1, q2⟩ := h
  have zl := pathB_len hz
  walk_at "rd"
  refine ⟨s, here, z, hS, wf, rfl, hl, rfl, hz, fun r w t H1 k1 hP ht => ?_, fun e H' C d k r g x => q2 e H' C d k (.inl r) g x⟩
  obtain ⟨hr, _, _⟩ := hP.at_room
  refine rd_gtup (SqT.of ht) rfl ?_
  walk_at "rd"
  refine ⟨s, r, w, hS.up (Ty.of k1), rfl, rfl, hr, wf.up r, wf.few r, fun H2 k2 => ?_⟩
  have k12 := k1.trans k2
  cases he : entryOf s r w with
  | none =>
    rw [show optV none = V.non from rfl]
    walk_at "rd"
    refine rd_yesI (by decide +kernel) ?_
    walk_at "rd"
    refine ⟨z, rfl, by omega, fun H3 k3 => ?_⟩
    walk_at "rd"
    intro d hd
    exact q2 (.entry (lastI z)) _ _ _ ((k12.trans k3).new (o := .xd [("index", .int (((wordsOf z).length - 1 : Nat) : Int))]) hd) (.inr ⟨r, w, hP, he, rfl⟩) e_NoEntry.gC ⟨d, rfl, upd_same⟩
  | some n =>
    rw [show optV (some n) = V.int (n : Nat) from rfl]
    walk_at "rd"
    refine rd_noI (by rw [decide_eq_false (fun h => nomatch h)]) ?_
    walk_at "rd"
    intro t2 ht2
    exact q1 r w n t2 _ (k12.new (o := .tup [.int (r : Nat), .str w, .int (n : Nat)]) ht2) hP he upd_same
/-- what remove comes to -/
inductive Removed (s : Sto) (here : Nat) (path : Str) : Sto ⊕ Er → Prop
  | place {e : Er} : Place s here path (.no e) → Removed s here path (.inr e)
  | entry {r : Nat} {w : Str} : Place s here path (.at_ r w) → entryOf s r w = none → Removed s here path (.inr (.entry (lastI path)))
  | full {r n : Nat} {w : Str} : Place s here path (.at_ r w) → entryOf s r w = some n → isRoom (s.getD n none) = true → entsAt s n ≠ [] → Removed s here path (.inr .full)
  | done {r n : Nat} {w : Str} : Place s here path (.at_ r w) → entryOf s r w = some n → (isRoom (s.getD n none) = true → entsAt s n = []) → Removed s here path (.inl (letGo (withE s r w none)))
def Φ_removed (K : PySem.W.Frag) (mg : Str → Option Value) (vs vh vp : V) (H : Hp) (Q : VK) (E : XK) : Prop := ∃ (s : Sto) (here : Nat) (path : Str), StAt H vs s ∧ Wf s ∧ vh = .int here ∧ here < s.length ∧ vp = .str path ∧ pathB (.str path) = true ∧ (∀ r, (entsAt s r).length ≤ 900) ∧ oQ mg H Q E (Removed s here path)
theorem ok_removed (T : Txt P K mg) {f : Addr} {fd : FuncData} (F : Fun K "removed" "removed" s_removed f fd) : Keeps P w K mg base (L2.CX P w) 5 f fd ["store", "here", "path"] (sp3x (Φ_removed K mg)) := by
  obtain ⟨C_NotEmpty, e_NotEmpty⟩ := T.e_NotEmpty
  have c_entry_at := cal (P := P) (w := w) (base := base) T.d_entry_at fun F => ok_entry_at T F
  have c_let_go := cal (P := P) (w := w) (base := base) T.d_let_go fun F => ok_let_go T F
  have c_is_room := cal (P := P) (w := w) (base := base) T.d_is_room fun F => ok_is_room T F
  have c_with_entry := cal (P := P) (w := w) (base := base) T.d_with_entry fun F => ok_with_entry T F
  refine keeps_of F sc_removed (fun vs H Q E h => ?_) (fun cdv A outer s H vs Q E hr h => ?_)
  · obtain ⟨_, _, _, rfl, _⟩ := h
    rfl
  obtain ⟨v_store, v_here, v_path, rfl, h⟩ := h
  have hu := hr.hu
  refine ⟨_, (pss_cons (ps_asg (pe_calS c_entry_at (hr.mono (by decide)) (by rfl) (fun σ => passAt (takes_of rfl rfl rfl rfl) σ) (pa_cons (pv 0) (pa_cons (pv 1) (pa_cons (pv 2) pa_nil)))) (pg_seqX (K := K) (n := 3) rfl (pgs_cons (pg_name (i := 3) sc_removed.nd rfl (by first | exact Or.inl rfl | exact Or.inr rfl)) (pgs_cons (pg_name (i := 4) sc_removed.nd rfl (by first | exact Or.inl rfl | exact Or.inr rfl)) (pgs_cons (pg_name (i := 5) sc_removed.nd rfl (by first | exact Or.inl rfl | exact Or.inr rfl)) pgs_nil)))))
      (pss_cons (ps_if (PW.pt (pw_and (pt_val (pe_cal c_is_room (hr.mono (by decide)) (by rfl) pass0 (pa_cons (pv 0) (pa_cons (pv 5) pa_nil)))) (pw_and1 (pt_cmpR (oNe (K := K) hr.u65) (pe_ix (ixX (K := K)) (pe_ix (ixX (K := K)) (pv 0) (pv 5) (fun _ _ => rfl)) pe_int (fun _ _ => rfl)) (pe_tup pa_nil) (nomark _))))) (pss_one (ps_raiseX rfl (takes_of rfl rfl rfl rfl) e_NotEmpty (by rfl))) pss_nil)
      (pss_one (ps_ret (pe_cal c_let_go (hr.mono (by decide)) (by rfl) pass0 (pa_cons (pe_cal c_with_entry (hr.mono (by decide)) (by rfl) pass0 (pa_cons (pv 0) (pa_cons (pv 3) (pa_cons (pv 4) (pa_cons pe_non pa_nil))))) pa_nil)))))), ?_⟩
  rw [show start ["store", "here", "path", "room", "name", "number"] [v_store, v_here, v_path] = [some v_store, some v_here, some v_path, none, none, none] from rfl]
  try dsimp only [cxOf, Cx.nox, Cx.wish]
  obtain ⟨s, here, path, hS, wf, rfl, hl, rfl, hz, few, q1, q2⟩ := h
  have l2 := wf.l2
  walk_at "rd"
  refine ⟨s, here, path, hS, wf, rfl, hl, rfl, hz, fun r w n t H1 k1 hP he ht => ?_, fun e H' C d k h g x => ?_⟩
  rotate_left
  · rcases h with h | ⟨r, w, h1, h2, rfl⟩
    · exact q2 e H' C d k (.place h) g x
    · exact q2 _ H' C d k (.entry h1 h2) g x
  obtain ⟨hr, _, _⟩ := hP.at_room
  have hmem := entry_some he
  obtain ⟨nd, hnd⟩ := wf.there r _ hmem
  have nl : n < s.length := (List.getElem?_eq_some_iff.mp hnd).1
  refine rd_gtup (SqT.of ht) rfl ?_
  walk_at "rd"
  refine ⟨s, n, hS.up (Ty.of k1), rfl, nl, ?_⟩
  obtain ⟨f1, f2, f3⟩ := withE_none (w := w) hr
  have fin1 : ∀ (H2 : Hp) (QQ : VK), Same H H2 → (∀ v H3, Same H2 H3 → StAt H3 v (withE s r w none) → QQ v H3) → Φ_with_entry K v_store (.int (r : Nat)) (.str w) .non H2 QQ := fun H2 QQ k2 qq =>
    ⟨s, r, w, none, hS.up (Ty.of k2), rfl, rfl, rfl, hr, ents_nd wf r, wf.few r, by omega, qq⟩
  have fin2 : ∀ (H3 : Hp) (v : V), Same H H3 → StAt H3 v (withE s r w none) → (isRoom (s.getD n none) = true → entsAt s n = []) → Φ_let_go K v H3 Q := fun H3 v k3 hv hn =>
    ⟨_, hv, by unfold withE; rw [List.length_set]; omega, fun j => Nat.le_trans (f2 j) (wf.few j), f3 0 wf.root, fun j e h => by
      obtain ⟨x, hx⟩ := wf.there j e (f1 j e h)
      have := (List.getElem?_eq_some_iff.mp hx).1
      unfold withE
      rw [List.length_set]
      exact this, fun v' H4 k4 hv' => q1 _ _ _ (k3.trans k4) (.done hP he hn) hv'⟩
  cases hroom : isRoom (s.getD n none) with
  | false =>
    walk_at "rd"
    refine fin1 H1 _ k1 fun v H3 k3 hv => ?_
    walk_at "rd"
    exact fin2 H3 v (k1.trans k3) hv fun h => by rw [hroom] at h; cases h
  | true =>
    obtain ⟨es, hes⟩ := room_is hroom
    have hen := entsAt_room hes
    obtain ⟨a, xs, rfl, ha, ps⟩ := hS
    obtain ⟨v, hv, na, nb, rfl, hna, ys, hys, pys⟩ := pd_getR ps hes
    have okN := wf.nodes _ (List.mem_of_getElem? hes)
    walk_at "rd"
    refine rd_ixT (ha.up (Ty.of k1)).sq (atI_nat hv) ?_
    walk_at "rd"
    refine rd_ixT (hna.up (Ty.of k1)).sq rfl ?_
    walk_at "rd"
    intro t2 ht2
    have k2 := k1.new (o := .tup []) ht2
    refine rd_neD (d := .tuple (es.map fun e => PyData.tuple [.str e.1, .int (e.2 : Int)])) (e := .tuple []) (.tup (hys.up (Ty.of k2)).rt.sq (dp_ents (pd_mono (fun _ _ q => pairV.up q (Ty.of k2)) pys))) (.tup (SqT.of upd_same) .nil) (ents_shaped (by omega) okN.1) (by decide +kernel) ?_
    rw [ents_eqv]
    generalize upd H1 t2 (.tup []) = H2 at k2 ⊢
    cases hem : es.isEmpty with
    | true =>
      have e0 : es = [] := List.isEmpty_iff.mp hem
      walk_at "rd"
      refine fin1 H2 _ k2 fun v H3 k3 hv => ?_
      walk_at "rd"
      exact fin2 H3 v (k2.trans k3) hv fun _ => by rw [hen, e0]
    | false =>
      walk_at "rd"
      exact q2 .full _ _ _ k2 (.full hP he hroom (by rw [hen]; intro q; rw [q] at hem; cases hem)) e_NotEmpty.g rfl
def Φ_remove (K : PySem.W.Frag) (mg : Str → Option Value) (vs vh vp : V) (H : Hp) (Q : VK) (E : XK) : Prop := ∃ (s : Sto) (here : Nat) (path : Str), StAt H vs s ∧ Wf s ∧ vh = .int here ∧ roomAt s here ∧ vp = .str path ∧ pathB (.str path) = true ∧ (∀ r, (entsAt s r).length ≤ 900) ∧ oQ mg H Q E (Removed s here path)
theorem ok_remove (T : Txt P K mg) {f : Addr} {fd : FuncData} (F : Fun K "remove" "remove" s_remove f fd) : Keeps P w K mg base (L2.CX P w) 7 f fd ["store", "here", "path"] (sp3x (Φ_remove K mg)) := by
  have c_need_three := cal (P := P) (w := w) (base := base) T.d_need_three fun F => ok_need_three T F
  have c_removed := cal (P := P) (w := w) (base := base) T.d_removed fun F => ok_removed T F
  refine keeps_of F sc_remove (fun vs H Q E h => ?_) (fun cdv A outer s H vs Q E hr h => ?_)
  · obtain ⟨_, _, _, rfl, _⟩ := h
    rfl
  obtain ⟨v_store, v_here, v_path, rfl, h⟩ := h
  have hu := hr.hu
  refine ⟨_, (pss_cons (ps_expr (pe_calS c_need_three (hr.mono (by decide)) (by rfl) (fun σ => passAt (takes_of rfl rfl rfl rfl) σ) (pa_cons (pv 0) (pa_cons (pv 1) (pa_cons (pv 2) pa_nil)))))
      (pss_one (ps_ret (pe_calS c_removed (hr.mono (by decide)) (by rfl) (fun σ => passAt (takes_of rfl rfl rfl rfl) σ) (pa_cons (pv 0) (pa_cons (pv 1) (pa_cons (pv 2) pa_nil))))))), ?_⟩
  rw [show start ["store", "here", "path"] [v_store, v_here, v_path] = [some v_store, some v_here, some v_path] from rfl]
  try dsimp only [cxOf, Cx.nox, Cx.wish]
  obtain ⟨s, here, path, hS, wf, rfl, hr, rfl, hz, few, q1, q2⟩ := h
  walk_at "rd"
  refine ⟨s, here, path, hS, wf, rfl, hr, rfl, hz, fun H1 k1 => ?_⟩
  walk_at "rd"
  refine ⟨s, here, path, hS.up (Ty.of k1), wf, rfl, room_lt hr, rfl, hz, few, fun s' v H3 k3 h hv => ?_, fun e H' C d k r g x => q2 e H' C d (k1.trans k) r g x⟩
  walk_at "rd"
  exact q1 s' v H3 (k1.trans k3) h hv
/-- the least number that is free -/
def freeB (s : Sto) (k : Nat) : Bool := decide (s.length ≤ k) || (s.getD k none).isNone
def freeOf (s : Sto) : Option Nat := (List.range 60).find? fun k => freeB s k
def Φ_free_number (K : PySem.W.Frag) (mg : Str → Option Value) (vs vt : V) (H : Hp) (Q : VK) (E : XK) : Prop := ∃ (s : Sto) (A : Addr), StAt H vs s ∧ s.length ≤ 1000 ∧ vt = .ref A ∧ EmpT K A ∧ (∀ k H', Same H H' → freeOf s = some k → Q (.int (k : Nat)) H') ∧ (∀ H' C d, Same H H' → freeOf s = none → mg "TooLarge" = some (.ref C) → Er.At H' d .large → E (.ref C) d H')
theorem ok_free_number (T : Txt P K mg) {f : Addr} {fd : FuncData} (F : Fun K "free_number" "free_number" s_free_number f fd) : Keeps P w K mg base (L2.CX P w) 2 f fd ["store", "taken"] (sp2x (Φ_free_number K mg)) := by
  obtain ⟨C_TooLarge, F_TooLarge, e_TooLarge⟩ := T.e_TooLarge
  refine keeps_of F sc_free_number (fun vs H Q E h => ?_) (fun cdv A outer s H vs Q E hr h => ?_)
  · obtain ⟨_, _, rfl, _⟩ := h
    rfl
  obtain ⟨v_store, v_taken, rfl, h⟩ := h
  have hu := hr.hu
  refine ⟨_, (pss_cons (ps_for (passes_of rfl) rfl (pi_range1 (by rfl) T.b_range (pa_cons (pe_gk (by rfl) T.c_MOST_NODES) pa_nil)) (pg_name (i := 2) sc_free_number.nd rfl (by first | exact Or.inl rfl | exact Or.inr rfl)) (pss_one (ps_if (PW.pt (pw_and (PW.pt (pw_or (pt_cmpR oGe (pv 2) (pe_callB (call_lenX (K := K)) (by rfl) T.b_len (by decide +kernel) (pa_cons (pv 0) pa_nil)) (nomark _)) (pw_or1 (pt_cmpR oIs (pe_ix (ixX (K := K)) (pv 0) (pv 2) (fun _ _ => rfl)) pe_non (nomark _))))) (pw_and1 (pt_cmpR (oNotIn (K := K) hr.u65) (pv 2) (pv 1) (by rfl))))) (pss_one (ps_ret (pv 2))) pss_nil)))
      (pss_one (ps_raiseS rfl e_TooLarge hr (by decide) (takes_of rfl rfl rfl rfl) (pa_cons (pe_gk (by rfl) T.c_MOST_NODES) pa_nil) (by rfl)))), ?_⟩
  rw [show start ["store", "taken", "number"] [v_store, v_taken] = [some v_store, some v_taken, none] from rfl]
  try dsimp only [cxOf, Cx.nox, Cx.wish]
  obtain ⟨s, A, hS, hl, rfl, hA, q1, q2⟩ := h
  have hS' := hS
  obtain ⟨a, xs, rfl, ha, ps⟩ := hS'
  have lx := Paired.length ps
  walk_at "rd"
  refine rd_itR (by decide) (by decide) (fun i σ H' => Same H H' ∧ (∀ k < i, freeB s k = false) ∧ ∃ x, σ = [some (.ref a), some (.ref A), x]) ⟨Same.refl H, (fun _ h => absurd h (Nat.not_lt_zero _)), _, rfl⟩ ?_ ?_
  · rintro i σ H1 hi ⟨k1, no, x, rfl⟩
    have found : freeB s i = true → freeOf s = some i := fun h => by
      unfold freeOf
      rw [List.find?_range_eq_some]
      exact ⟨h, List.mem_range.mpr (by omega), fun j hj => by rw [no j hj]; rfl⟩
    have next : freeB s i = false → ∀ k < i + 1, freeB s k = false := fun h k hk => by
      by_cases q : k = i
      · rw [q]; exact h
      · exact no k (by omega)
    have fin : ∀ (QB : Bool → Hp → Prop), (freeB s i = true → QB true H1) → (freeB s i = false → QB false H1) →
        tAnd (tOr (tTest (tOp xGe (tVar 2) (tCB (xLen K) (tCons (tVar 0) tNil)))) (tTest (tOp xIs (tOp (xIx K) (tVar 0) (tVar 2)) (tC V.non)))) (tTest (tOp (xNotIn K) (tVar 2) (tVar 1))) [some (.ref a), some (.ref A), some (.int (i : Nat))] H1 QB := by
      intro QB h1 h2
      walk_at "rd"
      refine rd_lenT (ha.up (Ty.of k1)).sq ?_
      walk_at "rd"
      rw [lx]
      cases e1 : decide ((s.length : Int) ≤ (i : Int)) with
      | true =>
        have e1 : s.length ≤ i := by have := of_decide_eq_true e1; omega
        walk_at "rd"
        refine rd_notInT hA.sq rfl rfl ?_
        exact ⟨_, rfl, h1 (by unfold freeB; rw [decide_eq_true e1]; rfl)⟩
      | false =>
        have e1 : i < s.length := by have := of_decide_eq_false e1; omega
        have hs : s[i]? = some s[i] := List.getElem?_eq_getElem e1
        obtain ⟨v, hv, at1⟩ := pd_getR ps hs
        have fb : freeB s i = s[i].isNone := by
          unfold freeB
          rw [decide_eq_false (by omega), List.getD_eq_getElem?_getD, hs]
          rfl
        walk_at "rd"
        refine rd_ixT (ha.up (Ty.of k1)).sq (atI_nat hv) ?_
        walk_at "rd"
        rw [at1.non, ← fb]
        cases hf : freeB s i with
        | true =>
          walk_at "rd"
          refine rd_notInT hA.sq rfl rfl ?_
          exact ⟨_, rfl, h1 hf⟩
        | false =>
          walk_at "rd"
          exact h2 hf
    with_reducible refine rd_gname (by (simp only [List.set]); first | done | exact rfl) ?_
    with_reducible refine rd_ifS ?_
    refine fin _ (fun hf => ?_) (fun hf => ?_)
    · walk_at "rd"
      exact q1 i H1 k1 (found hf)
    · walk_at "rd"
      exact ⟨k1, next hf, _, rfl⟩
  · rintro σ H1 ⟨k1, no, x, rfl⟩
    walk_at "rd"
    intro d hd
    refine q2 _ _ (some d) (k1.new (o := .xd [("limit", .int 60)]) hd) ?_ e_TooLarge.gC ⟨d, rfl, upd_same⟩
    unfold freeOf
    rw [List.find?_range_eq_none]
    exact fun k hk => by rw [no k (by simpa using hk)]; rfl
/-! ## tuple * int, the int being at most 1 -/
theorem tuple_mul0W (l : Addr) (items : Array Value) (n : Nat) (dd : Option Addr) (sl : Array (Option Value)) (x : Int) (u : Tok) (c0 : (decide (x < -(2 ^ 63)) || decide (x ≥ 2 ^ 63)) = false) (c1 : (items.isEmpty || x == 1) = false) (c2 : (decide (x ≤ 0) || items.isEmpty) = true) :
    Meets (Builtin.«tuple.__mul__» ⟨[.ref l, .int x u], []⟩) (fun _ R s => s.heap.get? l = some { cls := .type "tuple", dict := dd, data := .seq items n, slots := sl } ∧
      R (.ok (.ret (Value.ref s.heap.objs.size))) { s with heap := s.heap.push { cls := Value.type "tuple", data := Data.seq #[] }, toks := s.toks }) :=
  .of_wp fun prog w A R s h => by
    obtain ⟨hp, g, d, tk, os⟩ := s
    obtain ⟨hl, h⟩ := h
    have f1 := AutoSeq1.idx_int
    wp_walk using wpAny_loadPart' hl
    repeat (first
      | (refine wpAny_ite_false (decide_eq_false (by rw [c0]; exact Bool.false_ne_true)) ?_; wp_walk using wpAny_loadPart' hl)
      | (refine wpAny_ite_false (decide_eq_false (by rw [c1]; exact Bool.false_ne_true)) ?_; wp_walk using wpAny_loadPart' hl)
      | (refine wpAny_ite_true (decide_eq_true (by rw [c2])) ?_; wp_walk using wpAny_loadPart' hl))
    exact ⟨_, rfl, h⟩
theorem tuple_mul1W (l : Addr) (items : Array Value) (n : Nat) (dd : Option Addr) (sl : Array (Option Value)) (x : Int) (u : Tok) (c0 : (decide (x < -(2 ^ 63)) || decide (x ≥ 2 ^ 63)) = false) (c1 : (items.isEmpty || x == 1) = true) :
    Meets (Builtin.«tuple.__mul__» ⟨[.ref l, .int x u], []⟩) (fun _ R s => s.heap.get? l = some { cls := .type "tuple", dict := dd, data := .seq items n, slots := sl } ∧ R (.ok (.ret (Value.ref l))) s) :=
  .of_wp fun prog w A R s h => by
    obtain ⟨hp, g, d, tk, os⟩ := s
    obtain ⟨hl, h⟩ := h
    have f1 := AutoSeq1.idx_int
    wp_walk using wpAny_loadPart' hl
    repeat (first
      | (refine wpAny_ite_false (decide_eq_false (by rw [c0]; exact Bool.false_ne_true)) ?_; wp_walk using wpAny_loadPart' hl)
      | (refine wpAny_ite_true (decide_eq_true (by rw [c1])) ?_; wp_walk using wpAny_loadPart' hl))
    exact ⟨_, rfl, h⟩
def rRepS (K : PySem.W.Frag) : R2 := fun x y H Q => ∃ l k xs, x = .ref l ∧ y = .int k ∧ SqT K H l xs ∧ xs ≠ [] ∧ -1000 ≤ k ∧ k ≤ 1 ∧ (k = 1 → Q (.ref l) H) ∧ (k ≤ 0 → ∀ p, H p = none → Q (.ref p) (upd H p (.tup [])))
theorem op_repS {X : Cx} : OpR X (binaryOp .Mult) (rRepS X.K) := by
  intro pins s σ H x y v u Q I rx ry h
  obtain ⟨l, k, xs, rfl, rfl, hT, hne, h1, h2, q1, q0⟩ := h
  cases rx
  obtain ⟨t, rfl⟩ := ry
  obtain ⟨its, r, ⟨⟨cls, dd, data, sl⟩, ho, hc, n, hd⟩, hs⟩ := I.tuple hT
  simp only at hc hd
  subst hc hd
  have hle : its.length = xs.length := r.length.symm
  have hn : its ≠ [] := fun e => hne (by
    rw [e] at hle
    exact List.eq_nil_of_length_eq_zero hle.symm)
  have hi : its.toArray.isEmpty = false := by
    cases its with
    | nil => exact absurd rfl hn
    | cons a b => rfl
  have c0 : (decide (k < -(2 ^ 63)) || decide (k ≥ 2 ^ 63)) = false := by
    rw [decide_eq_false (by omega), decide_eq_false (by omega)] <;> rfl
  by_cases hk : k = 1
  · have c1 : (its.toArray.isEmpty || k == 1) = true := by
      rw [hk]
      simp
    refine wpAny_binaryOp_repeat_ref (T := "tuple") (U := "int") (by decide) ⟨_, ho, rfl⟩ (fun s' => typeIs_int s' k t) noFill_tuple_mul F.fills_int_mul F.slot_int_rmul repeat_tuple F.slot_int_index.lookup
      (call_meets F.slot_int_rmul (typeIs_int s k t) F.entry_int_rmul (F.args_int_rmul_2 _ _) (int_rmul_tuple k t l its.toArray n dd sl)
        ⟨ho, rfl, ⟨_, ho, rfl⟩, call_meets F.slot_tuple_mul ⟨_, ho, rfl⟩ F.entry_tuple_mul (F.args_tuple_mul_2 _ _) (tuple_mul1W l its.toArray n dd sl k t c0 c1) ⟨ho, ?_⟩⟩)
    exact ⟨.ref l, H, I, rfl, q1 hk⟩
  · have c1 : (its.toArray.isEmpty || k == 1) = false := by
      rw [hi, Bool.false_or]
      exact beq_eq_false_iff_ne.mpr hk
    have c2 : (decide (k ≤ 0) || its.toArray.isEmpty) = true := by
      rw [decide_eq_true (by omega), Bool.true_or]
    refine wpAny_binaryOp_repeat_ref (T := "tuple") (U := "int") (by decide) ⟨_, ho, rfl⟩ (fun s' => typeIs_int s' k t) noFill_tuple_mul F.fills_int_mul F.slot_int_rmul repeat_tuple F.slot_int_index.lookup
      (call_meets F.slot_int_rmul (typeIs_int s k t) F.entry_int_rmul (F.args_int_rmul_2 _ _) (int_rmul_tuple k t l its.toArray n dd sl)
        ⟨ho, rfl, ⟨_, ho, rfl⟩, call_meets F.slot_tuple_mul ⟨_, ho, rfl⟩ F.entry_tuple_mul (F.args_tuple_mul_2 _ _) (tuple_mul0W l its.toArray n dd sl k t c0 c1 c2) ⟨ho, ?_⟩⟩)
    refine ⟨.ref s.heap.objs.size, _, I.laid (t' := s.toks) (o := .tup []) (fun b ob q => Heap.get?_push_of_some _ q) (Nat.le_refl _) ?_, rfl, q0 (by omega) _ (I.hok.fresh (Nat.le_refl _))⟩
    exact ⟨Nat.zero_le _, _, .nil, IsTup.new _ _⟩
theorem oMulS {X : Cx} {K : PySem.W.Frag} (e : X.K = K := by rfl) : OpR X (binaryOp .Mult) (rRepS K) := by
  subst e
  exact op_repS
theorem rd_repS {K : PySem.W.Frag} {p : Addr} {k : Int} {H : Hp} {Q : VK} (h : Rt H p [.non]) (h1 : -1000 ≤ k) (h2 : k ≤ 1) (q : ∀ l H', Same H H' → Rt H' l (List.replicate k.toNat V.non) → Q (.ref l) H') : rRepS K (.ref p) (.int k) H Q := by
  refine ⟨p, k, [.non], rfl, rfl, h.sq, List.cons_ne_nil _ _, h1, h2, fun e => ?_, fun e l hl => ?_⟩
  · subst e
    exact q p H (Same.refl H) h
  · refine q l _ ((Same.refl H).new hl) (.inl ?_)
    rw [upd_same, show k.toNat = 0 by omega]
    rfl

/-! ### one more node -/
def addS (s : Sto) (k : Nat) (nd : Nd) : Sto := (s ++ List.replicate (k + 1 - s.length) none).set k (some nd)
theorem free_le {s : Sto} {k : Nat} (h : freeOf s = some k) : k ≤ s.length ∧ k < 60 ∧ freeB s k = true := by
  unfold freeOf at h
  rw [List.find?_range_eq_some] at h
  obtain ⟨h1, h2, h3⟩ := h
  refine ⟨?_, List.mem_range.mp h2, h1⟩
  by_cases q : k ≤ s.length
  · exact q
  · have := h3 s.length (by omega)
    unfold freeB at this
    rw [decide_eq_true (Nat.le_refl _)] at this
    cases this
theorem free_gap {s : Sto} {k : Nat} (h : freeB s k = true) (j : Nat) (nd : Nd) (hj : s[j]? = some (some nd)) : j ≠ k := by
  intro e
  subst e
  have l := (List.getElem?_eq_some_iff.mp hj).1
  unfold freeB at h
  rw [decide_eq_false (by omega), List.getD_eq_getElem?_getD, hj] at h
  cases h
theorem add_len {s : Sto} {k : Nat} {nd : Nd} (hk : k ≤ s.length) : (addS s k nd).length = max s.length (k + 1) := by
  unfold addS
  rw [List.length_set, List.length_append, List.length_replicate]
  omega
theorem add_at {s : Sto} {k : Nat} {nd : Nd} (hk : k ≤ s.length) (j : Nat) : (addS s k nd)[j]? = if j = k then some (some nd) else s[j]? := by
  unfold addS
  rw [set_get (by rw [List.length_append, List.length_replicate]; omega)]
  by_cases h : j = k
  · rw [if_pos h, if_pos h]
  · rw [if_neg h, if_neg h]
    by_cases q : j < s.length
    · rw [List.getElem?_append_left q]
    · rw [List.getElem?_eq_none (l := s) (by omega), List.getElem?_eq_none (by rw [List.length_append, List.length_replicate]; omega)]
theorem add_ents {s : Sto} {k : Nat} {nd : Nd} (hk : k ≤ s.length) (hf : freeB s k = true) (hn : nd = .room [] ∨ isRoom (some nd) = false) (j : Nat) : entsAt (addS s k nd) j = entsAt s j := by
  by_cases h : j = k
  · have e1 : entsAt s j = [] := by
      cases e : entsAt s j with
      | nil => rfl
      | cons x l =>
        obtain ⟨es, h1, _⟩ := mem_ents.mp (show x ∈ entsAt s j by rw [e]; exact List.mem_cons_self)
        exact absurd h (free_gap hf j _ h1)
    rw [e1]
    unfold entsAt
    rw [add_at hk, if_pos h]
    rcases hn with rfl | hn
    · rfl
    · match nd, hn with
      | .file t, _ => rfl
      | .sign t, _ => rfl
  · unfold entsAt
    rw [add_at hk, if_neg h]
theorem wf_made {s : Sto} (wf : Wf s) {r k : Nat} {nm : Str} {nd : Nd} (hr : roomAt s r) (hn : entB nm = true) (fresh : nm ∉ (entsAt s r).map (·.1)) (hk : k ≤ s.length) (h60 : k < 60) (hf : freeB s k = true) (hnd : nd = .room [] ∨ isRoom (some nd) = false) (ok : NdOk 0 nd) (few : (entsAt s r).length ≤ 998) : Wf (withE (addS s k nd) r nm (some k)) := by
  have rl := room_lt hr
  have rk : r ≠ k := by
    obtain ⟨es, he⟩ := hr
    exact free_gap hf r _ he
  have al := add_len (nd := nd) hk
  have AD := add_at (nd := nd) hk
  have AE := add_ents hk hf hnd
  have rl' : r < (addS s k nd).length := by rw [al]; omega
  unfold withE
  rw [AE]
  generalize hes' : wE (entsAt s r) nm (some k) = es'
  have mem : ∀ {e}, e ∈ es' ↔ e ∈ entsAt s r ∨ e = (nm, k) := fun {e} => by rw [← hes']; exact mem_wE fresh
  have A : ∀ j, ((addS s k nd).set r (some (.room es')))[j]? = if j = r then some (some (.room es')) else if j = k then some (some nd) else s[j]? := fun j => by
    rw [set_get rl', AD]
  have B : ∀ j, entsAt ((addS s k nd).set r (some (.room es'))) j = if j = r then es' else entsAt s j := fun j => by
    rw [ents_set rl', AE]
  have C : ∀ j : Nat, (∃ n, s[j]? = some (some n)) → ∃ n, ((addS s k nd).set r (some (.room es')))[j]? = some (some n) := fun j ⟨n, h⟩ => by
    rw [A]
    split
    · exact ⟨_, rfl⟩
    · split
      · exact ⟨_, rfl⟩
      · exact ⟨n, h⟩
  have Ck : ∃ n, ((addS s k nd).set r (some (.room es')))[k]? = some (some n) := by
    rw [A, if_neg (fun q => rk q.symm), if_pos rfl]
    exact ⟨_, rfl⟩
  have D : ∀ j : Nat, j ≠ k → roomAt ((addS s k nd).set r (some (.room es'))) j → roomAt s j := fun j hj h => by
    obtain ⟨es, h⟩ := h
    rw [A] at h
    split at h
    · next q => exact q ▸ hr
    · first
        | exact ⟨es, h⟩
        | (rw [if_neg hj] at h; exact ⟨es, h⟩)
  have old : ∀ {j : Nat} {e : Str × Nat}, e ∈ entsAt ((addS s k nd).set r (some (.room es'))) j → e ∈ entsAt s j ∨ (j = r ∧ e = (nm, k)) := fun {j e} he => by
    rw [B] at he
    by_cases h : j = r
    · rw [if_pos h] at he
      rw [h]
      exact (mem.mp he).imp id fun q => ⟨rfl, q⟩
    · rw [if_neg h] at he
      exact .inl he
  have notk : ∀ {j : Nat} {e : Str × Nat}, e ∈ entsAt s j → e.2 ≠ k := fun {j e} h => by
    obtain ⟨n, hn⟩ := wf.there j e h
    exact free_gap hf _ _ hn
  have k0 : k ≠ 0 := by
    obtain ⟨es, h⟩ := wf.root
    exact fun q => free_gap hf 0 _ h q.symm
  have len : ((addS s k nd).set r (some (.room es'))).length = max s.length (k + 1) := by rw [List.length_set, al]
  have gen : ∀ a, Reach0 s a → Reach0 ((addS s k nd).set r (some (.room es'))) a := by
    intro a ha
    induction ha with
    | root => exact .root
    | @step a e _ he ih =>
      refine .step ih ?_
      rw [B]
      by_cases h : a = r
      · rw [if_pos h]
        exact mem.mpr (.inl (h ▸ he))
      · rw [if_neg h]
        exact he
  have okm : ∀ n, NdOk s.length n → NdOk (max s.length (k + 1)) n := fun n h => by
    match n, h with
    | .file t, h => exact h
    | .sign t, h => exact h
    | .room es, h => exact ⟨fun e he => ⟨(h.1 e he).1, by have := (h.1 e he).2; omega⟩, h.2⟩
  refine ⟨by rw [len]; omega, by rw [len]; have := wf.l2; omega, ?_, ?_, fun n hn' => ?_, fun j e he => ?_, fun a b e e' he he' eq hroom => ?_, fun j n hj => ?_, fun j => ?_⟩
  · rw [len]
    by_cases q : k = s.length
    · rw [show max s.length (k + 1) - 1 = k by omega]
      exact Ck
    · rw [show max s.length (k + 1) - 1 = s.length - 1 by omega]
      exact C _ wf.last
  · unfold roomAt at *
    obtain ⟨es, h⟩ := wf.root
    rw [A]
    split
    · exact ⟨_, rfl⟩
    · rw [if_neg (fun q => k0 q.symm)]
      exact ⟨es, h⟩
  · rw [len]
    obtain ⟨j, hj⟩ := List.mem_iff_getElem?.mp hn'
    rw [A] at hj
    by_cases h : j = r
    · rw [if_pos h] at hj
      cases hj
      refine ⟨fun e he => ?_, hes' ▸ wE_up (ents_nd wf r) fresh⟩
      rcases mem.mp he with h1 | rfl
      · obtain ⟨es, hes⟩ := hr
        rw [entsAt_room hes] at h1
        have := (wf.nodes _ (List.mem_of_getElem? hes)).1 e h1
        exact ⟨this.1, by omega⟩
      · exact ⟨hn, by show k < _; omega⟩
    · rw [if_neg h] at hj
      by_cases q : j = k
      · rw [if_pos q] at hj
        cases hj
        rcases hnd with rfl | hnd
        · exact ⟨(fun e he => nomatch he), List.Pairwise.nil⟩
        · match nd, ok, hnd with
          | .file t, ok, _ => exact ok
          | .sign t, ok, _ => exact ok
      · rw [if_neg q] at hj
        exact okm n (wf.nodes n (List.mem_of_getElem? hj))
  · rcases old he with h | ⟨_, rfl⟩
    · exact C _ (wf.there _ _ h)
    · exact Ck
  · rcases old he with h | ⟨ha, rfl⟩
    · rcases old he' with h' | ⟨_, rfl⟩
      · exact wf.one _ _ _ _ h h' eq (D _ (notk h) hroom)
      · exact absurd eq (notk h)
    · rcases old he' with h' | ⟨hb, rfl⟩
      · exact absurd eq.symm (notk h')
      · exact ⟨k0, ha.trans hb.symm, rfl⟩
  · by_cases q : j = k
    · have hr' : Reach0 s r := by
        obtain ⟨es, he⟩ := hr
        exact wf.reach r _ he
      have st : Reach0 ((addS s k nd).set r (some (.room es'))) (nm, k).2 := .step (gen r hr') (by rw [B, if_pos rfl]; exact mem.mpr (.inr rfl))
      rw [q]
      exact st
    · have hs : ∃ n, s[j]? = some (some n) := by
        rw [A] at hj
        by_cases h : j = r
        · obtain ⟨es, he⟩ := hr
          exact ⟨_, h ▸ he⟩
        · rw [if_neg h, if_neg q] at hj
          exact ⟨n, hj⟩
      obtain ⟨n', hn'⟩ := hs
      exact gen j (wf.reach j n' hn')
  · rw [B]
    split
    · rw [← hes']
      exact Nat.le_trans wE_len (by omega)
    · exact wf.few j

inductive Made (s : Sto) (here : Nat) (path : Str) (nd : Nd) : Sto × Nat ⊕ Er → Prop
  | place {e : Er} : Place s here path (.no e) → Made s here path nd (.inr e)
  | exist {r m : Nat} {w : Str} : Place s here path (.at_ r w) → entryOf s r w = some m → Made s here path nd (.inr (.exist (lastI path)))
  | large {r : Nat} {w : Str} : Place s here path (.at_ r w) → entryOf s r w = none → freeOf s = none → Made s here path nd (.inr .large)
  | done {r k : Nat} {w : Str} : Place s here path (.at_ r w) → entryOf s r w = none → freeOf s = some k → Made s here path nd (.inl (withE (addS s k nd) r w (some k), k))
def mQ (mg : Str → Option Value) (H : Hp) (Q : VK) (E : XK) (R : Sto × Nat ⊕ Er → Prop) : Prop := (∀ s k v t H', Same H H' → R (.inl (s, k)) → H' t = some (.tup [v, .int (k : Nat)]) → StAt H' v s → Q (.ref t) H') ∧ erQ mg H E fun e => R (.inr e)
/-- a node that can be new -/
def newN (nd : Nd) : Prop := nd = .room [] ∨ isRoom (some nd) = false
def Φ_made (K : PySem.W.Frag) (mg : Str → Option Value) (vs vh vp vn vt : V) (H : Hp) (Q : VK) (E : XK) : Prop := ∃ (s : Sto) (here : Nat) (path : Str) (nd : Nd) (A : Addr), StAt H vs s ∧ Wf s ∧ vh = .int here ∧ here < s.length ∧ vp = .str path ∧ pathB (.str path) = true ∧ NdAt H vn (some nd) ∧ newN nd ∧ vt = .ref A ∧ EmpT K A ∧ mQ mg H Q E (Made s here path nd)
theorem ok_made (T : Txt P K mg) {f : Addr} {fd : FuncData} (F : FunP K "made" s_made f fd) : Keeps P w K mg base (L2.CX P w) 4 f fd ["store", "here", "path", "node", "taken"] (sp5x (Φ_made K mg)) := by
  obtain ⟨C_Exists, F_Exists, e_Exists⟩ := T.e_Exists
  have c_place_of := cal (P := P) (w := w) (base := base) T.d_place_of fun F => ok_place_of T F
  have c_free_number := cal (P := P) (w := w) (base := base) T.d_free_number fun F => ok_free_number T F
  have c_entry_of := cal (P := P) (w := w) (base := base) T.d_entry_of fun F => ok_entry_of T F
  have c_with_entry := cal (P := P) (w := w) (base := base) T.d_with_entry fun F => ok_with_entry T F
  have c_last_index := cal (P := P) (w := w) (base := base) T.d_last_index fun F => ok_last_index T F
  have c_with_node := cal (P := P) (w := w) (base := base) T.d_with_node fun F => ok_with_node T F
  refine keepsP_of F sc_made (fun vs H Q E h => ?_) (fun cdv A outer s H vs Q E hr h => ?_)
  · obtain ⟨_, _, _, _, _, rfl, _⟩ := h
    rfl
  obtain ⟨v_store, v_here, v_path, v_node, v_taken, rfl, h⟩ := h
  have hu := hr.hu
  refine ⟨_, (pss_cons (ps_asg (pe_calS c_place_of (hr.mono (by decide)) (by rfl) (fun σ => passAt (takes_of rfl rfl rfl rfl) σ) (pa_cons (pv 0) (pa_cons (pv 1) (pa_cons (pv 2) pa_nil)))) (pg_seqX (K := K) (n := 2) rfl (pgs_cons (pg_name (i := 5) sc_made.nd rfl (by first | exact Or.inl rfl | exact Or.inr rfl)) (pgs_cons (pg_name (i := 6) sc_made.nd rfl (by first | exact Or.inl rfl | exact Or.inr rfl)) pgs_nil))))
      (pss_cons (ps_if (pt_cmpR oIsNot (pe_cal c_entry_of (hr.mono (by decide)) (by rfl) pass0 (pa_cons (pv 0) (pa_cons (pv 5) (pa_cons (pv 6) pa_nil)))) pe_non (nomark _)) (pss_one (ps_raiseS rfl e_Exists hr (by decide) (takes_of rfl rfl rfl rfl) (pa_cons (pe_cal c_last_index (hr.mono (by decide)) (by rfl) pass0 (pa_cons (pv 2) pa_nil)) pa_nil) (by rfl))) pss_nil)
      (pss_cons (ps_set (i := 7) sc_made.nd rfl (by first | exact Or.inl rfl | exact Or.inr rfl) (pe_calS c_free_number (hr.mono (by decide)) (by rfl) (fun σ => passAt (takes_of rfl rfl rfl rfl) σ) (pa_cons (pv 0) (pa_cons (pv 4) pa_nil))))
      (pss_cons (ps_set (i := 8) sc_made.nd rfl (by first | exact Or.inl rfl | exact Or.inr rfl) (pe_op (oAdd (K := K)) (pv 0) (pe_op (oMulS (K := K)) (pe_tup (pa_cons pe_non pa_nil)) (pe_op oSub (pe_op (oAdd (K := K)) (pv 7) pe_int) (pe_callB (call_lenX (K := K)) (by rfl) T.b_len (by decide +kernel) (pa_cons (pv 0) pa_nil))))))
      (pss_one (ps_ret (pe_tup (pa_cons (pe_cal c_with_entry (hr.mono (by decide)) (by rfl) pass0 (pa_cons (pe_cal c_with_node (hr.mono (by decide)) (by rfl) pass0 (pa_cons (pv 8) (pa_cons (pv 7) (pa_cons (pv 3) pa_nil)))) (pa_cons (pv 5) (pa_cons (pv 6) (pa_cons (pv 7) pa_nil))))) (pa_cons (pv 7) pa_nil))))))))), ?_⟩
  rw [show start ["store", "here", "path", "node", "taken", "room", "name", "number", "longer"] [v_store, v_here, v_path, v_node, v_taken] = [some v_store, some v_here, some v_path, some v_node, some v_taken, none, none, none, none] from rfl]
  try dsimp only [cxOf, Cx.nox, Cx.wish]
  obtain ⟨s, here, path, nd, A, hS, wf, rfl, hl, rfl, hz, hN, hnew, rfl, hA, q1, q2⟩ := h
  have l1 := wf.l1
  have l2 := wf.l2
  have zl := pathB_len hz
  walk_at "rd"
  refine ⟨s, here, path, hS, wf, rfl, hl, rfl, hz, fun r w t H1 k1 hP ht => ?_, fun e H' C d k h g x => q2 e H' C d k (.place h) g x⟩
  obtain ⟨hr, _, _⟩ := hP.at_room
  refine rd_gtup (SqT.of ht) rfl ?_
  walk_at "rd"
  refine ⟨s, r, w, hS.up (Ty.of k1), rfl, rfl, hr, wf.up r, wf.few r, fun H2 k2 => ?_⟩
  have k12 := k1.trans k2
  cases he : entryOf s r w with
  | some m =>
    rw [show optV (some m) = V.int (m : Nat) from rfl]
    walk_at "rd"
    refine rd_yesI (by rw [decide_eq_false (fun h => nomatch h)]; rfl) ?_
    walk_at "rd"
    refine ⟨path, rfl, by omega, fun H3 k3 => ?_⟩
    walk_at "rd"
    intro d hd
    exact q2 (.exist (lastI path)) _ _ _ ((k12.trans k3).new (o := .xd [("index", .int (((wordsOf path).length - 1 : Nat) : Int))]) hd) (.exist hP he) e_Exists.gC ⟨d, rfl, upd_same⟩
  | none =>
    rw [show optV none = V.non from rfl]
    walk_at "rd"
    refine rd_noI (by decide +kernel) ?_
    walk_at "rd"
    refine ⟨s, A, hS.up (Ty.of k12), by omega, rfl, hA, fun k H3 k3 hk => ?_, fun H' C d k hn g x => q2 .large H' C d (k12.trans k) (.large hP he hn) g x⟩
    obtain ⟨f1, f2, f3⟩ := free_le hk
    have k13 := k12.trans k3
    have hS3 := hS.up (Ty.of k13)
    obtain ⟨a, xs, rfl, ha, ps⟩ := hS3
    have lx := Paired.length ps
    walk_at "rd"
    intro t2 ht2
    have s4 := (Same.refl H3).new (o := .tup [.non]) ht2
    have g4 : upd H3 t2 (.tup [.non]) t2 = some (.tup [.non]) := upd_same
    have ha4 := ha.up (Ty.of s4)
    have k14 := k13.trans s4
    generalize upd H3 t2 (.tup [.non]) = H4 at s4 g4 ha4 k14 ⊢
    walk_at "rd"
    refine rd_lenT ha4.sq ?_
    rw [lx]
    walk_at "rd"
    refine rd_repS (.inl g4) (by omega) (by omega) fun l H5 s5 h5 => ?_
    rw [show ((k : Int) + 1 - (s.length : Int)).toNat = k + 1 - s.length by omega] at h5
    refine rd_catR (ha4.up (Ty.of s5)) h5 (szOk (by rw [List.length_replicate]; omega)) fun l6 H6 s6 h6 => ?_
    have k16 := (k14.trans s5).trans s6
    have t36 := Ty.of ((s4.trans s5).trans s6)
    have st6 : StAt H6 (.ref l6) (s ++ List.replicate (k + 1 - s.length) none) := ⟨l6, _, rfl, h6, pd_app (pd_mono (fun _ _ q => NdAt.up q t36) ps) (pd_rep (show NdAt H6 .non none from rfl) _)⟩
    have aln := add_len (nd := nd) f1
    walk_at "rd"
    refine ⟨_, k, some nd, st6, rfl, by rw [List.length_append, List.length_replicate]; omega, by rw [List.length_append, List.length_replicate]; omega, hN.up (Ty.of k16), fun v7 H7 s7 hv7 => ?_⟩
    have hv7 : StAt H7 v7 (addS s k nd) := hv7
    have hroom7 : roomAt (addS s k nd) r := by
      obtain ⟨es, he⟩ := hr
      refine ⟨es, ?_⟩
      rw [add_at f1, if_neg (free_gap f3 r _ he)]
      exact he
    walk_at "rd"
    refine ⟨addS s k nd, r, w, some k, hv7, rfl, rfl, rfl, hroom7, by rw [add_ents f1 f3 hnew]; exact ents_nd wf r, by rw [add_ents f1 f3 hnew]; exact wf.few r, by rw [aln]; omega, fun v8 H8 s8 hv8 => ?_⟩
    walk_at "rd"
    intro t9 ht9
    have s9 := (Same.refl H8).new (o := .tup [v8, .int (k : Nat)]) ht9
    exact q1 _ k v8 t9 _ (((k16.trans s7).trans s8).trans s9) (.done hP he hk) upd_same (hv8.up (Ty.of s9))
def Φ_make (K : PySem.W.Frag) (mg : Str → Option Value) (vs vh vp vn : V) (H : Hp) (Q : VK) (E : XK) : Prop := ∃ (s : Sto) (here : Nat) (path : Str) (nd : Nd), StAt H vs s ∧ Wf s ∧ vh = .int here ∧ roomAt s here ∧ vp = .str path ∧ pathB (.str path) = true ∧ NdAt H vn (some nd) ∧ newN nd ∧ NdOk 0 nd ∧ mQ mg H Q E (Made s here path nd)
theorem ok_make (T : Txt P K mg) {f : Addr} {fd : FuncData} (F : Fun K "make" "make" s_make f fd) : Keeps P w K mg base (L2.CX P w) 7 f fd ["store", "here", "path", "node"] (sp4x (Φ_make K mg)) := by
  obtain ⟨C_InvalidNode, e_InvalidNode⟩ := T.e_InvalidNode
  have c_need_three := cal (P := P) (w := w) (base := base) T.d_need_three fun F => ok_need_three T F
  obtain ⟨A_made, z_made, d_made⟩ := T.d_made
  have c_made := calP (P := P) (w := w) (base := base) d_made fun F => ok_made T F
  have c_is_node := cal (P := P) (w := w) (base := base) T.d_is_node fun F => ok_is_node T F
  refine keeps_of F sc_make (fun vs H Q E h => ?_) (fun cdv A outer s H vs Q E hr h => ?_)
  · obtain ⟨_, _, _, _, rfl, _⟩ := h
    rfl
  obtain ⟨v_store, v_here, v_path, v_node, rfl, h⟩ := h
  have hu := hr.hu
  refine ⟨_, (pss_cons (ps_expr (pe_calS c_need_three (hr.mono (by decide)) (by rfl) (fun σ => passAt (takes_of rfl rfl rfl rfl) σ) (pa_cons (pv 0) (pa_cons (pv 1) (pa_cons (pv 2) pa_nil)))))
      (pss_cons (ps_if (pt_not (pt_val (pe_cal c_is_node (hr.mono (by decide)) (by rfl) pass0 (pa_cons (pv 3) (pa_cons pe_int pa_nil))))) (pss_one (ps_raiseX rfl (takes_of rfl rfl rfl rfl) e_InvalidNode (by rfl))) pss_nil)
      (pss_one (ps_ret (pe_calSP c_made (hr.mono (by decide)) (by rfl) (fun σ => passAt (takes_of rfl rfl rfl rfl) σ) (pa_cons (pv 0) (pa_cons (pv 1) (pa_cons (pv 2) (pa_cons (pv 3) pa_nil))))))))), ?_⟩
  rw [show start ["store", "here", "path", "node"] [v_store, v_here, v_path, v_node] = [some v_store, some v_here, some v_path, some v_node] from rfl]
  try dsimp only [cxOf, Cx.nox, Cx.wish]
  obtain ⟨s, here, path, nd, hS, wf, rfl, hr, rfl, hz, hN, hnew, hok, q1, q2⟩ := h
  walk_at "rd"
  refine ⟨s, here, path, hS, wf, rfl, hr, rfl, hz, fun H1 k1 => ?_⟩
  walk_at "rd"
  refine ⟨nd, 0, hN.up (Ty.of k1), rfl, by omega, hok, fun es e => ?_, fun H2 k2 => ?_⟩
  · rcases hnew with h | h
    · rw [h] at e
      cases e
      exact Nat.zero_le _
    · rw [e] at h
      cases h
  · have k12 := k1.trans k2
    walk_at "rd"
    refine ⟨_, _, _, _, _, rfl, s, here, path, nd, A_made, hS.up (Ty.of k12), wf, rfl, room_lt hr, rfl, hz, hN.up (Ty.of k12), hnew, rfl, z_made, fun s' k v t H3 k3 h ht hv => ?_, fun e H' C d k h g x => q2 e H' C d (k12.trans k) h g x⟩
    walk_at "rd"
    exact q1 s' k v t H3 (k12.trans k3) h ht hv

def Er.word : Er → Str
  | .room _ => "room"
  | .entry _ => "entry"
  | .plain _ => "plain"
  | .exist _ => "exists"
  | .signs => "signs"
  | .large => "large"
  | .isroom => "isroom"
  | .nofile => "nofile"
  | .full => "full"
  | .inside => "inside"
def Er.val : Er → V
  | .room i => .int (i : Nat)
  | .entry i => .int (i : Nat)
  | .plain i => .int (i : Nat)
  | .exist i => .int (i : Nat)
  | .signs => .int 20
  | .large => .int 60
  | _ => .non
def erT (e : Er) : List V := [.str e.word, e.val]
def plcAt (H : Hp) (t : Addr) (i : Nat) : Plc → Prop
  | .at_ r w => H t = some (.tup [.str "at", .int (r : Nat), .str w, .int (i : Nat)])
  | .no e => H t = some (.tup (erT e))
theorem rd_inLst {K : PySem.W.Frag} {p : Addr} {z : Str} {H : Hp} {Q : VK} (h : SqL K H p [.str ".", .str ".."]) (q : Q (.bl (z == "." || z == "..")) H) : xIn K (.str z) (.ref p) H Q :=
  rd_inL h rfl rfl (by rw [← inV2 (z := z) (a := ".") (b := "..") rfl]; exact q)
def Φ_law_place (K : PySem.W.Frag) (vs vh vp : V) (H : Hp) (Q : VK) : Prop := ∃ (s : Sto) (here : Nat) (z : Str), StAt H vs s ∧ Wf s ∧ vh = .int here ∧ here < s.length ∧ vp = .str z ∧ pathB (.str z) = true ∧
  ∀ p t H', Same H H' → Place s here z p → plcAt H' t (lastI z) p → Q (.ref t) H'
theorem ok_law_place (T : Txt P K mg) {f : Addr} {fd : FuncData} (F : Fun K "_law_place" "_law_place" s_law_place f fd) : Keeps P w K mg base CX0 4 f fd ["store", "here", "path"] (sp3 (Φ_law_place K)) := by
  have c_law_words := cal (P := P) (w := w) (base := base) T.d_law_words fun F => ok_law_words T F
  have c_law_walk := cal (P := P) (w := w) (base := base) T.d_law_walk fun F => ok_law_walk T F
  refine keeps0_of F sc_law_place (fun vs H Q E h => ?_) (fun cdv A outer s H vs Q E hr h => ?_)
  · obtain ⟨_, _, _, rfl, _⟩ := h
    rfl
  obtain ⟨v_store, v_here, v_path, rfl, h⟩ := h
  have hu := hr.hu
  refine ⟨_, (pss_cons (ps_set (i := 3) sc_law_place.nd rfl (by first | exact Or.inl rfl | exact Or.inr rfl) (pe_cal c_law_words (hr.mono (by decide)) (by rfl) pass0 (pa_cons (pv 2) pa_nil)))
      (pss_cons (ps_set (i := 4) sc_law_place.nd rfl (by first | exact Or.inl rfl | exact Or.inr rfl) (pe_callB (call_maxX rfl) (by rfl) T.b_max (by decide +kernel) (pa_cons pe_int (pa_cons (pe_op oSub (pe_callB (call_lenX (K := K)) (by rfl) T.b_len (by decide +kernel) (pa_cons (pv 3) pa_nil)) pe_int) pa_nil))))
      (pss_cons (ps_if (PW.pt (pw_or (pt_cmpR (oEq (K := K) hr.u65) (pv 3) (pe_lst pa_nil) (nomark _)) (pw_or1 (pt_cmpR (oIn (K := K) hr.u65) (pe_ix (ixX (K := K)) (pv 3) (pe_un un_neg pe_int) (fun _ _ => rfl)) (pe_lst (pa_cons pe_str (pa_cons pe_str pa_nil))) (by rfl))))) (pss_one (ps_ret (pe_tup (pa_cons pe_str (pa_cons (pv 4) pa_nil))))) pss_nil)
      (pss_cons (ps_set (i := 5) sc_law_place.nd rfl (by first | exact Or.inl rfl | exact Or.inr rfl) (pe_cal c_law_walk (hr.mono (by decide)) (by rfl) pass0 (pa_cons (pv 0) (pa_cons (pv 1) (pa_cons (pe_op (oAdd (K := K)) (pe_ix (ixX (K := K)) (pe_lst (pa_cons pe_str (pa_cons pe_str pa_nil))) (pe_callTy call_intX (by rfl) T.b_int (by decide +kernel) (pa_cons (pe_cmpR (oEq (K := K) hr.u65) (pe_ix (ixX (K := K)) (pv 2) pe_int (fun _ _ => rfl)) pe_str (nomark _)) pa_nil)) (fun _ _ => rfl)) (pe_join pe_str (pe_op (oAdd (K := K)) (pe_slice (sX (K := K)) (pv 3) po_none (po_some (pe_un un_neg pe_int))) (pe_lst (pa_cons pe_str pa_nil))))) (pa_cons pe_bl pa_nil))))))
      (pss_cons (ps_if (pt_cmpR (oNe (K := K) hr.u65) (pe_ix (ixX (K := K)) (pv 5) pe_int (fun _ _ => rfl)) pe_str (nomark _)) (pss_one (ps_ret (pv 5))) pss_nil)
      (pss_one (ps_ret (pe_tup (pa_cons pe_str (pa_cons (pe_ix (ixX (K := K)) (pv 5) pe_int (fun _ _ => rfl)) (pa_cons (pe_ix (ixX (K := K)) (pv 3) (pe_un un_neg pe_int) (fun _ _ => rfl)) (pa_cons (pv 4) pa_nil)))))))))))), ?_⟩
  rw [show start ["store", "here", "path", "words", "last", "ahead"] [v_store, v_here, v_path] = [some v_store, some v_here, some v_path, none, none, none] from rfl]
  try dsimp only [cxOf, Cx.nox, Cx.wish]
  obtain ⟨s, here, z, hS, wf, rfl, hl, rfl, hz, q⟩ := h
  have zl := pathB_len hz
  have l1 := wf.l1
  have lw := words_len z
  walk_at "rd"
  refine ⟨z, rfl, by omega, fun D H1 hD k1 h1 => ?_⟩
  walk_at "rd"
  refine rd_lenL (SqL.of h1) ?_
  walk_at "rd"
  rw [List.length_map, last_max]
  intro e he
  have k2 := (Same.refl H1).new (o := .lst []) he
  have h2 := k2 _ _ h1
  have e2 : upd H1 e (.lst []) e = some (.lst []) := upd_same
  have k12 := k1.trans k2
  generalize upd H1 e (.lst []) = H2 at k12 h2 e2 ⊢
  refine rd_eqNil (SqL.of h2) (SqL.of e2) ?_
  clear k1 k2 h1 hD e2 he
  rcases path_form hz with hz0 | ⟨pre, ws, hpre, hne, hw, hzw⟩
  · have hw0 : wordsOf z = [] := by rw [hz0]; decide +kernel
    rw [hw0] at h2 ⊢
    rw [show ((([] : List Str).map V.str).isEmpty) = true from rfl]
    walk_at "rd"
    intro t ht
    refine q (.no (.plain (lastI z))) t _ (k12.new (o := .tup [.str "plain", .int (((([] : List Str).length - 1 : Nat)) : Int)]) ht) ?_ ?_
    · unfold Place
      rw [if_neg (show ¬ plainE z = true by unfold plainE; rw [hw0]; exact Bool.false_ne_true)]
    · show upd H2 t _ t = some (.tup (erT (.plain (lastI z))))
      rw [upd_same]
      unfold lastI
      rw [hw0]
      rfl
  · have hww : wordsOf z = ws := by rw [hzw]; exact words_pre hne hw hpre
    obtain ⟨init, w, rfl⟩ : ∃ init w, ws = init ++ [w] := by
      rcases List.eq_nil_or_concat ws with h | ⟨a, b, h⟩
      · exact absurd h hne
      · exact ⟨a, b, by rw [h, List.concat_eq_append]⟩
    have lasti : lastI z = init.length := by unfold lastI; rw [hww, List.length_append]; rfl
    have lastw : lastW z = w := by unfold lastW; rw [hww, List.getLast?_concat]; rfl
    have pl : plainE z = endB w := by
      unfold plainE
      rw [lastw, hww, show (init ++ [w]).isEmpty = false by cases init <;> rfl]
      rfl
    rw [hww] at h2 lw ⊢
    rw [show ((init ++ [w]).map V.str).isEmpty = false by cases init <;> rfl]
    have h2' := h2
    rw [List.map_append] at h2'
    walk_at "rd"
    refine ⟨1, rfl, ?_⟩
    refine rd_ixL (SqL.of h2') (atI_last _ _) ?_
    walk_at "rd"
    intro l hl3
    have k3 := (Same.refl H2).new (o := .lst [.str ".", .str ".."]) hl3
    have h3 := k3 _ _ h2
    have e3 : upd H2 l (.lst [.str ".", .str ".."]) l = some (.lst [.str ".", .str ".."]) := upd_same
    have k13 := k12.trans k3
    generalize upd H2 l (.lst [.str ".", .str ".."]) = H3 at k13 h3 e3 ⊢
    refine rd_inLst (SqL.of e3) ?_
    clear k3 e3 hl3 h2 h2' k12
    walk_at "rd"
    cases hend : (w == "." || w == "..") with
    | true =>
      walk_at "rd"
      intro t ht
      have k4 := k13.new (o := .tup [.str "plain", .int (((init ++ [w]).length - 1 : Nat) : Int)]) ht
      refine q (.no (.plain (lastI z))) t _ k4 ?_ ?_
      · unfold Place
        rw [if_neg (by rw [pl]; unfold endB; rw [hend]; decide)]
      · show upd H3 t _ t = some (.tup (erT (.plain (lastI z))))
        rw [upd_same]
        unfold lastI
        rw [hww]
        rfl
    | false =>
      walk_at "rd"
      have hpl : plainE z = true := by rw [pl]; unfold endB; rw [hend]; rfl
      obtain ⟨hw', dlen⟩ := dot_path (pre := pre) hw
      rw [← hzw] at dlen
      have hw2 : (init ++ [w]).length ≤ 101 := by omega
      rw [List.length_append, List.length_singleton] at hw2
      obtain ⟨c, r, ez, ec⟩ : ∃ c r, tl z = c :: r ∧ decide ((⟨#[c]⟩ : Str) = "/") = decide (pre = "/") := by
        obtain ⟨c, r, e, hc⟩ := join_head hne hw
        have ne : ("" : Str) ≠ "/" := by decide +kernel
        rcases hpre with rfl | rfl
        · refine ⟨c, r, by rw [hzw, tl_app, tl_nil]; exact e, ?_⟩
          rw [decide_eq_decide]
          refine ⟨fun h => absurd ?_ hc, fun h => absurd h ne⟩
          have : tl (⟨#[c]⟩ : Str) = tl "/" := by rw [h]
          rw [tl_slash] at this
          exact (List.cons.inj this).1
        · refine ⟨47, c :: r, by rw [hzw, tl_app, tl_slash, e]; rfl, ?_⟩
          rw [decide_eq_true rfl]
          decide +kernel
      intro l4 hl4
      have k4 := (Same.refl H3).new (o := .lst [.str "", .str "/"]) hl4
      have h4 := k4 _ _ h3
      have e4 : upd H3 l4 (.lst [.str "", .str "/"]) l4 = some (.lst [.str "", .str "/"]) := upd_same
      have k14 := k13.trans k4
      generalize upd H3 l4 (.lst [.str "", .str "/"]) = H4 at k14 h4 e4 ⊢
      walk_at "rd"
      refine rd_ixS (c := c) (szOk (by omega)) (by rw [show z.cps.toList = c :: r from ez]; exact atI_nat (j := 0) rfl) ?_
      walk_at "rd"
      rw [ec]
      have hat : atI [V.str "", V.str "/"] (if decide (pre = "/") = true then 1 else 0) = some (.str pre) := by
        rcases hpre with rfl | rfl
        · rw [if_neg (by decide +kernel)]; rfl
        · rw [if_pos (decide_eq_true rfl)]; rfl
      refine rd_ixL (SqL.of e4) hat ?_
      clear e4 k4 hl4 k13 h3
      walk_at "rd"
      refine ⟨1, rfl, ?_⟩
      walk_at "rd"
      refine rd_slL (SqL.of h4) fun l5 hl5 => ?_
      rw [cutV_init, ← List.map_dropLast, List.dropLast_concat]
      have k5 := (Same.refl H4).new (o := .lst (init.map V.str)) hl5
      have h5 := k5 _ _ h4
      have e5 : upd H4 l5 (.lst (init.map V.str)) l5 = some (.lst (init.map V.str)) := upd_same
      have k15 := k14.trans k5
      generalize upd H4 l5 (.lst (init.map V.str)) = H5 at k15 h5 e5 ⊢
      walk_at "rd"
      intro l6 hl6
      have k6 := (Same.refl H5).new (o := .lst [.str "."]) hl6
      have h6 := k6 _ _ h5
      have e6 := k6 _ _ e5
      have f6 : upd H5 l6 (.lst [.str "."]) l6 = some (.lst [.str "."]) := upd_same
      have k16 := k15.trans k6
      generalize upd H5 l6 (.lst [.str "."]) = H6 at k16 h6 e6 f6 ⊢
      refine rd_cat e6 f6 (szOk (by rw [List.length_map]; show init.length + 1 ≤ 1000000; omega)) fun l7 hl7 => ?_
      have k7 := (Same.refl H6).new (o := .lst (init.map V.str ++ [.str "."])) hl7
      have h7 := k7 _ _ h6
      have e7 : upd H6 l7 (.lst (init.map V.str ++ [.str "."])) l7 = some (.lst ((init ++ [("." : Str)]).map V.str)) := by rw [upd_same, List.map_append]; rfl
      have k17 := k16.trans k7
      generalize upd H6 l7 (.lst (init.map V.str ++ [.str "."])) = H7 at k17 h7 e7 ⊢
      clear k5 k6 k7 hl5 hl6 hl7 e5 e6 f6 h4 h5 h6 k14 k15 k16
      have jl := join_len hw'
      have s1 := join_le "/" (init ++ [("." : Str)]) 12 fun u h => (word_len (hw' u h)).2
      have s3 : ("/" : Str).length = 1 := by decide +kernel
      rw [List.length_append, List.length_singleton] at jl s1
      refine ⟨"/", l7, init ++ [("." : Str)], rfl, rfl, .inl (SqL.of e7), by rw [s3, List.length_append, List.length_singleton]; omega, ?_⟩
      have prl : pre.length ≤ 1 := by rcases hpre with rfl | rfl <;> decide +kernel
      refine rd_addS (szOk (by omega)) ?_
      obtain ⟨c', r', e', _⟩ := join_head (ws := init ++ [("." : Str)]) (by simp) hw'
      have jpos : 1 ≤ (Txt.join "/" (init ++ [("." : Str)])).length := by rw [← len_tl, e']; exact Nat.succ_le_succ (Nat.zero_le _)
      walk_at "rd"
      refine ⟨s, here, pre ++ Txt.join "/" (init ++ [("." : Str)]), true, hS.up (Ty.of k17), wf, rfl, hl, rfl, by rw [len_app]; omega, by omega, rfl, fun r t H8 k8 hL ht => ?_⟩
      have k18 := k17.trans k8
      have h8 := k8 _ _ h7
      obtain ⟨r0, hr0, hfix⟩ : ∃ r0, Walks s (startAt here z) (stepsOf init true) 0 r0 ∧ fixD s init.length r0 = r := by
        unfold Leads at hL
        rw [words_pre (by simp) hw' hpre, steps_snoc] at hL
        have e : startAt here (pre ++ Txt.join "/" (init ++ [("." : Str)])) = startAt here z := by
          rw [hzw]
          rcases hpre with rfl | rfl
          · rw [(start_pre (by simp) hw').1, (start_pre hne hw).1]
          · rw [(start_pre (by simp) hw').2, (start_pre hne hw).2]
        rw [e] at hL
        exact walks_undot hL _ rfl
      have hplace : Place s here z (plcR w r) := by
        unfold Place
        rw [if_pos hpl, hww, List.dropLast_concat]
        exact ⟨r0, hr0, by rw [lasti, lastw, hfix]⟩
      have h8' := h8
      rw [List.map_append] at h8'
      clear h8 h7 e7 k17 k8 hS hL jl s1 prl e' jpos
      cases r with
      | node j =>
        have ht : H8 t = some (.tup [.str "node", .int (j : Int)]) := ht
        walk_at "rd"
        refine rd_noI (by decide +kernel) ?_
        walk_at "rd"
        refine ⟨1, rfl, ?_⟩
        refine rd_ixL (SqL.of h8') (atI_last _ _) ?_
        walk_at "rd"
        intro t2 ht2
        refine q _ t2 _ (k18.new (o := .tup [.str "at", .int (j : Nat), .str w, .int (((init ++ [w]).length - 1 : Nat) : Int)]) ht2) hplace ?_
        show upd H8 t2 _ t2 = some (.tup [.str "at", .int (j : Nat), .str w, .int (lastI z : Nat)])
        rw [upd_same]
        unfold lastI
        rw [hww]
      | room i =>
        have ht : H8 t = some (.tup [.str "room", .int (i : Int)]) := ht
        walk_at "rd"
        refine rd_yesI (by decide +kernel) ?_
        walk_at "rd"
        exact q _ t _ k18 hplace ht
      | entry i =>
        have ht : H8 t = some (.tup [.str "entry", .int (i : Int)]) := ht
        walk_at "rd"
        refine rd_yesI (by decide +kernel) ?_
        walk_at "rd"
        exact q _ t _ k18 hplace ht
      | signs =>
        have ht : H8 t = some (.tup [.str "signs", .int 20]) := ht
        walk_at "rd"
        refine rd_yesI (by decide +kernel) ?_
        walk_at "rd"
        exact q _ t _ k18 hplace ht
def Φ_law_entry (K : PySem.W.Frag) (vs vr vn : V) (H : Hp) (Q : VK) : Prop := ∃ (s : Sto) (r : Nat) (w : Str), StAt H vs s ∧ vr = .int r ∧ vn = .str w ∧ roomAt s r ∧ (entsAt s r).length ≤ 1000 ∧ ∀ H', Same H H' → Q (optV (entryOf s r w)) H'
theorem ok_law_entry (T : Txt P K mg) {f : Addr} {fd : FuncData} (F : Fun K "_law_entry" "_law_entry" s_law_entry f fd) : Keeps P w K mg base CX0 1 f fd ["store", "room", "name"] (sp3 (Φ_law_entry K)) := by
  refine keeps0_of F sc_law_entry (fun vs H Q E h => ?_) (fun cdv A outer s H vs Q E hr h => ?_)
  · obtain ⟨_, _, _, rfl, _⟩ := h
    rfl
  obtain ⟨v_store, v_room, v_name, rfl, h⟩ := h
  have hu := hr.hu
  refine ⟨_, (pss_cons (ps_setLc (i := 3) (own := [("own", 4), ("number", 5)]) rfl sc_law_entry.nd rfl rfl (sw_true rfl rfl rfl (by decide +kernel)) (pi_any (K := K) (pe_ix (ixX (K := K)) (pe_ix (ixX (K := K)) (pv 0) (pv 1) (fun _ _ => rfl)) pe_int (fun _ _ => rfl))) (blkOk_by (own := [("own", 4), ("number", 5)]) (N := ["store", "room", "name", "found", "own", "number"]) (sc := defScope s_law_entry) (by decide +kernel)) (fun _ _ _ _ _ => pg_seqX (K := K) (n := 2) rfl (pgs_cons (pg_name (i := 4) sc_law_entry.nd rfl (by first | exact Or.inl rfl | exact Or.inr rfl)) (pgs_cons (pg_name (i := 5) sc_law_entry.nd rfl (by first | exact Or.inl rfl | exact Or.inr rfl)) pgs_nil))) (fun _ _ _ _ _ => pts_one (pt_cmpR (oEq (K := K) hr.u65) (pv 4) (pv 2) (nomark _))) (fun _ _ _ _ _ => (pv 5)))
      (pss_one (ps_ret (pe_ifExp (pt_cmpR (oNe (K := K) hr.u65) (pv 3) (pe_lst pa_nil) (nomark _)) (pe_ix (ixX (K := K)) (pv 3) pe_int (fun _ _ => rfl)) pe_non)))), ?_⟩
  rw [show start ["store", "room", "name", "found", "own", "number"] [v_store, v_room, v_name] = [some v_store, some v_room, some v_name, none, none, none] from rfl]
  try dsimp only [cxOf, Cx.nox, Cx.wish]
  obtain ⟨s, r, w', ⟨a, xs, rfl, ha, ps⟩, rfl, rfl, ⟨es, hes⟩, hl, q⟩ := h
  have hen := entsAt_room hes
  rw [hen] at hl
  obtain ⟨v, hv, na, nb, rfl, hna, ys, hys, pys⟩ := pd_getR ps hes
  have ly := Paired.length pys
  walk_at "rd"
  refine rd_lcT ?_
  walk_at "rd"
  refine rd_ixT ha.sq (atI_nat hv) ?_
  walk_at "rd"
  refine rd_ixT hna.sq rfl ?_
  refine rd_clT (xs := ys) hys.rt.sq (fun D i H' => Same H H' ∧ H' D = some (.lst ((((es.take i).filter fun e => decide (e.1 = w')).map (·.2)).map nv))) (fun D hD => ⟨(Same.refl H).new (o := .lst []) hD, upd_same⟩) (fun D i H' _ _ h => (hys.up (Ty.of h.1)).rt.sq) (fun D i x H' hD hx hP => ?_) (fun D H' hD hP => ?_)
  · obtain ⟨k2, hL⟩ := hP
    obtain ⟨e, he, p, rfl, hp⟩ := pd_getL pys hx
    refine rd_lcT1 ?_
    refine rd_gtup (hp.up (Ty.of k2)).sq rfl ?_
    walk_at "rd"
    have le : ((es.take i).filter fun e => decide (e.1 = w')).length ≤ 1000 := Nat.le_trans (List.length_filter_le _ _) (by rw [List.length_take]; omega)
    refine rd_ite (fun h1 => ?_) (fun h1 => ?_)
    · walk_at "rd"
      refine ⟨_, hL, szLt (by rw [List.length_map, List.length_map]; omega), k2.put hD, ?_⟩
      rw [upd_same, List.take_add_one, he]
      show _ = some (HO.lst ((((es.take i ++ [e]).filter fun e => decide (e.1 = w')).map (·.2)).map nv))
      rw [List.filter_append, List.filter_cons_of_pos (by exact h1), List.filter_nil, List.map_append, List.map_append]
      rfl
    · walk_at "rd"
      refine ⟨k2, ?_⟩
      rw [List.take_add_one, he]
      show _ = some (HO.lst ((((es.take i ++ [e]).filter fun e => decide (e.1 = w')).map (·.2)).map nv))
      rw [List.filter_append, List.filter_cons_of_neg (by rw [h1]; decide), List.filter_nil, List.append_nil]
      exact hL
  · obtain ⟨k2, hL⟩ := hP
    rw [ly, List.take_length] at hL
    have eh : entryOf s r w' = ((es.filter fun e => decide (e.1 = w')).map (·.2)).head? := by rw [entry_head, hen]
    rw [eh] at q
    generalize (es.filter fun e => decide (e.1 = w')).map (·.2) = fs at hL q
    walk_at "rd"
    intro e he
    have k3 := k2.new (o := .lst []) he
    have h3 : upd H' e (.lst []) D = some (.lst (fs.map nv)) := ((Same.refl H').new (o := .lst []) he) _ _ hL
    have e3 : upd H' e (.lst []) e = some (.lst []) := upd_same
    generalize upd H' e (.lst []) = H3 at k3 h3 e3 ⊢
    refine rd_neNil (SqL.of h3) (SqL.of e3) ?_
    cases fs with
    | nil =>
      rw [show (([] : List Nat).map nv).isEmpty = true from rfl]
      walk_at "rd"
      exact q _ k3
    | cons x fs =>
      rw [show ((x :: fs).map nv).isEmpty = false from rfl]
      walk_at "rd"
      refine rd_ixL (SqL.of h3) (atI_nat (j := 0) rfl) ?_
      walk_at "rd"
      exact q _ k3
/-! ### entries in a list, sorted -/
theorem pd_each {α β : Type} {F : α → β → Prop} {as : List α} {bs : List β} (h : PySem.W.EachIs F as bs) : Paired F as bs := by
  induction h with
  | nil => exact .nil
  | cons h _ ih => exact .cons h ih
theorem pd_sort {H : Hp} {xs : List V} {es : List (Str × Nat)} (h : Paired (pairV H) xs es) : Paired (pairV H) (((xs.zip (es.map entN)).mergeSort (PySem.W.dataLe false (·.2))).map (·.1)) (srtE es) := by
  have e1 : PySem.W.EachIs (fun (p : V × PyData) (e : Str × Nat) => pairV H p.1 e ∧ p.2 = entN e) (xs.zip (es.map entN)) es := by
    induction h with
    | nil => exact .nil
    | cons h _ ih => exact .cons ⟨h, rfl⟩ ih
  have e2 := PySem.W.sort_each (r := PySem.W.dataLe false fun b : V × PyData => b.2) (s := PySem.W.dataLe false entN) e1 fun x hx y hy => by
    have g : ∀ x ∈ (xs.zip (es.map entN)).zip es, x.1.2 = entN x.2 := fun x hx => (e1.zip x hx).2
    rw [PySem.W.dataLe_eq, PySem.W.dataLe_eq]
    show cond false _ _ = cond false _ _
    rw [g x hx, g y hy]
  clear e1 h
  unfold srtE
  revert e2
  generalize (xs.zip (es.map entN)).mergeSort (PySem.W.dataLe false fun b : V × PyData => b.2) = as
  generalize es.mergeSort (PySem.W.dataLe false entN) = bs
  intro e2
  induction e2 with
  | nil => exact .nil
  | cons h _ ih => exact .cons h.1 ih
theorem zip_fst {α β : Type} : ∀ {as : List α} {bs : List β}, as.length = bs.length → (as.zip bs).map (·.1) = as
  | [], _, _ => rfl
  | a :: as, b :: bs, h => by rw [List.zip_cons_cons, List.map_cons, zip_fst (Nat.succ.inj h)]
theorem zip_snd {α β : Type} : ∀ {as : List α} {bs : List β}, as.length = bs.length → (as.zip bs).map (·.2) = bs
  | [], [], _ => rfl
  | a :: as, b :: bs, h => by rw [List.zip_cons_cons, List.map_cons, zip_snd (Nat.succ.inj h)]
theorem zip_dp {K : PySem.W.Frag} {H : Hp} {xs : List V} {es : List (Str × Nat)} (h : Paired (pairV H) xs es) : ∀ p ∈ xs.zip (es.map entN), Dp K H p.1 p.2 := by
  induction h with
  | nil => intro p h; cases h
  | cons h _ ih =>
    intro p hp
    rcases List.mem_cons.mp hp with rfl | hp
    · obtain ⟨a, e, r⟩ := h
      show Dp K H _ (entN _)
      rw [e]
      exact .tup r.sq (.cons (.str _) (.cons (.int _) .nil))
    · exact ih p hp

theorem rd_tupF {tA : TA} {σ : St} {H : Hp} {Q : VK} (q : tA σ H fun xs H1 => xs.length ≤ sizeLine ∧ ∀ p o, o.dict = none → H1 p = none → Q (.ref p) (upd H1 p (.frz o (.tup xs)))) : tTupF tA σ H Q := q
theorem rd_sortE {K : PySem.W.Frag} {a : Addr} {xs : List V} {es : List (Str × Nat)} {H : Hp} {Q : VK} (h : H a = some (.lst xs)) (pe : Paired (pairV H) xs es) (q : ∀ l ys H', Same H H' → H' l = some (.lst ys) → Paired (pairV H') ys (srtE es) → Q (.ref l) H') : xSortD K [.ref a] H Q := by
  have le := Paired.length pe
  have ez : xs.length = (es.map entN).length := by rw [List.length_map]; exact le
  refine ⟨a, xs.zip (es.map entN), rfl, by rw [zip_fst ez]; exact SqL.of h, zip_dp pe, by rw [zip_snd ez]; exact PySem.W.AllAlike.of fun b b' => rfl, by rw [zip_snd ez]; exact PySem.W.Sortable.tuples fun b => ⟨_, _, rfl⟩, fun p hp => ?_, fun l3 hl3 => ?_⟩
  · obtain ⟨e, _, e2⟩ := List.mem_map.mp (List.of_mem_zip hp).2
    rw [← e2]
    exact Nat.le_of_ble_eq_true rfl
  have pe2 := pd_sort pe
  have k := (Same.refl H).new (o := .lst (((xs.zip (es.map entN)).mergeSort (PySem.W.dataLe false (·.2))).map (·.1))) hl3
  exact q l3 _ _ k upd_same (pd_mono (fun _ _ q => pairV.up q (Ty.of k)) pe2)
def Φ_law_with (K : PySem.W.Frag) (vs vr vn vk : V) (H : Hp) (Q : VK) : Prop := ∃ (s : Sto) (r : Nat) (nm : Str) (o : Option Nat), StAt H vs s ∧ vr = .int r ∧ vn = .str nm ∧ vk = optV o ∧ roomAt s r ∧ (entsAt s r).length ≤ 1000 ∧ s.length ≤ 1000 ∧
  ∀ v H', Same H H' → StAt H' v (withE s r nm o) → Q v H'
theorem ok_law_with (T : Txt P K mg) {f : Addr} {fd : FuncData} (F : Fun K "_law_with" "_law_with" s_law_with f fd) : Keeps P w K mg base CX0 1 f fd ["store", "room", "name", "number"] (sp4 (Φ_law_with K)) := by
  refine keeps0_of F sc_law_with (fun vs H Q E h => ?_) (fun cdv A outer s H vs Q E hr h => ?_)
  · obtain ⟨_, _, _, _, rfl, _⟩ := h
    rfl
  obtain ⟨v_store, v_room, v_name, v_number, rfl, h⟩ := h
  have hu := hr.hu
  refine ⟨_, (pss_cons (ps_setLc (i := 4) (own := [("entry", 5)]) rfl sc_law_with.nd rfl rfl (sw_true rfl rfl rfl (by decide +kernel)) (pi_any (K := K) (pe_ix (ixX (K := K)) (pe_ix (ixX (K := K)) (pv 0) (pv 1) (fun _ _ => rfl)) pe_int (fun _ _ => rfl))) (blkOk_by (own := [("entry", 5)]) (N := ["store", "room", "name", "number", "entries", "entry"]) (sc := defScope s_law_with) (by decide +kernel)) (fun _ _ _ _ _ => pg_name (i := 5) sc_law_with.nd rfl (by first | exact Or.inl rfl | exact Or.inr rfl)) (fun _ _ _ _ _ => pts_one (pt_cmpR (oNe (K := K) hr.u65) (pe_ix (ixX (K := K)) (pv 5) pe_int (fun _ _ => rfl)) (pv 2) (nomark _))) (fun _ _ _ _ _ => (pv 5)))
      (pss_meet (ps_if (pt_cmpR oIsNot (pv 3) pe_non (nomark _)) (pss_one (ps_expr (pe_bmX (K := K) PySem.F.plainAttrs_list PySem.F.slot_list_append PySem.F.type_list_append mt_append (pv 4) (pa_cons (pe_tup (pa_cons (pv 2) (pa_cons (pv 3) pa_nil))) pa_nil)))) pss_nil)
      (pss_one (ps_ret (pe_op (oAdd (K := K)) (pe_op (oAdd (K := K)) (pe_slice (sX (K := K)) (pv 0) po_none (po_some (pv 1))) (pe_tup (pa_cons (pe_tupF (pa_cons pe_str (pa_cons (pe_callTy (callTupF (K := K)) (by rfl) T.b_tuple (by decide +kernel) (pa_cons (pe_callB (call_sortD (K := K) hr.u65) (by rfl) T.b_sorted (by decide +kernel) (pa_cons (pv 4) pa_nil)) pa_nil)) pa_nil))) pa_nil))) (pe_slice (sX (K := K)) (pv 0) (po_some (pe_op (oAdd (K := K)) (pv 1) pe_int)) po_none)))))), ?_⟩
  rw [show start ["store", "room", "name", "number", "entries", "entry"] [v_store, v_room, v_name, v_number] = [some v_store, some v_room, some v_name, some v_number, none, none] from rfl]
  try dsimp only [cxOf, Cx.nox, Cx.wish]
  obtain ⟨s, r, nm, o, hS, rfl, rfl, rfl, ⟨es, hes⟩, hl, hsl, q⟩ := h
  have hS' := hS
  obtain ⟨a, xs, rfl, ha, ps⟩ := hS'
  have hen := entsAt_room hes
  have rl := (List.getElem?_eq_some_iff.mp hes).1
  rw [hen] at hl
  obtain ⟨v, hv, na, nb, rfl, hna, ys, hys, pys⟩ := pd_getR ps hes
  have ly := Paired.length pys
  have lx := Paired.length ps
  walk_at "rd"
  refine rd_lcT ?_
  walk_at "rd"
  refine rd_ixT ha.sq (atI_nat hv) ?_
  walk_at "rd"
  refine rd_ixT hna.sq rfl ?_
  refine rd_clT (xs := ys) hys.rt.sq (fun D i H' => Same H H' ∧ ∃ zs, H' D = some (.lst zs) ∧ Paired (pairV H') zs ((es.take i).filter fun e => decide (e.1 ≠ nm))) (fun D hD => ⟨(Same.refl H).new (o := .lst []) hD, [], upd_same, .nil⟩) (fun D i H' _ _ h => (hys.up (Ty.of h.1)).rt.sq) (fun D i x H' hD hx hP => ?_) (fun D H' hD hP => ?_)
  · obtain ⟨k2, zs, hL, pz⟩ := hP
    have lz := Paired.length pz
    obtain ⟨e, he, p, rfl, hp⟩ := pd_getL pys hx
    have hp := hp.up (Ty.of k2)
    have le : ((es.take i).filter fun e => decide (e.1 ≠ nm)).length ≤ 1000 := Nat.le_trans (List.length_filter_le _ _) (by rw [List.length_take]; omega)
    refine rd_lcT1 ?_
    walk_at "rd"
    refine rd_ixT hp.sq rfl ?_
    walk_at "rd"
    refine rd_ite (fun h1 => ?_) (fun h1 => ?_)
    · have h1' : e.1 ≠ nm := fun h => by rw [decide_eq_true h] at h1; cases h1
      walk_at "rd"
      have ty := (Ty.refl H').lst (o := .lst (zs ++ [.ref p])) hL
      refine ⟨_, hL, szLt (by omega), k2.put hD, _, upd_same, ?_⟩
      rw [List.take_add_one, he]
      show Paired _ _ ((es.take i ++ [e]).filter fun e => decide (e.1 ≠ nm))
      rw [List.filter_append, List.filter_cons_of_pos (by exact decide_eq_true h1'), List.filter_nil]
      exact pd_app (pd_mono (fun _ _ q => pairV.up q ty) pz) (.cons ⟨p, rfl, hp.up ty⟩ .nil)
    · have h1' : ¬ e.1 ≠ nm := fun h => by rw [decide_eq_false h] at h1; cases h1
      walk_at "rd"
      refine ⟨k2, zs, hL, ?_⟩
      rw [List.take_add_one, he]
      show Paired _ _ ((es.take i ++ [e]).filter fun e => decide (e.1 ≠ nm))
      rw [List.filter_append, List.filter_cons_of_neg (by rw [decide_eq_false h1']; decide), List.filter_nil, List.append_nil]
      exact pz
  · obtain ⟨k2, zs, hL, pz⟩ := hP
    rw [ly, List.take_length] at pz
    have lz := Paired.length pz
    generalize hfe : (es.filter fun e => decide (e.1 ≠ nm)) = fe at pz lz
    have fl : fe.length ≤ 1000 := by rw [← hfe]; exact Nat.le_trans (List.length_filter_le _ _) hl
    walk_at "rd"
    refine rd_meet (fun σ' H3 => Same H H3 ∧ (∃ zs, H3 D = some (.lst zs) ∧ Paired (pairV H3) zs (fe ++ (o.map fun n => (nm, n)).toList)) ∧ σ' = [some (.ref a), some (.int (r : Nat)), some (.str nm), some (optV o), some (.ref D), none]) ?_ ?_
    · cases o with
      | none =>
        rw [show optV none = V.non from rfl]
        walk_at "rd"
        refine rd_noI (by decide +kernel) ?_
        walk_at "rd"
        refine ⟨k2, ⟨zs, hL, ?_⟩, rfl⟩
        rw [show (Option.map (fun n => (nm, n)) (none : Option Nat)).toList = [] from rfl, List.append_nil]
        exact pz
      | some n =>
        rw [show optV (some n) = V.int (n : Nat) from rfl]
        walk_at "rd"
        refine rd_yesI (by rw [decide_eq_false (fun h => nomatch h)]; rfl) ?_
        walk_at "rd"
        refine rd_tyL (SqL.of hL) ?_
        walk_at "rd"
        intro t ht
        have k3 := (Same.refl H').new (o := .tup [.str nm, .int (n : Nat)]) ht
        have hL3 := k3 _ _ hL
        have g3 : upd H' t (.tup [.str nm, .int (n : Nat)]) t = some (.tup [.str nm, .int (n : Nat)]) := upd_same
        have k23 := k2.trans k3
        have pz3 := pd_mono (fun _ _ q => pairV.up q (Ty.of k3)) pz
        generalize upd H' t (.tup [.str nm, .int (n : Nat)]) = H3 at k23 hL3 g3 pz3 ⊢
        walk_at "rd"
        have ty := (Ty.refl H3).lst (o := .lst (zs ++ [.ref t])) hL3
        refine rd_app hL3 (szLt (by omega)) ⟨k23.put hD, ⟨_, upd_same, ?_⟩, rfl⟩
        exact pd_app (pd_mono (fun _ _ q => pairV.up q ty) pz3) (.cons ⟨t, rfl, (Rt.of g3).up ty⟩ .nil)
    · rintro σ' H3 ⟨k3, ⟨zs, hL3, pz3⟩, rfl⟩
      have hwE : wE es nm o = srtE (fe ++ (o.map fun n => (nm, n)).toList) := by
        unfold wE
        rw [hfe]
      generalize fe ++ (o.map fun n => (nm, n)).toList = ge at hwE pz3
      clear k2 hL pz lz
      walk_at "rd"
      refine rd_slR (ha.up (Ty.of k3)) fun r1 H4 k4 h4 => ?_
      rw [cutV_take] at h4
      have k14 := k3.trans k4
      walk_at "rd"
      refine rd_tupF ?_
      walk_at "rd"
      refine rd_sortE (k4 _ _ hL3) (pd_mono (fun _ _ q => pairV.up q (Ty.of k4)) pz3) fun l zs2 H5 k5 hl5 pz5 => ?_
      walk_at "rd"
      refine ⟨l, zs2, rfl, SqL.of hl5, fun tA o' od htA => ?_⟩
      have k6 := (Same.refl H5).new (o := .frz o' (.tup zs2)) htA
      have g6 : upd H5 tA (.frz o' (.tup zs2)) tA = some (.frz o' (.tup zs2)) := upd_same
      have pz6 := pd_mono (fun _ _ q => pairV.up q (Ty.of k6)) pz5
      generalize upd H5 tA (.frz o' (.tup zs2)) = H6 at k6 g6 pz6 ⊢
      walk_at "rd"
      intro t7 o7 od7 ht7
      have k7 := (Same.refl H6).new (o := .frz o7 (.tup [.str "room", .ref tA])) ht7
      have g7 : upd H6 t7 (.frz o7 (.tup [.str "room", .ref tA])) t7 = some (.frz o7 (.tup [.str "room", .ref tA])) := upd_same
      have f7 := k7 _ _ g6
      have pz7 := pd_mono (fun _ _ q => pairV.up q (Ty.of k7)) pz6
      generalize upd H6 t7 (.frz o7 (.tup [.str "room", .ref tA])) = H7 at k7 g7 f7 pz7 ⊢
      walk_at "rd"
      intro t8 ht8
      have k8 := (Same.refl H7).new (o := .tup [.ref t7]) ht8
      have g8 : Rt (upd H7 t8 (.tup [.ref t7])) t8 [.ref t7] := .inl upd_same
      generalize upd H7 t8 (.tup [.ref t7]) = H8 at k8 g8 ⊢
      have k48 := ((k5.trans k6).trans k7).trans k8
      have k18 := k14.trans k48
      have nd8 : NdAt H8 (.ref t7) (some (.room (srtE ge))) := ⟨t7, tA, rfl, .inr ⟨o7, k8 _ _ g7⟩, zs2, ⟨o', od, k8 _ _ f7⟩, pd_mono (fun _ _ q => pairV.up q (Ty.of k8)) pz7⟩
      refine rd_catR (h4.up (Ty.of k48)) g8 (szOk (by rw [List.length_take]; show min r xs.length + 1 ≤ 1000000; omega)) fun r9 H9 k9 h9 => ?_
      walk_at "rd"
      rw [show (r : Int) + 1 = ((r + 1 : Nat) : Int) by omega]
      have k19 := k18.trans k9
      refine rd_slR (ha.up (Ty.of k19)) fun r10 H10 k10 h10 => ?_
      rw [cutV_drop] at h10
      refine rd_catR (h9.up (Ty.of k10)) h10 (szOk (by rw [List.length_append, List.length_take, List.length_drop]; show min r xs.length + 1 + (xs.length - (r + 1)) ≤ 1000000; omega)) fun r11 H11 k11 h11 => ?_
      have k1b := (k19.trans k10).trans k11
      have e : xs.take r ++ [V.ref t7] ++ xs.drop (r + 1) = xs.set r (.ref t7) := by
        rw [List.set_eq_take_append_cons_drop, if_pos (by omega), List.append_assoc]
        rfl
      rw [e] at h11
      refine q _ _ k1b ⟨r11, _, rfl, h11, ?_⟩
      unfold withE
      rw [hen, hwE]
      exact pd_set r (pd_mono (fun _ _ q => NdAt.up q (Ty.of k1b)) ps) (nd8.up (Ty.of ((k9.trans k10).trans k11)))
inductive Ou where
  | done (s : Sto)
  | no (e : Er)
def Ou.of : Sto ⊕ Er → Ou
  | .inl s => .done s
  | .inr e => .no e
def OuAt (H : Hp) (t : Addr) : Sto ⊕ Er → Prop
  | .inl s => ∃ v, H t = some (.tup [.str "done", v]) ∧ StAt H v s
  | .inr e => H t = some (.tup (erT e))
theorem OuAt.same {H H' : Hp} {t : Addr} {o : Sto ⊕ Er} (h : OuAt H t o) (k : Same H H') : OuAt H' t o := by
  cases o with
  | inl s =>
    obtain ⟨v, h1, h2⟩ := h
    exact ⟨v, k _ _ h1, h2.up (Ty.of k)⟩
  | inr e => exact k _ _ h
theorem Linked.one {s : Sto} {here : Nat} {old path : Str} {o o' : Sto ⊕ Er} (h : Linked s here old path o) (h' : Linked s here old path o') : o = o' := by
  have nn : ∀ {n : Nat} {e : Er}, Res.er (.node n) = some e → False := fun h => nomatch h
  cases h with
  | walk h1 h2 =>
    cases h' with
    | walk h3 h4 => cases Walks.one h1 h3; rw [h2] at h4; cases h4; rfl
    | place h3 => cases Walks.one h1 h3; exact (nn h2).elim
    | room h3 => cases Walks.one h1 h3; exact (nn h2).elim
    | exist h3 => cases Walks.one h1 h3; exact (nn h2).elim
    | done h3 => cases Walks.one h1 h3; exact (nn h2).elim
  | place h1 h2 =>
    cases h' with
    | walk h3 h4 => cases Walks.one h1 h3; exact (nn h4).elim
    | place h3 h4 => cases Place.one h2 h4; rfl
    | room h3 h4 => cases Place.one h2 h4
    | exist h3 h4 => cases Place.one h2 h4
    | done h3 h4 => cases Place.one h2 h4
  | room h1 h2 h5 =>
    cases h' with
    | walk h3 h4 => cases Walks.one h1 h3; exact (nn h4).elim
    | place h3 h4 => cases Place.one h2 h4
    | room h3 h4 => rfl
    | exist h3 h4 h6 => cases Walks.one h1 h3; rw [h5] at h6; cases h6
    | done h3 h4 h6 => cases Walks.one h1 h3; rw [h5] at h6; cases h6
  | exist h1 h2 h5 h7 =>
    cases h' with
    | walk h3 h4 => cases Walks.one h1 h3; exact (nn h4).elim
    | place h3 h4 => cases Place.one h2 h4
    | room h3 h4 h6 => cases Walks.one h1 h3; rw [h5] at h6; cases h6
    | exist h3 h4 => rfl
    | done h3 h4 h6 h8 => cases Place.one h2 h4; rw [h7] at h8; cases h8
  | done h1 h2 h5 h7 =>
    cases h' with
    | walk h3 h4 => cases Walks.one h1 h3; exact (nn h4).elim
    | place h3 h4 => cases Place.one h2 h4
    | room h3 h4 h6 => cases Walks.one h1 h3; rw [h5] at h6; cases h6
    | exist h3 h4 h6 h8 => cases Place.one h2 h4; rw [h7] at h8; cases h8
    | done h3 h4 => cases Walks.one h1 h3; cases Place.one h2 h4; rfl

/-! ### ways, once more -/
theorem way_len {s : Sto} (wf : Wf s) {j : Nat} {p : Str} (h : Way s j p) : p.length ≤ 780 := by
  have gen : ∃ L : List Nat, L.Nodup ∧ (∀ x ∈ L, x < s.length ∧ ∃ q, Way s x q ∧ q.length < p.length) ∧ p.length ≤ 13 * L.length := by
    induction h with
    | root => exact ⟨[], List.nodup_nil, fun _ h => (nomatch h), by decide +kernel⟩
    | @step r j p e hw he ej hr ih =>
      obtain ⟨L, h1, h2, h3⟩ := ih
      have l1 : ("/" : Str).length = 1 := by decide +kernel
      have el : e.1.length ≤ 12 := by
        unfold entsAt at he
        split at he
        · next es hes => exact (entB_len ((wf.nodes _ (List.mem_of_getElem? hes)).1 e he).1).2
        · cases he
      have lp : (p ++ "/" ++ e.1).length = p.length + 1 + e.1.length := by rw [len_app, len_app, l1]
      refine ⟨r :: L, List.nodup_cons.mpr ⟨fun q => ?_, h1⟩, fun x hx => ?_, by rw [lp, List.length_cons]; omega⟩
      · obtain ⟨_, q, hq, lt⟩ := h2 r q
        rw [Way.one wf hq hw] at lt
        exact Nat.lt_irrefl _ lt
      · rcases List.mem_cons.mp hx with rfl | hx
        · exact ⟨room_lt (Way.room wf hw), p, hw, by rw [lp]; omega⟩
        · obtain ⟨a, q, b, c⟩ := h2 x hx
          exact ⟨a, q, b, by rw [lp]; omega⟩
  obtain ⟨L, h1, h2, h3⟩ := gen
  have := few_nats s.length h1 fun x hx => (h2 x hx).1
  have l2 := wf.l2
  omega
theorem room_way {s : Sto} (wf : Wf s) {j : Nat} (hr : roomAt s j) : ∃ p, Way s j p := by
  obtain ⟨es, hes⟩ := hr
  have h := wf.reach j _ hes
  have hr : roomAt s j := ⟨es, hes⟩
  clear hes
  induction h with
  | root => exact ⟨_, .root⟩
  | @step r e _ he ih =>
    have hroom : roomAt s r := by
      unfold entsAt at he
      split at he
      · exact ⟨_, by assumption⟩
      · cases he
    obtain ⟨p, hp⟩ := ih hroom
    exact ⟨_, .step hp he rfl hr⟩
theorem parent_is {s : Sto} (wf : Wf s) {r j : Nat} {e : Str × Nat} (he : e ∈ entsAt s r) (ej : e.2 = j) (hj : roomAt s j) : parentOf s j = r := by
  unfold parentOf
  have rl : r < s.length := by
    unfold entsAt at he
    split at he
    · next es hes => exact (List.getElem?_eq_some_iff.mp hes).1
    · cases he
  cases h : (List.range s.length).find? fun k => ((entsAt s k).map (·.2)).contains j with
  | none =>
    have := List.find?_eq_none.mp h r (List.mem_range.mpr rl)
    exact absurd (List.contains_iff_mem.mpr (List.mem_map.mpr ⟨e, he, ej⟩)) this
  | some k =>
    have h2 := List.find?_some h
    rw [List.contains_iff_mem] at h2
    obtain ⟨e', he', ej'⟩ := List.mem_map.mp h2
    exact ((wf.one _ _ _ _ he he' (ej.trans ej'.symm) (by rw [ej]; exact hj)).2.1).symm
theorem path_gen {z : Str} {ws : List Str} (hne : ws ≠ []) (hw : ∀ w ∈ ws, wordB w = true) (hz : z = "" ∨ z = "/") (hlen : (z ++ Txt.join "/" ws).length ≤ 100) : pathB (.str (z ++ Txt.join "/" ws)) = true := by
  have zl : z.length ≤ 1 := by rcases hz with rfl | rfl <;> decide +kernel
  cases ws with
  | nil => exact absurd rfl hne
  | cons w ws =>
    obtain ⟨r, hr⟩ := join_tl (w := w) (ws := ws)
    obtain ⟨c, q, hc⟩ : ∃ c q, tl w = c :: q := by
      cases e : tl w with
      | nil => have := (word_len (hw w List.mem_cons_self)).1; rw [← len_tl, e] at this; cases this
      | cons c q => exact ⟨c, q, rfl⟩
    have c47 : c ≠ 47 := fun e => word_noslash (hw w List.mem_cons_self) (by rw [hc, e]; exact List.mem_cons_self)
    rw [hc] at hr
    have rest : restOf (z ++ Txt.join "/" (w :: ws)) = Txt.join "/" (w :: ws) := by
      rcases hz with rfl | rfl
      · have e : ("" : Str) ++ Txt.join "/" (w :: ws) = Txt.join "/" (w :: ws) := str_ext (by rw [tl_app, tl_nil]; rfl)
        rw [e, rest_cons hr, if_neg]
        intro e
        have := congrArg tl e
        rw [tl_sg, tl_slash] at this
        exact c47 (List.cons.inj this).1
      · have e : tl (("/" : Str) ++ Txt.join "/" (w :: ws)) = 47 :: tl (Txt.join "/" (w :: ws)) := by rw [tl_app, tl_slash]; rfl
        rw [rest_cons e, if_pos (by decide +kernel)]
        refine str_ext ?_
        rw [show (1 : Int) = ((1 : Nat) : Int) from rfl, tl_drop, e]
        rfl
    have hlen1 : 1 ≤ (z ++ Txt.join "/" (w :: ws)).length := by
      rw [len_app, ← len_tl (Txt.join "/" (w :: ws)), hr]
      rw [List.length_append, List.length_cons]
      omega
    rw [pathB_str, decide_eq_true hlen1, decide_eq_true hlen, rest, split_words (List.cons_ne_nil _ _) hw, List.all_eq_true.mpr hw, Bool.or_true]
    rfl
theorem last_ent {z : Str} (hz : pathB (.str z) = true) (h : plainE z = true) : entB (lastW z) = true := by
  rcases path_form hz with rfl | ⟨pre, ws, hpre, hne, hw, hzw⟩
  · exfalso
    have hw0 : wordsOf "/" = [] := by decide +kernel
    unfold plainE at h
    rw [hw0] at h
    cases h
  · have hww : wordsOf z = ws := by rw [hzw]; exact words_pre hne hw hpre
    obtain ⟨init, w, rfl⟩ : ∃ init w, ws = init ++ [w] := by
      rcases List.eq_nil_or_concat ws with h | ⟨a, b, h⟩
      · exact absurd h hne
      · exact ⟨a, b, by rw [h, List.concat_eq_append]⟩
    have lastw : lastW z = w := by unfold lastW; rw [hww, List.getLast?_concat]; rfl
    unfold plainE at h
    rw [lastw, Bool.and_eq_true] at h
    have h2 : (!(w == "." || w == "..")) = true := h.2
    have hb := hw w (List.mem_append_right _ (List.mem_singleton.mpr rfl))
    unfold wordB at hb
    rw [Bool.or_eq_true] at hb
    rcases hb with hb | hb
    · rw [hb] at h2
      cases h2
    · rw [lastw]
      exact hb

/-! ### taking a new node away leads back -/
theorem walks_up {s s' : Sto} (wf : Wf s) (h1 : ∀ a : Nat, roomAt s a → roomAt s' a) (h2 : ∀ (a : Nat) (w : Str) (k : Nat), roomAt s a → entryOf s a w = some k → entryOf s' a w = some k) (h3 : ∀ a : Nat, roomAt s a → parentOf s' a = parentOf s a)
    (h4 : ∀ (k : Nat) (nd : Nd) (p : Str), s[k]? = some (some nd) → (s'[k]? = some (some (Nd.sign p)) ↔ nd = Nd.sign p)) {a : Nat} {zs : List Stp} {n : Nat} {r : Res} (h : Walks s a zs n r) : ∀ j, r = .node j → Walks s' a zs n (.node j) := by
  induction h with
  | done => intro j e; cases e; exact .done
  | noroom _ => intro j e; cases e
  | above hr hw _ ih => intro j e; exact .above (h1 _ hr) hw (by rw [h3 _ hr]; exact ih j e)
  | here hr hw _ ih => intro j e; exact .here (h1 _ hr) hw (ih j e)
  | none _ _ _ _ => intro j e; cases e
  | @go at_ w i f ws n k r hr a1 a2 a3 a4 _ ih =>
    intro j e
    obtain ⟨nd, hnd⟩ := wf.there _ _ (entry_some a3)
    refine .go (h1 _ hr) a1 a2 (h2 _ _ _ hr a3) (fun p hp => ?_) (ih j e)
    have := (h4 k nd p hnd).mp hp
    exact a4 p (by rw [← this]; exact hnd)
  | many _ _ _ _ _ _ => intro j e; cases e
  | @sign at_ w i ws n k p r hr a1 a2 a3 a4 a5 _ ih =>
    intro j e
    exact .sign (h1 _ hr) a1 a2 (h2 _ _ _ hr a3) ((h4 k _ p a4).mpr rfl) a5 (ih j e)
theorem sorted_eq {es fs : List (Str × Nat)} (h : es.Perm fs) (a : es.Pairwise fun a b => tl a.1 < tl b.1) (b : fs.Pairwise fun a b => tl a.1 < tl b.1) : es = fs := by
  refine List.Perm.eq_of_pairwise (le := fun a b : Str × Nat => tl a.1 < tl b.1) (fun x y _ _ h1 h2 => ?_) a b h
  exact absurd (List.lt_trans h1 h2) (List.lt_irrefl _)
theorem wE_undo {es : List (Str × Nat)} {w : Str} {k : Nat} (up : es.Pairwise fun a b => tl a.1 < tl b.1) (nd : (es.map (·.1)).Nodup) (fresh : w ∉ es.map (·.1)) : wE (wE es w (some k)) w none = es := by
  have p1 : (wE es w (some k)).Perm (es ++ [(w, k)]) := by
    unfold wE
    rw [filt_fresh fresh]
    exact List.mergeSort_perm _ _
  have p2 : ((wE es w (some k)).filter fun e => decide (e.1 ≠ w)).Perm es := by
    refine (p1.filter _).trans ?_
    rw [List.filter_append, filt_fresh fresh, List.filter_cons_of_neg (by rw [decide_eq_false (fun h => h rfl)]; decide), List.filter_nil, List.append_nil]
  have e : wE (wE es w (some k)) w none = srtE ((wE es w (some k)).filter fun e => decide (e.1 ≠ w)) := by
    show srtE (((wE es w (some k)).filter fun e => decide (e.1 ≠ w)) ++ []) = _
    rw [List.append_nil]
  rw [e]
  refine sorted_eq ((List.mergeSort_perm _ _).trans p2) (srtE_up ?_) up
  exact ((p2.map (·.1)).nodup_iff).mpr nd
theorem kept_all {s : Sto} (wf : Wf s) {k : Nat} {nd : Nd} (h : s[k]? = some (some nd)) : keptP s s.length k := by
  have := wf.reach k nd h
  cases this with
  | root => exact .inl rfl
  | @step r e _ he =>
    obtain ⟨es, hr, _⟩ := mem_ents.mp he
    exact .inr ⟨r, (List.getElem?_eq_some_iff.mp hr).1, e, he, rfl⟩
theorem letGo_add {s : Sto} (wf : Wf s) {k : Nat} {nd : Nd} (hk : k ≤ s.length) (hf : freeB s k = true) (hn : newN nd) : letGo (addS s k nd) = s := by
  have AD := add_at (nd := nd) hk
  have AE := add_ents hk hf hn
  have al := add_len (nd := nd) hk
  have notk : ¬ keptP (addS s k nd) (addS s k nd).length k := by
    rintro (h | ⟨r, _, e, he, h⟩)
    · obtain ⟨es, h0⟩ := wf.root
      exact free_gap hf 0 _ h0 h.symm
    · rw [AE] at he
      obtain ⟨n, hn⟩ := wf.there r e he
      exact free_gap hf _ _ hn h
  have keep : ∀ j nd', s[j]? = some (some nd') → keptB (addS s k nd) j = true := fun j nd' h => by
    refine kept_iff.mpr ?_
    rcases kept_all wf h with h0 | ⟨r, hr, e, he, h⟩
    · exact .inl h0
    · exact .inr ⟨r, by rw [al]; omega, e, by rw [AE]; exact he, h⟩
  have notkB : keptB (addS s k nd) k = false := by
    cases h : keptB (addS s k nd) k with
    | false => rfl
    | true => exact absurd (kept_iff.mp h) notk
  have cl : clearS (addS s k nd) = s ++ List.replicate (k + 1 - s.length) none := by
    refine List.ext_getElem? fun j => ?_
    rw [clear_at, al]
    by_cases hj : j < s.length
    · rw [if_pos (by omega), List.getElem?_append_left hj, List.getD_eq_getElem?_getD, AD]
      have hs : s[j]? = some s[j] := List.getElem?_eq_getElem hj
      by_cases q : j = k
      · subst q
        rw [notkB, if_neg Bool.false_ne_true, hs]
        unfold freeB at hf
        rw [decide_eq_false (by omega), List.getD_eq_getElem?_getD, hs] at hf
        have hf : s[j].isNone = true := hf
        rw [Option.isNone_iff_eq_none.mp hf]
      · rw [if_neg q, hs]
        cases e : s[j] with
        | none =>
          cases keptB (addS s k nd) j <;> rfl
        | some n => rw [keep j n (by rw [hs, e]), if_pos rfl]; rfl
    · by_cases q : j = k
      · subst q
        rw [if_pos (by omega), notkB, if_neg Bool.false_ne_true, List.getElem?_append_right (by omega), List.getElem?_replicate, if_pos (by omega)]
      · rw [if_neg (by omega), List.getElem?_eq_none (by rw [List.length_append, List.length_replicate]; omega)]
  have ts : trimS s = s := by
    obtain ⟨n, hn⟩ := wf.last
    have l1 := wf.l1
    rcases List.eq_nil_or_concat s with h | ⟨sl, y, h⟩
    · rw [h] at l1
      cases l1
    · rw [List.concat_eq_append] at h
      rw [h, List.length_append, List.length_singleton, Nat.add_sub_cancel, List.getElem?_append_right (Nat.le_refl _), Nat.sub_self] at hn
      have : y = some n := Option.some.inj hn
      rw [h, this, trim_some]
  have rep : ∀ m, trimS (s ++ List.replicate m none) = s := fun m => by
    induction m with
    | zero => rw [List.replicate_zero, List.append_nil]; exact ts
    | succ m ih => rw [List.replicate_succ', ← List.append_assoc, trim_none]; exact ih
  unfold letGo
  rw [cl, rep]
theorem unmake {s : Sto} (wf : Wf s) {r k : Nat} {w : Str} {nd : Nd} (hr : roomAt s r) (he : entryOf s r w = none) (hk : k ≤ s.length) (hf : freeB s k = true) (hn : newN nd) : letGo (withE (withE (addS s k nd) r w (some k)) r w none) = s := by
  have AE := add_ents hk hf hn
  have al := add_len (nd := nd) hk
  have rl := room_lt hr
  have rl' : r < (addS s k nd).length := by rw [al]; omega
  have e1 : entsAt (withE (addS s k nd) r w (some k)) r = wE (entsAt s r) w (some k) := by
    unfold withE
    rw [ents_set rl', if_pos rfl, AE]
  have e2 : withE (withE (addS s k nd) r w (some k)) r w none = addS s k nd := by
    show (withE (addS s k nd) r w (some k)).set r (some (.room (wE (entsAt (withE (addS s k nd) r w (some k)) r) w none))) = _
    rw [e1, wE_undo (wf.up r) (ents_nd wf r) (entry_none he)]
    unfold withE
    rw [List.set_set]
    refine List.ext_getElem? fun j => ?_
    rw [set_get rl']
    split
    · next q =>
      obtain ⟨es, hes⟩ := hr
      rw [q, add_at hk, if_neg (free_gap hf r _ hes), hes, entsAt_room hes]
    · rfl
  rw [e2, letGo_add wf hk hf hn]
theorem parent_root {s : Sto} (wf : Wf s) : parentOf s 0 = 0 := by
  unfold parentOf
  cases h : (List.range s.length).find? fun k => ((entsAt s k).map (·.2)).contains 0 with
  | none => rfl
  | some k =>
    have h2 := List.find?_some h
    rw [List.contains_iff_mem] at h2
    obtain ⟨e, he, e0⟩ := List.mem_map.mp h2
    have := (wf.one k k e e he he rfl (by rw [e0]; exact wf.root)).1
    exact absurd e0 this
theorem removed_of_made {s s' : Sto} {here k : Nat} {path : Str} {nd : Nd} (wf : Wf s) (hp : pathB (.str path) = true) (hr : roomAt s here) (hn : newN nd) (ok : NdOk 0 nd) (few : ∀ r, (entsAt s r).length ≤ 900) (h : Made s here path nd (.inl (s', k))) : Wf s' ∧ Removed s' here path (.inl s) ∧ (∀ r, (entsAt s' r).length ≤ (entsAt s r).length + 1) ∧ roomAt s' here ∧ s'.length ≤ 60 ∧ k < 60 := by
  cases h with
  | @done r k w hP he hk =>
    obtain ⟨hroom, hpl, rfl⟩ := hP.at_room
    obtain ⟨f1, f2, f3⟩ := free_le hk
    have AE := add_ents f1 f3 hn
    have AD := add_at (nd := nd) f1
    have al := add_len (nd := nd) f1
    have rl := room_lt hroom
    have rl' : r < (addS s k nd).length := by rw [al]; omega
    have fresh := entry_none he
    have wf' := wf_made wf hroom (last_ent hp hpl) fresh f1 f2 f3 hn ok (by have := few r; omega)
    have A : ∀ j : Nat, (withE (addS s k nd) r (lastW path) (some k))[j]? = if j = r then some (some (.room (wE (entsAt s r) (lastW path) (some k)))) else if j = k then some (some nd) else s[j]? := fun j => by
      unfold withE
      rw [set_get rl', AD, AE]
    have B : ∀ j : Nat, entsAt (withE (addS s k nd) r (lastW path) (some k)) j = if j = r then wE (entsAt s r) (lastW path) (some k) else entsAt s j := fun j => by
      unfold withE
      rw [ents_set rl', AE, AE]
    have h1 : ∀ a : Nat, roomAt s a → roomAt (withE (addS s k nd) r (lastW path) (some k)) a := fun a ⟨es, ha⟩ => by
      unfold roomAt
      rw [A]
      split
      · exact ⟨_, rfl⟩
      · rw [if_neg (free_gap f3 a _ ha)]
        exact ⟨es, ha⟩
    have up : ∀ {a : Nat} {e : Str × Nat}, e ∈ entsAt s a → e ∈ entsAt (withE (addS s k nd) r (lastW path) (some k)) a := fun {a e} h => by
      rw [B]
      split
      · next q => exact (mem_wE fresh).mpr (.inl (q ▸ h))
      · exact h
    have entry : ∀ (t : Sto), Wf t → ∀ (a : Nat) (w : Str) (n : Nat), (w, n) ∈ entsAt t a → entryOf t a w = some n := fun t wt a w n h => by
      cases e : entryOf t a w with
      | none => exact absurd (List.mem_map.mpr ⟨(w, n), h, rfl⟩) (entry_none e)
      | some m =>
        have := entry_one wt e h rfl
        cases this
        rfl
    have h2 : ∀ (a : Nat) (w : Str) (n : Nat), roomAt s a → entryOf s a w = some n → entryOf (withE (addS s k nd) r (lastW path) (some k)) a w = some n := fun a w n _ h => entry _ wf' a w n (up (entry_some h))
    have h3 : ∀ a : Nat, roomAt s a → parentOf (withE (addS s k nd) r (lastW path) (some k)) a = parentOf s a := fun a ha => by
      by_cases a0 : a = 0
      · rw [a0, parent_root wf, parent_root wf']
      · obtain ⟨es, hes⟩ := ha
        cases wf.reach a _ hes with
        | root => exact absurd rfl a0
        | @step r' e _ he' =>
          rw [parent_is wf he' rfl ⟨es, hes⟩, parent_is wf' (up he') rfl (h1 _ ⟨es, hes⟩)]
    have h4 : ∀ (j : Nat) (x : Nd) (p : Str), s[j]? = some (some x) → ((withE (addS s k nd) r (lastW path) (some k))[j]? = some (some (Nd.sign p)) ↔ x = Nd.sign p) := fun j x p hx => by
      rw [A]
      split
      · next q =>
        obtain ⟨es, hes⟩ := hroom
        rw [q, hes] at hx
        cases hx
        exact ⟨(fun h => by cases h), fun h => by cases h⟩
      · rw [if_neg (free_gap f3 j _ hx), hx]
        exact ⟨fun h => by cases h; rfl, fun h => by rw [h]⟩
    have hP' : Place (withE (addS s k nd) r (lastW path) (some k)) here path (.at_ r (lastW path)) := by
      unfold Place at hP ⊢
      rw [if_pos hpl] at hP ⊢
      obtain ⟨r0, hw, e⟩ := hP
      cases r0 with
      | node j =>
        have e : Plc.at_ r (lastW path) = plcR (lastW path) (if isRoom (s.getD j none) = true then .node j else .room (lastI path)) := e
        cases hj : isRoom (s.getD j none) with
        | false => rw [hj, if_neg (by decide)] at e; cases e
        | true =>
          rw [hj, if_pos rfl] at e
          cases e
          refine ⟨.node r, walks_up wf h1 h2 h3 h4 hw r rfl, ?_⟩
          show _ = plcR _ (if isRoom ((withE (addS s k nd) r (lastW path) (some k)).getD r none) = true then _ else _)
          rw [if_pos (room_of (h1 r hroom))]
          rfl
      | room i => cases e
      | entry i => cases e
      | signs => cases e
    have he' : entryOf (withE (addS s k nd) r (lastW path) (some k)) r (lastW path) = some k := entry _ wf' r _ k (by rw [B, if_pos rfl]; exact (mem_wE fresh).mpr (.inr rfl))
    have rk : r ≠ k := by
      obtain ⟨es, h⟩ := hroom
      exact free_gap f3 r _ h
    have un := unmake wf hroom he f1 f3 hn
    refine ⟨wf', ?_, fun j => ?_, h1 here hr, wf'.l2, f2⟩
    · have ek : entsAt s k = [] := by
        cases e : entsAt s k with
        | nil => rfl
        | cons x l =>
          obtain ⟨es, h1, _⟩ := mem_ents.mp (show x ∈ entsAt s k by rw [e]; exact List.mem_cons_self)
          exact absurd rfl (free_gap f3 k _ h1)
      have hd := Removed.done hP' he' fun _ => by rw [B, if_neg (fun q => rk q.symm), ek]
      rw [un] at hd
      exact hd
    · rw [B]
      split
      · next q => rw [q]; exact wE_len
      · omega

/-! ### what comes out, as data -/
def Er.valD : Er → PyData
  | .room i => .int (i : Nat)
  | .entry i => .int (i : Nat)
  | .plain i => .int (i : Nat)
  | .exist i => .int (i : Nat)
  | .signs => .int 20
  | .large => .int 60
  | _ => .none
def Er.ix : Er → Nat
  | .room i => i
  | .entry i => i
  | .plain i => i
  | .exist i => i
  | _ => 0
def outD : Sto ⊕ Er → PyData
  | .inl s => .tuple [.str "done", stD s]
  | .inr e => .tuple [.str e.word, e.valD]
theorem dp_out {K : PySem.W.Frag} {H : Hp} {t : Addr} {o : Sto ⊕ Er} (h : OuAt H t o) : Dp K H (.ref t) (outD o) := by
  cases o with
  | inl s =>
    obtain ⟨v, h1, h2⟩ := h
    exact .tup (SqT.of h1) (.cons (.str _) (.cons (dp_st h2) .nil))
  | inr e =>
    have h : H t = some (.tup (erT e)) := h
    refine .tup (SqT.of h) (.cons (.str _) (.cons ?_ .nil))
    cases e with
    | room i => exact .int _
    | entry i => exact .int _
    | plain i => exact .int _
    | exist i => exact .int _
    | signs => exact .int _
    | large => exact .int _
    | isroom => exact .non
    | nofile => exact .non
    | full => exact .non
    | inside => exact .non
theorem walks_ix {s : Sto} {B k : Nat} {zs : List Stp} {n : Nat} {r : Res} (h : Walks s k zs n r) : (∀ x ∈ zs, x.2.1 ≤ B) → ∀ e, r.er = some e → e.ix ≤ B := by
  induction h with
  | done => intro _ e he; cases he
  | noroom _ => intro hz e he; cases he; exact hz _ List.mem_cons_self
  | above _ _ _ ih => intro hz; exact ih fun x hx => hz x (List.mem_cons_of_mem _ hx)
  | here _ _ _ ih => intro hz; exact ih fun x hx => hz x (List.mem_cons_of_mem _ hx)
  | none _ _ _ _ => intro hz e he; cases he; exact hz _ List.mem_cons_self
  | go _ _ _ _ _ _ ih => intro hz; exact ih fun x hx => hz x (List.mem_cons_of_mem _ hx)
  | many _ _ _ _ _ _ => intro hz e he; cases he; exact Nat.zero_le _
  | @sign at_ w i ws n k p r _ _ _ _ _ _ _ ih =>
    intro hz
    refine ih fun x hx => ?_
    rcases List.mem_append.mp hx with hx | hx
    · obtain ⟨o, _, rfl⟩ := List.mem_map.mp hx
      have h0 : i ≤ B := hz (w, i, true) List.mem_cons_self
      exact h0
    · exact hz x (List.mem_cons_of_mem _ hx)
theorem steps_ix {ws : List Str} {f : Bool} {x : Stp} (h : x ∈ stepsOf ws f) : x.2.1 ≤ ws.length := by
  obtain ⟨i, hi⟩ := List.mem_iff_getElem?.mp h
  unfold stepsOf at hi
  rw [List.getElem?_mapIdx] at hi
  obtain ⟨w, hw, rfl⟩ := Option.map_eq_some_iff.mp hi
  exact Nat.le_of_lt (List.getElem?_eq_some_iff.mp hw).1
theorem leads_ix {s : Sto} {here : Nat} {z : Str} {f : Bool} {r : Res} {e : Er} (hz : pathB (.str z) = true) (h : Leads s here z f r) (he : r.er = some e) : e.ix ≤ 101 := by
  have zl := pathB_len hz
  have lw := words_len z
  exact walks_ix h (fun x hx => by have := steps_ix hx; omega) e he
theorem place_ix {s : Sto} {here : Nat} {z : Str} {e : Er} (hz : pathB (.str z) = true) (h : Place s here z (.no e)) : e.ix ≤ 101 := by
  have zl := pathB_len hz
  have lw := words_len z
  have ll : lastI z ≤ 101 := by unfold lastI; omega
  unfold Place at h
  split at h
  · obtain ⟨r, hw, h2⟩ := h
    have ix := walks_ix hw (B := 101) fun x hx => by
      have := steps_ix hx
      rw [List.length_dropLast] at this
      omega
    cases r with
    | node j =>
      have h2 : Plc.no e = plcR (lastW z) (if isRoom (s.getD j none) = true then .node j else .room (lastI z)) := h2
      cases hj : isRoom (s.getD j none) with
      | true => rw [hj, if_pos rfl] at h2; cases h2
      | false =>
        rw [hj, if_neg (by decide)] at h2
        cases h2
        exact ll
    | room i => cases h2; exact ix _ rfl
    | entry i => cases h2; exact ix _ rfl
    | signs => cases h2; exact Nat.zero_le _
  · cases h
    exact ll
theorem lit_bd {x : Str} (h1 : ∀ c ∈ tl x, c < 0x110000) (h2 : x.length ≤ 20) : Bd 0 20 (.str x) := (Bd.str h1).mono (Nat.le_refl _) h2
theorem word_bd : ∀ e : Er, Bd 0 20 (.str e.word)
  | .room _ => lit_bd (x := "room") (by decide +kernel) (by decide +kernel)
  | .entry _ => lit_bd (x := "entry") (by decide +kernel) (by decide +kernel)
  | .plain _ => lit_bd (x := "plain") (by decide +kernel) (by decide +kernel)
  | .exist _ => lit_bd (x := "exists") (by decide +kernel) (by decide +kernel)
  | .signs => lit_bd (x := "signs") (by decide +kernel) (by decide +kernel)
  | .large => lit_bd (x := "large") (by decide +kernel) (by decide +kernel)
  | .isroom => lit_bd (x := "isroom") (by decide +kernel) (by decide +kernel)
  | .nofile => lit_bd (x := "nofile") (by decide +kernel) (by decide +kernel)
  | .full => lit_bd (x := "full") (by decide +kernel) (by decide +kernel)
  | .inside => lit_bd (x := "inside") (by decide +kernel) (by decide +kernel)
theorem entB_lt {z : Str} (h : entB z = true) : ∀ c ∈ tl z, c < 0x110000 := fun c hc => by
  have so : ∀ c ∈ tl SIGNS, c < 0x110000 := by decide +kernel
  unfold entB at h
  rw [Bool.and_eq_true] at h
  exact so c (of_decide_eq_true (List.all_eq_true.mp h.2 c hc))
theorem wordB_lt {z : Str} (h : wordB z = true) : ∀ c ∈ tl z, c < 0x110000 := by
  unfold wordB at h
  rw [Bool.or_eq_true, Bool.or_eq_true] at h
  rcases h with (h | h) | h
  · rw [beq_iff_eq.mp h]; decide +kernel
  · rw [beq_iff_eq.mp h]; decide +kernel
  · exact entB_lt h
theorem joinL_mem {sp : List Nat} {c : Nat} : ∀ {xs : List (List Nat)}, c ∈ TL.joinL sp xs → c ∈ sp ∨ ∃ x ∈ xs, c ∈ x
  | [], h => nomatch h
  | [x], h => .inr ⟨x, List.mem_cons_self, h⟩
  | x :: y :: xs, h => by
    have h : c ∈ x ++ (sp ++ TL.joinL sp (y :: xs)) := h
    rcases List.mem_append.mp h with h | h
    · exact .inr ⟨x, List.mem_cons_self, h⟩
    · rcases List.mem_append.mp h with h | h
      · exact .inl h
      · rcases joinL_mem h with h | ⟨z, hz, h⟩
        · exact .inl h
        · exact .inr ⟨z, List.mem_cons_of_mem _ hz, h⟩
theorem er_shows {e : Er} (h : e.ix ≤ 1000) : Shows (outD (.inr e)) := by
  have wl : Bd 0 20 (.str e.word) := word_bd e
  have vl : Bd 0 20 e.valD := by
    cases e with
    | room i => exact Bd.int (by have h : i ≤ 1000 := h; omega)
    | entry i => exact Bd.int (by have h : i ≤ 1000 := h; omega)
    | plain i => exact Bd.int (by have h : i ≤ 1000 := h; omega)
    | exist i => exact Bd.int (by have h : i ≤ 1000 := h; omega)
    | signs => exact Bd.int (by decide)
    | large => exact Bd.int (by decide)
    | isroom => exact Bd.non.mono (Nat.le_refl _) (Nat.zero_le _)
    | nofile => exact Bd.non.mono (Nat.le_refl _) (Nat.zero_le _)
    | full => exact Bd.non.mono (Nat.le_refl _) (Nat.zero_le _)
    | inside => exact Bd.non.mono (Nat.le_refl _) (Nat.zero_le _)
  refine (Bd.tup (k := 0) (w := 20) (ds := [.str e.word, e.valD]) fun d hd => ?_).shows (by decide) (by show 2 * 21 ≤ _; decide)
  rcases List.mem_cons.mp hd with rfl | hd
  · exact wl
  · rw [List.mem_singleton.mp hd]
    exact vl
theorem plain_lt {z : Str} (h : plainB z = true) : ∀ c ∈ tl z, c < 0x110000 := by
  intro c hc
  have h1 := List.all_eq_true.mp h c hc
  by_cases q : c < 0x110000
  · exact q
  exfalso
  have h1 : (decide ((⟨#[c]⟩ : Str) = "\n") || ((!decide ((⟨#[c]⟩ : Str).cps.toList < (" " : Str).cps.toList)) && (!decide (("~" : Str).cps.toList < (⟨#[c]⟩ : Str).cps.toList)) && !decide ((⟨#[c]⟩ : Str) = "%"))) = true := h1
  rw [Bool.or_eq_true] at h1
  rcases h1 with h1 | h1
  · have e : tl (⟨#[c]⟩ : Str) = tl "\n" := by rw [of_decide_eq_true h1]
    have e2 : tl ("\n" : Str) = [10] := by decide +kernel
    rw [e2] at e
    have : c = 10 := (List.cons.inj (show [c] = [10] from e)).1
    omega
  · rw [Bool.and_eq_true, Bool.and_eq_true] at h1
    have h2 := h1.1.2
    have e2 : ("~" : Str).cps.toList = [126] := by decide +kernel
    have lt : ("~" : Str).cps.toList < (⟨#[c]⟩ : Str).cps.toList := by
      rw [e2]
      show [126] < [c]
      exact List.cons_lt_cons_iff.mpr (.inl (by omega))
    rw [decide_eq_true lt] at h2
    cases h2
theorem path_lt {z : Str} (h : pathB (.str z) = true) : ∀ c ∈ tl z, c < 0x110000 := by
  have sl : ∀ c ∈ tl ("/" : Str), c < 0x110000 := by decide +kernel
  rcases path_form h with rfl | ⟨pre, ws, hp, _, hw, rfl⟩
  · exact sl
  · intro c hc
    rw [tl_app, TL.join_eq, TL.tl_join] at hc
    rcases List.mem_append.mp hc with hc | hc
    · rcases hp with rfl | rfl
      · rw [tl_nil] at hc; cases hc
      · exact sl c hc
    · rcases joinL_mem hc with hc | ⟨x, hx, hc⟩
      · exact sl c hc
      · obtain ⟨w, hw', rfl⟩ := List.mem_map.mp hx
        exact wordB_lt (hw w hw') c hc
theorem st_bd {s : Sto} (wf : Wf s) (few : ∀ r, (entsAt s r).length ≤ 80) : Bd 4 414060 (stD s) := by
  have l2 := wf.l2
  have nd : ∀ x ∈ s, Bd 3 6900 (ndD x) := by
    intro x hx
    match x, hx with
    | none, _ => exact Bd.non.mono (Nat.zero_le _) (Nat.zero_le _)
    | some (.file t), hx =>
      have ok : textB t = true := wf.nodes _ hx
      have tl' := textB_len ok
      refine (Bd.tup (k := 0) (w := 400) (ds := [.str "file", .str t]) fun d hd => ?_).mono (by decide) (by show 2 * 401 ≤ 6900; decide)
      rcases List.mem_cons.mp hd with rfl | hd
      · exact (Bd.str (by decide +kernel)).mono (Nat.le_refl _) (by decide +kernel)
      · rw [List.mem_singleton.mp hd]
        exact (Bd.str (plain_lt (by unfold textB at ok; rw [Bool.and_eq_true] at ok; exact ok.2))).mono (Nat.le_refl _) tl'
    | some (.sign p), hx =>
      have ok : pathB (.str p) = true := wf.nodes _ hx
      have tl' := pathB_len ok
      refine (Bd.tup (k := 0) (w := 400) (ds := [.str "sign", .str p]) fun d hd => ?_).mono (by decide) (by show 2 * 401 ≤ 6900; decide)
      rcases List.mem_cons.mp hd with rfl | hd
      · exact (Bd.str (by decide +kernel)).mono (Nat.le_refl _) (by decide +kernel)
      · rw [List.mem_singleton.mp hd]
        exact (Bd.str (path_lt ok)).mono (Nat.le_refl _) (by omega)
    | some (.room es), hx =>
      obtain ⟨r, hr⟩ := List.mem_iff_getElem?.mp hx
      have fe := few r
      rw [entsAt_room hr] at fe
      have ok := (wf.nodes _ hx).1
      have b1 : Bd 2 3440 (.tuple (es.map entN)) := by
        refine (Bd.tup (k := 1) (w := 42) fun d hd => ?_).mono (Nat.le_refl _) (by rw [List.length_map]; omega)
        obtain ⟨e, he, rfl⟩ := List.mem_map.mp hd
        obtain ⟨h1, h2⟩ := ok e he
        refine (Bd.tup (k := 0) (w := 20) (ds := [.str e.1, .int (e.2 : Int)]) fun d hd => ?_).mono (Nat.le_refl _) (by show 2 * 21 ≤ 42; decide)
        rcases List.mem_cons.mp hd with rfl | hd
        · exact (Bd.str (entB_lt h1)).mono (Nat.le_refl _) (by have := entB_len h1; omega)
        · rw [List.mem_singleton.mp hd]
          exact Bd.int (by omega)
      refine (Bd.tup (k := 2) (w := 3440) (ds := [.str "room", .tuple (es.map entN)]) fun d hd => ?_).mono (by decide) (by show 2 * 3441 ≤ 6900; decide)
      rcases List.mem_cons.mp hd with rfl | hd
      · exact (Bd.str (by decide +kernel)).mono (by decide) (by decide +kernel)
      · rw [List.mem_singleton.mp hd]
        exact b1
  refine (Bd.tup (k := 3) (w := 6900) fun d hd => ?_).mono (Nat.le_refl _) (by rw [List.length_map]; omega)
  obtain ⟨x, hx, rfl⟩ := List.mem_map.mp hd
  exact nd x hx
theorem st_shows {s : Sto} (wf : Wf s) (few : ∀ r, (entsAt s r).length ≤ 80) : Shows (stD s) := (st_bd wf few).shows (by decide) (by decide)
theorem done_shows {s : Sto} (wf : Wf s) (few : ∀ r, (entsAt s r).length ≤ 80) : Shows (outD (.inl s)) := by
  refine (Bd.tup (k := 4) (w := 414060) (ds := [.str "done", stD s]) fun d hd => ?_).shows (by decide) (by show 2 * 414061 ≤ _; decide)
  rcases List.mem_cons.mp hd with rfl | hd
  · exact (Bd.str (by decide +kernel)).mono (by decide) (by decide +kernel)
  · rw [List.mem_singleton.mp hd]
    exact st_bd wf few
theorem er_word_at : ∀ e : Er, decide (e.word = "at") = false
  | .room _ => show decide (("room" : Str) = "at") = false by decide +kernel
  | .entry _ => show decide (("entry" : Str) = "at") = false by decide +kernel
  | .plain _ => show decide (("plain" : Str) = "at") = false by decide +kernel
  | .exist _ => show decide (("exists" : Str) = "at") = false by decide +kernel
  | .signs => show decide (("signs" : Str) = "at") = false by decide +kernel
  | .large => show decide (("large" : Str) = "at") = false by decide +kernel
  | .isroom => show decide (("isroom" : Str) = "at") = false by decide +kernel
  | .nofile => show decide (("nofile" : Str) = "at") = false by decide +kernel
  | .full => show decide (("full" : Str) = "at") = false by decide +kernel
  | .inside => show decide (("inside" : Str) = "at") = false by decide +kernel
theorem er_word_done : ∀ e : Er, decide (e.word = "done") = false
  | .room _ => show decide (("room" : Str) = "done") = false by decide +kernel
  | .entry _ => show decide (("entry" : Str) = "done") = false by decide +kernel
  | .plain _ => show decide (("plain" : Str) = "done") = false by decide +kernel
  | .exist _ => show decide (("exists" : Str) = "done") = false by decide +kernel
  | .signs => show decide (("signs" : Str) = "done") = false by decide +kernel
  | .large => show decide (("large" : Str) = "done") = false by decide +kernel
  | .isroom => show decide (("isroom" : Str) = "done") = false by decide +kernel
  | .nofile => show decide (("nofile" : Str) = "done") = false by decide +kernel
  | .full => show decide (("full" : Str) = "done") = false by decide +kernel
  | .inside => show decide (("inside" : Str) = "done") = false by decide +kernel
theorem place_ok2 {s : Sto} {here : Nat} {z : Str} {e : Er} (h : Place s here z (.no e)) : e ≠ .isroom ∧ e ≠ .nofile ∧ e ≠ .inside := by
  unfold Place at h
  split at h
  · obtain ⟨r, _, h2⟩ := h
    cases r with
    | node j =>
      have h2 : Plc.no e = plcR (lastW z) (if isRoom (s.getD j none) = true then .node j else .room (lastI z)) := h2
      cases hj : isRoom (s.getD j none) with
      | true => rw [hj, if_pos rfl] at h2; cases h2
      | false =>
        rw [hj, if_neg (by decide)] at h2
        cases h2
        exact ⟨fun h => (nomatch h), fun h => (nomatch h), fun h => (nomatch h)⟩
    | room i => cases h2; exact ⟨fun h => (nomatch h), fun h => (nomatch h), fun h => (nomatch h)⟩
    | entry i => cases h2; exact ⟨fun h => (nomatch h), fun h => (nomatch h), fun h => (nomatch h)⟩
    | signs => cases h2; exact ⟨fun h => (nomatch h), fun h => (nomatch h), fun h => (nomatch h)⟩
  · cases h
    exact ⟨fun h => (nomatch h), fun h => (nomatch h), fun h => (nomatch h)⟩

def Φ_law_tidy (K : PySem.W.Frag) (vs : V) (H : Hp) (Q : VK) : Prop := ∃ s : Sto, StAt H vs s ∧ s.length ≤ 60 ∧ (∀ r, (entsAt s r).length ≤ 1000) ∧ roomAt s 0 ∧ ∀ v H', Same H H' → StAt H' v (letGo s) → Q v H'
theorem ok_law_tidy (T : Txt P K mg) {f : Addr} {fd : FuncData} (F : Fun K "_law_tidy" "_law_tidy" s_law_tidy f fd) : Keeps P w K mg base CX0 1 f fd ["store"] (sp1 (Φ_law_tidy K)) := by
  refine keeps0_of F sc_law_tidy (fun vs H Q E h => ?_) (fun cdv A outer s H vs Q E hr h => ?_)
  · obtain ⟨_, rfl, _⟩ := h
    rfl
  obtain ⟨v_store, rfl, h⟩ := h
  have hu := hr.hu
  refine ⟨_, (pss_cons (ps_set (i := 1) sc_law_tidy.nd rfl (by first | exact Or.inl rfl | exact Or.inr rfl) (pe_lst (pa_cons pe_int pa_nil)))
      (pss_cons (ps_for PassesOwn.never rfl (pi_any (K := K) (pv 0)) (pg_name (i := 2) sc_law_tidy.nd rfl (by first | exact Or.inl rfl | exact Or.inr rfl)) (pss_one (ps_if (PW.pt (pw_and (pt_cmpR oIsNot (pv 2) pe_non (nomark _)) (pw_and1 (pt_cmpR (oEq (K := K) hr.u65) (pe_ix (ixX (K := K)) (pv 2) pe_int (fun _ _ => rfl)) pe_str (nomark _))))) (pss_one (ps_set (i := 1) sc_law_tidy.nd rfl (by first | exact Or.inl rfl | exact Or.inr rfl) (pe_op (oAdd (K := K)) (pv 1) (pe_lc (own := [("name", 4), ("number", 5)]) rfl sc_law_tidy.nd (pi_any (K := K) (pe_ix (ixX (K := K)) (pv 2) pe_int (fun _ _ => rfl))) (blkOk_by (own := [("name", 4), ("number", 5)]) (N := ["store", "kept", "node", "nodes", "name", "number"]) (sc := defScope s_law_tidy) (by decide +kernel)) (fun _ _ _ _ _ => pg_seqX (K := K) (n := 2) rfl (pgs_cons (pg_name (i := 4) sc_law_tidy.nd rfl (by first | exact Or.inl rfl | exact Or.inr rfl)) (pgs_cons (pg_name (i := 5) sc_law_tidy.nd rfl (by first | exact Or.inl rfl | exact Or.inr rfl)) pgs_nil))) (fun _ _ _ _ _ => pts_nil) (fun _ _ _ _ _ => (pv 5)))))) pss_nil)))
      (pss_cons (ps_setLc (i := 3) (own := [("number", 5)]) rfl sc_law_tidy.nd rfl rfl (sw_true rfl rfl rfl (by decide +kernel)) (pi_range1 (by rfl) T.b_range (pa_cons (pe_callB (call_lenX (K := K)) (by rfl) T.b_len (by decide +kernel) (pa_cons (pv 0) pa_nil)) pa_nil)) (blkOk_by (own := [("number", 5)]) (N := ["store", "kept", "node", "nodes", "name", "number"]) (sc := defScope s_law_tidy) (by decide +kernel)) (fun _ _ _ _ _ => pg_name (i := 5) sc_law_tidy.nd rfl (by first | exact Or.inl rfl | exact Or.inr rfl)) (fun _ _ _ _ _ => pts_nil) (fun _ _ _ _ _ => (pe_ifExp (pt_cmpR (oIn (K := K) hr.u65) (pv 5) (pv 1) (by rfl)) (pe_ix (ixX (K := K)) (pv 0) (pv 5) (fun _ _ => rfl)) pe_non)))
      (pss_cons (ps_while PassesOwn.never (pt_cmpR oIs (pe_ix (ixX (K := K)) (pv 3) (pe_un un_neg pe_int) (fun _ _ => rfl)) pe_non (nomark _)) (pss_one (ps_expr (pe_bm0X (K := K) PySem.F.plainAttrs_list PySem.F.slot_list_pop PySem.F.type_list_pop mt_pop (pv 3)))))
      (pss_one (ps_ret (pe_callTy (callTupF (K := K)) (by rfl) T.b_tuple (by decide +kernel) (pa_cons (pv 3) pa_nil)))))))), ?_⟩
  rw [show start ["store", "kept", "node", "nodes", "name", "number"] [v_store] = [some v_store, none, none, none, none, none] from rfl]
  try dsimp only [cxOf, Cx.nox, Cx.wish]
  obtain ⟨s, hS, hl, few, hroot, q⟩ := h
  have hS' := hS
  obtain ⟨a, xs, rfl, ha, ps⟩ := hS'
  have lx := Paired.length ps
  have l1 := room_lt hroot
  walk_at "rd"
  intro k0 hk0
  have s1 := (Same.refl H).new (o := .lst [.int 0]) hk0
  have g1 : upd H k0 (.lst [.int 0]) k0 = some (.lst (([0] : List Nat).map nv)) := upd_same
  generalize upd H k0 (.lst [.int 0]) = H1 at s1 g1 ⊢
  walk_at "rd"
  refine rd_forT ?_
  walk_at "rd"
  refine rd_itT (xs := xs) (ha.up (Ty.of s1)).sq (fun i σ H' => ∃ (kA : Addr) (ks : List Nat) (x2 x3 x4 x5 : Option V), Same H H' ∧ H' kA = some (.lst (ks.map nv)) ∧ ks.length ≤ 1 + 1000 * i ∧ (∀ k, k ∈ ks ↔ keptP s i k) ∧ σ = [some (.ref a), some (.ref kA), x2, x3, x4, x5]) ⟨k0, [0], _, _, _, _, s1, g1, by decide, fun k => ?_, rfl⟩ ?_ ?_ ?_
  · rw [List.mem_singleton]
    exact ⟨.inl, fun h => h.resolve_right fun ⟨_, h, _⟩ => absurd h (Nat.not_lt_zero _)⟩
  · rintro i σ H' _ ⟨_, _, _, _, _, _, k, _⟩
    exact (ha.up (Ty.of k)).sq
  · rintro i x σ H2 hx ⟨kA, ks, x2, x3, x4, x5, k2, hL, lk, hk, rfl⟩
    obtain ⟨n, hn, at1⟩ := pd_getL ps hx
    have il : i < s.length := (List.getElem?_eq_some_iff.mp hn).1
    have at2 := at1.up (Ty.of k2)
    have same : isRoom n = false → ∀ k, keptP s i k ↔ keptP s (i + 1) k := fun hr k => by
      have e0 : entsAt s i = [] := by
        unfold entsAt
        rw [hn]
        match n, hr with
        | none, _ => rfl
        | some (.file t), _ => rfl
        | some (.sign t), _ => rfl
      unfold keptP
      refine or_congr Iff.rfl ⟨fun ⟨r, hr, h⟩ => ⟨r, by omega, h⟩, fun ⟨r, hr, e, he, h⟩ => ?_⟩
      by_cases q : r = i
      · rw [q, e0] at he
        cases he
      · exact ⟨r, by omega, e, he, h⟩
    walk_at "rd"
    rw [at1.non]
    cases n with
    | none =>
      rw [show (none : Option Nd).isNone = true from rfl]
      walk_at "rd"
      exact ⟨kA, ks, _, _, _, _, k2, hL, by omega, fun k => (hk k).trans (same rfl k), rfl⟩
    | some nd =>
      rw [show (some nd : Option Nd).isNone = false from rfl]
      obtain ⟨a1, y1, rfl, hh1⟩ := at2.head
      walk_at "rd"
      refine rd_ixT hh1.sq rfl ?_
      walk_at "rd"
      rw [wordN_room]
      cases hr : isRoom (some nd) with
      | false =>
        walk_at "rd"
        exact ⟨kA, ks, _, _, _, _, k2, hL, by omega, fun k => (hk k).trans (same hr k), rfl⟩
      | true =>
        match nd, hr, hn, at2 with
        | .room es, _, hn, ⟨na, nb, e, hna, ys, hys, pys⟩ =>
        cases e
        have ly := Paired.length pys
        have hen := entsAt_room hn
        have fw := few i
        rw [hen] at fw
        walk_at "rd"
        refine rd_lcT ?_
        walk_at "rd"
        refine rd_ixT hna.sq rfl ?_
        refine rd_clT (xs := ys) hys.rt.sq (fun D i H' => Same H2 H' ∧ H' D = some (.lst (((es.take i).map (·.2)).map nv))) (fun D hD => ⟨(Same.refl H2).new (o := .lst []) hD, upd_same⟩) (fun D i H' _ _ h => (hys.up (Ty.of h.1)).rt.sq) (fun D i x H' hD hx hP => ?_) (fun D H3 hD hP => ?_)
        · obtain ⟨k3, hL3⟩ := hP
          obtain ⟨e, he, p, rfl, hp⟩ := pd_getL pys hx
          refine rd_lcT1 ?_
          refine rd_gtup (hp.up (Ty.of k3)).sq rfl ?_
          walk_at "rd"
          have le : (es.take i).length ≤ 1000 := by rw [List.length_take]; omega
          refine ⟨_, hL3, szLt (by rw [List.length_map, List.length_map]; omega), k3.put hD, ?_⟩
          rw [upd_same, List.take_add_one, he, List.map_append, List.map_append]
          rfl
        · obtain ⟨k3, hL3⟩ := hP
          rw [ly, List.take_length] at hL3
          have hL2 := k3 _ _ hL
          walk_at "rd"
          refine rd_cat hL2 hL3 (szOk (by rw [List.length_map, List.length_map, List.length_map]; omega)) fun l hl => ?_
          walk_at "rd"
          refine ⟨l, ks ++ es.map (·.2), _, _, _, _, (k2.trans k3).new hl, by rw [upd_same, List.map_append], by rw [List.length_append, List.length_map]; omega, fun k => ?_, rfl⟩
          rw [List.mem_append, hk, List.mem_map]
          unfold keptP
          constructor
          · rintro ((h | ⟨r, hr, h⟩) | ⟨e, he, h⟩)
            · exact .inl h
            · exact .inr ⟨r, by omega, h⟩
            · exact .inr ⟨i, by omega, e, by rw [hen]; exact he, h⟩
          · rintro (h | ⟨r, hr, e, he, h⟩)
            · exact .inl (.inl h)
            · by_cases q : r = i
              · rw [q, hen] at he
                exact .inr ⟨e, he, h⟩
              · exact .inl (.inr ⟨r, by omega, e, he, h⟩)
  · rintro σ H2 ⟨kA, ks, x2, x3, x4, x5, k2, hL, lk, hk, rfl⟩
    rw [lx] at hk
    have dec : ∀ k : Nat, inV (.int (k : Int)) (ks.map nv) = keptB s k := fun k => by
      have e : inV (.int (k : Int)) (ks.map nv) = ks.contains k := inV_nats
      rw [e, Bool.eq_iff_iff, List.contains_iff_mem, hk, kept_iff]
    have ha2 := ha.up (Ty.of k2)
    walk_at "rd"
    refine rd_lenT ha2.sq ?_
    rw [lx]
    walk_at "rd"
    refine rd_clR (by omega) (by omega) (fun D3 i H' => Same H2 H' ∧ ∃ zs, H' D3 = some (.lst zs) ∧ Paired (NdAt H') zs ((clearS s).take i)) (fun D3 hD3 => ⟨(Same.refl H2).new (o := .lst []) hD3, [], upd_same, .nil⟩) (fun D3 i H' hD3 hi hP => ?_) (fun D3 H3 hD3 hP => ?_)
    · obtain ⟨k3, zs, hL3, pz⟩ := hP
      have il : i < s.length := by omega
      have hn : s[i]? = some s[i] := List.getElem?_eq_getElem il
      obtain ⟨x, hx, at1⟩ := pd_getR ps hn
      have cl : (clearS s)[i]? = some (if keptB s i = true then s[i] else none) := by
        rw [clear_at, if_pos il, List.getD_eq_getElem?_getD, hn]
        rfl
      have lz := Paired.length pz
      rw [List.length_take] at lz
      have k23 := k2.trans k3
      have at3 := at1.up (Ty.of k23)
      have fin : ∀ y, NdAt H' y (if keptB s i = true then s[i] else none) → ∃ acc, H' D3 = some (.lst acc) ∧ acc.length < sizeLine ∧ (Same H2 (upd H' D3 (.lst (acc ++ [y]))) ∧ ∃ zs, (upd H' D3 (.lst (acc ++ [y]))) D3 = some (.lst zs) ∧ Paired (NdAt (upd H' D3 (.lst (acc ++ [y])))) zs ((clearS s).take (i + 1))) := fun y hy => by
        have ty := (Ty.refl H').lst (o := .lst (zs ++ [y])) hL3
        refine ⟨zs, hL3, szLt (by omega), k3.put hD3, _, upd_same, ?_⟩
        rw [List.take_add_one, cl]
        exact pd_app (pd_mono (fun _ _ q => NdAt.up q ty) pz) (.cons (hy.up ty) .nil)
      walk_at "rd"
      refine rd_inL (SqL.of (k3 _ _ hL)) rfl (flat_nats ks) ?_
      rw [dec]
      cases hkb : keptB s i with
      | true =>
        rw [hkb, if_pos rfl] at fin
        walk_at "rd"
        refine rd_ixT (ha.up (Ty.of k23)).sq (atI_nat hx) ?_
        exact fin x at3
      | false =>
        rw [hkb, if_neg Bool.false_ne_true] at fin
        walk_at "rd"
        exact fin .non rfl
    · obtain ⟨k3, zs, hL3, pz⟩ := hP
      have cl : (clearS s).length = s.length := by unfold clearS; rw [List.length_map, List.length_range]
      rw [show ((s.length : Int)).toNat = s.length by omega, ← cl, List.take_length] at pz
      have k13 := k2.trans k3
      have D3H : H D3 = none := same_free k2 hD3
      have rootc : ∃ es, (clearS s)[0]? = some (some (.room es)) := by
        obtain ⟨es, he⟩ := hroot
        refine ⟨es, ?_⟩
        unfold clearS
        rw [List.getElem?_map, List.getElem?_range l1]
        show some (if keptB s 0 = true then s.getD 0 none else none) = _
        rw [if_pos (kept_iff.mpr (.inl rfl)), List.getD_eq_getElem?_getD, he]
        rfl
      walk_at "rd"
      refine rd_while (fun mm σ H' => ∃ (s' : Sto) (zs : List V), mm = s'.length ∧ Same H H' ∧ H' D3 = some (.lst zs) ∧ Paired (NdAt H') zs s' ∧ s'.length ≤ s.length ∧ trimS s' = letGo s ∧ (∃ es, s'[0]? = some (some (.room es))) ∧
        σ = [some (.ref a), some (.ref kA), x2, some (.ref D3), x4, x5]) (clearS s).length ⟨clearS s, zs, rfl, k13, hL3, pz, by omega, rfl, rootc, rfl⟩ ?_
      clear k3 hL3 pz k13 rootc zs hL
      rintro mm σ H4 ⟨s', zs, rfl, k4, hL, pz, ls, htr, ⟨es, hroot'⟩, rfl⟩
      have lz := Paired.length pz
      have l0 := (List.getElem?_eq_some_iff.mp hroot').1
      obtain ⟨sl, y, rfl⟩ : ∃ sl y, s' = sl ++ [y] := by
        rcases List.eq_nil_or_concat s' with rfl | ⟨sl, y, rfl⟩
        · cases l0
        · exact ⟨sl, y, List.concat_eq_append⟩
      obtain ⟨xl, z, rfl, pxl, hz⟩ := pd_unsnoc pz
      walk_at "rd"
      refine ⟨1, rfl, ?_⟩
      refine rd_ixL (SqL.of hL) (atI_last _ _) ?_
      walk_at "rd"
      rw [hz.non]
      cases y with
      | none =>
        rw [show (none : Option Nd).isNone = true from rfl]
        walk_at "rd"
        refine rd_turn ?_
        walk_at "rd"
        refine rd_tyL (SqL.of hL) ?_
        refine rd_pop hL ?_
        have ty := (Ty.refl H4).lst (o := .lst xl) hL
        refine ⟨sl.length, by rw [List.length_append, List.length_singleton]; omega, sl, xl, rfl, k4.put D3H, upd_same, pd_mono (fun _ _ q => NdAt.up q ty) pxl, by rw [List.length_append, List.length_singleton] at ls; omega, by rw [← htr, trim_none], ⟨es, ?_⟩, rfl⟩
        have lsl : 0 < sl.length := by
          cases sl with
          | nil => cases hroot'
          | cons a b => exact Nat.succ_pos _
        rwa [List.getElem?_append_left lsl] at hroot'
      | some n =>
        rw [show (some n : Option Nd).isNone = false from rfl]
        walk_at "rd"
        refine ⟨D3, _, rfl, SqL.of hL, fun tA o' od htA => ?_⟩
        have k5 := (Same.refl H4).new (o := .frz o' (.tup (xl ++ [z]))) htA
        refine q _ _ (k4.trans k5) ⟨tA, _, rfl, .inr ⟨o', upd_same⟩, ?_⟩
        rw [← htr, trim_some]
        exact pd_mono (fun _ _ q => NdAt.up q (Ty.of k5)) pz

def Φ_law_removed (K : PySem.W.Frag) (vs vh vp : V) (H : Hp) (Q : VK) : Prop := ∃ (s : Sto) (here : Nat) (path : Str), StAt H vs s ∧ Wf s ∧ vh = .int here ∧ here < s.length ∧ vp = .str path ∧ pathB (.str path) = true ∧
  ∀ o t H', Same H H' → Removed s here path o → OuAt H' t o → Q (.ref t) H'
theorem ok_law_removed (T : Txt P K mg) {f : Addr} {fd : FuncData} (F : Fun K "_law_removed" "_law_removed" s_law_removed f fd) : Keeps P w K mg base CX0 5 f fd ["store", "here", "path"] (sp3 (Φ_law_removed K)) := by
  have c_law_place := cal (P := P) (w := w) (base := base) T.d_law_place fun F => ok_law_place T F
  have c_law_entry := cal (P := P) (w := w) (base := base) T.d_law_entry fun F => ok_law_entry T F
  have c_law_is_room := cal (P := P) (w := w) (base := base) T.d_law_is_room fun F => ok_law_is_room T F
  have c_law_tidy := cal (P := P) (w := w) (base := base) T.d_law_tidy fun F => ok_law_tidy T F
  have c_law_with := cal (P := P) (w := w) (base := base) T.d_law_with fun F => ok_law_with T F
  refine keeps0_of F sc_law_removed (fun vs H Q E h => ?_) (fun cdv A outer s H vs Q E hr h => ?_)
  · obtain ⟨_, _, _, rfl, _⟩ := h
    rfl
  obtain ⟨v_store, v_here, v_path, rfl, h⟩ := h
  have hu := hr.hu
  refine ⟨_, (pss_cons (ps_set (i := 3) sc_law_removed.nd rfl (by first | exact Or.inl rfl | exact Or.inr rfl) (pe_cal c_law_place (hr.mono (by decide)) (by rfl) pass0 (pa_cons (pv 0) (pa_cons (pv 1) (pa_cons (pv 2) pa_nil)))))
      (pss_cons (ps_if (pt_cmpR (oNe (K := K) hr.u65) (pe_ix (ixX (K := K)) (pv 3) pe_int (fun _ _ => rfl)) pe_str (nomark _)) (pss_one (ps_ret (pv 3))) pss_nil)
      (pss_cons (ps_set (i := 4) sc_law_removed.nd rfl (by first | exact Or.inl rfl | exact Or.inr rfl) (pe_cal c_law_entry (hr.mono (by decide)) (by rfl) pass0 (pa_cons (pv 0) (pa_cons (pe_ix (ixX (K := K)) (pv 3) pe_int (fun _ _ => rfl)) (pa_cons (pe_ix (ixX (K := K)) (pv 3) pe_int (fun _ _ => rfl)) pa_nil)))))
      (pss_cons (ps_if (pt_cmpR oIs (pv 4) pe_non (nomark _)) (pss_one (ps_ret (pe_tup (pa_cons pe_str (pa_cons (pe_ix (ixX (K := K)) (pv 3) pe_int (fun _ _ => rfl)) pa_nil))))) pss_nil)
      (pss_cons (ps_if (PW.pt (pw_and (pt_val (pe_cal c_law_is_room (hr.mono (by decide)) (by rfl) pass0 (pa_cons (pv 0) (pa_cons (pv 4) pa_nil)))) (pw_and1 (pt_cmpR (oNe (K := K) hr.u65) (pe_ix (ixX (K := K)) (pe_ix (ixX (K := K)) (pv 0) (pv 4) (fun _ _ => rfl)) pe_int (fun _ _ => rfl)) (pe_tup pa_nil) (nomark _))))) (pss_one (ps_ret (pe_tup (pa_cons pe_str (pa_cons pe_non pa_nil))))) pss_nil)
      (pss_one (ps_ret (pe_tup (pa_cons pe_str (pa_cons (pe_cal c_law_tidy (hr.mono (by decide)) (by rfl) pass0 (pa_cons (pe_cal c_law_with (hr.mono (by decide)) (by rfl) pass0 (pa_cons (pv 0) (pa_cons (pe_ix (ixX (K := K)) (pv 3) pe_int (fun _ _ => rfl)) (pa_cons (pe_ix (ixX (K := K)) (pv 3) pe_int (fun _ _ => rfl)) (pa_cons pe_non pa_nil))))) pa_nil)) pa_nil)))))))))), ?_⟩
  rw [show start ["store", "here", "path", "told", "number"] [v_store, v_here, v_path] = [some v_store, some v_here, some v_path, none, none] from rfl]
  try dsimp only [cxOf, Cx.nox, Cx.wish]
  obtain ⟨s, here, path, hS, wf, rfl, hl, rfl, hp, q⟩ := h
  have l2 := wf.l2
  walk_at "rd"
  refine ⟨s, here, path, hS, wf, rfl, hl, rfl, hp, fun p g H1 k1 hP hg => ?_⟩
  walk_at "rd"
  cases p with
  | no e =>
    have hg : H1 g = some (.tup [.str e.word, e.val]) := hg
    walk_at "rd"
    refine rd_yesI (by rw [er_word_at]; rfl) ?_
    walk_at "rd"
    exact q (.inr e) g H1 k1 (.place hP) hg
  | at_ r w =>
    have hg : H1 g = some (.tup [.str "at", .int (r : Nat), .str w, .int (lastI path : Nat)]) := hg
    have hroom := hP.at_room.1
    walk_at "rd"
    refine rd_noI (by decide +kernel) ?_
    walk_at "rd"
    refine ⟨s, r, w, hS.up (Ty.of k1), rfl, rfl, hroom, wf.few r, fun H2 k2 => ?_⟩
    have k12 := k1.trans k2
    have hg2 := k2 _ _ hg
    cases he : entryOf s r w with
    | none =>
      rw [show optV none = V.non from rfl]
      walk_at "rd"
      refine rd_yesI (by decide +kernel) ?_
      walk_at "rd"
      intro t3 ht3
      exact q (.inr (.entry (lastI path))) t3 _ (k12.new (o := .tup [.str "entry", .int (lastI path : Nat)]) ht3) (.entry hP he) upd_same
    | some n =>
      rw [show optV (some n) = V.int (n : Nat) from rfl]
      have hmem := entry_some he
      obtain ⟨nd, hnd⟩ := wf.there r _ hmem
      have nl : n < s.length := (List.getElem?_eq_some_iff.mp hnd).1
      obtain ⟨f1, f2, f3⟩ := withE_none (w := w) hroom
      walk_at "rd"
      refine rd_noI (by rw [decide_eq_false (fun h => nomatch h)]) ?_
      walk_at "rd"
      refine ⟨s, n, hS.up (Ty.of k12), rfl, nl, ?_⟩
      have fin1 : ∀ (H3 : Hp) (QQ : VK), Same H H3 → (∀ v H4, Same H3 H4 → StAt H4 v (withE s r w none) → QQ v H4) → Φ_law_with K v_store (.int (r : Nat)) (.str w) .non H3 QQ := fun H3 QQ k3 qq =>
        ⟨s, r, w, none, hS.up (Ty.of k3), rfl, rfl, rfl, hroom, wf.few r, by omega, qq⟩
      have fin2 : ∀ (H4 : Hp) (v : V) (QQ : VK), StAt H4 v (withE s r w none) → (∀ v' H5, Same H4 H5 → StAt H5 v' (letGo (withE s r w none)) → QQ v' H5) → Φ_law_tidy K v H4 QQ := fun H4 v QQ hv qq =>
        ⟨_, hv, by unfold withE; rw [List.length_set]; omega, fun j => Nat.le_trans (f2 j) (wf.few j), f3 0 wf.root, qq⟩
      cases hr : isRoom (s.getD n none) with
      | false =>
        walk_at "rd"
        refine fin1 H2 _ k12 fun v H4 k4 hv => ?_
        walk_at "rd"
        refine fin2 H4 v _ hv fun v' H5 k5 hv' => ?_
        walk_at "rd"
        intro t6 ht6
        have k6 := (Same.refl H5).new (o := .tup [.str "done", v']) ht6
        exact q (.inl _) t6 _ (((k12.trans k4).trans k5).trans k6) (.done hP he fun h => by rw [hr] at h; cases h) ⟨v', upd_same, hv'.up (Ty.of k6)⟩
      | true =>
        obtain ⟨es, hes⟩ := room_is hr
        have hen := entsAt_room hes
        have hS' := hS
        obtain ⟨a, xs, rfl, ha, ps⟩ := hS'
        obtain ⟨v, hv, na, nb, rfl, hna, ys, hys, pys⟩ := pd_getR ps hes
        have okN := wf.nodes _ (List.mem_of_getElem? hes)
        walk_at "rd"
        refine rd_ixT (ha.up (Ty.of k12)).sq (atI_nat hv) ?_
        walk_at "rd"
        refine rd_ixT (hna.up (Ty.of k12)).sq rfl ?_
        walk_at "rd"
        intro t2 ht2
        have s3 := (Same.refl H2).new (o := .tup []) ht2
        have k3 := k12.trans s3
        have hg3 := s3 _ _ hg2
        refine rd_neD (d := .tuple (es.map fun e => PyData.tuple [.str e.1, .int (e.2 : Int)])) (e := .tuple []) (.tup (hys.up (Ty.of k3)).rt.sq (dp_ents (pd_mono (fun _ _ q => pairV.up q (Ty.of k3)) pys))) (.tup (SqT.of upd_same) .nil) (ents_shaped (by omega) okN.1) (by decide +kernel) ?_
        rw [ents_eqv]
        generalize upd H2 t2 (.tup []) = H3 at k3 hg3 ⊢
        cases hem : es.isEmpty with
        | true =>
          have e0 : es = [] := List.isEmpty_iff.mp hem
          walk_at "rd"
          refine fin1 H3 _ k3 fun v H4 k4 hv => ?_
          walk_at "rd"
          refine fin2 H4 v _ hv fun v' H5 k5 hv' => ?_
          walk_at "rd"
          intro t6 ht6
          have k6 := (Same.refl H5).new (o := .tup [.str "done", v']) ht6
          exact q (.inl _) t6 _ (((k3.trans k4).trans k5).trans k6) (.done hP he fun _ => by rw [hen, e0]) ⟨v', upd_same, hv'.up (Ty.of k6)⟩
        | false =>
          walk_at "rd"
          intro t6 ht6
          exact q (.inr .full) t6 _ (k3.new (o := .tup [.str "full", .non]) ht6) (.full hP he hr (by rw [hen]; intro q; rw [q] at hem; cases hem)) upd_same
def MuAt (H : Hp) (t : Addr) : Sto × Nat ⊕ Er → Prop
  | .inl (s, k) => ∃ v t2, H t = some (.tup [.str "done", .ref t2]) ∧ H t2 = some (.tup [v, .int (k : Nat)]) ∧ StAt H v s
  | .inr e => H t = some (.tup (erT e))
theorem free_head {s : Sto} : freeOf s = ((List.range 60).filter fun k => freeB s k).head? := (List.head?_filter ..).symm
def Φ_law_made (K : PySem.W.Frag) (vs vh vp vn : V) (H : Hp) (Q : VK) : Prop := ∃ (s : Sto) (here : Nat) (path : Str) (nd : Nd), StAt H vs s ∧ Wf s ∧ vh = .int here ∧ here < s.length ∧ vp = .str path ∧ pathB (.str path) = true ∧ NdAt H vn (some nd) ∧ newN nd ∧
  ∀ o t H', Same H H' → Made s here path nd o → MuAt H' t o → Q (.ref t) H'
theorem ok_law_made (T : Txt P K mg) {f : Addr} {fd : FuncData} (F : Fun K "_law_made" "_law_made" s_law_made f fd) : Keeps P w K mg base CX0 5 f fd ["store", "here", "path", "node"] (sp4 (Φ_law_made K)) := by
  have c_law_place := cal (P := P) (w := w) (base := base) T.d_law_place fun F => ok_law_place T F
  have c_law_entry := cal (P := P) (w := w) (base := base) T.d_law_entry fun F => ok_law_entry T F
  have c_law_with := cal (P := P) (w := w) (base := base) T.d_law_with fun F => ok_law_with T F
  refine keeps0_of F sc_law_made (fun vs H Q E h => ?_) (fun cdv A outer s H vs Q E hr h => ?_)
  · obtain ⟨_, _, _, _, rfl, _⟩ := h
    rfl
  obtain ⟨v_store, v_here, v_path, v_node, rfl, h⟩ := h
  have hu := hr.hu
  refine ⟨_, (pss_cons (ps_set (i := 4) sc_law_made.nd rfl (by first | exact Or.inl rfl | exact Or.inr rfl) (pe_cal c_law_place (hr.mono (by decide)) (by rfl) pass0 (pa_cons (pv 0) (pa_cons (pv 1) (pa_cons (pv 2) pa_nil)))))
      (pss_cons (ps_if (pt_cmpR (oNe (K := K) hr.u65) (pe_ix (ixX (K := K)) (pv 4) pe_int (fun _ _ => rfl)) pe_str (nomark _)) (pss_one (ps_ret (pv 4))) pss_nil)
      (pss_cons (ps_if (pt_cmpR oIsNot (pe_cal c_law_entry (hr.mono (by decide)) (by rfl) pass0 (pa_cons (pv 0) (pa_cons (pe_ix (ixX (K := K)) (pv 4) pe_int (fun _ _ => rfl)) (pa_cons (pe_ix (ixX (K := K)) (pv 4) pe_int (fun _ _ => rfl)) pa_nil)))) pe_non (nomark _)) (pss_one (ps_ret (pe_tup (pa_cons pe_str (pa_cons (pe_ix (ixX (K := K)) (pv 4) pe_int (fun _ _ => rfl)) pa_nil))))) pss_nil)
      (pss_cons (ps_setLc (i := 5) (own := [("number", 7)]) rfl sc_law_made.nd rfl rfl (sw_true rfl rfl rfl (by decide +kernel)) (pi_range1 (by rfl) T.b_range (pa_cons pe_int pa_nil)) (blkOk_by (own := [("number", 7)]) (N := ["store", "here", "path", "node", "told", "free", "longer", "number"]) (sc := defScope s_law_made) (by decide +kernel)) (fun _ _ _ _ _ => pg_name (i := 7) sc_law_made.nd rfl (by first | exact Or.inl rfl | exact Or.inr rfl)) (fun _ _ _ _ _ => pts_one (PW.pt (pw_or (pt_cmpR oGe (pv 7) (pe_callB (call_lenX (K := K)) (by rfl) T.b_len (by decide +kernel) (pa_cons (pv 0) pa_nil)) (nomark _)) (pw_or1 (pt_cmpR oIs (pe_ix (ixX (K := K)) (pv 0) (pv 7) (fun _ _ => rfl)) pe_non (nomark _)))))) (fun _ _ _ _ _ => (pv 7)))
      (pss_cons (ps_if (pt_cmpR (oEq (K := K) hr.u65) (pv 5) (pe_lst pa_nil) (nomark _)) (pss_one (ps_ret (pe_tup (pa_cons pe_str (pa_cons pe_int pa_nil))))) pss_nil)
      (pss_cons (ps_set (i := 6) sc_law_made.nd rfl (by first | exact Or.inl rfl | exact Or.inr rfl) (pe_op (oAdd (K := K)) (pv 0) (pe_op (oMulS (K := K)) (pe_tup (pa_cons pe_non pa_nil)) (pe_callB (call_maxX rfl) (by rfl) T.b_max (by decide +kernel) (pa_cons pe_int (pa_cons (pe_op oSub (pe_op (oAdd (K := K)) (pe_ix (ixX (K := K)) (pv 5) pe_int (fun _ _ => rfl)) pe_int) (pe_callB (call_lenX (K := K)) (by rfl) T.b_len (by decide +kernel) (pa_cons (pv 0) pa_nil))) pa_nil))))))
      (pss_cons (ps_set (i := 6) sc_law_made.nd rfl (by first | exact Or.inl rfl | exact Or.inr rfl) (pe_op (oAdd (K := K)) (pe_op (oAdd (K := K)) (pe_slice (sX (K := K)) (pv 6) po_none (po_some (pe_ix (ixX (K := K)) (pv 5) pe_int (fun _ _ => rfl)))) (pe_tup (pa_cons (pv 3) pa_nil))) (pe_slice (sX (K := K)) (pv 6) (po_some (pe_op (oAdd (K := K)) (pe_ix (ixX (K := K)) (pv 5) pe_int (fun _ _ => rfl)) pe_int)) po_none)))
      (pss_one (ps_ret (pe_tup (pa_cons pe_str (pa_cons (pe_tup (pa_cons (pe_cal c_law_with (hr.mono (by decide)) (by rfl) pass0 (pa_cons (pv 6) (pa_cons (pe_ix (ixX (K := K)) (pv 4) pe_int (fun _ _ => rfl)) (pa_cons (pe_ix (ixX (K := K)) (pv 4) pe_int (fun _ _ => rfl)) (pa_cons (pe_ix (ixX (K := K)) (pv 5) pe_int (fun _ _ => rfl)) pa_nil))))) (pa_cons (pe_ix (ixX (K := K)) (pv 5) pe_int (fun _ _ => rfl)) pa_nil))) pa_nil)))))))))))), ?_⟩
  rw [show start ["store", "here", "path", "node", "told", "free", "longer", "number"] [v_store, v_here, v_path, v_node] = [some v_store, some v_here, some v_path, some v_node, none, none, none, none] from rfl]
  try dsimp only [cxOf, Cx.nox, Cx.wish]
  obtain ⟨s, here, path, nd, hS, wf, rfl, hl, rfl, hp, hN, hnew, q⟩ := h
  have l2 := wf.l2
  walk_at "rd"
  refine ⟨s, here, path, hS, wf, rfl, hl, rfl, hp, fun p g H1 k1 hP hg => ?_⟩
  walk_at "rd"
  cases p with
  | no e =>
    have hg : H1 g = some (.tup [.str e.word, e.val]) := hg
    walk_at "rd"
    refine rd_yesI (by rw [er_word_at]; rfl) ?_
    walk_at "rd"
    exact q (.inr e) g H1 k1 (.place hP) hg
  | at_ r w =>
    have hg : H1 g = some (.tup [.str "at", .int (r : Nat), .str w, .int (lastI path : Nat)]) := hg
    have hroom := hP.at_room.1
    walk_at "rd"
    refine rd_noI (by decide +kernel) ?_
    walk_at "rd"
    refine ⟨s, r, w, hS.up (Ty.of k1), rfl, rfl, hroom, wf.few r, fun H2 k2 => ?_⟩
    have k12 := k1.trans k2
    have hg2 := k2 _ _ hg
    cases he : entryOf s r w with
    | some n =>
      rw [show optV (some n) = V.int (n : Nat) from rfl]
      walk_at "rd"
      refine rd_yesI (by rw [decide_eq_false (fun h => nomatch h)]; rfl) ?_
      walk_at "rd"
      intro t3 ht3
      exact q (.inr (.exist (lastI path))) t3 _ (k12.new (o := .tup [.str "exists", .int (lastI path : Nat)]) ht3) (.exist hP he) upd_same
    | none =>
      rw [show optV none = V.non from rfl]
      walk_at "rd"
      refine rd_noI (by decide +kernel) ?_
      obtain ⟨a, xs, rfl, ha, ps⟩ := hS
      have lx := Paired.length ps
      walk_at "rd"
      refine rd_clR (by decide) (by decide) (fun D i H' => Same H2 H' ∧ H' D = some (.lst (((List.range i).filter fun k => freeB s k).map nv))) (fun D hD => ⟨(Same.refl H2).new (o := .lst []) hD, upd_same⟩) (fun D i H' hD hi hP' => ?_) (fun D H3 hD hP' => ?_)
      · obtain ⟨k3, hL⟩ := hP'
        have i60 : i < 60 := by omega
        have lf := List.length_filter_le (fun k => freeB s k) (List.range i)
        rw [List.length_range] at lf
        have k13 := k12.trans k3
        have yes : freeB s i = true → ∃ acc, H' D = some (.lst acc) ∧ acc.length < sizeLine ∧ (Same H2 (upd H' D (.lst (acc ++ [.int (i : Nat)]))) ∧ (upd H' D (.lst (acc ++ [.int (i : Nat)]))) D = some (.lst (((List.range (i + 1)).filter fun k => freeB s k).map nv))) := fun h => by
          refine ⟨_, hL, szLt (by rw [List.length_map]; omega), k3.put hD, ?_⟩
          rw [upd_same, List.range_succ, List.filter_append, List.filter_cons_of_pos (by exact h), List.filter_nil, List.map_append]
          rfl
        have no : freeB s i = false → Same H2 H' ∧ H' D = some (.lst (((List.range (i + 1)).filter fun k => freeB s k).map nv)) := fun h => by
          refine ⟨k3, ?_⟩
          rw [hL, List.range_succ, List.filter_append, List.filter_cons_of_neg (by rw [h]; decide), List.filter_nil, List.append_nil]
        walk_at "rd"
        refine rd_lenT (ha.up (Ty.of k13)).sq ?_
        walk_at "rd"
        rw [lx]
        cases e1 : decide ((s.length : Int) ≤ (i : Int)) with
        | true =>
          have e1 : s.length ≤ i := by have := of_decide_eq_true e1; omega
          walk_at "rd"
          exact yes (by unfold freeB; rw [decide_eq_true e1]; rfl)
        | false =>
          have e1 : i < s.length := by have := of_decide_eq_false e1; omega
          have hs : s[i]? = some s[i] := List.getElem?_eq_getElem e1
          obtain ⟨v, hv, at1⟩ := pd_getR ps hs
          have fb : freeB s i = s[i].isNone := by
            unfold freeB
            rw [decide_eq_false (by omega), List.getD_eq_getElem?_getD, hs]
            rfl
          walk_at "rd"
          refine rd_ixT (ha.up (Ty.of k13)).sq (atI_nat hv) ?_
          walk_at "rd"
          rw [at1.non, ← fb]
          cases hf : freeB s i with
          | true =>
            walk_at "rd"
            exact yes hf
          | false =>
            walk_at "rd"
            exact no hf
      · obtain ⟨k3, hL⟩ := hP'
        rw [show ((60 : Int)).toNat = 60 from rfl] at hL
        have hfo := free_head (s := s)
        generalize ((List.range 60).filter fun k => freeB s k) = fs at hL hfo
        have k13 := k12.trans k3
        have hg3 := k3 _ _ hg2
        walk_at "rd"
        intro e0 he0
        have s4 := (Same.refl H3).new (o := .lst []) he0
        have hL4 := s4 _ _ hL
        have hg4 := s4 _ _ hg3
        have g4 : upd H3 e0 (.lst []) e0 = some (.lst []) := upd_same
        have k14 := k13.trans s4
        generalize upd H3 e0 (.lst []) = H4 at s4 hL4 hg4 g4 k14 ⊢
        refine rd_eqNil (SqL.of hL4) (SqL.of g4) ?_
        cases fs with
        | nil =>
          rw [show (([] : List Nat).map nv).isEmpty = true from rfl]
          walk_at "rd"
          intro t5 ht5
          exact q (.inr .large) t5 _ (k14.new (o := .tup [.str "large", .int 60]) ht5) (.large hP he hfo) upd_same
        | cons k rest =>
          rw [show ((k :: rest).map nv).isEmpty = false from rfl]
          have hfo : freeOf s = some k := hfo
          obtain ⟨f1, f2, f3⟩ := free_le hfo
          have hL4 : H4 D = some (.lst (V.int (k : Nat) :: rest.map nv)) := hL4
          walk_at "rd"
          intro t5 ht5
          have s5 := (Same.refl H4).new (o := .tup [.non]) ht5
          have g5 : Rt (upd H4 t5 (.tup [.non])) t5 [.non] := .inl upd_same
          have hL5 := s5 _ _ hL4
          have hg5 := s5 _ _ hg4
          have k15 := k14.trans s5
          generalize upd H4 t5 (.tup [.non]) = H5 at s5 g5 hL5 hg5 k15 ⊢
          walk_at "rd"
          refine rd_ixL (SqL.of hL5) (atI_nat (j := 0) rfl) ?_
          walk_at "rd"
          refine rd_lenT (ha.up (Ty.of k15)).sq ?_
          rw [lx]
          walk_at "rd"
          refine rd_repS g5 (by omega) (by omega) fun l H6 s6 h6 => ?_
          rw [show (max (0 : Int) ((k : Int) + 1 - (s.length : Int))).toNat = k + 1 - s.length by omega] at h6
          have k16 := k15.trans s6
          refine rd_catR (ha.up (Ty.of k16)) h6 (szOk (by rw [List.length_replicate]; omega)) fun l7 H7 s7 h7 => ?_
          have k17 := k16.trans s7
          have p7 : Paired (NdAt H7) (xs ++ List.replicate (k + 1 - s.length) V.non) (s ++ List.replicate (k + 1 - s.length) none) := pd_app (pd_mono (fun _ _ q => NdAt.up q (Ty.of k17)) ps) (pd_rep (show NdAt H7 .non none from rfl) _)
          have len7 : (xs ++ List.replicate (k + 1 - s.length) V.non).length = max s.length (k + 1) := by rw [List.length_append, List.length_replicate]; omega
          have hL7 := (s6.trans s7) _ _ hL5
          have hg7 := (s6.trans s7) _ _ hg5
          generalize xs ++ List.replicate (k + 1 - s.length) V.non = zs at h7 p7 len7
          walk_at "rd"
          refine rd_ixL (SqL.of hL7) (atI_nat (j := 0) rfl) ?_
          walk_at "rd"
          refine rd_slR h7 fun r8 H8 s8 h8 => ?_
          rw [cutV_take] at h8
          have hL8 := s8 _ _ hL7
          have hg8 := s8 _ _ hg7
          walk_at "rd"
          intro t9 ht9
          have s9 := (Same.refl H8).new (o := .tup [v_node]) ht9
          have g9 : Rt (upd H8 t9 (.tup [v_node])) t9 [v_node] := .inl upd_same
          have hL9 := s9 _ _ hL8
          have hg9 := s9 _ _ hg8
          generalize upd H8 t9 (.tup [v_node]) = H9 at s9 g9 hL9 hg9 ⊢
          refine rd_catR (h8.up (Ty.of s9)) g9 (szOk (by rw [List.length_take]; show min k zs.length + 1 ≤ 1000000; omega)) fun r10 H10 s10 h10 => ?_
          have hL10 := s10 _ _ hL9
          have hg10 := s10 _ _ hg9
          walk_at "rd"
          refine rd_ixL (SqL.of hL10) (atI_nat (j := 0) rfl) ?_
          walk_at "rd"
          rw [show (k : Int) + 1 = ((k + 1 : Nat) : Int) by omega]
          have s710 := (s8.trans s9).trans s10
          refine rd_slR (h7.up (Ty.of s710)) fun r11 H11 s11 h11 => ?_
          rw [cutV_drop] at h11
          refine rd_catR (h10.up (Ty.of s11)) h11 (szOk (by rw [List.length_append, List.length_take, List.length_drop]; show min k zs.length + 1 + (zs.length - (k + 1)) ≤ 1000000; omega)) fun r12 H12 s12 h12 => ?_
          have s712 := (s710.trans s11).trans s12
          have e : zs.take k ++ [v_node] ++ zs.drop (k + 1) = zs.set k v_node := by
            rw [List.set_eq_take_append_cons_drop, if_pos (by omega), List.append_assoc]
            rfl
          rw [e] at h12
          have k112 := k17.trans s712
          have st12 : StAt H12 (.ref r12) (addS s k nd) := ⟨r12, _, rfl, h12, pd_set k (pd_mono (fun _ _ q => NdAt.up q (Ty.of s712)) p7) (hN.up (Ty.of k112))⟩
          have hL12 := (s11.trans s12) _ _ hL10
          have hg12 := (s11.trans s12) _ _ hg10
          have hroom' : roomAt (addS s k nd) r := by
            obtain ⟨es, he⟩ := hroom
            refine ⟨es, ?_⟩
            rw [add_at f1, if_neg (free_gap f3 r _ he)]
            exact he
          walk_at "rd"
          refine rd_ixL (SqL.of hL12) (atI_nat (j := 0) rfl) ?_
          walk_at "rd"
          refine ⟨addS s k nd, r, w, some k, st12, rfl, rfl, rfl, hroom', by rw [add_ents f1 f3 hnew]; exact wf.few r, by rw [add_len f1]; omega, fun v13 H13 s13 hv13 => ?_⟩
          have hL13 := s13 _ _ hL12
          walk_at "rd"
          refine rd_ixL (SqL.of hL13) (atI_nat (j := 0) rfl) ?_
          walk_at "rd"
          intro t14 ht14
          have s14 := (Same.refl H13).new (o := .tup [v13, .int (k : Nat)]) ht14
          have g14 : upd H13 t14 (.tup [v13, .int (k : Nat)]) t14 = some (.tup [v13, .int (k : Nat)]) := upd_same
          generalize upd H13 t14 (.tup [v13, .int (k : Nat)]) = H14 at s14 g14 ⊢
          walk_at "rd"
          intro t15 ht15
          have s15 := (Same.refl H14).new (o := .tup [.str "done", .ref t14]) ht15
          exact q (.inl (_, k)) t15 _ (((k112.trans s13).trans s14).trans s15) (.done hP he hfo) ⟨v13, t14, upd_same, s15 _ _ g14, hv13.up (Ty.of (s14.trans s15))⟩

def Φ_law_got (K : PySem.W.Frag) (vs vw vh vp vn vb : V) (H : Hp) (Q : VK) : Prop := ∃ (s : Sto) (w : Str) (here : Nat) (path : Str) (b : Bool), StAt H vs s ∧ Wf s ∧ vw = .str w ∧ vh = .int here ∧ roomAt s here ∧ vp = .str path ∧ pathB (.str path) = true ∧ vb = .bl b ∧ (∀ r, (entsAt s r).length ≤ 900) ∧
  ((w = "make" ∧ ∃ nd, NdAt H vn (some nd) ∧ newN nd ∧ NdOk 0 nd ∧ ∀ o t H', Same H H' → Made s here path nd o → MuAt H' t o → Q (.ref t) H') ∨ (w = "remove" ∧ ∀ o t H', Same H H' → Removed s here path o → OuAt H' t o → Q (.ref t) H'))
theorem made_ok {s : Sto} {here : Nat} {path : Str} {nd : Nd} {e : Er} (h : Made s here path nd (.inr e)) : e ≠ .isroom ∧ e ≠ .nofile ∧ e ≠ .inside := by
  cases h with
  | place h => exact place_ok2 h
  | exist => exact ⟨fun h => (nomatch h), fun h => (nomatch h), fun h => (nomatch h)⟩
  | large => exact ⟨fun h => (nomatch h), fun h => (nomatch h), fun h => (nomatch h)⟩
theorem removed_ok {s : Sto} {here : Nat} {path : Str} {e : Er} (h : Removed s here path (.inr e)) : e ≠ .isroom ∧ e ≠ .nofile ∧ e ≠ .inside := by
  cases h with
  | place h => exact place_ok2 h
  | entry => exact ⟨fun h => (nomatch h), fun h => (nomatch h), fun h => (nomatch h)⟩
  | full => exact ⟨fun h => (nomatch h), fun h => (nomatch h), fun h => (nomatch h)⟩
theorem ok_law_got (T : Txt P K mg) {f : Addr} {fd : FuncData} (F : Fun K "_law_got" "_law_got" s_law_got f fd) : Keeps P w K mg base CX0 8 f fd ["store", "word", "here", "path", "node", "named"] (sp6 (Φ_law_got K)) := by
  obtain ⟨C_NotRoom, F_NotRoom, e_NotRoom⟩ := T.e_NotRoom
  obtain ⟨C_NoEntry, F_NoEntry, e_NoEntry⟩ := T.e_NoEntry
  obtain ⟨C_NotPlain, F_NotPlain, e_NotPlain⟩ := T.e_NotPlain
  obtain ⟨C_Exists, F_Exists, e_Exists⟩ := T.e_Exists
  obtain ⟨C_NotEmpty, e_NotEmpty⟩ := T.e_NotEmpty
  obtain ⟨C_TooManySigns, F_TooManySigns, e_TooManySigns⟩ := T.e_TooManySigns
  obtain ⟨C_TooLarge, F_TooLarge, e_TooLarge⟩ := T.e_TooLarge
  have c_remove := cal (P := P) (w := w) (base := base) T.d_remove fun F => ok_remove T F
  have c_make := cal (P := P) (w := w) (base := base) T.d_make fun F => ok_make T F
  refine keeps0_of F sc_law_got (fun vs H Q E h => ?_) (fun cdv A outer s H vs Q E hr h => ?_)
  · obtain ⟨_, _, _, _, _, _, rfl, _⟩ := h
    rfl
  obtain ⟨v_store, v_word, v_here, v_path, v_node, v_named, rfl, h⟩ := h
  have hu := hr.hu
  refine ⟨_, (pss_one (ps_tryMA (K := K) rfl rfl takes_none5 rfl (fun W1 pn1 xe1 tk1 po1 => (pss_cons (ps_if (pt_cmpR (oEq (K := K) hr.u65) (pv 1) pe_str (nomark _)) (pss_one (ps_ret (pe_tup (pa_cons pe_str (pa_cons (pe_ifExp (pt_val (pv 5)) (pe_calK0S (ks := ["node", "path", "here", "store"]) (pm := [3, 2, 1, 0]) c_make (hr.mono (by decide)) (by rfl) (fun _ _ _ _ _ _ us ws h1 h2 => match us, ws, h1, h2 with | [], [_, _, _, _], _, _ => rfl) (fun σ => passAt tk1 σ) (pk_cons (pv 4) (pk_cons (pv 3) (pk_cons (pv 2) (pk_cons (pv 0) pk_nil))))) (pe_calS c_make (hr.mono (by decide)) (by rfl) (fun σ => passAt tk1 σ) (pa_cons (pv 0) (pa_cons (pv 2) (pa_cons (pv 3) (pa_cons (pv 4) pa_nil)))))) pa_nil))))) pss_nil)
      (pss_one (ps_ret (pe_tup (pa_cons pe_str (pa_cons (pe_ifExp (pt_val (pv 5)) (pe_calK0S (ks := ["path", "here", "store"]) (pm := [2, 1, 0]) c_remove (hr.mono (by decide)) (by rfl) (fun _ _ _ _ _ _ us ws h1 h2 => match us, ws, h1, h2 with | [], [_, _, _], _, _ => rfl) (fun σ => passAt tk1 σ) (pk_cons (pv 3) (pk_cons (pv 2) (pk_cons (pv 0) pk_nil)))) (pe_calS c_remove (hr.mono (by decide)) (by rfl) (fun σ => passAt tk1 σ) (pa_cons (pv 0) (pa_cons (pv 2) (pa_cons (pv 3) pa_nil))))) pa_nil))))))) (.as (i := 6) sc_law_got.nd rfl rfl (names_sup e_NotRoom (by rfl)) (fun _ _ _ _ _ hz hf => (pss_one (ps_ret (pe_tup (pa_cons pe_str (pa_cons (pe_byS e_NotRoom hz hf (pv 6)) pa_nil)))))) (.as (i := 6) sc_law_got.nd rfl rfl (names_sup e_NoEntry (by rfl)) (fun _ _ _ _ _ hz hf => (pss_one (ps_ret (pe_tup (pa_cons pe_str (pa_cons (pe_byS e_NoEntry hz hf (pv 6)) pa_nil)))))) (.as (i := 6) sc_law_got.nd rfl rfl (names_sup e_NotPlain (by rfl)) (fun _ _ _ _ _ hz hf => (pss_one (ps_ret (pe_tup (pa_cons pe_str (pa_cons (pe_byS e_NotPlain hz hf (pv 6)) pa_nil)))))) (.as (i := 6) sc_law_got.nd rfl rfl (names_sup e_Exists (by rfl)) (fun _ _ _ _ _ hz hf => (pss_one (ps_ret (pe_tup (pa_cons pe_str (pa_cons (pe_byS e_Exists hz hf (pv 6)) pa_nil)))))) (.cons (names_of e_NotEmpty (by rfl)) (fun _ _ _ _ _ _ _ => (pss_one (ps_ret (pe_tup (pa_cons pe_str (pa_cons pe_non pa_nil)))))) (.as (i := 6) sc_law_got.nd rfl rfl (names_sup e_TooManySigns (by rfl)) (fun _ _ _ _ _ hz hf => (pss_one (ps_ret (pe_tup (pa_cons pe_str (pa_cons (pe_byS e_TooManySigns hz hf (pv 6)) pa_nil)))))) (.as (i := 6) sc_law_got.nd rfl rfl (names_sup e_TooLarge (by rfl)) (fun _ _ _ _ _ hz hf => (pss_one (ps_ret (pe_tup (pa_cons pe_str (pa_cons (pe_byS e_TooLarge hz hf (pv 6)) pa_nil)))))) .nil))))))))), ?_⟩
  rw [show start ["store", "word", "here", "path", "node", "named", "e"] [v_store, v_word, v_here, v_path, v_node, v_named] = [some v_store, some v_word, some v_here, some v_path, some v_node, some v_named, none] from rfl]
  try dsimp only [cxOf, Cx.nox, Cx.wish]
  obtain ⟨s, w', here, path, b, hS, wf, rfl, rfl, hr, rfl, hp, rfl, few, hq⟩ := h
  walk_at "rd"
  generalize hW : wMA K _ _ _ = W
  have hand : ∀ (R : Er → Prop), (∀ e t H', Same H H' → R e → H' t = some (.tup (erT e)) → Q (.ref t) H') → ¬ R .isroom → ¬ R .nofile → ¬ R .inside → ∀ (e : Er) (H' : Hp) (C : Addr) (d : Option Addr), Same H H' → R e → mg e.nm = some (.ref C) → e.At H' d → W (.ref C) d [some v_store, some (.str w'), some (.int (here : Nat)), some (.str path), some v_node, some (.bl b), none] H' := by
    intro R qR n_isroom n_nofile n_inside e H' C d k hD g x
    subst hW
    cases e with
    | room i =>
      obtain ⟨a, rfl, hx⟩ := x
      cases e_NotRoom.one g
      refine rd_hitMN (e_NotRoom.m (T.m_NotRoom_NotRoom _ _ e_NotRoom.gC e_NotRoom.gC)) fun a ha => ?_
      walk_at "rd"
      refine ⟨rfl, rfl, _, _, rfl, hx, ?_⟩
      walk_at "rd"
      intro t ht
      exact qR (.room i) t _ (k.new (o := .tup [.str "room", .int (i : Nat)]) ht) hD upd_same
    | entry i =>
      obtain ⟨a, rfl, hx⟩ := x
      cases e_NoEntry.one g
      refine rd_missMN (e_NotRoom.m (T.m_NoEntry_NotRoom _ _ e_NoEntry.gC e_NotRoom.gC)) ?_
      refine rd_hitMN (e_NoEntry.m (T.m_NoEntry_NoEntry _ _ e_NoEntry.gC e_NoEntry.gC)) fun a ha => ?_
      walk_at "rd"
      refine ⟨rfl, rfl, _, _, rfl, hx, ?_⟩
      walk_at "rd"
      intro t ht
      exact qR (.entry i) t _ (k.new (o := .tup [.str "entry", .int (i : Nat)]) ht) hD upd_same
    | plain i =>
      obtain ⟨a, rfl, hx⟩ := x
      cases e_NotPlain.one g
      refine rd_missMN (e_NotRoom.m (T.m_NotPlain_NotRoom _ _ e_NotPlain.gC e_NotRoom.gC)) ?_
      refine rd_missMN (e_NoEntry.m (T.m_NotPlain_NoEntry _ _ e_NotPlain.gC e_NoEntry.gC)) ?_
      refine rd_hitMN (e_NotPlain.m (T.m_NotPlain_NotPlain _ _ e_NotPlain.gC e_NotPlain.gC)) fun a ha => ?_
      walk_at "rd"
      refine ⟨rfl, rfl, _, _, rfl, hx, ?_⟩
      walk_at "rd"
      intro t ht
      exact qR (.plain i) t _ (k.new (o := .tup [.str "plain", .int (i : Nat)]) ht) hD upd_same
    | exist i =>
      obtain ⟨a, rfl, hx⟩ := x
      cases e_Exists.one g
      refine rd_missMN (e_NotRoom.m (T.m_Exists_NotRoom _ _ e_Exists.gC e_NotRoom.gC)) ?_
      refine rd_missMN (e_NoEntry.m (T.m_Exists_NoEntry _ _ e_Exists.gC e_NoEntry.gC)) ?_
      refine rd_missMN (e_NotPlain.m (T.m_Exists_NotPlain _ _ e_Exists.gC e_NotPlain.gC)) ?_
      refine rd_hitMN (e_Exists.m (T.m_Exists_Exists _ _ e_Exists.gC e_Exists.gC)) fun a ha => ?_
      walk_at "rd"
      refine ⟨rfl, rfl, _, _, rfl, hx, ?_⟩
      walk_at "rd"
      intro t ht
      exact qR (.exist i) t _ (k.new (o := .tup [.str "exists", .int (i : Nat)]) ht) hD upd_same
    | full =>
      have x : d = none := x
      subst x
      cases e_NotEmpty.one g
      refine rd_missMN (e_NotRoom.m (T.m_NotEmpty_NotRoom _ _ e_NotEmpty.g e_NotRoom.gC)) ?_
      refine rd_missMN (e_NoEntry.m (T.m_NotEmpty_NoEntry _ _ e_NotEmpty.g e_NoEntry.gC)) ?_
      refine rd_missMN (e_NotPlain.m (T.m_NotEmpty_NotPlain _ _ e_NotEmpty.g e_NotPlain.gC)) ?_
      refine rd_missMN (e_Exists.m (T.m_NotEmpty_Exists _ _ e_NotEmpty.g e_Exists.gC)) ?_
      refine rd_hitMA (e_NotEmpty.m (T.m_NotEmpty_NotEmpty _ _ e_NotEmpty.g e_NotEmpty.g)) fun a ha => ?_
      walk_at "rd"
      intro t ht
      exact qR (.full) t _ (k.new (o := .tup [.str "full", .non]) ht) hD upd_same
    | signs =>
      obtain ⟨a, rfl, hx⟩ := x
      cases e_TooManySigns.one g
      refine rd_missMN (e_NotRoom.m (T.m_TooManySigns_NotRoom _ _ e_TooManySigns.gC e_NotRoom.gC)) ?_
      refine rd_missMN (e_NoEntry.m (T.m_TooManySigns_NoEntry _ _ e_TooManySigns.gC e_NoEntry.gC)) ?_
      refine rd_missMN (e_NotPlain.m (T.m_TooManySigns_NotPlain _ _ e_TooManySigns.gC e_NotPlain.gC)) ?_
      refine rd_missMN (e_Exists.m (T.m_TooManySigns_Exists _ _ e_TooManySigns.gC e_Exists.gC)) ?_
      refine rd_missMA (e_NotEmpty.m (T.m_TooManySigns_NotEmpty _ _ e_TooManySigns.gC e_NotEmpty.g)) ?_
      refine rd_hitMN (e_TooManySigns.m (T.m_TooManySigns_TooManySigns _ _ e_TooManySigns.gC e_TooManySigns.gC)) fun a ha => ?_
      walk_at "rd"
      refine ⟨rfl, rfl, _, _, rfl, hx, ?_⟩
      walk_at "rd"
      intro t ht
      exact qR (.signs) t _ (k.new (o := .tup [.str "signs", .int 20]) ht) hD upd_same
    | large =>
      obtain ⟨a, rfl, hx⟩ := x
      cases e_TooLarge.one g
      refine rd_missMN (e_NotRoom.m (T.m_TooLarge_NotRoom _ _ e_TooLarge.gC e_NotRoom.gC)) ?_
      refine rd_missMN (e_NoEntry.m (T.m_TooLarge_NoEntry _ _ e_TooLarge.gC e_NoEntry.gC)) ?_
      refine rd_missMN (e_NotPlain.m (T.m_TooLarge_NotPlain _ _ e_TooLarge.gC e_NotPlain.gC)) ?_
      refine rd_missMN (e_Exists.m (T.m_TooLarge_Exists _ _ e_TooLarge.gC e_Exists.gC)) ?_
      refine rd_missMA (e_NotEmpty.m (T.m_TooLarge_NotEmpty _ _ e_TooLarge.gC e_NotEmpty.g)) ?_
      refine rd_missMN (e_TooManySigns.m (T.m_TooLarge_TooManySigns _ _ e_TooLarge.gC e_TooManySigns.gC)) ?_
      refine rd_hitMN (e_TooLarge.m (T.m_TooLarge_TooLarge _ _ e_TooLarge.gC e_TooLarge.gC)) fun a ha => ?_
      walk_at "rd"
      refine ⟨rfl, rfl, _, _, rfl, hx, ?_⟩
      walk_at "rd"
      intro t ht
      exact qR (.large) t _ (k.new (o := .tup [.str "large", .int 60]) ht) hD upd_same
    | isroom => exact (n_isroom hD).elim
    | nofile => exact (n_nofile hD).elim
    | inside => exact (n_inside hD).elim
  clear hW
  have mr : ("make" : Str) ≠ "remove" := by decide +kernel
  refine rd_ite (fun hw => ?_) (fun hw => ?_)
  · have hw := of_decide_eq_true hw
    obtain ⟨_, nd, hN, hnew, hok, q⟩ | ⟨e, _⟩ := hq
    rotate_left
    · exact absurd (hw.symm.trans e) mr
    have hand := hand (fun e => Made s here path nd (.inr e)) (fun e t H' k h ht => q (.inr e) t H' k h ht) (fun h => (made_ok h).1 rfl) (fun h => (made_ok h).2.1 rfl) (fun h => (made_ok h).2.2 rfl)
    have done : ∀ (s' : Sto) (k : Nat) (v : V) (t : Addr) (H1 : Hp), Same H H1 → Made s here path nd (.inl (s', k)) → H1 t = some (.tup [v, .int (k : Nat)]) → StAt H1 v s' → ∀ t2, H1 t2 = none → Q (.ref t2) (upd H1 t2 (.tup [.str "done", .ref t])) := fun s' k v t H1 k1 h ht hv t2 ht2 => by
      have k2 := (Same.refl H1).new (o := .tup [.str "done", .ref t]) ht2
      exact q (.inl (s', k)) t2 _ (k1.trans k2) h ⟨v, t, upd_same, k2 _ _ ht, hv.up (Ty.of k2)⟩
    walk_at "rd"
    cases b with
    | true =>
      walk_at "rd"
      refine ⟨rfl, rfl, _, _, _, _, rfl, s, here, path, nd, hS, wf, rfl, hr, rfl, hp, hN, hnew, hok, fun s' k v t H1 k1 h ht hv => ?_, fun e H' C d k r g x => hand e H' C d k r g x⟩
      walk_at "rd"
      exact fun t2 ht2 => done s' k v t H1 k1 h ht hv t2 ht2
    | false =>
      walk_at "rd"
      refine ⟨s, here, path, nd, hS, wf, rfl, hr, rfl, hp, hN, hnew, hok, fun s' k v t H1 k1 h ht hv => ?_, fun e H' C d k r g x => hand e H' C d k r g x⟩
      walk_at "rd"
      exact fun t2 ht2 => done s' k v t H1 k1 h ht hv t2 ht2
  · have hw := of_decide_eq_false hw
    obtain ⟨e, _⟩ | ⟨_, q⟩ := hq
    · exact absurd e hw
    have hand := hand (fun e => Removed s here path (.inr e)) (fun e t H' k h ht => q (.inr e) t H' k h ht) (fun h => (removed_ok h).1 rfl) (fun h => (removed_ok h).2.1 rfl) (fun h => (removed_ok h).2.2 rfl)
    have done : ∀ (s' : Sto) (v : V) (H1 : Hp), Same H H1 → Removed s here path (.inl s') → StAt H1 v s' → ∀ t2, H1 t2 = none → Q (.ref t2) (upd H1 t2 (.tup [.str "done", v])) := fun s' v H1 k1 h hv t2 ht2 => by
      have k2 := (Same.refl H1).new (o := .tup [.str "done", v]) ht2
      exact q (.inl s') t2 _ (k1.trans k2) h ⟨v, upd_same, hv.up (Ty.of k2)⟩
    walk_at "rd"
    cases b with
    | true =>
      walk_at "rd"
      refine ⟨rfl, rfl, _, _, _, rfl, s, here, path, hS, wf, rfl, hr, rfl, hp, few, fun s' v H1 k1 h hv => ?_, fun e H' C d k r g x => hand e H' C d k r g x⟩
      walk_at "rd"
      exact fun t2 ht2 => done s' v H1 k1 h hv t2 ht2
    | false =>
      walk_at "rd"
      refine ⟨s, here, path, hS, wf, rfl, hr, rfl, hp, few, fun s' v H1 k1 h hv => ?_, fun e H' C d k r g x => hand e H' C d k r g x⟩
      walk_at "rd"
      exact fun t2 ht2 => done s' v H1 k1 h hv t2 ht2

/-! ### a store with sixty nodes, or nearly so -/
def nN (i : Nat) : Str := ("n" : Str) ++ Str.ofString (toString (i : Int))
theorem nN_inj : ∀ i < 61, ∀ j < 61, nN i = nN j → i = j := by decide +kernel
theorem nN_ent : ∀ i < 61, entB (nN i) = true := by decide +kernel
def entW (m : Nat) : List (Str × Nat) := (List.range m).map fun i => (nN (i + 1), i + 1)
def crowdS (m : Nat) : Sto := [some (.room (srtE (entW m)))] ++ List.replicate (m - 1) (some (.file "")) ++ [some (.room [])]
def crG (m : Nat) : Gh := [(0, 0, entW m), (m, 0, [])]
def crO (m : Nat) : List (Nat × Nd) := (List.range (m - 1)).map fun i => (i + 1, Nd.file "")
theorem mem_entW {m : Nat} {e : Str × Nat} : e ∈ entW m ↔ ∃ i < m, e = (nN (i + 1), i + 1) := by
  unfold entW
  rw [List.mem_map]
  exact ⟨fun ⟨i, h, e⟩ => ⟨i, List.mem_range.mp h, e.symm⟩, fun ⟨i, h, e⟩ => ⟨i, List.mem_range.mpr h, e.symm⟩⟩
theorem entW_nodup {m : Nat} (hm : m ≤ 59) : ((entW m).map (·.1)).Nodup := by
  unfold entW
  rw [List.map_map, List.nodup_iff_pairwise_ne, List.pairwise_map]
  refine (List.pairwise_lt_range).imp_of_mem fun {i j} hi hj h e => ?_
  have := nN_inj (i + 1) (by have := List.mem_range.mp hi; omega) (j + 1) (by have := List.mem_range.mp hj; omega) e
  omega
theorem cr_nums {m : Nat} (hm : 1 ≤ m) (k : Nat) : k ∈ rms (crG m) ++ (crO m).map (·.1) ↔ k ≤ m := by
  unfold rms crG crO
  simp only [List.map_cons, List.map_nil, List.map_map, List.mem_append, List.mem_cons, List.not_mem_nil, or_false, List.mem_map, List.mem_range, Function.comp]
  constructor
  · rintro ((h | h) | ⟨i, h, e⟩) <;> omega
  · intro h
    by_cases h0 : k = 0
    · exact .inl (.inl h0)
    · by_cases h1 : k = m
      · exact .inl (.inr h1)
      · exact .inr ⟨k - 1, by omega, by omega⟩
theorem cr_gi {m : Nat} (h1 : 1 ≤ m) (hm : m ≤ 59) : GI (crG m) ((crO m).map (·.1)) 60 (m + 1) := by
  have mG : ∀ {r a es}, (r, a, es) ∈ crG m → (r = 0 ∧ es = entW m) ∨ (r = m ∧ es = []) := by
    intro r a es h
    have h := List.mem_cons.mp h
    rw [List.mem_singleton] at h
    rcases h with h | h <;> cases h
    · exact .inl ⟨rfl, rfl⟩
    · exact .inr ⟨rfl, rfl⟩
  have g0 : ((0, 0, entW m) : Nat × Addr × List (Str × Nat)) ∈ crG m := List.mem_cons_self
  refine ⟨(by unfold rms crG; simp), ?_, fun k hk => by have := (cr_nums h1 k).mp hk; omega, ?_, ?_, ?_, ?_⟩
  · unfold rms crG crO
    refine List.nodup_append.mpr ⟨by simp; omega, ?_, fun a ha b hb e => ?_⟩
    · rw [List.map_map, List.nodup_iff_pairwise_ne, List.pairwise_map]
      exact (List.pairwise_lt_range).imp fun {i j} h e => by
        have e : i + 1 = j + 1 := e
        omega
    · subst e
      have ha : a = 0 ∨ a = m := by simpa using ha
      obtain ⟨x, hx, rfl⟩ := List.mem_map.mp hb
      obtain ⟨i, hi, rfl⟩ := List.mem_map.mp hx
      have := List.mem_range.mp hi
      have ha : i + 1 = 0 ∨ i + 1 = m := ha
      omega
  · intro r a es h e he
    rcases mG h with ⟨rfl, rfl⟩ | ⟨rfl, rfl⟩
    · obtain ⟨i, hi, rfl⟩ := mem_entW.mp he
      exact ⟨nN_ent _ (by omega), (cr_nums h1 _).mpr (by show i + 1 ≤ m; omega), by show i + 1 ≠ 0; omega⟩
    · cases he
  · intro r a es h
    rcases mG h with ⟨rfl, rfl⟩ | ⟨rfl, rfl⟩
    · exact ⟨entW_nodup hm, by unfold entW; rw [List.length_map, List.length_range]; omega⟩
    · exact ⟨List.nodup_nil, Nat.zero_le _⟩
  · intro r a es r' a' es' e e' h h' he he' eq _
    rcases mG h with ⟨rfl, rfl⟩ | ⟨rfl, rfl⟩
    · rcases mG h' with ⟨rfl, rfl⟩ | ⟨rfl, rfl⟩
      · obtain ⟨i, hi, rfl⟩ := mem_entW.mp he
        obtain ⟨j, hj, rfl⟩ := mem_entW.mp he'
        have eq : i + 1 = j + 1 := eq
        obtain rfl : i = j := by omega
        exact ⟨rfl, rfl⟩
      · cases he'
    · cases he
  · intro k hk
    have := (cr_nums h1 k).mp hk
    by_cases h0 : k = 0
    · rw [h0]
      exact .root
    · have st : GR (crG m) (nN (k - 1 + 1), k - 1 + 1).2 := .step .root g0 (mem_entW.mpr ⟨k - 1, by omega, rfl⟩)
      have st : GR (crG m) (k - 1 + 1) := st
      rwa [show k - 1 + 1 = k by omega] at st
theorem cr_at {m : Nat} (h1 : 1 ≤ m) {k : Nat} {nd : Nd} : (crowdS m)[k]? = some (some nd) ↔ (k, nd) ∈ crO m ∨ ∃ a es, (k, a, es) ∈ crG m ∧ nd = .room (srtE es) := by
  have up : srtE [] = [] := List.mergeSort_nil
  have mO : (k, nd) ∈ crO m ↔ 1 ≤ k ∧ k < m ∧ nd = .file "" := by
    unfold crO
    rw [List.mem_map]
    constructor
    · rintro ⟨i, hi, e⟩
      have := List.mem_range.mp hi
      cases e
      exact ⟨by omega, by omega, rfl⟩
    · rintro ⟨h1, h2, rfl⟩
      exact ⟨k - 1, List.mem_range.mpr (by omega), by rw [show k - 1 + 1 = k by omega]⟩
  have mG : (∃ a es, (k, a, es) ∈ crG m ∧ nd = .room (srtE es)) ↔ (k = 0 ∧ nd = .room (srtE (entW m))) ∨ (k = m ∧ nd = .room []) := by
    constructor
    · rintro ⟨a, es, h, rfl⟩
      have h := List.mem_cons.mp h
      rw [List.mem_singleton] at h
      rcases h with h | h <;> cases h
      · exact .inl ⟨rfl, rfl⟩
      · exact .inr ⟨rfl, by rw [up]⟩
    · rintro (⟨rfl, rfl⟩ | ⟨rfl, rfl⟩)
      · exact ⟨0, _, List.mem_cons_self, rfl⟩
      · exact ⟨0, [], List.mem_cons_of_mem _ List.mem_cons_self, by rw [up]⟩
  rw [mO, mG]
  unfold crowdS
  by_cases h0 : k = 0
  · subst h0
    show some (some (Nd.room (srtE (entW m)))) = some (some nd) ↔ _
    constructor
    · intro h; cases h; exact .inr (.inl ⟨rfl, rfl⟩)
    · rintro (⟨h, _⟩ | ⟨_, rfl⟩ | ⟨h, _⟩)
      · omega
      · rfl
      · omega
  · by_cases h2 : k < m
    · rw [List.getElem?_append_left (by rw [List.length_append, List.length_replicate]; show k < 1 + (m - 1); omega), List.getElem?_append_right (by show 1 ≤ k; omega), List.getElem?_replicate, if_pos (by show k - 1 < m - 1; omega)]
      constructor
      · intro h; cases h; exact .inl ⟨by omega, h2, rfl⟩
      · rintro (⟨_, _, rfl⟩ | ⟨h, _⟩ | ⟨h, _⟩)
        · rfl
        · omega
        · omega
    · have ll : ([some (Nd.room (srtE (entW m)))] ++ List.replicate (m - 1) (some (Nd.file ""))).length = m := by rw [List.length_append, List.length_replicate]; show 1 + (m - 1) = m; omega
      rw [List.getElem?_append_right (by rw [ll]; omega), ll]
      by_cases h3 : k = m
      · rw [h3, Nat.sub_self]
        show some (some (Nd.room [])) = some (some nd) ↔ _
        constructor
        · intro h; cases h; exact .inr (.inr ⟨rfl, rfl⟩)
        · rintro (⟨_, h, _⟩ | ⟨h, _⟩ | ⟨_, rfl⟩)
          · omega
          · omega
          · rfl
      · rw [List.getElem?_eq_none (by show 1 ≤ k - m; omega)]
        constructor
        · intro h; cases h
        · rintro (⟨_, h, _⟩ | ⟨h, _⟩ | ⟨h, _⟩) <;> omega
theorem cr_wf {m : Nat} (h1 : 1 ≤ m) (hm : m ≤ 59) : Wf (crowdS m) ∧ (∀ r, (entsAt (crowdS m) r).length ≤ 60) ∧ (crowdS m).length = m + 1 := by
  have len : (crowdS m).length = m + 1 := by
    unfold crowdS
    rw [List.length_append, List.length_append, List.length_replicate]
    show 1 + (m - 1) + 1 = m + 1
    omega
  have := wf_of (O := crO m) (c := 60) (L := m + 1) (cr_gi h1 hm) (by decide) (fun o ho => by
    obtain ⟨i, _, rfl⟩ := List.mem_map.mp ho
    exact .inl ⟨_, rfl, by decide +kernel⟩) (fun k nd => cr_at h1) (by omega) ⟨.room [], by
    rw [len, Nat.add_sub_cancel]
    exact (cr_at h1).mpr (.inr ⟨0, [], List.mem_cons_of_mem _ List.mem_cons_self, by rw [show srtE [] = [] from List.mergeSort_nil]⟩)⟩
  exact ⟨this.1, this.2, len⟩

theorem log_small' {i : Int} (h0 : 0 ≤ i) (h1 : i ≤ 1000) : i.natAbs.log2 < 1920 := by
  have := Nat.log2_le_self i.natAbs
  omega
def Φ_law_crowd (K : PySem.W.Frag) (vd : V) (H : Hp) (Q : VK) : Prop := ∃ (d : Addr) (m : Nat), vd = .ref d ∧ Dk d m H ∧ m + 1 ≤ LIM ∧ ∀ (v : V) (n : Nat) (H' : Hp), 57 ≤ n → n ≤ 59 → StAt H' v (crowdS n) → Dk d (m + 1) H' → Kp d H H' → Q v H'
theorem ok_law_crowd (T : Txt P K mg) {f : Addr} {fd : FuncData} (F : Fun K "_law_crowd" "_law_crowd" s_law_crowd f fd) : Keeps P w K mg base CX0 2 f fd ["deck"] (sp1 (Φ_law_crowd K)) := by
  have c_law_draw := cal (P := P) (w := w) (base := base) T.d_law_draw fun F => ok_law_draw T F
  refine keeps0_of F sc_law_crowd (fun vs H Q E h => ?_) (fun cdv A outer s H vs Q E hr h => ?_)
  · obtain ⟨_, rfl, _⟩ := h
    rfl
  obtain ⟨v_deck, rfl, h⟩ := h
  have hu := hr.hu
  refine ⟨_, (pss_cons (ps_set (i := 1) sc_law_crowd.nd rfl (by first | exact Or.inl rfl | exact Or.inr rfl) (pe_op (oAdd (K := K)) pe_int (pe_cal c_law_draw (hr.mono (by decide)) (by rfl) pass0 (pa_cons (pv 0) (pa_cons pe_int pa_nil)))))
      (pss_cons (ps_setLc (i := 2) (own := [("number", 3)]) rfl sc_law_crowd.nd rfl rfl (sw_true rfl rfl rfl (by decide +kernel)) (pi_range2 (by rfl) T.b_range (pa_cons pe_int (pa_cons (pe_op (oAdd (K := K)) (pv 1) pe_int) pa_nil))) (blkOk_by (own := [("number", 3)]) (N := ["deck", "many", "entries", "number"]) (sc := defScope s_law_crowd) (by decide +kernel)) (fun _ _ _ _ _ => pg_name (i := 3) sc_law_crowd.nd rfl (by first | exact Or.inl rfl | exact Or.inr rfl)) (fun _ _ _ _ _ => pts_nil) (fun _ _ _ _ _ => (pe_tup (pa_cons (pe_op (oAdd (K := K)) pe_str (pe_callTy callStrX (by rfl) T.b_str (by decide +kernel) (pa_cons (pv 3) pa_nil))) (pa_cons (pv 3) pa_nil)))))
      (pss_one (ps_ret (pe_op (oAdd (K := K)) (pe_op (oAdd (K := K)) (pe_tup (pa_cons (pe_tupF (pa_cons pe_str (pa_cons (pe_callTy (callTupF (K := K)) (by rfl) T.b_tuple (by decide +kernel) (pa_cons (pe_callB (call_sortD (K := K) hr.u65) (by rfl) T.b_sorted (by decide +kernel) (pa_cons (pv 2) pa_nil)) pa_nil)) pa_nil))) pa_nil)) (pe_op (oMul (K := K)) (pe_tup (pa_cons (pe_tupF (pa_cons pe_str (pa_cons pe_str pa_nil))) pa_nil)) (pe_op oSub (pv 1) pe_int))) (pe_tup (pa_cons (pe_tupF (pa_cons pe_str (pa_cons (pe_tupF pa_nil) pa_nil))) pa_nil))))))), ?_⟩
  rw [show start ["deck", "many", "entries", "number"] [v_deck] = [some v_deck, none, none, none] from rfl]
  try dsimp only [cxOf, Cx.nox, Cx.wish]
  obtain ⟨d, m, rfl, hd, hm, q⟩ := h
  walk_at "rd"
  refine use_draw hd (by decide) (by decide) (by omega) fun v H1 v0 v1 d1 k1 => ?_
  obtain ⟨v, rfl⟩ : ∃ k : Nat, v = (k : Int) := ⟨v.toNat, by omega⟩
  walk_at "rd"
  obtain ⟨n, hn, n1, n2⟩ : ∃ n : Nat, 57 + (v : Int) = (n : Int) ∧ 57 ≤ n ∧ n ≤ 59 := ⟨57 + v, by omega, by omega, by omega⟩
  rw [hn]
  refine rd_clR2 (by omega) (fun D i H' => Same H1 H' ∧ ∃ xs, H' D = some (.lst xs) ∧ Paired (pairV H') xs (entW i)) (fun D hD => ⟨(Same.refl H1).new (o := .lst []) hD, [], upd_same, .nil⟩) (fun D i H' hD hi hP => ?_) (fun D H2 hD hP => ?_)
  · obtain ⟨k2, xs, hL, px⟩ := hP
    have lx := Paired.length px
    have le : (entW i).length = i := by unfold entW; rw [List.length_map, List.length_range]
    rw [show (1 : Int) + (i : Int) = ((i + 1 : Nat) : Int) by omega]
    refine rd_lcT1 ?_
    walk_at "rd"
    refine ⟨_, rfl, log_small' (by omega) (by omega), ?_⟩
    refine rd_addS (szOk (by have := (entB_len (nN_ent (i + 1) (by omega))).2; unfold nN at this; rw [len_app] at this; omega)) ?_
    walk_at "rd"
    intro t ht
    have k3 := (Same.refl H').new (o := .tup [.str ("n" ++ Str.ofString (toString ((i + 1 : Nat) : Int))), .int ((i + 1 : Nat) : Int)]) ht
    have hL3 := k3 _ _ hL
    have g3 : upd H' t (.tup [.str ("n" ++ Str.ofString (toString ((i + 1 : Nat) : Int))), .int ((i + 1 : Nat) : Int)]) t = some (.tup [.str ("n" ++ Str.ofString (toString ((i + 1 : Nat) : Int))), .int ((i + 1 : Nat) : Int)]) := upd_same
    generalize upd H' t (.tup [.str ("n" ++ Str.ofString (toString ((i + 1 : Nat) : Int))), .int ((i + 1 : Nat) : Int)]) = H3 at k3 hL3 g3 ⊢
    have ty := (Ty.refl H3).lst (o := .lst (xs ++ [.ref t])) hL3
    refine ⟨xs, hL3, szLt (by omega), (k2.trans k3).put hD, _, upd_same, ?_⟩
    have e : entW (i + 1) = entW i ++ [(nN (i + 1), i + 1)] := by unfold entW; rw [List.range_succ, List.map_append]; rfl
    rw [e]
    exact pd_app (pd_mono (fun _ _ q => pairV.up q ((Ty.of k3).trans ty)) px) (.cons ⟨t, rfl, (Rt.of g3).up ty⟩ .nil)
  · obtain ⟨k2, xs, hL, px⟩ := hP
    rw [show ((n : Int) + 1 - 1).toNat = n by omega] at px
    walk_at "rd"
    refine rd_tupF ?_
    walk_at "rd"
    refine rd_sortE hL px fun l ys H3 s3 hl3 py => ?_
    walk_at "rd"
    refine ⟨l, ys, rfl, SqL.of hl3, fun tA o od htA => ?_⟩
    have s4 := (Same.refl H3).new (o := .frz o (.tup ys)) htA
    have g4 : upd H3 tA (.frz o (.tup ys)) tA = some (.frz o (.tup ys)) := upd_same
    have py4 := pd_mono (fun _ _ q => pairV.up q (Ty.of s4)) py
    generalize upd H3 tA (.frz o (.tup ys)) = H4 at s4 g4 py4 ⊢
    walk_at "rd"
    intro t5 o5 od5 ht5
    have s5 := (Same.refl H4).new (o := .frz o5 (.tup [.str "room", .ref tA])) ht5
    have g5 : upd H4 t5 (.frz o5 (.tup [.str "room", .ref tA])) t5 = some (.frz o5 (.tup [.str "room", .ref tA])) := upd_same
    generalize upd H4 t5 (.frz o5 (.tup [.str "room", .ref tA])) = H5 at s5 g5 ⊢
    have nd5 : NdAt H5 (.ref t5) (some (.room (srtE (entW n)))) := ⟨t5, tA, rfl, .inr ⟨o5, g5⟩, ys, ⟨o, od, s5 _ _ g4⟩, pd_mono (fun _ _ q => pairV.up q (Ty.of s5)) py4⟩
    walk_at "rd"
    intro t6 ht6
    have s6 := (Same.refl H5).new (o := .tup [.ref t5]) ht6
    have g6 : Rt (upd H5 t6 (.tup [.ref t5])) t6 [.ref t5] := .inl upd_same
    generalize upd H5 t6 (.tup [.ref t5]) = H6 at s6 g6 ⊢
    walk_at "rd"
    refine rd_tupF ?_
    walk_at "rd"
    intro t7 o7 od7 ht7
    have s7 := (Same.refl H6).new (o := .frz o7 (.tup [.str "file", .str ""])) ht7
    have g7 : upd H6 t7 (.frz o7 (.tup [.str "file", .str ""])) t7 = some (.frz o7 (.tup [.str "file", .str ""])) := upd_same
    generalize upd H6 t7 (.frz o7 (.tup [.str "file", .str ""])) = H7 at s7 g7 ⊢
    walk_at "rd"
    intro t8 ht8
    have s8 := (Same.refl H7).new (o := .tup [.ref t7]) ht8
    have g8 : upd H7 t8 (.tup [.ref t7]) t8 = some (.tup [.ref t7]) := upd_same
    generalize upd H7 t8 (.tup [.ref t7]) = H8 at s8 g8 ⊢
    walk_at "rd"
    refine rd_repT (SqT.of g8) (List.cons_ne_nil _ _) (by omega) (by omega) (by show 1 ≤ 1000; omega) fun l9 hl9 => ?_
    have s9 := (Same.refl H8).new (o := .tup (List.replicate ((n : Int) - 1).toNat [V.ref t7]).flatten) hl9
    have g9 : Rt (upd H8 l9 (.tup (List.replicate ((n : Int) - 1).toNat [V.ref t7]).flatten)) l9 (List.replicate (n - 1) (.ref t7)) := by
      refine .inl ?_
      rw [upd_same, show ((n : Int) - 1).toNat = n - 1 by omega]
      congr 2
      generalize n - 1 = m
      induction m with
      | zero => rfl
      | succ m ih => rw [List.replicate_succ, List.flatten_cons, ih, List.replicate_succ]; rfl
    generalize upd H8 l9 (.tup (List.replicate ((n : Int) - 1).toNat [V.ref t7]).flatten) = H9 at s9 g9 ⊢
    refine rd_catR (g6.up (Ty.of ((s7.trans s8).trans s9))) g9 (szOk (by rw [List.length_replicate]; show 1 + (n - 1) ≤ 1000000; omega)) fun r10 H10 s10 h10 => ?_
    walk_at "rd"
    refine rd_tupF ?_
    walk_at "rd"
    refine rd_tupF ?_
    walk_at "rd"
    intro t11 o11 od11 ht11
    have s11 := (Same.refl H10).new (o := .frz o11 (.tup [])) ht11
    have g11 : upd H10 t11 (.frz o11 (.tup [])) t11 = some (.frz o11 (.tup [])) := upd_same
    generalize upd H10 t11 (.frz o11 (.tup [])) = H11 at s11 g11 ⊢
    walk_at "rd"
    intro t12 o12 od12 ht12
    have s12 := (Same.refl H11).new (o := .frz o12 (.tup [.str "room", .ref t11])) ht12
    have g12 : upd H11 t12 (.frz o12 (.tup [.str "room", .ref t11])) t12 = some (.frz o12 (.tup [.str "room", .ref t11])) := upd_same
    generalize upd H11 t12 (.frz o12 (.tup [.str "room", .ref t11])) = H12 at s12 g12 ⊢
    have nd12 : NdAt H12 (.ref t12) (some (.room [])) := ⟨t12, t11, rfl, .inr ⟨o12, g12⟩, [], ⟨o11, od11, s12 _ _ g11⟩, .nil⟩
    walk_at "rd"
    intro t13 ht13
    have s13 := (Same.refl H12).new (o := .tup [.ref t12]) ht13
    have g13 : Rt (upd H12 t13 (.tup [.ref t12])) t13 [.ref t12] := .inl upd_same
    generalize upd H12 t13 (.tup [.ref t12]) = H13 at s13 g13 ⊢
    have s1013 := (s11.trans s12).trans s13
    refine rd_catR (h10.up (Ty.of s1013)) g13 (szOk (by rw [List.length_append, List.length_replicate]; show 1 + (n - 1) + 1 ≤ 1000000; omega)) fun r14 H14 s14 h14 => ?_
    have s514 := ((((s6.trans s7).trans s8).trans s9).trans s10).trans (s1013.trans s14)
    have s714 := ((s8.trans s9).trans s10).trans (s1013.trans s14)
    have all := (((k2.trans s3).trans s4).trans s5).trans s514
    refine q _ n H14 n1 n2 ⟨r14, _, rfl, h14, ?_⟩ (d1.same all) (k1.trans (Kp.of all))
    unfold crowdS
    exact pd_app (pd_app (.cons (nd5.up (Ty.of s514)) .nil) (pd_rep (show NdAt H14 (.ref t7) (some (.file "")) from ⟨t7, rfl, .inr ⟨o7, s714 _ _ g7⟩⟩) _)) (.cons (nd12.up (Ty.of (s13.trans s14))) .nil)

theorem Made.one {s : Sto} {here : Nat} {path : Str} {nd : Nd} {o o' : Sto × Nat ⊕ Er} (h : Made s here path nd o) (h' : Made s here path nd o') : o = o' := by
  cases h with
  | place h1 =>
    cases h' with
    | place h2 => cases Place.one h1 h2; rfl
    | exist h2 => cases Place.one h1 h2
    | large h2 => cases Place.one h1 h2
    | done h2 => cases Place.one h1 h2
  | exist h1 a1 =>
    cases h' with
    | place h2 => cases Place.one h1 h2
    | exist h2 => rfl
    | large h2 a2 => cases Place.one h1 h2; rw [a1] at a2; cases a2
    | done h2 a2 => cases Place.one h1 h2; rw [a1] at a2; cases a2
  | large h1 a1 b1 =>
    cases h' with
    | place h2 => cases Place.one h1 h2
    | exist h2 a2 => cases Place.one h1 h2; rw [a1] at a2; cases a2
    | large h2 => rfl
    | done h2 a2 b2 => rw [b1] at b2; cases b2
  | done h1 a1 b1 =>
    cases h' with
    | place h2 => cases Place.one h1 h2
    | exist h2 a2 => cases Place.one h1 h2; rw [a1] at a2; cases a2
    | large h2 a2 b2 => rw [b1] at b2; cases b2
    | done h2 a2 b2 => cases Place.one h1 h2; rw [b1] at b2; cases b2; rfl
theorem Removed.one {s : Sto} {here : Nat} {path : Str} {o o' : Sto ⊕ Er} (h : Removed s here path o) (h' : Removed s here path o') : o = o' := by
  cases h with
  | place h1 =>
    cases h' with
    | place h2 => cases Place.one h1 h2; rfl
    | entry h2 => cases Place.one h1 h2
    | full h2 => cases Place.one h1 h2
    | done h2 => cases Place.one h1 h2
  | entry h1 a1 =>
    cases h' with
    | place h2 => cases Place.one h1 h2
    | entry h2 => rfl
    | full h2 a2 => cases Place.one h1 h2; rw [a1] at a2; cases a2
    | done h2 a2 => cases Place.one h1 h2; rw [a1] at a2; cases a2
  | full h1 a1 b1 c1 =>
    cases h' with
    | place h2 => cases Place.one h1 h2
    | entry h2 a2 => cases Place.one h1 h2; rw [a1] at a2; cases a2
    | full h2 => rfl
    | done h2 a2 b2 => cases Place.one h1 h2; rw [a1] at a2; cases a2; exact absurd (b2 b1) c1
  | done h1 a1 b1 =>
    cases h' with
    | place h2 => cases Place.one h1 h2
    | entry h2 a2 => cases Place.one h1 h2; rw [a1] at a2; cases a2
    | full h2 a2 b2 c2 => cases Place.one h1 h2; rw [a1] at a2; cases a2; exact absurd (b1 b2) c2
    | done h2 a2 => cases Place.one h1 h2; rfl
theorem last_ix {z : Str} (hz : pathB (.str z) = true) : lastI z ≤ 101 := by
  have zl := pathB_len hz
  have lw := words_len z
  unfold lastI
  omega
theorem made_ix {s : Sto} {here : Nat} {path : Str} {nd : Nd} {e : Er} (hp : pathB (.str path) = true) (h : Made s here path nd (.inr e)) : e.ix ≤ 101 := by
  cases h with
  | place h => exact place_ix hp h
  | exist => exact last_ix hp
  | large => exact Nat.zero_le _
theorem removed_ix {s : Sto} {here : Nat} {path : Str} {e : Er} (hp : pathB (.str path) = true) (h : Removed s here path (.inr e)) : e.ix ≤ 101 := by
  cases h with
  | place h => exact place_ix hp h
  | entry => exact last_ix hp
  | full => exact Nat.zero_le _
/-- what make gives, as data -/
def muD : Sto × Nat ⊕ Er → PyData
  | .inl (s, k) => .tuple [.str "done", .tuple [stD s, .int (k : Nat)]]
  | .inr e => .tuple [.str e.word, e.valD]
theorem dp_mu {K : PySem.W.Frag} {H : Hp} {t : Addr} {o : Sto × Nat ⊕ Er} (h : MuAt H t o) : Dp K H (.ref t) (muD o) := by
  cases o with
  | inl x =>
    obtain ⟨s, k⟩ := x
    obtain ⟨v, t2, h1, h2, h3⟩ := h
    exact .tup (SqT.of h1) (.cons (.str _) (.cons (.tup (SqT.of h2) (.cons (dp_st h3) (.cons (.int _) .nil))) .nil))
  | inr e => exact dp_out (o := .inr e) h
theorem Bd.pair {k w1 w2 : Nat} {d e : PyData} (h : Bd k w1 d) (h' : Bd k w2 e) : Bd (k + 1) (w1 + w2 + 2) (.tuple [d, e]) := by
  have a := h.dp
  have b := h'.dp
  have c := h.w
  have f := h'.w
  refine ⟨?_, ?_, ?_⟩
  · show (good d && (good e && true)) = true
    rw [h.g, h'.g]
    rfl
  · show Nat.succ (max d.depth (max e.depth 0)) ≤ k + 1
    omega
  · show d.weight + 1 + (e.weight + 1 + 0) ≤ _
    omega
theorem made_shows {s : Sto} {k : Nat} (wf : Wf s) (few : ∀ r, (entsAt s r).length ≤ 80) (hk : k < 60) : Shows (muD (.inl (s, k))) := by
  have b1 : Bd 5 414082 (.tuple [stD s, .int (k : Nat)]) := Bd.pair (st_bd wf few) ((Bd.int (i := (k : Int)) (by omega)).mono (Nat.zero_le _) (Nat.le_refl _))
  have b2 : Bd 5 20 (.str "done") := (Bd.str (x := "done") (by decide +kernel)).mono (Nat.zero_le _) (by decide +kernel)
  exact (Bd.pair b2 b1).shows (by decide) (by decide)
theorem mu_shows_er {e : Er} (h : e.ix ≤ 1000) : Shows (muD (.inr e)) := er_shows h
/-- what is due, and where it lies -/
def DueR (w : Str) (s : Sto) (here : Nat) (path : Str) (nd : Nd) (H : Hp) (t : Addr) : Prop := (w = "make" ∧ ∃ o, Made s here path nd o ∧ MuAt H t o) ∨ (w = "remove" ∧ ∃ o, Removed s here path o ∧ OuAt H t o)
theorem MuAt.same {H H' : Hp} {t : Addr} {o : Sto × Nat ⊕ Er} (h : MuAt H t o) (k : Same H H') : MuAt H' t o := by
  cases o with
  | inl x =>
    obtain ⟨s, n⟩ := x
    obtain ⟨v, t2, h1, h2, h3⟩ := h
    exact ⟨v, t2, k _ _ h1, k _ _ h2, h3.up (Ty.of k)⟩
  | inr e => exact k _ _ h
theorem DueR.same {w : Str} {s : Sto} {here : Nat} {path : Str} {nd : Nd} {H H' : Hp} {t : Addr} (h : DueR w s here path nd H t) (k : Same H H') : DueR w s here path nd H' t := by
  rcases h with ⟨e, o, h, m⟩ | ⟨e, o, h, m⟩
  · exact .inl ⟨e, o, h, m.same k⟩
  · exact .inr ⟨e, o, h, m.same k⟩
theorem gone_ents {s : Sto} {r : Nat} {w : Str} (hr : roomAt s r) (j : Nat) : (entsAt (letGo (withE s r w none)) j).length ≤ (entsAt s j).length := by
  refine Nat.le_trans ?_ ((withE_none (w := w) hr).2.1 j)
  cases e : entsAt (letGo (withE s r w none)) j with
  | nil => exact Nat.zero_le _
  | cons x l =>
    obtain ⟨es, h1, _⟩ := mem_ents.mp (show x ∈ entsAt (letGo (withE s r w none)) j by rw [e]; exact List.mem_cons_self)
    have h2 := (letGo_node.mp h1).1
    rw [← e, entsAt_room h1, entsAt_room h2]
    exact Nat.le_refl _
theorem gone_wf {s s' : Sto} {here : Nat} {path : Str} (wf : Wf s) (h : Removed s here path (.inl s')) : Wf s' ∧ ∀ j, (entsAt s' j).length ≤ (entsAt s j).length := by
  cases h with
  | done hP he hn =>
    obtain ⟨hroom, _, _⟩ := hP.at_room
    exact ⟨wf_removed wf hroom he hn, gone_ents hroom⟩
theorem due_data {K : PySem.W.Frag} {w : Str} {s : Sto} {here : Nat} {path : Str} {nd : Nd} {H : Hp} {t : Addr} (wf : Wf s) (few : ∀ r, (entsAt s r).length ≤ 75) (hp : pathB (.str path) = true) (hr : roomAt s here) (hn : newN nd) (ok : NdOk 0 nd) (h : DueR w s here path nd H t) :
    ∃ D, (∀ H', Same H H' → Dp K H' (.ref t) D) ∧ Shows D ∧ ((w = "make" ∧ ∀ o t' H', Made s here path nd o → MuAt H' t' o → Dp K H' (.ref t') D) ∨ (w = "remove" ∧ ∀ o t' H', Removed s here path o → OuAt H' t' o → Dp K H' (.ref t') D)) := by
  rcases h with ⟨e, o, h, m⟩ | ⟨e, o, h, m⟩
  · refine ⟨muD o, fun H' k => dp_mu (m.same k), ?_, .inl ⟨e, fun o' t' H' h' m' => by cases h.one h'; exact dp_mu m'⟩⟩
    cases o with
    | inl x =>
      obtain ⟨s', k⟩ := x
      obtain ⟨wf', _, few', _, _, hk⟩ := removed_of_made wf hp hr hn ok (fun r => by have := few r; omega) h
      exact made_shows wf' (fun r => by have := few' r; have := few r; omega) hk
    | inr e => exact mu_shows_er (by have := made_ix hp h; omega)
  · refine ⟨outD o, fun H' k => dp_out (m.same k), ?_, .inr ⟨e, fun o' t' H' h' m' => by cases h.one h'; exact dp_out m'⟩⟩
    cases o with
    | inl s' =>
      obtain ⟨wf', few'⟩ := gone_wf wf h
      exact done_shows wf' (fun r => by have := few' r; have := few r; omega)
    | inr e => exact er_shows (by have := removed_ix hp h; omega)

def Φ_law_right (K : PySem.W.Frag) (vd : V) (H : Hp) (Q : VK) : Prop := ∃ (d : Addr), vd = .ref d ∧ Dk d 0 H ∧ ∀ H', Kp d H H' → Q (.bl true) H'
theorem ok_law_right (T : Txt P K mg) {f : Addr} {fd : FuncData} (F : Fun K "_law_right" "_law_right" s_law_right f fd) : Keeps P w K mg base CX0 9 f fd ["deck"] (sp1 (Φ_law_right K)) := by
  have c_law_crowd := cal (P := P) (w := w) (base := base) T.d_law_crowd fun F => ok_law_crowd T F
  have c_law_store := cal (P := P) (w := w) (base := base) T.d_law_store fun F => ok_law_store T F
  have c_law_one_of := cal (P := P) (w := w) (base := base) T.d_law_one_of fun F => ok_law_one_of T F
  have c_law_path := cal (P := P) (w := w) (base := base) T.d_law_path fun F => ok_law_path T F
  have c_law_draw := cal (P := P) (w := w) (base := base) T.d_law_draw fun F => ok_law_draw T F
  have c_law_rooms := cal (P := P) (w := w) (base := base) T.d_law_rooms fun F => ok_law_rooms T F
  have c_law_made := cal (P := P) (w := w) (base := base) T.d_law_made fun F => ok_law_made T F
  have c_law_removed := cal (P := P) (w := w) (base := base) T.d_law_removed fun F => ok_law_removed T F
  have c_law_text := cal (P := P) (w := w) (base := base) T.d_law_text fun F => ok_law_text T F
  have c_law_got := cal (P := P) (w := w) (base := base) T.d_law_got fun F => ok_law_got T F
  have c_remove := cal (P := P) (w := w) (base := base) T.d_remove fun F => ok_remove T F
  refine keeps0_of F sc_law_right (fun vs H Q E h => ?_) (fun cdv A outer s H vs Q E hr h => ?_)
  · obtain ⟨_, rfl, _⟩ := h
    rfl
  obtain ⟨v_deck, rfl, h⟩ := h
  have hu := hr.hu
  refine ⟨_, (pss_cons (ps_set (i := 1) sc_law_right.nd rfl (by first | exact Or.inl rfl | exact Or.inr rfl) (pe_ifExp (pt_cmpR (oEq (K := K) hr.u65) (pe_cal c_law_draw (hr.mono (by decide)) (by rfl) pass0 (pa_cons (pv 0) (pa_cons pe_int pa_nil))) pe_int (nomark _)) (pe_cal c_law_crowd (hr.mono (by decide)) (by rfl) pass0 (pa_cons (pv 0) pa_nil)) (pe_cal c_law_store (hr.mono (by decide)) (by rfl) pass0 (pa_cons (pv 0) (pa_cons pe_int pa_nil)))))
      (pss_cons (ps_for PassesOwn.never rfl (pi_range1 (by rfl) T.b_range (pa_cons pe_int pa_nil)) (pg_name (i := 2) sc_law_right.nd rfl (by first | exact Or.inl rfl | exact Or.inr rfl)) (pss_cons (ps_set (i := 3) sc_law_right.nd rfl (by first | exact Or.inl rfl | exact Or.inr rfl) (pe_ix (ixX (K := K)) (pe_lst (pa_cons pe_str (pa_cons pe_str pa_nil))) (pe_cal c_law_draw (hr.mono (by decide)) (by rfl) pass0 (pa_cons (pv 0) (pa_cons pe_int pa_nil))) (fun _ _ => rfl)))
      (pss_cons (ps_set (i := 4) sc_law_right.nd rfl (by first | exact Or.inl rfl | exact Or.inr rfl) (pe_cal c_law_one_of (hr.mono (by decide)) (by rfl) pass0 (pa_cons (pv 0) (pa_cons (pe_cal c_law_rooms (hr.mono (by decide)) (by rfl) pass0 (pa_cons (pv 1) pa_nil)) pa_nil))))
      (pss_cons (ps_set (i := 5) sc_law_right.nd rfl (by first | exact Or.inl rfl | exact Or.inr rfl) (pe_cal c_law_path (hr.mono (by decide)) (by rfl) pass0 (pa_cons (pv 0) (pa_cons pe_int pa_nil))))
      (pss_meet (ps_if (PW.pt (pw_and (pt_cmpR (oEq (K := K) hr.u65) (pv 3) pe_str (nomark _)) (pw_and (pt_cmpR (oNe (K := K) hr.u65) (pe_ix (ixX (K := K)) (pe_ix (ixX (K := K)) (pv 1) (pv 4) (fun _ _ => rfl)) pe_int (fun _ _ => rfl)) (pe_tup pa_nil) (nomark _)) (pw_and1 (pt_cmpR (oEq (K := K) hr.u65) (pe_cal c_law_draw (hr.mono (by decide)) (by rfl) pass0 (pa_cons (pv 0) (pa_cons pe_int pa_nil))) pe_int (nomark _)))))) (pss_one (ps_set (i := 5) sc_law_right.nd rfl (by first | exact Or.inl rfl | exact Or.inr rfl) (pe_ix (ixX (K := K)) (pe_cal c_law_one_of (hr.mono (by decide)) (by rfl) pass0 (pa_cons (pv 0) (pa_cons (pe_ix (ixX (K := K)) (pe_ix (ixX (K := K)) (pv 1) (pv 4) (fun _ _ => rfl)) pe_int (fun _ _ => rfl)) pa_nil))) pe_int (fun _ _ => rfl)))) pss_nil)
      (pss_cons (ps_set (i := 6) sc_law_right.nd rfl (by first | exact Or.inl rfl | exact Or.inr rfl) (pe_ix (ixX (K := K)) (pe_lst (pa_cons (pe_tup (pa_cons pe_str (pa_cons (pe_cal c_law_text (hr.mono (by decide)) (by rfl) pass0 (pa_cons (pv 0) pa_nil)) pa_nil))) (pa_cons (pe_tup (pa_cons pe_str (pa_cons (pe_tupF pa_nil) pa_nil))) (pa_cons (pe_tup (pa_cons pe_str (pa_cons (pe_cal c_law_path (hr.mono (by decide)) (by rfl) pass0 (pa_cons (pv 0) (pa_cons pe_int pa_nil))) pa_nil))) pa_nil)))) (pe_cal c_law_draw (hr.mono (by decide)) (by rfl) pass0 (pa_cons (pv 0) (pa_cons pe_int pa_nil))) (fun _ _ => rfl)))
      (pss_cons (ps_set (i := 7) sc_law_right.nd rfl (by first | exact Or.inl rfl | exact Or.inr rfl) (pe_ifExp (pt_cmpR (oEq (K := K) hr.u65) (pv 3) pe_str (nomark _)) (pe_cal c_law_made (hr.mono (by decide)) (by rfl) pass0 (pa_cons (pv 1) (pa_cons (pv 4) (pa_cons (pv 5) (pa_cons (pv 6) pa_nil))))) (pe_cal c_law_removed (hr.mono (by decide)) (by rfl) pass0 (pa_cons (pv 1) (pa_cons (pv 4) (pa_cons (pv 5) pa_nil))))))
      (pss_cons (ps_set (i := 8) sc_law_right.nd rfl (by first | exact Or.inl rfl | exact Or.inr rfl) (pe_callB (call_reprX (K := K) (hr.mono (Nat.zero_le _))) (by rfl) T.b_repr (by decide +kernel) (pa_cons (pv 1) pa_nil)))
      (pss_cons (ps_for PassesOwn.never rfl (pi_any (K := K) (pe_lst (pa_cons pe_bl (pa_cons pe_bl pa_nil)))) (pg_name (i := 9) sc_law_right.nd rfl (by first | exact Or.inl rfl | exact Or.inr rfl)) (pss_one (ps_if (pt_cmpR (oNe (K := K) hr.u65) (pe_callB (call_reprX (K := K) (hr.mono (Nat.zero_le _))) (by rfl) T.b_repr (by decide +kernel) (pa_cons (pe_cal c_law_got (hr.mono (by decide)) (by rfl) pass0 (pa_cons (pv 1) (pa_cons (pv 3) (pa_cons (pv 4) (pa_cons (pv 5) (pa_cons (pv 6) (pa_cons (pv 9) pa_nil))))))) pa_nil)) (pe_callB (call_reprX (K := K) (hr.mono (Nat.zero_le _))) (by rfl) T.b_repr (by decide +kernel) (pa_cons (pv 7) pa_nil)) (nomark _)) (pss_one (ps_ret pe_bl)) pss_nil)))
      (pss_cons (ps_if (pt_cmpR (oNe (K := K) hr.u65) (pe_callB (call_reprX (K := K) (hr.mono (Nat.zero_le _))) (by rfl) T.b_repr (by decide +kernel) (pa_cons (pv 1) pa_nil)) (pv 8) (nomark _)) (pss_one (ps_ret pe_bl)) pss_nil)
      (pss_one (ps_if (PW.pt (pw_and (pt_cmpR (oEq (K := K) hr.u65) (pe_ix (ixX (K := K)) (pv 7) pe_int (fun _ _ => rfl)) pe_str (nomark _)) (pw_and1 (pt_cmpR (oEq (K := K) hr.u65) (pv 3) pe_str (nomark _))))) (pss_cons (ps_if (pt_cmpR (oNe (K := K) hr.u65) (pe_callB (call_reprX (K := K) (hr.mono (Nat.zero_le _))) (by rfl) T.b_repr (by decide +kernel) (pa_cons (pe_calS c_remove (hr.mono (by decide)) (by rfl) (fun σ => passAt takes_none5 σ) (pa_cons (pe_ix (ixX (K := K)) (pe_ix (ixX (K := K)) (pv 7) pe_int (fun _ _ => rfl)) pe_int (fun _ _ => rfl)) (pa_cons (pv 4) (pa_cons (pv 5) pa_nil)))) pa_nil)) (pv 8) (nomark _)) (pss_one (ps_ret pe_bl)) pss_nil)
      (pss_one (ps_set (i := 1) sc_law_right.nd rfl (by first | exact Or.inl rfl | exact Or.inr rfl) (pe_ix (ixX (K := K)) (pe_ix (ixX (K := K)) (pv 7) pe_int (fun _ _ => rfl)) pe_int (fun _ _ => rfl))))) (pss_one (ps_if (PW.pt (pw_and (pt_cmpR (oEq (K := K) hr.u65) (pe_ix (ixX (K := K)) (pv 7) pe_int (fun _ _ => rfl)) pe_str (nomark _)) (pw_and1 (PW.pt (pw_or (pt_cmpR oGe (pv 4) (pe_callB (call_lenX (K := K)) (by rfl) T.b_len (by decide +kernel) (pa_cons (pe_ix (ixX (K := K)) (pv 7) pe_int (fun _ _ => rfl)) pa_nil)) (nomark _)) (pw_or1 (pt_cmpR oIsNot (pe_ix (ixX (K := K)) (pe_ix (ixX (K := K)) (pv 7) pe_int (fun _ _ => rfl)) (pv 4) (fun _ _ => rfl)) pe_non (nomark _)))))))) (pss_one (ps_set (i := 1) sc_law_right.nd rfl (by first | exact Or.inl rfl | exact Or.inr rfl) (pe_ix (ixX (K := K)) (pv 7) pe_int (fun _ _ => rfl)))) pss_nil))))))))))))))
      (pss_one (ps_ret pe_bl)))), ?_⟩
  rw [show start ["deck", "store", "turn", "word", "here", "path", "node", "due", "text", "named"] [v_deck] = [some v_deck, none, none, none, none, none, none, none, none, none] from rfl]
  try dsimp only [cxOf, Cx.nox, Cx.wish]
  obtain ⟨d, rfl, hd, q⟩ := h
  have key : ∀ (C : VK), (∀ v s H1, StAt H1 v s → Wf s → (∀ r, (entsAt s r).length ≤ 60) → Dk d 2000 H1 → Kp d H H1 → C v H1) →
      tIf (tTest (tOp (xEq K) (tCall (sp2 (Φ_law_draw K)) [] E0 (tCons (tVar 0) (tCons (tC (V.int 4)) tNil))) (tC (V.int 0)))) (tCall (sp1 (Φ_law_crowd K)) [] E0 (tCons (tVar 0) tNil)) (tCall (sp2 (Φ_law_store K)) [] E0 (tCons (tVar 0) (tCons (tC (V.int 10)) tNil)))
        [some (.ref d), none, none, none, none, none, none, none, none, none] H C := by
    intro C fin
    walk_at "rd"
    refine use_draw hd (by decide) (by decide) (by unfold LIM; omega) fun c H1 c0 c1 d1 k1 => ?_
    walk_at "rd"
    refine rd_ite (fun _ => ?_) (fun _ => ?_)
    · walk_at "rd"
      refine ⟨d, 1, rfl, d1.mono (by omega), by unfold LIM; omega, fun v n H2 n1 n2 hv d2 k2 => ?_⟩
      obtain ⟨w1, w2, _⟩ := cr_wf (m := n) (by omega) n2
      exact fin v _ H2 hv w1 w2 (d2.mono (by omega)) (k1.trans k2)
    · walk_at "rd"
      exact ⟨d, 10, 1, rfl, rfl, by omega, d1.mono (by omega), by unfold LIM; omega, fun v s H2 hs wf hl hfew d2 k2 => fin v s H2 hs wf (fun r => by have := hfew r; omega) (d2.mono (by omega)) (k1.trans k2)⟩
  with_reducible refine rd_seq ?_
  with_reducible refine rd_asg ?_
  refine key _ fun v s H1 hs wf few d1 k1 => ?_
  clear key
  walk_at "rd"
  refine rd_itR (by decide) (by decide) (fun i σ H' => ∃ (v : V) (s : Sto) (x2 x3 x4 x5 x6 x7 x8 x9 : Option V), Kp d H H' ∧ Dk d (2000 + 200 * i) H' ∧ StAt H' v s ∧ Wf s ∧ (∀ r, (entsAt s r).length ≤ 60 + i) ∧ σ = [some (.ref d), some v, x2, x3, x4, x5, x6, x7, x8, x9]) ⟨v, s, _, _, _, _, _, _, _, _, k1, d1, hs, wf, few, rfl⟩ ?_ ?_
  · clear hs wf few d1 k1
    clear v s
    rintro i σ H2 hi ⟨v, s, x2, x3, x4, x5, x6, x7, x8, x9, k2, d2, hS, wf, few, rfl⟩
    have hi' : i < 12 := by omega
    have l1 := wf.l1
    have l2 := wf.l2
    have few80 : ∀ r, (entsAt s r).length ≤ 80 := fun r => by have := few r; omega
    have few75 : ∀ r, (entsAt s r).length ≤ 75 := fun r => by have := few r; omega
    walk_at "rd"
    intro l hl1
    walk_at "rd"
    refine use_draw (d2.new hl1) (by decide) (by decide) (by unfold LIM; omega) fun c H3 c0 c1 d3 k3' => ?_
    refine pick (SqL.of (k3'.at (d2.ne hl1))) c0 (by show c < 2; omega) fun x hx => ?_
    obtain ⟨w, rfl, hw⟩ : ∃ w : Str, x = V.str w ∧ (w = "make" ∨ w = "remove") := by
      simp only [List.mem_cons, List.not_mem_nil, or_false] at hx
      rcases hx with rfl | rfl
      · exact ⟨_, rfl, .inl rfl⟩
      · exact ⟨_, rfl, .inr rfl⟩
    have k3 := (k2.new (o := .lst [.str "make", .str "remove"]) hl1).trans k3'
    have hS3 := (hS.up ((Ty.refl H2).new (o := .lst [.str "make", .str "remove"]) hl1)).up (k3'.ty (d2.new hl1))
    clear hx hl1 k3' d2 k2 hS
    walk_at "rd"
    refine ⟨s, hS3, by omega, fun lR H4 hlR s4 hR => ?_⟩
    have d4 := d3.same s4
    have k4 := k3.trans (Kp.of s4)
    have hS4 := hS3.up (Ty.of s4)
    obtain ⟨es0, hroot⟩ := wf.root
    walk_at "rd"
    have mem0 : 0 ∈ (List.range s.length).filter fun k => isRoom (s.getD k none) := List.mem_filter.mpr ⟨List.mem_range.mpr (by omega), by rw [List.getD_eq_getElem?_getD, hroot]; rfl⟩
    have lf := List.length_filter_le (fun k => isRoom (s.getD k none)) (List.range s.length)
    rw [List.length_range] at lf
    refine ⟨d, lR, _, _, rfl, rfl, .inl hR, (d3.ne hlR).symm, (by rw [List.length_map]; exact List.length_pos_iff.mpr fun e => by rw [e] at mem0; cases mem0), (by rw [List.length_map]; omega), d4, (by unfold LIM; omega), fun x H5 hx d5 k5' => ?_⟩
    obtain ⟨k, hk, rfl⟩ := List.mem_map.mp hx
    have roomk : roomAt s k := room_is (List.mem_filter.mp hk).2
    have k5 := k4.trans k5'
    have hS5 := hS4.up (k5'.ty d4)
    clear hx hk hR s4 d4 k4 k5' mem0 lf hlR d3 k3 hS3 hS4
    walk_at "rd"
    refine ⟨d, 3, _, rfl, rfl, by omega, d5, by unfold LIM; omega, fun path0 H6 hp0 d6 k6' => ?_⟩
    have k6 := k5.trans k6'
    have hS6 := hS5.up (k6'.ty d5)
    clear d5 k5 k6' hS5
    walk_at "rd"
    refine rd_meet (fun σ' H' => ∃ path, pathB (.str path) = true ∧ Kp d H H' ∧ Dk d (2000 + 200 * i + 60) H' ∧ StAt H' v s ∧ σ' = [some (.ref d), some v, some (.int (i : Nat)), some (.str w), some (.int (k : Nat)), some (.str path), x6, x7, x8, x9]) ?_ ?_
    · have keep : ∃ path, pathB (.str path) = true ∧ Kp d H H6 ∧ Dk d (2000 + 200 * i + 60) H6 ∧ StAt H6 v s ∧ [some (.ref d), some v, some (.int (i : Nat)), some (.str w), some (.int (k : Nat)), some (.str path0), x6, x7, x8, x9] = [some (.ref d), some v, some (.int (i : Nat)), some (.str w), some (.int (k : Nat)), some (.str path), x6, x7, x8, x9] := ⟨path0, hp0, k6, d6.mono (by omega), hS6, rfl⟩
      walk_at "rd"
      refine rd_ite (fun _ => ?_) (fun _ => ?_)
      · obtain ⟨es, hes⟩ := roomk
        have hen := entsAt_room hes
        have fk := few80 k
        rw [hen] at fk
        have hS6' := hS6
        obtain ⟨a, xs, rfl, ha, ps⟩ := hS6'
        obtain ⟨v, hv, na, nb, rfl, hna, ys, hys, pys⟩ := pd_getR ps hes
        have ly := Paired.length pys
        have okN := wf.nodes _ (List.mem_of_getElem? hes)
        walk_at "rd"
        refine rd_ixT ha.sq (atI_nat hv) ?_
        walk_at "rd"
        refine rd_ixT hna.sq rfl ?_
        walk_at "rd"
        intro t ht
        have s7 := (Same.refl H6).new (o := .tup []) ht
        have d7 := d6.same s7
        have k7 := k6.trans (Kp.of s7)
        have hS7 := hS6.up (Ty.of s7)
        refine rd_neD (d := .tuple (es.map fun e => PyData.tuple [.str e.1, .int (e.2 : Int)])) (e := .tuple []) (.tup (hys.up (Ty.of s7)).rt.sq (dp_ents (pd_mono (fun _ _ q => pairV.up q (Ty.of s7)) pys))) (.tup (SqT.of upd_same) .nil) (ents_shaped (by omega) okN.1) (by decide +kernel) ?_
        rw [ents_eqv]
        have keep7 : ∀ H8, Kp d H H8 → Dk d (2000 + 200 * i + 60) H8 → StAt H8 (.ref a) s → ∃ path, pathB (.str path) = true ∧ Kp d H H8 ∧ Dk d (2000 + 200 * i + 60) H8 ∧ StAt H8 (.ref a) s ∧ [some (.ref d), some (.ref a), some (.int (i : Nat)), some (.str w), some (.int (k : Nat)), some (.str path0), x6, x7, x8, x9] = [some (.ref d), some (.ref a), some (.int (i : Nat)), some (.str w), some (.int (k : Nat)), some (.str path), x6, x7, x8, x9] := fun H8 a b c => ⟨path0, hp0, a, b, c, rfl⟩
        generalize upd H6 t (.tup []) = H7 at s7 d7 k7 hS7 ⊢
        cases hem : es.isEmpty with
        | true =>
          walk_at "rd"
          exact keep7 H7 k7 (d7.mono (by omega)) hS7
        | false =>
          have lp : 1 ≤ es.length := by
            cases es with
            | nil => cases hem
            | cons x l => exact Nat.succ_le_succ (Nat.zero_le _)
          walk_at "rd"
          refine use_draw d7 (by decide) (by decide) (by unfold LIM; omega) fun c H8 c0 c1 d8 k8' => ?_
          have k8 := k7.trans k8'
          have t78 := k8'.ty d7
          have hS8 := hS7.up t78
          have t68 := (Ty.of s7).trans t78
          walk_at "rd"
          refine rd_ite (fun _ => ?_) (fun _ => ?_)
          · have hys8 := hys.up t68
            have nbd : nb ≠ d := fun e => by
              obtain ⟨_, _, _, hd', _⟩ := d8
              obtain ⟨o, _, e'⟩ := hys8
              rw [e, hd'] at e'
              cases e'
            walk_at "rd"
            refine rd_ixT (ha.up t68).sq (atI_nat hv) ?_
            walk_at "rd"
            refine rd_ixT (hna.up t68).sq rfl ?_
            walk_at "rd"
            refine ⟨d, nb, ys, _, rfl, rfl, .inr hys8.rt, nbd, by omega, by omega, d8, by unfold LIM; omega, fun x H9 hx d9 k9' => ?_⟩
            obtain ⟨c', hc⟩ := List.mem_iff_getElem?.mp hx
            obtain ⟨en, he', pe, rfl, hpe⟩ := pd_getL pys hc
            have een : entB en.1 = true := (okN.1 en (List.mem_of_getElem? he')).1
            walk_at "rd"
            refine rd_ixT (hpe.up (t68.trans (k9'.ty d8))).sq rfl ?_
            walk_at "rd"
            refine ⟨en.1, ?_, k8.trans k9', d9.mono (by omega), hS8.up (k9'.ty d8), rfl⟩
            have := path_of (z := "") (ws := [en.1]) (List.cons_ne_nil _ _) (by show 1 ≤ 7; omega) (fun u hu => by rw [List.mem_singleton.mp hu]; exact ent_word een) (.inl rfl)
            rwa [show ("" : Str) ++ Txt.join "/" [en.1] = en.1 from str_ext (by rw [tl_app, tl_nil, TL.join_eq, TL.tl_join]; rfl)] at this
          · walk_at "rd"
            exact keep7 H8 k8 (d8.mono (by omega)) hS8
      · walk_at "rd"
        exact keep
    · rintro σ' H7 ⟨path, hp, k7, d7, hS7, rfl⟩
      clear hp0 d6 k6 hS6
      clear path0
      walk_at "rd"
      refine ⟨d, _, rfl, d7, by unfold LIM; omega, fun tx H8 htx d8 k8' => ?_⟩
      have k8 := k7.trans k8'
      have hS8 := hS7.up (k8'.ty d7)
      clear d7 k7 k8' hS7
      walk_at "rd"
      intro t1 ht1
      have s9 := (Same.refl H8).new (o := .tup [.str "file", .str tx]) ht1
      have g9 : Rt (upd H8 t1 (.tup [.str "file", .str tx])) t1 [.str "file", .str tx] := .inl upd_same
      generalize upd H8 t1 (.tup [.str "file", .str tx]) = H9 at s9 g9 ⊢
      walk_at "rd"
      refine rd_tupF ?_
      walk_at "rd"
      intro t2 o2 od2 ht2
      have s10 := (Same.refl H9).new (o := .frz o2 (.tup [])) ht2
      have g10 : Ft (upd H9 t2 (.frz o2 (.tup []))) t2 [] := ⟨o2, od2, upd_same⟩
      generalize upd H9 t2 (.frz o2 (.tup [])) = H10 at s10 g10 ⊢
      walk_at "rd"
      intro t3 ht3
      have s11 := (Same.refl H10).new (o := .tup [.str "room", .ref t2]) ht3
      have g11 : Rt (upd H10 t3 (.tup [.str "room", .ref t2])) t3 [.str "room", .ref t2] := .inl upd_same
      generalize upd H10 t3 (.tup [.str "room", .ref t2]) = H11 at s11 g11 ⊢
      have s811 := (s9.trans s10).trans s11
      have d11 := d8.same s811
      have k11 := k8.trans (Kp.of s811)
      have hS11 := hS8.up (Ty.of s811)
      have n1 : NdAt H11 (.ref t1) (some (.file tx)) := ⟨t1, rfl, g9.up (Ty.of (s10.trans s11))⟩
      have n2 : NdAt H11 (.ref t3) (some (.room [])) := ⟨t3, t2, rfl, g11, [], g10.up (Ty.of s11), .nil⟩
      clear s9 s10 g9 g10 g11 s811 d8 k8 hS8 ht1 ht2 ht3 s11
      walk_at "rd"
      refine ⟨d, 2, _, rfl, rfl, by omega, d11, by unfold LIM; omega, fun p2 H12 hp2 d12 k12' => ?_⟩
      have k12 := k11.trans k12'
      have t12 := k12'.ty d11
      have hS12 := hS11.up t12
      replace n1 := n1.up t12
      replace n2 := n2.up t12
      clear d11 k11 k12' hS11 t12
      walk_at "rd"
      intro t4 ht4
      have s13 := (Same.refl H12).new (o := .tup [.str "sign", .str p2]) ht4
      have g13 : Rt (upd H12 t4 (.tup [.str "sign", .str p2])) t4 [.str "sign", .str p2] := .inl upd_same
      generalize upd H12 t4 (.tup [.str "sign", .str p2]) = H13 at s13 g13 ⊢
      have n3 : NdAt H13 (.ref t4) (some (.sign p2)) := ⟨t4, rfl, g13⟩
      have d13 := d12.same s13
      have k13 := k12.trans (Kp.of s13)
      have hS13 := hS12.up (Ty.of s13)
      replace n1 := n1.up (Ty.of s13)
      replace n2 := n2.up (Ty.of s13)
      clear g13 s13 ht4 d12 k12 hS12
      walk_at "rd"
      intro l hl
      have s14 := (Same.refl H13).new (o := .lst [.ref t1, .ref t3, .ref t4]) hl
      have g14 : upd H13 l (.lst [.ref t1, .ref t3, .ref t4]) l = some (.lst [.ref t1, .ref t3, .ref t4]) := upd_same
      have ld := (d13.ne hl).symm
      generalize upd H13 l (.lst [.ref t1, .ref t3, .ref t4]) = H14 at s14 g14 ⊢
      have d14 := d13.same s14
      have k14 := k13.trans (Kp.of s14)
      have hS14 := hS13.up (Ty.of s14)
      replace n1 := n1.up (Ty.of s14)
      replace n2 := n2.up (Ty.of s14)
      replace n3 := n3.up (Ty.of s14)
      clear s14 d13 k13 hS13 hl
      walk_at "rd"
      refine use_draw d14 (by decide) (by decide) (by unfold LIM; omega) fun c H15 c0 c1 d15 k15' => ?_
      have t15 := k15'.ty d14
      refine pick (SqL.of (k15' l _ ld g14)) c0 (by show c < 3; omega) fun nv hnv => ?_
      obtain ⟨nd, hnew, hok, hN⟩ : ∃ nd, newN nd ∧ NdOk 0 nd ∧ NdAt H15 nv (some nd) := by
        simp only [List.mem_cons, List.not_mem_nil, or_false] at hnv
        rcases hnv with rfl | rfl | rfl
        · exact ⟨.file tx, .inr rfl, htx, n1.up t15⟩
        · exact ⟨.room [], .inl rfl, ⟨fun e he => (nomatch he), .nil⟩, n2.up t15⟩
        · exact ⟨.sign p2, .inr rfl, hp2, n3.up t15⟩
      have k15 := k14.trans k15'
      have hS15 := hS14.up t15
      clear hnv n1 n2 n3 t15 k15' d14 k14 hS14 g14 ld htx hp2
      have kl := room_lt roomk
      have pl := pathB_len hp
      have ssh := st_shows wf few80
      have key : ∀ (C : VK), (∀ t H', Same H15 H' → DueR w s k path nd H' t → C (.ref t) H') →
          tIf (tTest (tOp (xEq K) (tVar 3) (tC (V.str "make")))) (tCall (sp4 (Φ_law_made K)) [] E0 (tCons (tVar 1) (tCons (tVar 4) (tCons (tVar 5) (tCons (tVar 6) tNil))))) (tCall (sp3 (Φ_law_removed K)) [] E0 (tCons (tVar 1) (tCons (tVar 4) (tCons (tVar 5) tNil))))
            [some (.ref d), some v, some (.int (i : Nat)), some (.str w), some (.int (k : Nat)), some (.str path), some nv, x7, x8, x9] H15 C := by
        intro C fin
        walk_at "rd"
        refine rd_ite (fun hwl => ?_) (fun hwl => ?_)
        · have hwl := of_decide_eq_true hwl
          walk_at "rd"
          exact ⟨s, k, path, nd, hS15, wf, rfl, kl, rfl, hp, hN, hnew, fun o t H' kk h ht => fin t H' kk (.inl ⟨hwl, o, h, ht⟩)⟩
        · have hwl := of_decide_eq_false hwl
          walk_at "rd"
          exact ⟨s, k, path, hS15, wf, rfl, kl, rfl, hp, fun o t H' kk h ht => fin t H' kk (.inr ⟨hw.resolve_left hwl, o, h, ht⟩)⟩
      refine rd_gname rfl ?_
      dsimp only [List.set]
      with_reducible refine rd_seq ?_
      with_reducible refine rd_asg ?_
      refine key _ fun t H16 s16 hD => ?_
      clear key
      have d16 := d15.same s16
      have k16 := k15.trans (Kp.of s16)
      have hS16 := hS15.up (Ty.of s16)
      have hN16 := hN.up (Ty.of s16)
      clear s16 d15 k15 hS15 hN
      obtain ⟨D, hDt, hDs, hDo⟩ := due_data wf few75 hp roomk hnew hok (K := K) hD
      walk_at "rd"
      refine rd_repr (dp_st hS16) ssh ?_
      walk_at "rd"
      refine rd_forL ?_
      walk_at "rd"
      intro l2 hl2
      have s17 := (Same.refl H16).new (o := .lst [.bl false, .bl true]) hl2
      have h17 : upd H16 l2 (.lst [.bl false, .bl true]) l2 = some (.lst [.bl false, .bl true]) := upd_same
      have hD17 := hD.same s17
      have d17 := d16.same s17
      have k17 := k16.trans (Kp.of s17)
      have hS17 := hS16.up (Ty.of s17)
      have hN17 := hN16.up (Ty.of s17)
      replace hDt := fun H' (q : Same (upd H16 l2 (.lst [.bl false, .bl true])) H') => hDt H' (s17.trans q)
      generalize upd H16 l2 (.lst [.bl false, .bl true]) = H17 at s17 h17 hD17 d17 k17 hS17 hN17 hDt ⊢
      clear s17 d16 k16 hS16 hN16 hD hl2
      refine rd_itL (xs := [.bl false, .bl true]) (SqL.of h17) (fun c σ H' => Same H17 H' ∧ ∃ x9, σ = [some (.ref d), some v, some (.int (i : Nat)), some (.str w), some (.int (k : Nat)), some (.str path), some nv, some (.ref t), some (.str (stD s).shown), x9]) ⟨Same.refl _, _, rfl⟩ (fun c σ H' _ h => SqL.of (h.1 _ _ h17)) ?_ ?_
      · rintro c x σ H18 hx ⟨s18, x9, rfl⟩
        obtain ⟨b, rfl⟩ : ∃ f, x = V.bl f := by
          have := List.mem_of_getElem? hx
          simp only [List.mem_cons, List.not_mem_nil, or_false] at this
          rcases this with rfl | rfl <;> exact ⟨_, rfl⟩
        walk_at "rd"
        refine ⟨_, _, _, _, _, _, rfl, s, w, k, path, b, hS17.up (Ty.of s18), wf, rfl, rfl, roomk, rfl, hp, rfl, fun r => by have := few r; omega, ?_⟩
        rcases hDo with ⟨hw', hDo⟩ | ⟨hw', hDo⟩
        · refine .inl ⟨hw', nd, hN17.up (Ty.of s18), hnew, hok, fun o' t' H19 s19 hD' ht' => ?_⟩
          walk_at "rd"
          refine rd_repr (hDo o' t' H19 hD' ht') hDs ?_
          walk_at "rd"
          refine rd_repr (hDt H19 (s18.trans s19)) hDs ?_
          walk_at "rd"
          refine rd_noI (by rw [decide_eq_true rfl]; rfl) ?_
          walk_at "rd"
          exact ⟨s18.trans s19, _, rfl⟩
        · refine .inr ⟨hw', fun o' t' H19 s19 hD' ht' => ?_⟩
          walk_at "rd"
          refine rd_repr (hDo o' t' H19 hD' ht') hDs ?_
          walk_at "rd"
          refine rd_repr (hDt H19 (s18.trans s19)) hDs ?_
          walk_at "rd"
          refine rd_noI (by rw [decide_eq_true rfl]; rfl) ?_
          walk_at "rd"
          exact ⟨s18.trans s19, _, rfl⟩
      · rintro σ H18 ⟨s18, x9, rfl⟩
        have d18 := d17.same s18
        have k18 := k17.trans (Kp.of s18)
        have hS18 := hS17.up (Ty.of s18)
        have hD18 := hD17.same s18
        clear s18 d17 k17 hS17 hD17 h17 hDt
        walk_at "rd"
        refine rd_repr (dp_st hS18) ssh ?_
        walk_at "rd"
        refine rd_noI (by rw [decide_eq_true rfl]; rfl) ?_
        rcases hD18 with ⟨rfl, o, hM, hMu⟩ | ⟨rfl, o, hR, hOu⟩
        · cases o with
          | inr e =>
            have ht : H18 t = some (.tup [.str e.word, e.val]) := hMu
            walk_at "rd"
            refine rd_noI (er_word_done e) ?_
            walk_at "rd"
            refine rd_noI (er_word_done e) ?_
            walk_at "rd"
            exact ⟨v, s, _, _, _, _, _, _, _, _, k18, d18.mono (by omega), hS18, wf, fun r => by have := few r; omega, rfl⟩
          | inl sk =>
            obtain ⟨s', k'⟩ := sk
            obtain ⟨v', t2, ht, ht2, hv'⟩ := hMu
            obtain ⟨wf', hR', few', room', _, _⟩ := removed_of_made wf hp roomk hnew hok (fun r => by have := few r; omega) hM
            walk_at "rd"
            refine rd_yesI (by decide +kernel) ?_
            walk_at "rd"
            refine rd_yesI (by decide +kernel) ?_
            walk_at "rd"
            refine ⟨s', k, path, hv', wf', rfl, room', rfl, hp, fun r => by have := few r; have := few' r; omega, fun s2 v2 H19 s19 hR2 hv2 => ?_, fun e H' C D' k he g x => by cases hR'.one he⟩
            cases hR'.one hR2
            have d19 := d18.same s19
            have k19 := k18.trans (Kp.of s19)
            have ht19 := s19 _ _ ht
            have ht219 := s19 _ _ ht2
            have hv19 := hv'.up (Ty.of s19)
            clear s19 d18 k18 ht ht2 hv'
            walk_at "rd"
            refine rd_repr (dp_st hv2) ssh ?_
            walk_at "rd"
            refine rd_noI (by rw [decide_eq_true rfl]; rfl) ?_
            walk_at "rd"
            exact ⟨v', s', _, _, _, _, _, _, _, _, k19, d19.mono (by omega), hv19, wf', fun r => by have := few r; have := few' r; omega, rfl⟩
        · cases o with
          | inr e =>
            have ht : H18 t = some (.tup [.str e.word, e.val]) := hOu
            walk_at "rd"
            refine rd_noI (er_word_done e) ?_
            walk_at "rd"
            refine rd_noI (er_word_done e) ?_
            walk_at "rd"
            exact ⟨v, s, _, _, _, _, _, _, _, _, k18, d18.mono (by omega), hS18, wf, fun r => by have := few r; omega, rfl⟩
          | inl s' =>
            obtain ⟨v', ht, hv'⟩ := hOu
            obtain ⟨wf', few'⟩ := gone_wf wf hR
            have hv'' := hv'
            obtain ⟨a', xs', rfl, ha', ps'⟩ := hv''
            walk_at "rd"
            refine rd_yesI (by decide +kernel) ?_
            walk_at "rd"
            refine rd_noI (by decide +kernel) ?_
            walk_at "rd"
            have ld := Paired.length ps'
            have fin : ∀ y2 y3 y4 y5 y6 y7 y8 y9 : Option V, ∃ v s x2 x3 x4 x5 x6 x7 x8 x9, Kp d H H18 ∧ Dk d (2000 + 200 * (i + 1)) H18 ∧ StAt H18 v s ∧ Wf s ∧ (∀ r, (entsAt s r).length ≤ 60 + (i + 1)) ∧ [some (V.ref d), some (V.ref a'), y2, y3, y4, y5, y6, y7, y8, y9] = [some (V.ref d), some v, x2, x3, x4, x5, x6, x7, x8, x9] := fun _ _ _ _ _ _ _ _ => ⟨.ref a', s', _, _, _, _, _, _, _, _, k18, d18.mono (by omega), hv', wf', fun r => by have := few r; have := few' r; omega, rfl⟩
            refine rd_yesI (by rw [decide_eq_true rfl]) ?_
            walk_at "rd"
            refine rd_lenT ha'.sq ?_
            walk_at "rd"
            refine rd_ite (fun hg => ?_) (fun hg => ?_)
            · walk_at "rd"
              exact fin _ _ _ _ _ _ _ _
            · have hg := of_decide_eq_false hg
              obtain ⟨x, hx⟩ : ∃ x, xs'[k]? = some x := ⟨_, List.getElem?_eq_getElem (by omega)⟩
              walk_at "rd"
              refine rd_ixT ha'.sq (atI_nat hx) ?_
              walk_at "rd"
              refine rd_ite (fun _ => ?_) (fun _ => ?_)
              · walk_at "rd"
                exact fin _ _ _ _ _ _ _ _
              · walk_at "rd"
                exact ⟨v, s, _, _, _, _, _, _, _, _, k18, d18.mono (by omega), hS18, wf, fun r => by have := few r; omega, rfl⟩
  · rintro σ H2 ⟨v, s, x2, x3, x4, x5, x6, x7, x8, x9, k2, d2, hS, wf, few, rfl⟩
    walk_at "rd"
    exact q _ k2

def Φ_law (K : PySem.W.Frag) (v : V) (H : Hp) (Q : VK) : Prop := ∃ (a : Addr) (ns : List Int), v = .ref a ∧ SqL K H a (ns.map V.int) ∧ ns.length ≤ 63 ∧ ∀ H', Q (.bl true) H'
theorem ok_law (T : Txt P K mg) {f : Addr} {fd : FuncData} (F : Fun K "law" "law" s_law f fd) : Keeps P w K mg base CX0 10 f fd ["script"] (sp1 (Φ_law K)) := by
  have c_law_right := cal (P := P) (w := w) (base := base) T.d_law_right fun F => ok_law_right T F
  have c_law_deck := cal (P := P) (w := w) (base := base) T.d_law_deck fun F => ok_law_deck T F
  refine keeps0_of F sc_law (fun vs H Q E h => ?_) (fun cdv A outer s H vs Q E hr h => ?_)
  · obtain ⟨_, rfl, _⟩ := h
    rfl
  obtain ⟨v_script, rfl, h⟩ := h
  have hu := hr.hu
  refine ⟨_, (pss_cons (ps_for PassesOwn.never rfl (pi_range1 (by rfl) T.b_range (pa_cons (pe_callB (call_maxX rfl) (by rfl) T.b_max (by decide +kernel) (pa_cons pe_int (pa_cons (pe_callB (call_minX rfl) (by rfl) T.b_min (by decide +kernel) (pa_cons pe_int (pa_cons (pe_callB (call_lenX (K := K)) (by rfl) T.b_len (by decide +kernel) (pa_cons (pv 0) pa_nil)) pa_nil))) pa_nil))) pa_nil)) (pg_name (i := 1) sc_law.nd rfl (by first | exact Or.inl rfl | exact Or.inr rfl)) (pss_one (ps_if (pt_not (pt_val (pe_cal c_law_right (hr.mono (by decide)) (by rfl) pass0 (pa_cons (pe_cal c_law_deck (hr.mono (by decide)) (by rfl) pass0 (pa_cons (pv 0) (pa_cons (pv 1) pa_nil))) pa_nil)))) (pss_one (ps_ret pe_bl)) pss_nil)))
      (pss_one (ps_ret pe_bl))), ?_⟩
  rw [show start ["script", "k"] [v_script] = [some v_script, none] from rfl]
  try dsimp only [cxOf, Cx.nox, Cx.wish]
  obtain ⟨a, ns, rfl, hS, hl, q⟩ := h
  walk_at "rd"
  refine rd_lenL hS ?_
  walk_at "rd"
  rw [List.length_map]
  refine rd_itR (by omega) (by omega) (fun i σ H' => Same H H' ∧ ∃ x, σ = [some (.ref a), x]) ⟨Same.refl H, _, rfl⟩ ?_ ?_
  · rintro i σ H1 hi ⟨k1, x, rfl⟩
    walk_at "rd"
    refine ⟨a, ns, i, rfl, rfl, k1.seq hS, hl, by omega, by omega, fun d H2 hd d2 k2 => ?_⟩
    walk_at "rd"
    refine ⟨d, rfl, d2, fun H3 k3 => ?_⟩
    walk_at "rd"
    exact ⟨fun b o e => k3 _ _ (ne_of_none (k1 _ _ e) hd) (k2 _ _ (k1 _ _ e)), _, rfl⟩
  · rintro σ H1 ⟨k1, x, rfl⟩
    walk_at "rd"
    exact q H1

end
/-- the facts of the top -/
theorem all_mk {P : Program} {K : PySem.W.Frag} {h : Heap} {mg : Str → Option Value} (X : K.In h) (G : h.Ns mainGlobals mg)
    {u_FILE u_ROOM u_SIGN u_HERE u_ABOVE u_ROOT u_MOST_NODES u_MOST_TEXT u_MOST_PATH u_MOST_NAME u_MOST_SIGNS u_NAME_SIGNS : Value}
    (h_FILE : PySem.W.nsIn K mainGlobals "FILE" = some (some u_FILE)) (r_FILE : RelV (.str "file") u_FILE)
    (h_ROOM : PySem.W.nsIn K mainGlobals "ROOM" = some (some u_ROOM)) (r_ROOM : RelV (.str "room") u_ROOM)
    (h_SIGN : PySem.W.nsIn K mainGlobals "SIGN" = some (some u_SIGN)) (r_SIGN : RelV (.str "sign") u_SIGN)
    (h_HERE : PySem.W.nsIn K mainGlobals "HERE" = some (some u_HERE)) (r_HERE : RelV (.str ".") u_HERE)
    (h_ABOVE : PySem.W.nsIn K mainGlobals "ABOVE" = some (some u_ABOVE)) (r_ABOVE : RelV (.str "..") u_ABOVE)
    (h_ROOT : PySem.W.nsIn K mainGlobals "ROOT" = some (some u_ROOT)) (r_ROOT : RelV (.str "/") u_ROOT)
    (h_MOST_NODES : PySem.W.nsIn K mainGlobals "MOST_NODES" = some (some u_MOST_NODES)) (r_MOST_NODES : RelV (.int 60) u_MOST_NODES)
    (h_MOST_TEXT : PySem.W.nsIn K mainGlobals "MOST_TEXT" = some (some u_MOST_TEXT)) (r_MOST_TEXT : RelV (.int 400) u_MOST_TEXT)
    (h_MOST_PATH : PySem.W.nsIn K mainGlobals "MOST_PATH" = some (some u_MOST_PATH)) (r_MOST_PATH : RelV (.int 100) u_MOST_PATH)
    (h_MOST_NAME : PySem.W.nsIn K mainGlobals "MOST_NAME" = some (some u_MOST_NAME)) (r_MOST_NAME : RelV (.int 12) u_MOST_NAME)
    (h_MOST_SIGNS : PySem.W.nsIn K mainGlobals "MOST_SIGNS" = some (some u_MOST_SIGNS)) (r_MOST_SIGNS : RelV (.int 20) u_MOST_SIGNS)
    (h_NAME_SIGNS : PySem.W.nsIn K mainGlobals "NAME_SIGNS" = some (some u_NAME_SIGNS)) (r_NAME_SIGNS : RelV (.str "abcdefghijklmnopqrstuvwxyz0123456789.-_") u_NAME_SIGNS)
    {f_is_whole : Addr} {od_is_whole an_is_whole : Option Addr} {sl_is_whole : Array (Option Value)} {oc_is_whole kV_is_whole dc_is_whole pm_is_whole cd_is_whole ct_is_whole : Value}
    (a_is_whole : PySem.W.nsIn K mainGlobals "is_whole" = some (some (.ref f_is_whole))) (l_is_whole : K.lookup f_is_whole = some ⟨oc_is_whole, od_is_whole, .func (PySem.W.fnOf "is_whole" "is_whole" (defArgs s_is_whole) (defBody s_is_whole) (defScope s_is_whole) .none kV_is_whole dc_is_whole pm_is_whole an_is_whole cd_is_whole ct_is_whole), sl_is_whole⟩) (c_is_whole : PySem.W.codeIn K cd_is_whole "is_whole" = true) (k_is_whole : PySem.W.keepIn K (.ref f_is_whole) = true)
    {f_is_plain : Addr} {od_is_plain an_is_plain : Option Addr} {sl_is_plain : Array (Option Value)} {oc_is_plain kV_is_plain dc_is_plain pm_is_plain cd_is_plain ct_is_plain : Value}
    (a_is_plain : PySem.W.nsIn K mainGlobals "is_plain" = some (some (.ref f_is_plain))) (l_is_plain : K.lookup f_is_plain = some ⟨oc_is_plain, od_is_plain, .func (PySem.W.fnOf "is_plain" "is_plain" (defArgs s_is_plain) (defBody s_is_plain) (defScope s_is_plain) .none kV_is_plain dc_is_plain pm_is_plain an_is_plain cd_is_plain ct_is_plain), sl_is_plain⟩) (c_is_plain : PySem.W.codeIn K cd_is_plain "is_plain" = true) (k_is_plain : PySem.W.keepIn K (.ref f_is_plain) = true)
    {f_is_text : Addr} {od_is_text an_is_text : Option Addr} {sl_is_text : Array (Option Value)} {oc_is_text kV_is_text dc_is_text pm_is_text cd_is_text ct_is_text : Value}
    (a_is_text : PySem.W.nsIn K mainGlobals "is_text" = some (some (.ref f_is_text))) (l_is_text : K.lookup f_is_text = some ⟨oc_is_text, od_is_text, .func (PySem.W.fnOf "is_text" "is_text" (defArgs s_is_text) (defBody s_is_text) (defScope s_is_text) .none kV_is_text dc_is_text pm_is_text an_is_text cd_is_text ct_is_text), sl_is_text⟩) (c_is_text : PySem.W.codeIn K cd_is_text "is_text" = true) (k_is_text : PySem.W.keepIn K (.ref f_is_text) = true)
    {f_is_entry_name : Addr} {od_is_entry_name an_is_entry_name : Option Addr} {sl_is_entry_name : Array (Option Value)} {oc_is_entry_name kV_is_entry_name dc_is_entry_name pm_is_entry_name cd_is_entry_name ct_is_entry_name : Value}
    (a_is_entry_name : PySem.W.nsIn K mainGlobals "is_entry_name" = some (some (.ref f_is_entry_name))) (l_is_entry_name : K.lookup f_is_entry_name = some ⟨oc_is_entry_name, od_is_entry_name, .func (PySem.W.fnOf "is_entry_name" "is_entry_name" (defArgs s_is_entry_name) (defBody s_is_entry_name) (defScope s_is_entry_name) .none kV_is_entry_name dc_is_entry_name pm_is_entry_name an_is_entry_name cd_is_entry_name ct_is_entry_name), sl_is_entry_name⟩) (c_is_entry_name : PySem.W.codeIn K cd_is_entry_name "is_entry_name" = true) (k_is_entry_name : PySem.W.keepIn K (.ref f_is_entry_name) = true)
    {f_is_a_path : Addr} {od_is_a_path an_is_a_path : Option Addr} {sl_is_a_path : Array (Option Value)} {oc_is_a_path kV_is_a_path dc_is_a_path pm_is_a_path cd_is_a_path ct_is_a_path : Value}
    (a_is_a_path : PySem.W.nsIn K mainGlobals "is_a_path" = some (some (.ref f_is_a_path))) (l_is_a_path : K.lookup f_is_a_path = some ⟨oc_is_a_path, od_is_a_path, .func (PySem.W.fnOf "is_a_path" "is_a_path" (defArgs s_is_a_path) (defBody s_is_a_path) (defScope s_is_a_path) .none kV_is_a_path dc_is_a_path pm_is_a_path an_is_a_path cd_is_a_path ct_is_a_path), sl_is_a_path⟩) (c_is_a_path : PySem.W.codeIn K cd_is_a_path "is_a_path" = true) (k_is_a_path : PySem.W.keepIn K (.ref f_is_a_path) = true)
    {f_are_entries : Addr} {od_are_entries an_are_entries : Option Addr} {sl_are_entries : Array (Option Value)} {oc_are_entries kV_are_entries dc_are_entries pm_are_entries cd_are_entries ct_are_entries : Value}
    (a_are_entries : PySem.W.nsIn K mainGlobals "are_entries" = some (some (.ref f_are_entries))) (l_are_entries : K.lookup f_are_entries = some ⟨oc_are_entries, od_are_entries, .func (PySem.W.fnOf "are_entries" "are_entries" (defArgs s_are_entries) (defBody s_are_entries) (defScope s_are_entries) .none kV_are_entries dc_are_entries pm_are_entries an_are_entries cd_are_entries ct_are_entries), sl_are_entries⟩) (c_are_entries : PySem.W.codeIn K cd_are_entries "are_entries" = true) (k_are_entries : PySem.W.keepIn K (.ref f_are_entries) = true)
    {f_is_node : Addr} {od_is_node an_is_node : Option Addr} {sl_is_node : Array (Option Value)} {oc_is_node kV_is_node dc_is_node pm_is_node cd_is_node ct_is_node : Value}
    (a_is_node : PySem.W.nsIn K mainGlobals "is_node" = some (some (.ref f_is_node))) (l_is_node : K.lookup f_is_node = some ⟨oc_is_node, od_is_node, .func (PySem.W.fnOf "is_node" "is_node" (defArgs s_is_node) (defBody s_is_node) (defScope s_is_node) .none kV_is_node dc_is_node pm_is_node an_is_node cd_is_node ct_is_node), sl_is_node⟩) (c_is_node : PySem.W.codeIn K cd_is_node "is_node" = true) (k_is_node : PySem.W.keepIn K (.ref f_is_node) = true)
    {f_hangs_together : Addr} {od_hangs_together an_hangs_together : Option Addr} {sl_hangs_together : Array (Option Value)} {oc_hangs_together kV_hangs_together dc_hangs_together pm_hangs_together cd_hangs_together ct_hangs_together : Value}
    (a_hangs_together : PySem.W.nsIn K mainGlobals "hangs_together" = some (some (.ref f_hangs_together))) (l_hangs_together : K.lookup f_hangs_together = some ⟨oc_hangs_together, od_hangs_together, .func (PySem.W.fnOf "hangs_together" "hangs_together" (defArgs s_hangs_together) (defBody s_hangs_together) (defScope s_hangs_together) .none kV_hangs_together dc_hangs_together pm_hangs_together an_hangs_together cd_hangs_together ct_hangs_together), sl_hangs_together⟩) (c_hangs_together : PySem.W.codeIn K cd_hangs_together "hangs_together" = true) (k_hangs_together : PySem.W.keepIn K (.ref f_hangs_together) = true)
    {f_is_a_store : Addr} {od_is_a_store an_is_a_store : Option Addr} {sl_is_a_store : Array (Option Value)} {oc_is_a_store kV_is_a_store dc_is_a_store pm_is_a_store cd_is_a_store ct_is_a_store : Value}
    (a_is_a_store : PySem.W.nsIn K mainGlobals "is_a_store" = some (some (.ref f_is_a_store))) (l_is_a_store : K.lookup f_is_a_store = some ⟨oc_is_a_store, od_is_a_store, .func (PySem.W.fnOf "is_a_store" "is_a_store" (defArgs s_is_a_store) (defBody s_is_a_store) (defScope s_is_a_store) .none kV_is_a_store dc_is_a_store pm_is_a_store an_is_a_store cd_is_a_store ct_is_a_store), sl_is_a_store⟩) (c_is_a_store : PySem.W.codeIn K cd_is_a_store "is_a_store" = true) (k_is_a_store : PySem.W.keepIn K (.ref f_is_a_store) = true)
    {f_is_room : Addr} {od_is_room an_is_room : Option Addr} {sl_is_room : Array (Option Value)} {oc_is_room kV_is_room dc_is_room pm_is_room cd_is_room ct_is_room : Value}
    (a_is_room : PySem.W.nsIn K mainGlobals "is_room" = some (some (.ref f_is_room))) (l_is_room : K.lookup f_is_room = some ⟨oc_is_room, od_is_room, .func (PySem.W.fnOf "is_room" "is_room" (defArgs s_is_room) (defBody s_is_room) (defScope s_is_room) .none kV_is_room dc_is_room pm_is_room an_is_room cd_is_room ct_is_room), sl_is_room⟩) (c_is_room : PySem.W.codeIn K cd_is_room "is_room" = true) (k_is_room : PySem.W.keepIn K (.ref f_is_room) = true)
    {f_need_store : Addr} {od_need_store an_need_store : Option Addr} {sl_need_store : Array (Option Value)} {oc_need_store kV_need_store dc_need_store pm_need_store cd_need_store ct_need_store : Value}
    (a_need_store : PySem.W.nsIn K mainGlobals "need_store" = some (some (.ref f_need_store))) (l_need_store : K.lookup f_need_store = some ⟨oc_need_store, od_need_store, .func (PySem.W.fnOf "need_store" "need_store" (defArgs s_need_store) (defBody s_need_store) (defScope s_need_store) .none kV_need_store dc_need_store pm_need_store an_need_store cd_need_store ct_need_store), sl_need_store⟩) (c_need_store : PySem.W.codeIn K cd_need_store "need_store" = true) (k_need_store : PySem.W.keepIn K (.ref f_need_store) = true)
    {f_need_room : Addr} {od_need_room an_need_room : Option Addr} {sl_need_room : Array (Option Value)} {oc_need_room kV_need_room dc_need_room pm_need_room cd_need_room ct_need_room : Value}
    (a_need_room : PySem.W.nsIn K mainGlobals "need_room" = some (some (.ref f_need_room))) (l_need_room : K.lookup f_need_room = some ⟨oc_need_room, od_need_room, .func (PySem.W.fnOf "need_room" "need_room" (defArgs s_need_room) (defBody s_need_room) (defScope s_need_room) .none kV_need_room dc_need_room pm_need_room an_need_room cd_need_room ct_need_room), sl_need_room⟩) (c_need_room : PySem.W.codeIn K cd_need_room "need_room" = true) (k_need_room : PySem.W.keepIn K (.ref f_need_room) = true)
    {f_need_path : Addr} {od_need_path an_need_path : Option Addr} {sl_need_path : Array (Option Value)} {oc_need_path kV_need_path dc_need_path pm_need_path cd_need_path ct_need_path : Value}
    (a_need_path : PySem.W.nsIn K mainGlobals "need_path" = some (some (.ref f_need_path))) (l_need_path : K.lookup f_need_path = some ⟨oc_need_path, od_need_path, .func (PySem.W.fnOf "need_path" "need_path" (defArgs s_need_path) (defBody s_need_path) (defScope s_need_path) .none kV_need_path dc_need_path pm_need_path an_need_path cd_need_path ct_need_path), sl_need_path⟩) (c_need_path : PySem.W.codeIn K cd_need_path "need_path" = true) (k_need_path : PySem.W.keepIn K (.ref f_need_path) = true)
    {f_words_of : Addr} {od_words_of an_words_of : Option Addr} {sl_words_of : Array (Option Value)} {oc_words_of kV_words_of dc_words_of pm_words_of cd_words_of ct_words_of : Value}
    (a_words_of : PySem.W.nsIn K mainGlobals "words_of" = some (some (.ref f_words_of))) (l_words_of : K.lookup f_words_of = some ⟨oc_words_of, od_words_of, .func (PySem.W.fnOf "words_of" "words_of" (defArgs s_words_of) (defBody s_words_of) (defScope s_words_of) .none kV_words_of dc_words_of pm_words_of an_words_of cd_words_of ct_words_of), sl_words_of⟩) (c_words_of : PySem.W.codeIn K cd_words_of "words_of" = true) (k_words_of : PySem.W.keepIn K (.ref f_words_of) = true)
    {f_last_index : Addr} {od_last_index an_last_index : Option Addr} {sl_last_index : Array (Option Value)} {oc_last_index kV_last_index dc_last_index pm_last_index cd_last_index ct_last_index : Value}
    (a_last_index : PySem.W.nsIn K mainGlobals "last_index" = some (some (.ref f_last_index))) (l_last_index : K.lookup f_last_index = some ⟨oc_last_index, od_last_index, .func (PySem.W.fnOf "last_index" "last_index" (defArgs s_last_index) (defBody s_last_index) (defScope s_last_index) .none kV_last_index dc_last_index pm_last_index an_last_index cd_last_index ct_last_index), sl_last_index⟩) (c_last_index : PySem.W.codeIn K cd_last_index "last_index" = true) (k_last_index : PySem.W.keepIn K (.ref f_last_index) = true)
    {f_start_of : Addr} {od_start_of an_start_of : Option Addr} {sl_start_of : Array (Option Value)} {oc_start_of kV_start_of dc_start_of pm_start_of cd_start_of ct_start_of : Value}
    (a_start_of : PySem.W.nsIn K mainGlobals "start_of" = some (some (.ref f_start_of))) (l_start_of : K.lookup f_start_of = some ⟨oc_start_of, od_start_of, .func (PySem.W.fnOf "start_of" "start_of" (defArgs s_start_of) (defBody s_start_of) (defScope s_start_of) .none kV_start_of dc_start_of pm_start_of an_start_of cd_start_of ct_start_of), sl_start_of⟩) (c_start_of : PySem.W.codeIn K cd_start_of "start_of" = true) (k_start_of : PySem.W.keepIn K (.ref f_start_of) = true)
    {f_parent_of : Addr} {od_parent_of an_parent_of : Option Addr} {sl_parent_of : Array (Option Value)} {oc_parent_of kV_parent_of dc_parent_of pm_parent_of cd_parent_of ct_parent_of : Value}
    (a_parent_of : PySem.W.nsIn K mainGlobals "parent_of" = some (some (.ref f_parent_of))) (l_parent_of : K.lookup f_parent_of = some ⟨oc_parent_of, od_parent_of, .func (PySem.W.fnOf "parent_of" "parent_of" (defArgs s_parent_of) (defBody s_parent_of) (defScope s_parent_of) .none kV_parent_of dc_parent_of pm_parent_of an_parent_of cd_parent_of ct_parent_of), sl_parent_of⟩) (c_parent_of : PySem.W.codeIn K cd_parent_of "parent_of" = true) (k_parent_of : PySem.W.keepIn K (.ref f_parent_of) = true)
    {f_entry_of : Addr} {od_entry_of an_entry_of : Option Addr} {sl_entry_of : Array (Option Value)} {oc_entry_of kV_entry_of dc_entry_of pm_entry_of cd_entry_of ct_entry_of : Value}
    (a_entry_of : PySem.W.nsIn K mainGlobals "entry_of" = some (some (.ref f_entry_of))) (l_entry_of : K.lookup f_entry_of = some ⟨oc_entry_of, od_entry_of, .func (PySem.W.fnOf "entry_of" "entry_of" (defArgs s_entry_of) (defBody s_entry_of) (defScope s_entry_of) .none kV_entry_of dc_entry_of pm_entry_of an_entry_of cd_entry_of ct_entry_of), sl_entry_of⟩) (c_entry_of : PySem.W.codeIn K cd_entry_of "entry_of" = true) (k_entry_of : PySem.W.keepIn K (.ref f_entry_of) = true)
    {f_steps_of : Addr} {od_steps_of an_steps_of : Option Addr} {sl_steps_of : Array (Option Value)} {oc_steps_of kV_steps_of dc_steps_of pm_steps_of cd_steps_of ct_steps_of : Value}
    (a_steps_of : PySem.W.nsIn K mainGlobals "steps_of" = some (some (.ref f_steps_of))) (l_steps_of : K.lookup f_steps_of = some ⟨oc_steps_of, od_steps_of, .func (PySem.W.fnOf "steps_of" "steps_of" (defArgs s_steps_of) (defBody s_steps_of) (defScope s_steps_of) .none kV_steps_of dc_steps_of pm_steps_of an_steps_of cd_steps_of ct_steps_of), sl_steps_of⟩) (c_steps_of : PySem.W.codeIn K cd_steps_of "steps_of" = true) (k_steps_of : PySem.W.keepIn K (.ref f_steps_of) = true)
    {f_gone : Addr} {od_gone an_gone : Option Addr} {sl_gone : Array (Option Value)} {oc_gone kV_gone dc_gone pm_gone cd_gone ct_gone : Value}
    (a_gone : PySem.W.nsIn K mainGlobals "gone" = some (some (.ref f_gone))) (l_gone : K.lookup f_gone = some ⟨oc_gone, od_gone, .func (PySem.W.fnOf "gone" "gone" (defArgs s_gone) (defBody s_gone) (defScope s_gone) .none kV_gone dc_gone pm_gone an_gone cd_gone ct_gone), sl_gone⟩) (c_gone : PySem.W.codeIn K cd_gone "gone" = true) (k_gone : PySem.W.keepIn K (.ref f_gone) = true)
    {f_has_plain_end : Addr} {od_has_plain_end an_has_plain_end : Option Addr} {sl_has_plain_end : Array (Option Value)} {oc_has_plain_end kV_has_plain_end dc_has_plain_end pm_has_plain_end cd_has_plain_end ct_has_plain_end : Value}
    (a_has_plain_end : PySem.W.nsIn K mainGlobals "has_plain_end" = some (some (.ref f_has_plain_end))) (l_has_plain_end : K.lookup f_has_plain_end = some ⟨oc_has_plain_end, od_has_plain_end, .func (PySem.W.fnOf "has_plain_end" "has_plain_end" (defArgs s_has_plain_end) (defBody s_has_plain_end) (defScope s_has_plain_end) .none kV_has_plain_end dc_has_plain_end pm_has_plain_end an_has_plain_end cd_has_plain_end ct_has_plain_end), sl_has_plain_end⟩) (c_has_plain_end : PySem.W.codeIn K cd_has_plain_end "has_plain_end" = true) (k_has_plain_end : PySem.W.keepIn K (.ref f_has_plain_end) = true)
    {f_place_of : Addr} {od_place_of an_place_of : Option Addr} {sl_place_of : Array (Option Value)} {oc_place_of kV_place_of dc_place_of pm_place_of cd_place_of ct_place_of : Value}
    (a_place_of : PySem.W.nsIn K mainGlobals "place_of" = some (some (.ref f_place_of))) (l_place_of : K.lookup f_place_of = some ⟨oc_place_of, od_place_of, .func (PySem.W.fnOf "place_of" "place_of" (defArgs s_place_of) (defBody s_place_of) (defScope s_place_of) .none kV_place_of dc_place_of pm_place_of an_place_of cd_place_of ct_place_of), sl_place_of⟩) (c_place_of : PySem.W.codeIn K cd_place_of "place_of" = true) (k_place_of : PySem.W.keepIn K (.ref f_place_of) = true)
    {f_entry_at : Addr} {od_entry_at an_entry_at : Option Addr} {sl_entry_at : Array (Option Value)} {oc_entry_at kV_entry_at dc_entry_at pm_entry_at cd_entry_at ct_entry_at : Value}
    (a_entry_at : PySem.W.nsIn K mainGlobals "entry_at" = some (some (.ref f_entry_at))) (l_entry_at : K.lookup f_entry_at = some ⟨oc_entry_at, od_entry_at, .func (PySem.W.fnOf "entry_at" "entry_at" (defArgs s_entry_at) (defBody s_entry_at) (defScope s_entry_at) .none kV_entry_at dc_entry_at pm_entry_at an_entry_at cd_entry_at ct_entry_at), sl_entry_at⟩) (c_entry_at : PySem.W.codeIn K cd_entry_at "entry_at" = true) (k_entry_at : PySem.W.keepIn K (.ref f_entry_at) = true)
    {f_with_node : Addr} {od_with_node an_with_node : Option Addr} {sl_with_node : Array (Option Value)} {oc_with_node kV_with_node dc_with_node pm_with_node cd_with_node ct_with_node : Value}
    (a_with_node : PySem.W.nsIn K mainGlobals "with_node" = some (some (.ref f_with_node))) (l_with_node : K.lookup f_with_node = some ⟨oc_with_node, od_with_node, .func (PySem.W.fnOf "with_node" "with_node" (defArgs s_with_node) (defBody s_with_node) (defScope s_with_node) .none kV_with_node dc_with_node pm_with_node an_with_node cd_with_node ct_with_node), sl_with_node⟩) (c_with_node : PySem.W.codeIn K cd_with_node "with_node" = true) (k_with_node : PySem.W.keepIn K (.ref f_with_node) = true)
    {f_with_entry : Addr} {od_with_entry an_with_entry : Option Addr} {sl_with_entry : Array (Option Value)} {oc_with_entry kV_with_entry dc_with_entry pm_with_entry cd_with_entry ct_with_entry : Value}
    (a_with_entry : PySem.W.nsIn K mainGlobals "with_entry" = some (some (.ref f_with_entry))) (l_with_entry : K.lookup f_with_entry = some ⟨oc_with_entry, od_with_entry, .func (PySem.W.fnOf "with_entry" "with_entry" (defArgs s_with_entry) (defBody s_with_entry) (defScope s_with_entry) .none kV_with_entry dc_with_entry pm_with_entry an_with_entry cd_with_entry ct_with_entry), sl_with_entry⟩) (c_with_entry : PySem.W.codeIn K cd_with_entry "with_entry" = true) (k_with_entry : PySem.W.keepIn K (.ref f_with_entry) = true)
    {f_let_go : Addr} {od_let_go an_let_go : Option Addr} {sl_let_go : Array (Option Value)} {oc_let_go kV_let_go dc_let_go pm_let_go cd_let_go ct_let_go : Value}
    (a_let_go : PySem.W.nsIn K mainGlobals "let_go" = some (some (.ref f_let_go))) (l_let_go : K.lookup f_let_go = some ⟨oc_let_go, od_let_go, .func (PySem.W.fnOf "let_go" "let_go" (defArgs s_let_go) (defBody s_let_go) (defScope s_let_go) .none kV_let_go dc_let_go pm_let_go an_let_go cd_let_go ct_let_go), sl_let_go⟩) (c_let_go : PySem.W.codeIn K cd_let_go "let_go" = true) (k_let_go : PySem.W.keepIn K (.ref f_let_go) = true)
    {f_free_number : Addr} {od_free_number an_free_number : Option Addr} {sl_free_number : Array (Option Value)} {oc_free_number kV_free_number dc_free_number pm_free_number cd_free_number ct_free_number : Value}
    (a_free_number : PySem.W.nsIn K mainGlobals "free_number" = some (some (.ref f_free_number))) (l_free_number : K.lookup f_free_number = some ⟨oc_free_number, od_free_number, .func (PySem.W.fnOf "free_number" "free_number" (defArgs s_free_number) (defBody s_free_number) (defScope s_free_number) .none kV_free_number dc_free_number pm_free_number an_free_number cd_free_number ct_free_number), sl_free_number⟩) (c_free_number : PySem.W.codeIn K cd_free_number "free_number" = true) (k_free_number : PySem.W.keepIn K (.ref f_free_number) = true)
    {f_made kT_made A_made : Addr} {od_made an_made odT_made odA_made : Option Addr} {sl_made slT_made slA_made : Array (Option Value)} {nT_made nA_made : Nat} {oc_made kV_made dc_made pm_made cd_made ct_made ocT_made : Value}
    (a_made : PySem.W.nsIn K mainGlobals "made" = some (some (.ref f_made))) (l_made : K.lookup f_made = some ⟨oc_made, od_made, .func (PySem.W.fnOf "made" "made" (defArgs s_made) (defBody s_made) (defScope s_made) (.ref kT_made) kV_made dc_made pm_made an_made cd_made ct_made), sl_made⟩) (c_made : PySem.W.codeIn K cd_made "made" = true) (k_made : PySem.W.keepIn K (.ref f_made) = true)
    (t_made : K.lookup kT_made = some ⟨ocT_made, odT_made, .seq #[.ref A_made] nT_made, slT_made⟩) (y_made : K.lookup A_made = some ⟨.type "tuple", odA_made, .seq #[] nA_made, slA_made⟩)
    {f_removed : Addr} {od_removed an_removed : Option Addr} {sl_removed : Array (Option Value)} {oc_removed kV_removed dc_removed pm_removed cd_removed ct_removed : Value}
    (a_removed : PySem.W.nsIn K mainGlobals "removed" = some (some (.ref f_removed))) (l_removed : K.lookup f_removed = some ⟨oc_removed, od_removed, .func (PySem.W.fnOf "removed" "removed" (defArgs s_removed) (defBody s_removed) (defScope s_removed) .none kV_removed dc_removed pm_removed an_removed cd_removed ct_removed), sl_removed⟩) (c_removed : PySem.W.codeIn K cd_removed "removed" = true) (k_removed : PySem.W.keepIn K (.ref f_removed) = true)
    {f_need_three : Addr} {od_need_three an_need_three : Option Addr} {sl_need_three : Array (Option Value)} {oc_need_three kV_need_three dc_need_three pm_need_three cd_need_three ct_need_three : Value}
    (a_need_three : PySem.W.nsIn K mainGlobals "need_three" = some (some (.ref f_need_three))) (l_need_three : K.lookup f_need_three = some ⟨oc_need_three, od_need_three, .func (PySem.W.fnOf "need_three" "need_three" (defArgs s_need_three) (defBody s_need_three) (defScope s_need_three) .none kV_need_three dc_need_three pm_need_three an_need_three cd_need_three ct_need_three), sl_need_three⟩) (c_need_three : PySem.W.codeIn K cd_need_three "need_three" = true) (k_need_three : PySem.W.keepIn K (.ref f_need_three) = true)
    {f_make : Addr} {od_make an_make : Option Addr} {sl_make : Array (Option Value)} {oc_make kV_make dc_make pm_make cd_make ct_make : Value}
    (a_make : PySem.W.nsIn K mainGlobals "make" = some (some (.ref f_make))) (l_make : K.lookup f_make = some ⟨oc_make, od_make, .func (PySem.W.fnOf "make" "make" (defArgs s_make) (defBody s_make) (defScope s_make) .none kV_make dc_make pm_make an_make cd_make ct_make), sl_make⟩) (c_make : PySem.W.codeIn K cd_make "make" = true) (k_make : PySem.W.keepIn K (.ref f_make) = true)
    {f_remove : Addr} {od_remove an_remove : Option Addr} {sl_remove : Array (Option Value)} {oc_remove kV_remove dc_remove pm_remove cd_remove ct_remove : Value}
    (a_remove : PySem.W.nsIn K mainGlobals "remove" = some (some (.ref f_remove))) (l_remove : K.lookup f_remove = some ⟨oc_remove, od_remove, .func (PySem.W.fnOf "remove" "remove" (defArgs s_remove) (defBody s_remove) (defScope s_remove) .none kV_remove dc_remove pm_remove an_remove cd_remove ct_remove), sl_remove⟩) (c_remove : PySem.W.codeIn K cd_remove "remove" = true) (k_remove : PySem.W.keepIn K (.ref f_remove) = true)
    {f_law_deck : Addr} {od_law_deck an_law_deck : Option Addr} {sl_law_deck : Array (Option Value)} {oc_law_deck kV_law_deck dc_law_deck pm_law_deck cd_law_deck ct_law_deck : Value}
    (a_law_deck : PySem.W.nsIn K mainGlobals "_law_deck" = some (some (.ref f_law_deck))) (l_law_deck : K.lookup f_law_deck = some ⟨oc_law_deck, od_law_deck, .func (PySem.W.fnOf "_law_deck" "_law_deck" (defArgs s_law_deck) (defBody s_law_deck) (defScope s_law_deck) .none kV_law_deck dc_law_deck pm_law_deck an_law_deck cd_law_deck ct_law_deck), sl_law_deck⟩) (c_law_deck : PySem.W.codeIn K cd_law_deck "_law_deck" = true) (k_law_deck : PySem.W.keepIn K (.ref f_law_deck) = true)
    {f_law_draw : Addr} {od_law_draw an_law_draw : Option Addr} {sl_law_draw : Array (Option Value)} {oc_law_draw kV_law_draw dc_law_draw pm_law_draw cd_law_draw ct_law_draw : Value}
    (a_law_draw : PySem.W.nsIn K mainGlobals "_law_draw" = some (some (.ref f_law_draw))) (l_law_draw : K.lookup f_law_draw = some ⟨oc_law_draw, od_law_draw, .func (PySem.W.fnOf "_law_draw" "_law_draw" (defArgs s_law_draw) (defBody s_law_draw) (defScope s_law_draw) .none kV_law_draw dc_law_draw pm_law_draw an_law_draw cd_law_draw ct_law_draw), sl_law_draw⟩) (c_law_draw : PySem.W.codeIn K cd_law_draw "_law_draw" = true) (k_law_draw : PySem.W.keepIn K (.ref f_law_draw) = true)
    {f_law_one_of : Addr} {od_law_one_of an_law_one_of : Option Addr} {sl_law_one_of : Array (Option Value)} {oc_law_one_of kV_law_one_of dc_law_one_of pm_law_one_of cd_law_one_of ct_law_one_of : Value}
    (a_law_one_of : PySem.W.nsIn K mainGlobals "_law_one_of" = some (some (.ref f_law_one_of))) (l_law_one_of : K.lookup f_law_one_of = some ⟨oc_law_one_of, od_law_one_of, .func (PySem.W.fnOf "_law_one_of" "_law_one_of" (defArgs s_law_one_of) (defBody s_law_one_of) (defScope s_law_one_of) .none kV_law_one_of dc_law_one_of pm_law_one_of an_law_one_of cd_law_one_of ct_law_one_of), sl_law_one_of⟩) (c_law_one_of : PySem.W.codeIn K cd_law_one_of "_law_one_of" = true) (k_law_one_of : PySem.W.keepIn K (.ref f_law_one_of) = true)
    {f_law_mixed : Addr} {od_law_mixed an_law_mixed : Option Addr} {sl_law_mixed : Array (Option Value)} {oc_law_mixed kV_law_mixed dc_law_mixed pm_law_mixed cd_law_mixed ct_law_mixed : Value}
    (a_law_mixed : PySem.W.nsIn K mainGlobals "_law_mixed" = some (some (.ref f_law_mixed))) (l_law_mixed : K.lookup f_law_mixed = some ⟨oc_law_mixed, od_law_mixed, .func (PySem.W.fnOf "_law_mixed" "_law_mixed" (defArgs s_law_mixed) (defBody s_law_mixed) (defScope s_law_mixed) .none kV_law_mixed dc_law_mixed pm_law_mixed an_law_mixed cd_law_mixed ct_law_mixed), sl_law_mixed⟩) (c_law_mixed : PySem.W.codeIn K cd_law_mixed "_law_mixed" = true) (k_law_mixed : PySem.W.keepIn K (.ref f_law_mixed) = true)
    {f_law_name : Addr} {od_law_name an_law_name : Option Addr} {sl_law_name : Array (Option Value)} {oc_law_name kV_law_name dc_law_name pm_law_name cd_law_name ct_law_name : Value}
    (a_law_name : PySem.W.nsIn K mainGlobals "_law_name" = some (some (.ref f_law_name))) (l_law_name : K.lookup f_law_name = some ⟨oc_law_name, od_law_name, .func (PySem.W.fnOf "_law_name" "_law_name" (defArgs s_law_name) (defBody s_law_name) (defScope s_law_name) .none kV_law_name dc_law_name pm_law_name an_law_name cd_law_name ct_law_name), sl_law_name⟩) (c_law_name : PySem.W.codeIn K cd_law_name "_law_name" = true) (k_law_name : PySem.W.keepIn K (.ref f_law_name) = true)
    {f_law_path : Addr} {od_law_path an_law_path : Option Addr} {sl_law_path : Array (Option Value)} {oc_law_path kV_law_path dc_law_path pm_law_path cd_law_path ct_law_path : Value}
    (a_law_path : PySem.W.nsIn K mainGlobals "_law_path" = some (some (.ref f_law_path))) (l_law_path : K.lookup f_law_path = some ⟨oc_law_path, od_law_path, .func (PySem.W.fnOf "_law_path" "_law_path" (defArgs s_law_path) (defBody s_law_path) (defScope s_law_path) .none kV_law_path dc_law_path pm_law_path an_law_path cd_law_path ct_law_path), sl_law_path⟩) (c_law_path : PySem.W.codeIn K cd_law_path "_law_path" = true) (k_law_path : PySem.W.keepIn K (.ref f_law_path) = true)
    {f_law_text : Addr} {od_law_text an_law_text : Option Addr} {sl_law_text : Array (Option Value)} {oc_law_text kV_law_text dc_law_text pm_law_text cd_law_text ct_law_text : Value}
    (a_law_text : PySem.W.nsIn K mainGlobals "_law_text" = some (some (.ref f_law_text))) (l_law_text : K.lookup f_law_text = some ⟨oc_law_text, od_law_text, .func (PySem.W.fnOf "_law_text" "_law_text" (defArgs s_law_text) (defBody s_law_text) (defScope s_law_text) .none kV_law_text dc_law_text pm_law_text an_law_text cd_law_text ct_law_text), sl_law_text⟩) (c_law_text : PySem.W.codeIn K cd_law_text "_law_text" = true) (k_law_text : PySem.W.keepIn K (.ref f_law_text) = true)
    {f_law_places : Addr} {od_law_places an_law_places : Option Addr} {sl_law_places : Array (Option Value)} {oc_law_places kV_law_places dc_law_places pm_law_places cd_law_places ct_law_places : Value}
    (a_law_places : PySem.W.nsIn K mainGlobals "_law_places" = some (some (.ref f_law_places))) (l_law_places : K.lookup f_law_places = some ⟨oc_law_places, od_law_places, .func (PySem.W.fnOf "_law_places" "_law_places" (defArgs s_law_places) (defBody s_law_places) (defScope s_law_places) .none kV_law_places dc_law_places pm_law_places an_law_places cd_law_places ct_law_places), sl_law_places⟩) (c_law_places : PySem.W.codeIn K cd_law_places "_law_places" = true) (k_law_places : PySem.W.keepIn K (.ref f_law_places) = true)
    {f_law_store : Addr} {od_law_store an_law_store : Option Addr} {sl_law_store : Array (Option Value)} {oc_law_store kV_law_store dc_law_store pm_law_store cd_law_store ct_law_store : Value}
    (a_law_store : PySem.W.nsIn K mainGlobals "_law_store" = some (some (.ref f_law_store))) (l_law_store : K.lookup f_law_store = some ⟨oc_law_store, od_law_store, .func (PySem.W.fnOf "_law_store" "_law_store" (defArgs s_law_store) (defBody s_law_store) (defScope s_law_store) .none kV_law_store dc_law_store pm_law_store an_law_store cd_law_store ct_law_store), sl_law_store⟩) (c_law_store : PySem.W.codeIn K cd_law_store "_law_store" = true) (k_law_store : PySem.W.keepIn K (.ref f_law_store) = true)
    {f_law_rooms : Addr} {od_law_rooms an_law_rooms : Option Addr} {sl_law_rooms : Array (Option Value)} {oc_law_rooms kV_law_rooms dc_law_rooms pm_law_rooms cd_law_rooms ct_law_rooms : Value}
    (a_law_rooms : PySem.W.nsIn K mainGlobals "_law_rooms" = some (some (.ref f_law_rooms))) (l_law_rooms : K.lookup f_law_rooms = some ⟨oc_law_rooms, od_law_rooms, .func (PySem.W.fnOf "_law_rooms" "_law_rooms" (defArgs s_law_rooms) (defBody s_law_rooms) (defScope s_law_rooms) .none kV_law_rooms dc_law_rooms pm_law_rooms an_law_rooms cd_law_rooms ct_law_rooms), sl_law_rooms⟩) (c_law_rooms : PySem.W.codeIn K cd_law_rooms "_law_rooms" = true) (k_law_rooms : PySem.W.keepIn K (.ref f_law_rooms) = true)
    {f_law_is_room : Addr} {od_law_is_room an_law_is_room : Option Addr} {sl_law_is_room : Array (Option Value)} {oc_law_is_room kV_law_is_room dc_law_is_room pm_law_is_room cd_law_is_room ct_law_is_room : Value}
    (a_law_is_room : PySem.W.nsIn K mainGlobals "_law_is_room" = some (some (.ref f_law_is_room))) (l_law_is_room : K.lookup f_law_is_room = some ⟨oc_law_is_room, od_law_is_room, .func (PySem.W.fnOf "_law_is_room" "_law_is_room" (defArgs s_law_is_room) (defBody s_law_is_room) (defScope s_law_is_room) .none kV_law_is_room dc_law_is_room pm_law_is_room an_law_is_room cd_law_is_room ct_law_is_room), sl_law_is_room⟩) (c_law_is_room : PySem.W.codeIn K cd_law_is_room "_law_is_room" = true) (k_law_is_room : PySem.W.keepIn K (.ref f_law_is_room) = true)
    {f_law_words : Addr} {od_law_words an_law_words : Option Addr} {sl_law_words : Array (Option Value)} {oc_law_words kV_law_words dc_law_words pm_law_words cd_law_words ct_law_words : Value}
    (a_law_words : PySem.W.nsIn K mainGlobals "_law_words" = some (some (.ref f_law_words))) (l_law_words : K.lookup f_law_words = some ⟨oc_law_words, od_law_words, .func (PySem.W.fnOf "_law_words" "_law_words" (defArgs s_law_words) (defBody s_law_words) (defScope s_law_words) .none kV_law_words dc_law_words pm_law_words an_law_words cd_law_words ct_law_words), sl_law_words⟩) (c_law_words : PySem.W.codeIn K cd_law_words "_law_words" = true) (k_law_words : PySem.W.keepIn K (.ref f_law_words) = true)
    {f_law_above : Addr} {od_law_above an_law_above : Option Addr} {sl_law_above : Array (Option Value)} {oc_law_above kV_law_above dc_law_above pm_law_above cd_law_above ct_law_above : Value}
    (a_law_above : PySem.W.nsIn K mainGlobals "_law_above" = some (some (.ref f_law_above))) (l_law_above : K.lookup f_law_above = some ⟨oc_law_above, od_law_above, .func (PySem.W.fnOf "_law_above" "_law_above" (defArgs s_law_above) (defBody s_law_above) (defScope s_law_above) .none kV_law_above dc_law_above pm_law_above an_law_above cd_law_above ct_law_above), sl_law_above⟩) (c_law_above : PySem.W.codeIn K cd_law_above "_law_above" = true) (k_law_above : PySem.W.keepIn K (.ref f_law_above) = true)
    {f_law_walk : Addr} {od_law_walk an_law_walk : Option Addr} {sl_law_walk : Array (Option Value)} {oc_law_walk kV_law_walk dc_law_walk pm_law_walk cd_law_walk ct_law_walk : Value}
    (a_law_walk : PySem.W.nsIn K mainGlobals "_law_walk" = some (some (.ref f_law_walk))) (l_law_walk : K.lookup f_law_walk = some ⟨oc_law_walk, od_law_walk, .func (PySem.W.fnOf "_law_walk" "_law_walk" (defArgs s_law_walk) (defBody s_law_walk) (defScope s_law_walk) .none kV_law_walk dc_law_walk pm_law_walk an_law_walk cd_law_walk ct_law_walk), sl_law_walk⟩) (c_law_walk : PySem.W.codeIn K cd_law_walk "_law_walk" = true) (k_law_walk : PySem.W.keepIn K (.ref f_law_walk) = true)
    {f_law_place : Addr} {od_law_place an_law_place : Option Addr} {sl_law_place : Array (Option Value)} {oc_law_place kV_law_place dc_law_place pm_law_place cd_law_place ct_law_place : Value}
    (a_law_place : PySem.W.nsIn K mainGlobals "_law_place" = some (some (.ref f_law_place))) (l_law_place : K.lookup f_law_place = some ⟨oc_law_place, od_law_place, .func (PySem.W.fnOf "_law_place" "_law_place" (defArgs s_law_place) (defBody s_law_place) (defScope s_law_place) .none kV_law_place dc_law_place pm_law_place an_law_place cd_law_place ct_law_place), sl_law_place⟩) (c_law_place : PySem.W.codeIn K cd_law_place "_law_place" = true) (k_law_place : PySem.W.keepIn K (.ref f_law_place) = true)
    {f_law_entry : Addr} {od_law_entry an_law_entry : Option Addr} {sl_law_entry : Array (Option Value)} {oc_law_entry kV_law_entry dc_law_entry pm_law_entry cd_law_entry ct_law_entry : Value}
    (a_law_entry : PySem.W.nsIn K mainGlobals "_law_entry" = some (some (.ref f_law_entry))) (l_law_entry : K.lookup f_law_entry = some ⟨oc_law_entry, od_law_entry, .func (PySem.W.fnOf "_law_entry" "_law_entry" (defArgs s_law_entry) (defBody s_law_entry) (defScope s_law_entry) .none kV_law_entry dc_law_entry pm_law_entry an_law_entry cd_law_entry ct_law_entry), sl_law_entry⟩) (c_law_entry : PySem.W.codeIn K cd_law_entry "_law_entry" = true) (k_law_entry : PySem.W.keepIn K (.ref f_law_entry) = true)
    {f_law_with : Addr} {od_law_with an_law_with : Option Addr} {sl_law_with : Array (Option Value)} {oc_law_with kV_law_with dc_law_with pm_law_with cd_law_with ct_law_with : Value}
    (a_law_with : PySem.W.nsIn K mainGlobals "_law_with" = some (some (.ref f_law_with))) (l_law_with : K.lookup f_law_with = some ⟨oc_law_with, od_law_with, .func (PySem.W.fnOf "_law_with" "_law_with" (defArgs s_law_with) (defBody s_law_with) (defScope s_law_with) .none kV_law_with dc_law_with pm_law_with an_law_with cd_law_with ct_law_with), sl_law_with⟩) (c_law_with : PySem.W.codeIn K cd_law_with "_law_with" = true) (k_law_with : PySem.W.keepIn K (.ref f_law_with) = true)
    {f_law_tidy : Addr} {od_law_tidy an_law_tidy : Option Addr} {sl_law_tidy : Array (Option Value)} {oc_law_tidy kV_law_tidy dc_law_tidy pm_law_tidy cd_law_tidy ct_law_tidy : Value}
    (a_law_tidy : PySem.W.nsIn K mainGlobals "_law_tidy" = some (some (.ref f_law_tidy))) (l_law_tidy : K.lookup f_law_tidy = some ⟨oc_law_tidy, od_law_tidy, .func (PySem.W.fnOf "_law_tidy" "_law_tidy" (defArgs s_law_tidy) (defBody s_law_tidy) (defScope s_law_tidy) .none kV_law_tidy dc_law_tidy pm_law_tidy an_law_tidy cd_law_tidy ct_law_tidy), sl_law_tidy⟩) (c_law_tidy : PySem.W.codeIn K cd_law_tidy "_law_tidy" = true) (k_law_tidy : PySem.W.keepIn K (.ref f_law_tidy) = true)
    {f_law_made : Addr} {od_law_made an_law_made : Option Addr} {sl_law_made : Array (Option Value)} {oc_law_made kV_law_made dc_law_made pm_law_made cd_law_made ct_law_made : Value}
    (a_law_made : PySem.W.nsIn K mainGlobals "_law_made" = some (some (.ref f_law_made))) (l_law_made : K.lookup f_law_made = some ⟨oc_law_made, od_law_made, .func (PySem.W.fnOf "_law_made" "_law_made" (defArgs s_law_made) (defBody s_law_made) (defScope s_law_made) .none kV_law_made dc_law_made pm_law_made an_law_made cd_law_made ct_law_made), sl_law_made⟩) (c_law_made : PySem.W.codeIn K cd_law_made "_law_made" = true) (k_law_made : PySem.W.keepIn K (.ref f_law_made) = true)
    {f_law_removed : Addr} {od_law_removed an_law_removed : Option Addr} {sl_law_removed : Array (Option Value)} {oc_law_removed kV_law_removed dc_law_removed pm_law_removed cd_law_removed ct_law_removed : Value}
    (a_law_removed : PySem.W.nsIn K mainGlobals "_law_removed" = some (some (.ref f_law_removed))) (l_law_removed : K.lookup f_law_removed = some ⟨oc_law_removed, od_law_removed, .func (PySem.W.fnOf "_law_removed" "_law_removed" (defArgs s_law_removed) (defBody s_law_removed) (defScope s_law_removed) .none kV_law_removed dc_law_removed pm_law_removed an_law_removed cd_law_removed ct_law_removed), sl_law_removed⟩) (c_law_removed : PySem.W.codeIn K cd_law_removed "_law_removed" = true) (k_law_removed : PySem.W.keepIn K (.ref f_law_removed) = true)
    {f_law_got : Addr} {od_law_got an_law_got : Option Addr} {sl_law_got : Array (Option Value)} {oc_law_got kV_law_got dc_law_got pm_law_got cd_law_got ct_law_got : Value}
    (a_law_got : PySem.W.nsIn K mainGlobals "_law_got" = some (some (.ref f_law_got))) (l_law_got : K.lookup f_law_got = some ⟨oc_law_got, od_law_got, .func (PySem.W.fnOf "_law_got" "_law_got" (defArgs s_law_got) (defBody s_law_got) (defScope s_law_got) .none kV_law_got dc_law_got pm_law_got an_law_got cd_law_got ct_law_got), sl_law_got⟩) (c_law_got : PySem.W.codeIn K cd_law_got "_law_got" = true) (k_law_got : PySem.W.keepIn K (.ref f_law_got) = true)
    {f_law_crowd : Addr} {od_law_crowd an_law_crowd : Option Addr} {sl_law_crowd : Array (Option Value)} {oc_law_crowd kV_law_crowd dc_law_crowd pm_law_crowd cd_law_crowd ct_law_crowd : Value}
    (a_law_crowd : PySem.W.nsIn K mainGlobals "_law_crowd" = some (some (.ref f_law_crowd))) (l_law_crowd : K.lookup f_law_crowd = some ⟨oc_law_crowd, od_law_crowd, .func (PySem.W.fnOf "_law_crowd" "_law_crowd" (defArgs s_law_crowd) (defBody s_law_crowd) (defScope s_law_crowd) .none kV_law_crowd dc_law_crowd pm_law_crowd an_law_crowd cd_law_crowd ct_law_crowd), sl_law_crowd⟩) (c_law_crowd : PySem.W.codeIn K cd_law_crowd "_law_crowd" = true) (k_law_crowd : PySem.W.keepIn K (.ref f_law_crowd) = true)
    {f_law_right : Addr} {od_law_right an_law_right : Option Addr} {sl_law_right : Array (Option Value)} {oc_law_right kV_law_right dc_law_right pm_law_right cd_law_right ct_law_right : Value}
    (a_law_right : PySem.W.nsIn K mainGlobals "_law_right" = some (some (.ref f_law_right))) (l_law_right : K.lookup f_law_right = some ⟨oc_law_right, od_law_right, .func (PySem.W.fnOf "_law_right" "_law_right" (defArgs s_law_right) (defBody s_law_right) (defScope s_law_right) .none kV_law_right dc_law_right pm_law_right an_law_right cd_law_right ct_law_right), sl_law_right⟩) (c_law_right : PySem.W.codeIn K cd_law_right "_law_right" = true) (k_law_right : PySem.W.keepIn K (.ref f_law_right) = true)
    {f_law : Addr} {od_law an_law : Option Addr} {sl_law : Array (Option Value)} {oc_law kV_law dc_law pm_law cd_law ct_law : Value}
    (a_law : PySem.W.nsIn K mainGlobals "law" = some (some (.ref f_law))) (l_law : K.lookup f_law = some ⟨oc_law, od_law, .func (PySem.W.fnOf "law" "law" (defArgs s_law) (defBody s_law) (defScope s_law) .none kV_law dc_law pm_law an_law cd_law ct_law), sl_law⟩) (c_law : PySem.W.codeIn K cd_law "law" = true) (k_law : PySem.W.keepIn K (.ref f_law) = true)
    (z_all : PySem.W.nsIn K mainGlobals "all" = some none)
    (z_bool : PySem.W.nsIn K mainGlobals "bool" = some none)
    (z_dict : PySem.W.nsIn K mainGlobals "dict" = some none)
    (z_enumerate : PySem.W.nsIn K mainGlobals "enumerate" = some none)
    (z_int : PySem.W.nsIn K mainGlobals "int" = some none)
    (z_isinstance : PySem.W.nsIn K mainGlobals "isinstance" = some none)
    (z_len : PySem.W.nsIn K mainGlobals "len" = some none)
    (z_list : PySem.W.nsIn K mainGlobals "list" = some none)
    (z_max : PySem.W.nsIn K mainGlobals "max" = some none)
    (z_min : PySem.W.nsIn K mainGlobals "min" = some none)
    (z_range : PySem.W.nsIn K mainGlobals "range" = some none)
    (z_repr : PySem.W.nsIn K mainGlobals "repr" = some none)
    (z_sorted : PySem.W.nsIn K mainGlobals "sorted" = some none)
    (z_str : PySem.W.nsIn K mainGlobals "str" = some none)
    (z_tuple : PySem.W.nsIn K mainGlobals "tuple" = some none)
    (z_zip : PySem.W.nsIn K mainGlobals "zip" = some none)
    {C_InvalidStore C_InvalidRoom C_InvalidPath C_NotRoom C_NoEntry C_TooManySigns C_NotPlain C_TooLarge C_Exists C_NotEmpty C_InvalidNode : Addr}
    (gsuper : PySem.W.nsIn K mainGlobals "super" = some none) (third : PySem.W.nsIn K PySem.cStatics "thirdparty.any" = some none) (topS : (P.main.scope.names.lookup ("super" : Str)).isSome = false)
    (g_InvalidStore : PySem.W.nsIn K mainGlobals "InvalidStore" = some (some (.ref C_InvalidStore))) (x_InvalidStore : PySem.W.excIn K C_InvalidStore [.type "ValueError", .type "Exception", .type "BaseException", .type "object"] "ValueError.__new__" = true) (kk_InvalidStore : PySem.W.keepIn K (.ref C_InvalidStore) = true) (bb_InvalidStore : PySem.W.subIn K (.ref C_InvalidStore) (.type "BaseException") = some true) (tt_InvalidStore : PySem.W.typeIn K (.ref C_InvalidStore) = some (.type "type")) (ii_InvalidStore : PySem.W.isClsIn K C_InvalidStore = true)
    (g_InvalidRoom : PySem.W.nsIn K mainGlobals "InvalidRoom" = some (some (.ref C_InvalidRoom))) (x_InvalidRoom : PySem.W.excIn K C_InvalidRoom [.type "ValueError", .type "Exception", .type "BaseException", .type "object"] "ValueError.__new__" = true) (kk_InvalidRoom : PySem.W.keepIn K (.ref C_InvalidRoom) = true) (bb_InvalidRoom : PySem.W.subIn K (.ref C_InvalidRoom) (.type "BaseException") = some true) (tt_InvalidRoom : PySem.W.typeIn K (.ref C_InvalidRoom) = some (.type "type")) (ii_InvalidRoom : PySem.W.isClsIn K C_InvalidRoom = true)
    (g_InvalidPath : PySem.W.nsIn K mainGlobals "InvalidPath" = some (some (.ref C_InvalidPath))) (x_InvalidPath : PySem.W.excIn K C_InvalidPath [.type "ValueError", .type "Exception", .type "BaseException", .type "object"] "ValueError.__new__" = true) (kk_InvalidPath : PySem.W.keepIn K (.ref C_InvalidPath) = true) (bb_InvalidPath : PySem.W.subIn K (.ref C_InvalidPath) (.type "BaseException") = some true) (tt_InvalidPath : PySem.W.typeIn K (.ref C_InvalidPath) = some (.type "type")) (ii_InvalidPath : PySem.W.isClsIn K C_InvalidPath = true)
    {F_NotRoom cda_NotRoom cc_NotRoom N_NotRoom B0_NotRoom : Addr} {nm_NotRoom q_NotRoom file_NotRoom : Str} {bs_NotRoom sub_NotRoom : List Value} {sn_NotRoom : List Str} {ab_NotRoom : Bool} {col_NotRoom : Option Bool} {dd_NotRoom od_NotRoom an_NotRoom cdd_NotRoom cld_NotRoom : Option Addr} {k0_NotRoom k1_NotRoom k2_NotRoom k3_NotRoom k5_NotRoom : Option Value} {oc_NotRoom kV_NotRoom dc_NotRoom pm_NotRoom ct_NotRoom ccl_NotRoom cl_NotRoom : Value} {ols_NotRoom ccs_NotRoom csl_NotRoom : Array (Option Value)} {vs_NotRoom : Array Value} {tok_NotRoom : Tok}
    (g_NotRoom : PySem.W.nsIn K mainGlobals "NotRoom" = some (some (.ref C_NotRoom))) (x_NotRoom : K.lookup C_NotRoom = some (PySem.excClassObj nm_NotRoom q_NotRoom C_NotRoom N_NotRoom bs_NotRoom [.ref B0_NotRoom, .type "ValueError", .type "Exception", .type "BaseException", .type "object"] true sn_NotRoom sub_NotRoom ab_NotRoom col_NotRoom dd_NotRoom k0_NotRoom k1_NotRoom k2_NotRoom k3_NotRoom k5_NotRoom "ValueError.__new__"))
    (sa_NotRoom : PySem.W.findIn K (.ref C_NotRoom) "__setattr__" = some (some (.builtin "object.__setattr__"))) (ga_NotRoom : PySem.W.findIn K (.ref C_NotRoom) "__getattribute__" = some (some (.builtin "BaseException.__getattribute__"))) (gg_NotRoom : PySem.W.findIn K (.ref C_NotRoom) "__getattr__" = some none) (no_NotRoom : PySem.W.findIn K (.ref C_NotRoom) "index" = some none)
    (ic_NotRoom : PySem.W.findIn K (.ref C_NotRoom) "__init__" = some (some (.ref F_NotRoom))) (tf_NotRoom : PySem.W.typeIn K (.ref F_NotRoom) = some (.type "function")) (kk_NotRoom : PySem.W.keepIn K (.ref C_NotRoom) = true) (bb_NotRoom : PySem.W.subIn K (.ref C_NotRoom) (.type "BaseException") = some true) (ve_NotRoom : PySem.W.subIn K (.ref C_NotRoom) (.type "ValueError") = some true)
    (tt_NotRoom : PySem.W.typeIn K (.ref C_NotRoom) = some (.type "type")) (hd_NotRoom : PySem.W.hasDictIn K C_NotRoom = true) (ii_NotRoom : PySem.W.isClsIn K C_NotRoom = true) (sl_NotRoom : PySem.W.mroIn K C_NotRoom (.ref C_NotRoom) = some true) (su_NotRoom : PySem.W.ks_superIn K C_NotRoom C_NotRoom "__init__" = some (some (.builtin "ValueError.__init__")))
    (l_NotRoom : K.lookup F_NotRoom = some ⟨oc_NotRoom, od_NotRoom, .func (PySem.W.fnX "__init__" "NotRoom.__init__" (defArgs (inClass (top 8) 0)) (defBody (inClass (top 8) 0)) (defScope (inClass (top 8) 0)) [("__class__", cc_NotRoom)] .none kV_NotRoom dc_NotRoom pm_NotRoom an_NotRoom (.ref cda_NotRoom) ct_NotRoom), ols_NotRoom⟩) (c_NotRoom : PySem.W.codeIn K (.ref cda_NotRoom) "NotRoom.__init__" = true)
    (co_NotRoom : K.lookup cda_NotRoom = some ⟨ccl_NotRoom, cdd_NotRoom, .fields vs_NotRoom, ccs_NotRoom⟩) (v2_NotRoom : vs_NotRoom[2]? = some (.str file_NotRoom tok_NotRoom)) (fe_NotRoom : ((P.main.file : Str) == file_NotRoom) = true) (ce_NotRoom : K.lookup cc_NotRoom = some ⟨cl_NotRoom, cld_NotRoom, .cell (some (.ref C_NotRoom)), csl_NotRoom⟩)
    {F_NoEntry cda_NoEntry cc_NoEntry N_NoEntry B0_NoEntry : Addr} {nm_NoEntry q_NoEntry file_NoEntry : Str} {bs_NoEntry sub_NoEntry : List Value} {sn_NoEntry : List Str} {ab_NoEntry : Bool} {col_NoEntry : Option Bool} {dd_NoEntry od_NoEntry an_NoEntry cdd_NoEntry cld_NoEntry : Option Addr} {k0_NoEntry k1_NoEntry k2_NoEntry k3_NoEntry k5_NoEntry : Option Value} {oc_NoEntry kV_NoEntry dc_NoEntry pm_NoEntry ct_NoEntry ccl_NoEntry cl_NoEntry : Value} {ols_NoEntry ccs_NoEntry csl_NoEntry : Array (Option Value)} {vs_NoEntry : Array Value} {tok_NoEntry : Tok}
    (g_NoEntry : PySem.W.nsIn K mainGlobals "NoEntry" = some (some (.ref C_NoEntry))) (x_NoEntry : K.lookup C_NoEntry = some (PySem.excClassObj nm_NoEntry q_NoEntry C_NoEntry N_NoEntry bs_NoEntry [.ref B0_NoEntry, .type "ValueError", .type "Exception", .type "BaseException", .type "object"] true sn_NoEntry sub_NoEntry ab_NoEntry col_NoEntry dd_NoEntry k0_NoEntry k1_NoEntry k2_NoEntry k3_NoEntry k5_NoEntry "ValueError.__new__"))
    (sa_NoEntry : PySem.W.findIn K (.ref C_NoEntry) "__setattr__" = some (some (.builtin "object.__setattr__"))) (ga_NoEntry : PySem.W.findIn K (.ref C_NoEntry) "__getattribute__" = some (some (.builtin "BaseException.__getattribute__"))) (gg_NoEntry : PySem.W.findIn K (.ref C_NoEntry) "__getattr__" = some none) (no_NoEntry : PySem.W.findIn K (.ref C_NoEntry) "index" = some none)
    (ic_NoEntry : PySem.W.findIn K (.ref C_NoEntry) "__init__" = some (some (.ref F_NoEntry))) (tf_NoEntry : PySem.W.typeIn K (.ref F_NoEntry) = some (.type "function")) (kk_NoEntry : PySem.W.keepIn K (.ref C_NoEntry) = true) (bb_NoEntry : PySem.W.subIn K (.ref C_NoEntry) (.type "BaseException") = some true) (ve_NoEntry : PySem.W.subIn K (.ref C_NoEntry) (.type "ValueError") = some true)
    (tt_NoEntry : PySem.W.typeIn K (.ref C_NoEntry) = some (.type "type")) (hd_NoEntry : PySem.W.hasDictIn K C_NoEntry = true) (ii_NoEntry : PySem.W.isClsIn K C_NoEntry = true) (sl_NoEntry : PySem.W.mroIn K C_NoEntry (.ref C_NoEntry) = some true) (su_NoEntry : PySem.W.ks_superIn K C_NoEntry C_NoEntry "__init__" = some (some (.builtin "ValueError.__init__")))
    (l_NoEntry : K.lookup F_NoEntry = some ⟨oc_NoEntry, od_NoEntry, .func (PySem.W.fnX "__init__" "NoEntry.__init__" (defArgs (inClass (top 9) 0)) (defBody (inClass (top 9) 0)) (defScope (inClass (top 9) 0)) [("__class__", cc_NoEntry)] .none kV_NoEntry dc_NoEntry pm_NoEntry an_NoEntry (.ref cda_NoEntry) ct_NoEntry), ols_NoEntry⟩) (c_NoEntry : PySem.W.codeIn K (.ref cda_NoEntry) "NoEntry.__init__" = true)
    (co_NoEntry : K.lookup cda_NoEntry = some ⟨ccl_NoEntry, cdd_NoEntry, .fields vs_NoEntry, ccs_NoEntry⟩) (v2_NoEntry : vs_NoEntry[2]? = some (.str file_NoEntry tok_NoEntry)) (fe_NoEntry : ((P.main.file : Str) == file_NoEntry) = true) (ce_NoEntry : K.lookup cc_NoEntry = some ⟨cl_NoEntry, cld_NoEntry, .cell (some (.ref C_NoEntry)), csl_NoEntry⟩)
    {F_TooManySigns cda_TooManySigns cc_TooManySigns N_TooManySigns B0_TooManySigns : Addr} {nm_TooManySigns q_TooManySigns file_TooManySigns : Str} {bs_TooManySigns sub_TooManySigns : List Value} {sn_TooManySigns : List Str} {ab_TooManySigns : Bool} {col_TooManySigns : Option Bool} {dd_TooManySigns od_TooManySigns an_TooManySigns cdd_TooManySigns cld_TooManySigns : Option Addr} {k0_TooManySigns k1_TooManySigns k2_TooManySigns k3_TooManySigns k5_TooManySigns : Option Value} {oc_TooManySigns kV_TooManySigns dc_TooManySigns pm_TooManySigns ct_TooManySigns ccl_TooManySigns cl_TooManySigns : Value} {ols_TooManySigns ccs_TooManySigns csl_TooManySigns : Array (Option Value)} {vs_TooManySigns : Array Value} {tok_TooManySigns : Tok}
    (g_TooManySigns : PySem.W.nsIn K mainGlobals "TooManySigns" = some (some (.ref C_TooManySigns))) (x_TooManySigns : K.lookup C_TooManySigns = some (PySem.excClassObj nm_TooManySigns q_TooManySigns C_TooManySigns N_TooManySigns bs_TooManySigns [.ref B0_TooManySigns, .type "ValueError", .type "Exception", .type "BaseException", .type "object"] true sn_TooManySigns sub_TooManySigns ab_TooManySigns col_TooManySigns dd_TooManySigns k0_TooManySigns k1_TooManySigns k2_TooManySigns k3_TooManySigns k5_TooManySigns "ValueError.__new__"))
    (sa_TooManySigns : PySem.W.findIn K (.ref C_TooManySigns) "__setattr__" = some (some (.builtin "object.__setattr__"))) (ga_TooManySigns : PySem.W.findIn K (.ref C_TooManySigns) "__getattribute__" = some (some (.builtin "BaseException.__getattribute__"))) (gg_TooManySigns : PySem.W.findIn K (.ref C_TooManySigns) "__getattr__" = some none) (no_TooManySigns : PySem.W.findIn K (.ref C_TooManySigns) "limit" = some none)
    (ic_TooManySigns : PySem.W.findIn K (.ref C_TooManySigns) "__init__" = some (some (.ref F_TooManySigns))) (tf_TooManySigns : PySem.W.typeIn K (.ref F_TooManySigns) = some (.type "function")) (kk_TooManySigns : PySem.W.keepIn K (.ref C_TooManySigns) = true) (bb_TooManySigns : PySem.W.subIn K (.ref C_TooManySigns) (.type "BaseException") = some true) (ve_TooManySigns : PySem.W.subIn K (.ref C_TooManySigns) (.type "ValueError") = some true)
    (tt_TooManySigns : PySem.W.typeIn K (.ref C_TooManySigns) = some (.type "type")) (hd_TooManySigns : PySem.W.hasDictIn K C_TooManySigns = true) (ii_TooManySigns : PySem.W.isClsIn K C_TooManySigns = true) (sl_TooManySigns : PySem.W.mroIn K C_TooManySigns (.ref C_TooManySigns) = some true) (su_TooManySigns : PySem.W.ks_superIn K C_TooManySigns C_TooManySigns "__init__" = some (some (.builtin "ValueError.__init__")))
    (l_TooManySigns : K.lookup F_TooManySigns = some ⟨oc_TooManySigns, od_TooManySigns, .func (PySem.W.fnX "__init__" "TooManySigns.__init__" (defArgs (inClass (top 12) 0)) (defBody (inClass (top 12) 0)) (defScope (inClass (top 12) 0)) [("__class__", cc_TooManySigns)] .none kV_TooManySigns dc_TooManySigns pm_TooManySigns an_TooManySigns (.ref cda_TooManySigns) ct_TooManySigns), ols_TooManySigns⟩) (c_TooManySigns : PySem.W.codeIn K (.ref cda_TooManySigns) "TooManySigns.__init__" = true)
    (co_TooManySigns : K.lookup cda_TooManySigns = some ⟨ccl_TooManySigns, cdd_TooManySigns, .fields vs_TooManySigns, ccs_TooManySigns⟩) (v2_TooManySigns : vs_TooManySigns[2]? = some (.str file_TooManySigns tok_TooManySigns)) (fe_TooManySigns : ((P.main.file : Str) == file_TooManySigns) = true) (ce_TooManySigns : K.lookup cc_TooManySigns = some ⟨cl_TooManySigns, cld_TooManySigns, .cell (some (.ref C_TooManySigns)), csl_TooManySigns⟩)
    {F_NotPlain cda_NotPlain cc_NotPlain N_NotPlain B0_NotPlain : Addr} {nm_NotPlain q_NotPlain file_NotPlain : Str} {bs_NotPlain sub_NotPlain : List Value} {sn_NotPlain : List Str} {ab_NotPlain : Bool} {col_NotPlain : Option Bool} {dd_NotPlain od_NotPlain an_NotPlain cdd_NotPlain cld_NotPlain : Option Addr} {k0_NotPlain k1_NotPlain k2_NotPlain k3_NotPlain k5_NotPlain : Option Value} {oc_NotPlain kV_NotPlain dc_NotPlain pm_NotPlain ct_NotPlain ccl_NotPlain cl_NotPlain : Value} {ols_NotPlain ccs_NotPlain csl_NotPlain : Array (Option Value)} {vs_NotPlain : Array Value} {tok_NotPlain : Tok}
    (g_NotPlain : PySem.W.nsIn K mainGlobals "NotPlain" = some (some (.ref C_NotPlain))) (x_NotPlain : K.lookup C_NotPlain = some (PySem.excClassObj nm_NotPlain q_NotPlain C_NotPlain N_NotPlain bs_NotPlain [.ref B0_NotPlain, .type "ValueError", .type "Exception", .type "BaseException", .type "object"] true sn_NotPlain sub_NotPlain ab_NotPlain col_NotPlain dd_NotPlain k0_NotPlain k1_NotPlain k2_NotPlain k3_NotPlain k5_NotPlain "ValueError.__new__"))
    (sa_NotPlain : PySem.W.findIn K (.ref C_NotPlain) "__setattr__" = some (some (.builtin "object.__setattr__"))) (ga_NotPlain : PySem.W.findIn K (.ref C_NotPlain) "__getattribute__" = some (some (.builtin "BaseException.__getattribute__"))) (gg_NotPlain : PySem.W.findIn K (.ref C_NotPlain) "__getattr__" = some none) (no_NotPlain : PySem.W.findIn K (.ref C_NotPlain) "index" = some none)
    (ic_NotPlain : PySem.W.findIn K (.ref C_NotPlain) "__init__" = some (some (.ref F_NotPlain))) (tf_NotPlain : PySem.W.typeIn K (.ref F_NotPlain) = some (.type "function")) (kk_NotPlain : PySem.W.keepIn K (.ref C_NotPlain) = true) (bb_NotPlain : PySem.W.subIn K (.ref C_NotPlain) (.type "BaseException") = some true) (ve_NotPlain : PySem.W.subIn K (.ref C_NotPlain) (.type "ValueError") = some true)
    (tt_NotPlain : PySem.W.typeIn K (.ref C_NotPlain) = some (.type "type")) (hd_NotPlain : PySem.W.hasDictIn K C_NotPlain = true) (ii_NotPlain : PySem.W.isClsIn K C_NotPlain = true) (sl_NotPlain : PySem.W.mroIn K C_NotPlain (.ref C_NotPlain) = some true) (su_NotPlain : PySem.W.ks_superIn K C_NotPlain C_NotPlain "__init__" = some (some (.builtin "ValueError.__init__")))
    (l_NotPlain : K.lookup F_NotPlain = some ⟨oc_NotPlain, od_NotPlain, .func (PySem.W.fnX "__init__" "NotPlain.__init__" (defArgs (inClass (top 10) 0)) (defBody (inClass (top 10) 0)) (defScope (inClass (top 10) 0)) [("__class__", cc_NotPlain)] .none kV_NotPlain dc_NotPlain pm_NotPlain an_NotPlain (.ref cda_NotPlain) ct_NotPlain), ols_NotPlain⟩) (c_NotPlain : PySem.W.codeIn K (.ref cda_NotPlain) "NotPlain.__init__" = true)
    (co_NotPlain : K.lookup cda_NotPlain = some ⟨ccl_NotPlain, cdd_NotPlain, .fields vs_NotPlain, ccs_NotPlain⟩) (v2_NotPlain : vs_NotPlain[2]? = some (.str file_NotPlain tok_NotPlain)) (fe_NotPlain : ((P.main.file : Str) == file_NotPlain) = true) (ce_NotPlain : K.lookup cc_NotPlain = some ⟨cl_NotPlain, cld_NotPlain, .cell (some (.ref C_NotPlain)), csl_NotPlain⟩)
    {F_TooLarge cda_TooLarge cc_TooLarge N_TooLarge B0_TooLarge : Addr} {nm_TooLarge q_TooLarge file_TooLarge : Str} {bs_TooLarge sub_TooLarge : List Value} {sn_TooLarge : List Str} {ab_TooLarge : Bool} {col_TooLarge : Option Bool} {dd_TooLarge od_TooLarge an_TooLarge cdd_TooLarge cld_TooLarge : Option Addr} {k0_TooLarge k1_TooLarge k2_TooLarge k3_TooLarge k5_TooLarge : Option Value} {oc_TooLarge kV_TooLarge dc_TooLarge pm_TooLarge ct_TooLarge ccl_TooLarge cl_TooLarge : Value} {ols_TooLarge ccs_TooLarge csl_TooLarge : Array (Option Value)} {vs_TooLarge : Array Value} {tok_TooLarge : Tok}
    (g_TooLarge : PySem.W.nsIn K mainGlobals "TooLarge" = some (some (.ref C_TooLarge))) (x_TooLarge : K.lookup C_TooLarge = some (PySem.excClassObj nm_TooLarge q_TooLarge C_TooLarge N_TooLarge bs_TooLarge [.ref B0_TooLarge, .type "ValueError", .type "Exception", .type "BaseException", .type "object"] true sn_TooLarge sub_TooLarge ab_TooLarge col_TooLarge dd_TooLarge k0_TooLarge k1_TooLarge k2_TooLarge k3_TooLarge k5_TooLarge "ValueError.__new__"))
    (sa_TooLarge : PySem.W.findIn K (.ref C_TooLarge) "__setattr__" = some (some (.builtin "object.__setattr__"))) (ga_TooLarge : PySem.W.findIn K (.ref C_TooLarge) "__getattribute__" = some (some (.builtin "BaseException.__getattribute__"))) (gg_TooLarge : PySem.W.findIn K (.ref C_TooLarge) "__getattr__" = some none) (no_TooLarge : PySem.W.findIn K (.ref C_TooLarge) "limit" = some none)
    (ic_TooLarge : PySem.W.findIn K (.ref C_TooLarge) "__init__" = some (some (.ref F_TooLarge))) (tf_TooLarge : PySem.W.typeIn K (.ref F_TooLarge) = some (.type "function")) (kk_TooLarge : PySem.W.keepIn K (.ref C_TooLarge) = true) (bb_TooLarge : PySem.W.subIn K (.ref C_TooLarge) (.type "BaseException") = some true) (ve_TooLarge : PySem.W.subIn K (.ref C_TooLarge) (.type "ValueError") = some true)
    (tt_TooLarge : PySem.W.typeIn K (.ref C_TooLarge) = some (.type "type")) (hd_TooLarge : PySem.W.hasDictIn K C_TooLarge = true) (ii_TooLarge : PySem.W.isClsIn K C_TooLarge = true) (sl_TooLarge : PySem.W.mroIn K C_TooLarge (.ref C_TooLarge) = some true) (su_TooLarge : PySem.W.ks_superIn K C_TooLarge C_TooLarge "__init__" = some (some (.builtin "ValueError.__init__")))
    (l_TooLarge : K.lookup F_TooLarge = some ⟨oc_TooLarge, od_TooLarge, .func (PySem.W.fnX "__init__" "TooLarge.__init__" (defArgs (inClass (top 2) 0)) (defBody (inClass (top 2) 0)) (defScope (inClass (top 2) 0)) [("__class__", cc_TooLarge)] .none kV_TooLarge dc_TooLarge pm_TooLarge an_TooLarge (.ref cda_TooLarge) ct_TooLarge), ols_TooLarge⟩) (c_TooLarge : PySem.W.codeIn K (.ref cda_TooLarge) "TooLarge.__init__" = true)
    (co_TooLarge : K.lookup cda_TooLarge = some ⟨ccl_TooLarge, cdd_TooLarge, .fields vs_TooLarge, ccs_TooLarge⟩) (v2_TooLarge : vs_TooLarge[2]? = some (.str file_TooLarge tok_TooLarge)) (fe_TooLarge : ((P.main.file : Str) == file_TooLarge) = true) (ce_TooLarge : K.lookup cc_TooLarge = some ⟨cl_TooLarge, cld_TooLarge, .cell (some (.ref C_TooLarge)), csl_TooLarge⟩)
    {F_Exists cda_Exists cc_Exists N_Exists B0_Exists : Addr} {nm_Exists q_Exists file_Exists : Str} {bs_Exists sub_Exists : List Value} {sn_Exists : List Str} {ab_Exists : Bool} {col_Exists : Option Bool} {dd_Exists od_Exists an_Exists cdd_Exists cld_Exists : Option Addr} {k0_Exists k1_Exists k2_Exists k3_Exists k5_Exists : Option Value} {oc_Exists kV_Exists dc_Exists pm_Exists ct_Exists ccl_Exists cl_Exists : Value} {ols_Exists ccs_Exists csl_Exists : Array (Option Value)} {vs_Exists : Array Value} {tok_Exists : Tok}
    (g_Exists : PySem.W.nsIn K mainGlobals "Exists" = some (some (.ref C_Exists))) (x_Exists : K.lookup C_Exists = some (PySem.excClassObj nm_Exists q_Exists C_Exists N_Exists bs_Exists [.ref B0_Exists, .type "ValueError", .type "Exception", .type "BaseException", .type "object"] true sn_Exists sub_Exists ab_Exists col_Exists dd_Exists k0_Exists k1_Exists k2_Exists k3_Exists k5_Exists "ValueError.__new__"))
    (sa_Exists : PySem.W.findIn K (.ref C_Exists) "__setattr__" = some (some (.builtin "object.__setattr__"))) (ga_Exists : PySem.W.findIn K (.ref C_Exists) "__getattribute__" = some (some (.builtin "BaseException.__getattribute__"))) (gg_Exists : PySem.W.findIn K (.ref C_Exists) "__getattr__" = some none) (no_Exists : PySem.W.findIn K (.ref C_Exists) "index" = some none)
    (ic_Exists : PySem.W.findIn K (.ref C_Exists) "__init__" = some (some (.ref F_Exists))) (tf_Exists : PySem.W.typeIn K (.ref F_Exists) = some (.type "function")) (kk_Exists : PySem.W.keepIn K (.ref C_Exists) = true) (bb_Exists : PySem.W.subIn K (.ref C_Exists) (.type "BaseException") = some true) (ve_Exists : PySem.W.subIn K (.ref C_Exists) (.type "ValueError") = some true)
    (tt_Exists : PySem.W.typeIn K (.ref C_Exists) = some (.type "type")) (hd_Exists : PySem.W.hasDictIn K C_Exists = true) (ii_Exists : PySem.W.isClsIn K C_Exists = true) (sl_Exists : PySem.W.mroIn K C_Exists (.ref C_Exists) = some true) (su_Exists : PySem.W.ks_superIn K C_Exists C_Exists "__init__" = some (some (.builtin "ValueError.__init__")))
    (l_Exists : K.lookup F_Exists = some ⟨oc_Exists, od_Exists, .func (PySem.W.fnX "__init__" "Exists.__init__" (defArgs (inClass (top 11) 0)) (defBody (inClass (top 11) 0)) (defScope (inClass (top 11) 0)) [("__class__", cc_Exists)] .none kV_Exists dc_Exists pm_Exists an_Exists (.ref cda_Exists) ct_Exists), ols_Exists⟩) (c_Exists : PySem.W.codeIn K (.ref cda_Exists) "Exists.__init__" = true)
    (co_Exists : K.lookup cda_Exists = some ⟨ccl_Exists, cdd_Exists, .fields vs_Exists, ccs_Exists⟩) (v2_Exists : vs_Exists[2]? = some (.str file_Exists tok_Exists)) (fe_Exists : ((P.main.file : Str) == file_Exists) = true) (ce_Exists : K.lookup cc_Exists = some ⟨cl_Exists, cld_Exists, .cell (some (.ref C_Exists)), csl_Exists⟩)
    (g_NotEmpty : PySem.W.nsIn K mainGlobals "NotEmpty" = some (some (.ref C_NotEmpty))) (x_NotEmpty : PySem.W.excIn K C_NotEmpty [.type "ValueError", .type "Exception", .type "BaseException", .type "object"] "ValueError.__new__" = true) (kk_NotEmpty : PySem.W.keepIn K (.ref C_NotEmpty) = true) (bb_NotEmpty : PySem.W.subIn K (.ref C_NotEmpty) (.type "BaseException") = some true) (tt_NotEmpty : PySem.W.typeIn K (.ref C_NotEmpty) = some (.type "type")) (ii_NotEmpty : PySem.W.isClsIn K C_NotEmpty = true)
    (g_InvalidNode : PySem.W.nsIn K mainGlobals "InvalidNode" = some (some (.ref C_InvalidNode))) (x_InvalidNode : PySem.W.excIn K C_InvalidNode [.type "ValueError", .type "Exception", .type "BaseException", .type "object"] "ValueError.__new__" = true) (kk_InvalidNode : PySem.W.keepIn K (.ref C_InvalidNode) = true) (bb_InvalidNode : PySem.W.subIn K (.ref C_InvalidNode) (.type "BaseException") = some true) (tt_InvalidNode : PySem.W.typeIn K (.ref C_InvalidNode) = some (.type "type")) (ii_InvalidNode : PySem.W.isClsIn K C_InvalidNode = true)
    (s_InvalidStore_NotRoom : PySem.W.subIn K (.ref C_InvalidStore) (.ref C_NotRoom) = some false)
    (s_InvalidStore_NoEntry : PySem.W.subIn K (.ref C_InvalidStore) (.ref C_NoEntry) = some false)
    (s_InvalidStore_NotPlain : PySem.W.subIn K (.ref C_InvalidStore) (.ref C_NotPlain) = some false)
    (s_InvalidStore_Exists : PySem.W.subIn K (.ref C_InvalidStore) (.ref C_Exists) = some false)
    (s_InvalidStore_NotEmpty : PySem.W.subIn K (.ref C_InvalidStore) (.ref C_NotEmpty) = some false)
    (s_InvalidStore_TooManySigns : PySem.W.subIn K (.ref C_InvalidStore) (.ref C_TooManySigns) = some false)
    (s_InvalidStore_TooLarge : PySem.W.subIn K (.ref C_InvalidStore) (.ref C_TooLarge) = some false)
    (s_InvalidRoom_NotRoom : PySem.W.subIn K (.ref C_InvalidRoom) (.ref C_NotRoom) = some false)
    (s_InvalidRoom_NoEntry : PySem.W.subIn K (.ref C_InvalidRoom) (.ref C_NoEntry) = some false)
    (s_InvalidRoom_NotPlain : PySem.W.subIn K (.ref C_InvalidRoom) (.ref C_NotPlain) = some false)
    (s_InvalidRoom_Exists : PySem.W.subIn K (.ref C_InvalidRoom) (.ref C_Exists) = some false)
    (s_InvalidRoom_NotEmpty : PySem.W.subIn K (.ref C_InvalidRoom) (.ref C_NotEmpty) = some false)
    (s_InvalidRoom_TooManySigns : PySem.W.subIn K (.ref C_InvalidRoom) (.ref C_TooManySigns) = some false)
    (s_InvalidRoom_TooLarge : PySem.W.subIn K (.ref C_InvalidRoom) (.ref C_TooLarge) = some false)
    (s_InvalidPath_NotRoom : PySem.W.subIn K (.ref C_InvalidPath) (.ref C_NotRoom) = some false)
    (s_InvalidPath_NoEntry : PySem.W.subIn K (.ref C_InvalidPath) (.ref C_NoEntry) = some false)
    (s_InvalidPath_NotPlain : PySem.W.subIn K (.ref C_InvalidPath) (.ref C_NotPlain) = some false)
    (s_InvalidPath_Exists : PySem.W.subIn K (.ref C_InvalidPath) (.ref C_Exists) = some false)
    (s_InvalidPath_NotEmpty : PySem.W.subIn K (.ref C_InvalidPath) (.ref C_NotEmpty) = some false)
    (s_InvalidPath_TooManySigns : PySem.W.subIn K (.ref C_InvalidPath) (.ref C_TooManySigns) = some false)
    (s_InvalidPath_TooLarge : PySem.W.subIn K (.ref C_InvalidPath) (.ref C_TooLarge) = some false)
    (s_NotRoom_NotRoom : PySem.W.subIn K (.ref C_NotRoom) (.ref C_NotRoom) = some true)
    (s_NotRoom_NoEntry : PySem.W.subIn K (.ref C_NotRoom) (.ref C_NoEntry) = some false)
    (s_NotRoom_NotPlain : PySem.W.subIn K (.ref C_NotRoom) (.ref C_NotPlain) = some false)
    (s_NotRoom_Exists : PySem.W.subIn K (.ref C_NotRoom) (.ref C_Exists) = some false)
    (s_NotRoom_NotEmpty : PySem.W.subIn K (.ref C_NotRoom) (.ref C_NotEmpty) = some false)
    (s_NotRoom_TooManySigns : PySem.W.subIn K (.ref C_NotRoom) (.ref C_TooManySigns) = some false)
    (s_NotRoom_TooLarge : PySem.W.subIn K (.ref C_NotRoom) (.ref C_TooLarge) = some false)
    (s_NoEntry_NotRoom : PySem.W.subIn K (.ref C_NoEntry) (.ref C_NotRoom) = some false)
    (s_NoEntry_NoEntry : PySem.W.subIn K (.ref C_NoEntry) (.ref C_NoEntry) = some true)
    (s_NoEntry_NotPlain : PySem.W.subIn K (.ref C_NoEntry) (.ref C_NotPlain) = some false)
    (s_NoEntry_Exists : PySem.W.subIn K (.ref C_NoEntry) (.ref C_Exists) = some false)
    (s_NoEntry_NotEmpty : PySem.W.subIn K (.ref C_NoEntry) (.ref C_NotEmpty) = some false)
    (s_NoEntry_TooManySigns : PySem.W.subIn K (.ref C_NoEntry) (.ref C_TooManySigns) = some false)
    (s_NoEntry_TooLarge : PySem.W.subIn K (.ref C_NoEntry) (.ref C_TooLarge) = some false)
    (s_TooManySigns_NotRoom : PySem.W.subIn K (.ref C_TooManySigns) (.ref C_NotRoom) = some false)
    (s_TooManySigns_NoEntry : PySem.W.subIn K (.ref C_TooManySigns) (.ref C_NoEntry) = some false)
    (s_TooManySigns_NotPlain : PySem.W.subIn K (.ref C_TooManySigns) (.ref C_NotPlain) = some false)
    (s_TooManySigns_Exists : PySem.W.subIn K (.ref C_TooManySigns) (.ref C_Exists) = some false)
    (s_TooManySigns_NotEmpty : PySem.W.subIn K (.ref C_TooManySigns) (.ref C_NotEmpty) = some false)
    (s_TooManySigns_TooManySigns : PySem.W.subIn K (.ref C_TooManySigns) (.ref C_TooManySigns) = some true)
    (s_TooManySigns_TooLarge : PySem.W.subIn K (.ref C_TooManySigns) (.ref C_TooLarge) = some false)
    (s_NotPlain_NotRoom : PySem.W.subIn K (.ref C_NotPlain) (.ref C_NotRoom) = some false)
    (s_NotPlain_NoEntry : PySem.W.subIn K (.ref C_NotPlain) (.ref C_NoEntry) = some false)
    (s_NotPlain_NotPlain : PySem.W.subIn K (.ref C_NotPlain) (.ref C_NotPlain) = some true)
    (s_NotPlain_Exists : PySem.W.subIn K (.ref C_NotPlain) (.ref C_Exists) = some false)
    (s_NotPlain_NotEmpty : PySem.W.subIn K (.ref C_NotPlain) (.ref C_NotEmpty) = some false)
    (s_NotPlain_TooManySigns : PySem.W.subIn K (.ref C_NotPlain) (.ref C_TooManySigns) = some false)
    (s_NotPlain_TooLarge : PySem.W.subIn K (.ref C_NotPlain) (.ref C_TooLarge) = some false)
    (s_TooLarge_NotRoom : PySem.W.subIn K (.ref C_TooLarge) (.ref C_NotRoom) = some false)
    (s_TooLarge_NoEntry : PySem.W.subIn K (.ref C_TooLarge) (.ref C_NoEntry) = some false)
    (s_TooLarge_NotPlain : PySem.W.subIn K (.ref C_TooLarge) (.ref C_NotPlain) = some false)
    (s_TooLarge_Exists : PySem.W.subIn K (.ref C_TooLarge) (.ref C_Exists) = some false)
    (s_TooLarge_NotEmpty : PySem.W.subIn K (.ref C_TooLarge) (.ref C_NotEmpty) = some false)
    (s_TooLarge_TooManySigns : PySem.W.subIn K (.ref C_TooLarge) (.ref C_TooManySigns) = some false)
    (s_TooLarge_TooLarge : PySem.W.subIn K (.ref C_TooLarge) (.ref C_TooLarge) = some true)
    (s_Exists_NotRoom : PySem.W.subIn K (.ref C_Exists) (.ref C_NotRoom) = some false)
    (s_Exists_NoEntry : PySem.W.subIn K (.ref C_Exists) (.ref C_NoEntry) = some false)
    (s_Exists_NotPlain : PySem.W.subIn K (.ref C_Exists) (.ref C_NotPlain) = some false)
    (s_Exists_Exists : PySem.W.subIn K (.ref C_Exists) (.ref C_Exists) = some true)
    (s_Exists_NotEmpty : PySem.W.subIn K (.ref C_Exists) (.ref C_NotEmpty) = some false)
    (s_Exists_TooManySigns : PySem.W.subIn K (.ref C_Exists) (.ref C_TooManySigns) = some false)
    (s_Exists_TooLarge : PySem.W.subIn K (.ref C_Exists) (.ref C_TooLarge) = some false)
    (s_NotEmpty_NotRoom : PySem.W.subIn K (.ref C_NotEmpty) (.ref C_NotRoom) = some false)
    (s_NotEmpty_NoEntry : PySem.W.subIn K (.ref C_NotEmpty) (.ref C_NoEntry) = some false)
    (s_NotEmpty_NotPlain : PySem.W.subIn K (.ref C_NotEmpty) (.ref C_NotPlain) = some false)
    (s_NotEmpty_Exists : PySem.W.subIn K (.ref C_NotEmpty) (.ref C_Exists) = some false)
    (s_NotEmpty_NotEmpty : PySem.W.subIn K (.ref C_NotEmpty) (.ref C_NotEmpty) = some true)
    (s_NotEmpty_TooManySigns : PySem.W.subIn K (.ref C_NotEmpty) (.ref C_TooManySigns) = some false)
    (s_NotEmpty_TooLarge : PySem.W.subIn K (.ref C_NotEmpty) (.ref C_TooLarge) = some false)
    (s_InvalidNode_NotRoom : PySem.W.subIn K (.ref C_InvalidNode) (.ref C_NotRoom) = some false)
    (s_InvalidNode_NoEntry : PySem.W.subIn K (.ref C_InvalidNode) (.ref C_NoEntry) = some false)
    (s_InvalidNode_NotPlain : PySem.W.subIn K (.ref C_InvalidNode) (.ref C_NotPlain) = some false)
    (s_InvalidNode_Exists : PySem.W.subIn K (.ref C_InvalidNode) (.ref C_Exists) = some false)
    (s_InvalidNode_NotEmpty : PySem.W.subIn K (.ref C_InvalidNode) (.ref C_NotEmpty) = some false)
    (s_InvalidNode_TooManySigns : PySem.W.subIn K (.ref C_InvalidNode) (.ref C_TooManySigns) = some false)
    (s_InvalidNode_TooLarge : PySem.W.subIn K (.ref C_InvalidNode) (.ref C_TooLarge) = some false)
    : Txt P K mg where
  c_FILE := ⟨_, PySem.W.mg_of X G h_FILE, r_FILE⟩
  c_ROOM := ⟨_, PySem.W.mg_of X G h_ROOM, r_ROOM⟩
  c_SIGN := ⟨_, PySem.W.mg_of X G h_SIGN, r_SIGN⟩
  c_HERE := ⟨_, PySem.W.mg_of X G h_HERE, r_HERE⟩
  c_ABOVE := ⟨_, PySem.W.mg_of X G h_ABOVE, r_ABOVE⟩
  c_ROOT := ⟨_, PySem.W.mg_of X G h_ROOT, r_ROOT⟩
  c_MOST_NODES := ⟨_, PySem.W.mg_of X G h_MOST_NODES, r_MOST_NODES⟩
  c_MOST_TEXT := ⟨_, PySem.W.mg_of X G h_MOST_TEXT, r_MOST_TEXT⟩
  c_MOST_PATH := ⟨_, PySem.W.mg_of X G h_MOST_PATH, r_MOST_PATH⟩
  c_MOST_NAME := ⟨_, PySem.W.mg_of X G h_MOST_NAME, r_MOST_NAME⟩
  c_MOST_SIGNS := ⟨_, PySem.W.mg_of X G h_MOST_SIGNS, r_MOST_SIGNS⟩
  c_NAME_SIGNS := ⟨_, PySem.W.mg_of X G h_NAME_SIGNS, r_NAME_SIGNS⟩
  d_is_whole := .mk (st := s_is_whole) l_is_whole c_is_whole k_is_whole (PySem.W.mg_of X G a_is_whole) (fun _ _ _ _ _ _ us hl => match us, hl with | [_], _ => rfl)
  d_is_plain := .mk (st := s_is_plain) l_is_plain c_is_plain k_is_plain (PySem.W.mg_of X G a_is_plain) (fun _ _ _ _ _ _ us hl => match us, hl with | [_], _ => rfl)
  d_is_text := .mk (st := s_is_text) l_is_text c_is_text k_is_text (PySem.W.mg_of X G a_is_text) (fun _ _ _ _ _ _ us hl => match us, hl with | [_], _ => rfl)
  d_is_entry_name := .mk (st := s_is_entry_name) l_is_entry_name c_is_entry_name k_is_entry_name (PySem.W.mg_of X G a_is_entry_name) (fun _ _ _ _ _ _ us hl => match us, hl with | [_], _ => rfl)
  d_is_a_path := .mk (st := s_is_a_path) l_is_a_path c_is_a_path k_is_a_path (PySem.W.mg_of X G a_is_a_path) (fun _ _ _ _ _ _ us hl => match us, hl with | [_], _ => rfl)
  d_are_entries := .mk (st := s_are_entries) l_are_entries c_are_entries k_are_entries (PySem.W.mg_of X G a_are_entries) (fun _ _ _ _ _ _ us hl => match us, hl with | [_, _], _ => rfl)
  d_is_node := .mk (st := s_is_node) l_is_node c_is_node k_is_node (PySem.W.mg_of X G a_is_node) (fun _ _ _ _ _ _ us hl => match us, hl with | [_, _], _ => rfl)
  d_hangs_together := .mk (st := s_hangs_together) l_hangs_together c_hangs_together k_hangs_together (PySem.W.mg_of X G a_hangs_together) (fun _ _ _ _ _ _ us hl => match us, hl with | [_], _ => rfl)
  d_is_a_store := .mk (st := s_is_a_store) l_is_a_store c_is_a_store k_is_a_store (PySem.W.mg_of X G a_is_a_store) (fun _ _ _ _ _ _ us hl => match us, hl with | [_], _ => rfl)
  d_is_room := .mk (st := s_is_room) l_is_room c_is_room k_is_room (PySem.W.mg_of X G a_is_room) (fun _ _ _ _ _ _ us hl => match us, hl with | [_, _], _ => rfl)
  d_need_store := .mk (st := s_need_store) l_need_store c_need_store k_need_store (PySem.W.mg_of X G a_need_store) (fun _ _ _ _ _ _ us hl => match us, hl with | [_], _ => rfl)
  d_need_room := .mk (st := s_need_room) l_need_room c_need_room k_need_room (PySem.W.mg_of X G a_need_room) (fun _ _ _ _ _ _ us hl => match us, hl with | [_, _], _ => rfl)
  d_need_path := .mk (st := s_need_path) l_need_path c_need_path k_need_path (PySem.W.mg_of X G a_need_path) (fun _ _ _ _ _ _ us hl => match us, hl with | [_], _ => rfl)
  d_words_of := .mk (st := s_words_of) l_words_of c_words_of k_words_of (PySem.W.mg_of X G a_words_of) (fun _ _ _ _ _ _ us hl => match us, hl with | [_], _ => rfl)
  d_last_index := .mk (st := s_last_index) l_last_index c_last_index k_last_index (PySem.W.mg_of X G a_last_index) (fun _ _ _ _ _ _ us hl => match us, hl with | [_], _ => rfl)
  d_start_of := .mk (st := s_start_of) l_start_of c_start_of k_start_of (PySem.W.mg_of X G a_start_of) (fun _ _ _ _ _ _ us hl => match us, hl with | [_, _], _ => rfl)
  d_parent_of := .mk (st := s_parent_of) l_parent_of c_parent_of k_parent_of (PySem.W.mg_of X G a_parent_of) (fun _ _ _ _ _ _ us hl => match us, hl with | [_, _], _ => rfl)
  d_entry_of := .mk (st := s_entry_of) l_entry_of c_entry_of k_entry_of (PySem.W.mg_of X G a_entry_of) (fun _ _ _ _ _ _ us hl => match us, hl with | [_, _, _], _ => rfl)
  d_steps_of := .mk (st := s_steps_of) l_steps_of c_steps_of k_steps_of (PySem.W.mg_of X G a_steps_of) (fun _ _ _ _ _ _ us hl => match us, hl with | [_, _], _ => rfl)
  d_gone := .mk (st := s_gone) l_gone c_gone k_gone (PySem.W.mg_of X G a_gone) (fun _ _ _ _ _ _ us hl => match us, hl with | [_, _, _], _ => rfl)
  d_has_plain_end := .mk (st := s_has_plain_end) l_has_plain_end c_has_plain_end k_has_plain_end (PySem.W.mg_of X G a_has_plain_end) (fun _ _ _ _ _ _ us hl => match us, hl with | [_], _ => rfl)
  d_place_of := .mk (st := s_place_of) l_place_of c_place_of k_place_of (PySem.W.mg_of X G a_place_of) (fun _ _ _ _ _ _ us hl => match us, hl with | [_, _, _], _ => rfl)
  d_entry_at := .mk (st := s_entry_at) l_entry_at c_entry_at k_entry_at (PySem.W.mg_of X G a_entry_at) (fun _ _ _ _ _ _ us hl => match us, hl with | [_, _, _], _ => rfl)
  d_with_node := .mk (st := s_with_node) l_with_node c_with_node k_with_node (PySem.W.mg_of X G a_with_node) (fun _ _ _ _ _ _ us hl => match us, hl with | [_, _, _], _ => rfl)
  d_with_entry := .mk (st := s_with_entry) l_with_entry c_with_entry k_with_entry (PySem.W.mg_of X G a_with_entry) (fun _ _ _ _ _ _ us hl => match us, hl with | [_, _, _, _], _ => rfl)
  d_let_go := .mk (st := s_let_go) l_let_go c_let_go k_let_go (PySem.W.mg_of X G a_let_go) (fun _ _ _ _ _ _ us hl => match us, hl with | [_], _ => rfl)
  d_free_number := .mk (st := s_free_number) l_free_number c_free_number k_free_number (PySem.W.mg_of X G a_free_number) (fun _ _ _ _ _ _ us hl => match us, hl with | [_, _], _ => rfl)
  d_made := ⟨A_made, ⟨_, _, y_made, rfl, rfl⟩, .mk (dvs := [.ref A_made]) (its := [.ref A_made]) (st := s_made) l_made c_made k_made (PySem.W.mg_of X G a_made) 4 (List.cons_ne_nil _ _) rfl t_made rfl (.cons rfl .nil) (fun _ _ _ _ _ _ _ us its h1 h2 => match us, its, h1, h2 with | [_, _, _, _], [_], _, _ => ⟨_, rfl, rfl⟩)⟩
  d_removed := .mk (st := s_removed) l_removed c_removed k_removed (PySem.W.mg_of X G a_removed) (fun _ _ _ _ _ _ us hl => match us, hl with | [_, _, _], _ => rfl)
  d_need_three := .mk (st := s_need_three) l_need_three c_need_three k_need_three (PySem.W.mg_of X G a_need_three) (fun _ _ _ _ _ _ us hl => match us, hl with | [_, _, _], _ => rfl)
  d_make := .mk (st := s_make) l_make c_make k_make (PySem.W.mg_of X G a_make) (fun _ _ _ _ _ _ us hl => match us, hl with | [_, _, _, _], _ => rfl)
  d_remove := .mk (st := s_remove) l_remove c_remove k_remove (PySem.W.mg_of X G a_remove) (fun _ _ _ _ _ _ us hl => match us, hl with | [_, _, _], _ => rfl)
  d_law_deck := .mk (st := s_law_deck) l_law_deck c_law_deck k_law_deck (PySem.W.mg_of X G a_law_deck) (fun _ _ _ _ _ _ us hl => match us, hl with | [_, _], _ => rfl)
  d_law_draw := .mk (st := s_law_draw) l_law_draw c_law_draw k_law_draw (PySem.W.mg_of X G a_law_draw) (fun _ _ _ _ _ _ us hl => match us, hl with | [_, _], _ => rfl)
  d_law_one_of := .mk (st := s_law_one_of) l_law_one_of c_law_one_of k_law_one_of (PySem.W.mg_of X G a_law_one_of) (fun _ _ _ _ _ _ us hl => match us, hl with | [_, _], _ => rfl)
  d_law_mixed := .mk (st := s_law_mixed) l_law_mixed c_law_mixed k_law_mixed (PySem.W.mg_of X G a_law_mixed) (fun _ _ _ _ _ _ us hl => match us, hl with | [_, _], _ => rfl)
  d_law_name := .mk (st := s_law_name) l_law_name c_law_name k_law_name (PySem.W.mg_of X G a_law_name) (fun _ _ _ _ _ _ us hl => match us, hl with | [_], _ => rfl)
  d_law_path := .mk (st := s_law_path) l_law_path c_law_path k_law_path (PySem.W.mg_of X G a_law_path) (fun _ _ _ _ _ _ us hl => match us, hl with | [_, _], _ => rfl)
  d_law_text := .mk (st := s_law_text) l_law_text c_law_text k_law_text (PySem.W.mg_of X G a_law_text) (fun _ _ _ _ _ _ us hl => match us, hl with | [_], _ => rfl)
  d_law_places := .mk (st := s_law_places) l_law_places c_law_places k_law_places (PySem.W.mg_of X G a_law_places) (fun _ _ _ _ _ _ us hl => match us, hl with | [_, _], _ => rfl)
  d_law_store := .mk (st := s_law_store) l_law_store c_law_store k_law_store (PySem.W.mg_of X G a_law_store) (fun _ _ _ _ _ _ us hl => match us, hl with | [_, _], _ => rfl)
  d_law_rooms := .mk (st := s_law_rooms) l_law_rooms c_law_rooms k_law_rooms (PySem.W.mg_of X G a_law_rooms) (fun _ _ _ _ _ _ us hl => match us, hl with | [_], _ => rfl)
  d_law_is_room := .mk (st := s_law_is_room) l_law_is_room c_law_is_room k_law_is_room (PySem.W.mg_of X G a_law_is_room) (fun _ _ _ _ _ _ us hl => match us, hl with | [_, _], _ => rfl)
  d_law_words := .mk (st := s_law_words) l_law_words c_law_words k_law_words (PySem.W.mg_of X G a_law_words) (fun _ _ _ _ _ _ us hl => match us, hl with | [_], _ => rfl)
  d_law_above := .mk (st := s_law_above) l_law_above c_law_above k_law_above (PySem.W.mg_of X G a_law_above) (fun _ _ _ _ _ _ us hl => match us, hl with | [_, _], _ => rfl)
  d_law_walk := .mk (st := s_law_walk) l_law_walk c_law_walk k_law_walk (PySem.W.mg_of X G a_law_walk) (fun _ _ _ _ _ _ us hl => match us, hl with | [_, _, _, _], _ => rfl)
  d_law_place := .mk (st := s_law_place) l_law_place c_law_place k_law_place (PySem.W.mg_of X G a_law_place) (fun _ _ _ _ _ _ us hl => match us, hl with | [_, _, _], _ => rfl)
  d_law_entry := .mk (st := s_law_entry) l_law_entry c_law_entry k_law_entry (PySem.W.mg_of X G a_law_entry) (fun _ _ _ _ _ _ us hl => match us, hl with | [_, _, _], _ => rfl)
  d_law_with := .mk (st := s_law_with) l_law_with c_law_with k_law_with (PySem.W.mg_of X G a_law_with) (fun _ _ _ _ _ _ us hl => match us, hl with | [_, _, _, _], _ => rfl)
  d_law_tidy := .mk (st := s_law_tidy) l_law_tidy c_law_tidy k_law_tidy (PySem.W.mg_of X G a_law_tidy) (fun _ _ _ _ _ _ us hl => match us, hl with | [_], _ => rfl)
  d_law_made := .mk (st := s_law_made) l_law_made c_law_made k_law_made (PySem.W.mg_of X G a_law_made) (fun _ _ _ _ _ _ us hl => match us, hl with | [_, _, _, _], _ => rfl)
  d_law_removed := .mk (st := s_law_removed) l_law_removed c_law_removed k_law_removed (PySem.W.mg_of X G a_law_removed) (fun _ _ _ _ _ _ us hl => match us, hl with | [_, _, _], _ => rfl)
  d_law_got := .mk (st := s_law_got) l_law_got c_law_got k_law_got (PySem.W.mg_of X G a_law_got) (fun _ _ _ _ _ _ us hl => match us, hl with | [_, _, _, _, _, _], _ => rfl)
  d_law_crowd := .mk (st := s_law_crowd) l_law_crowd c_law_crowd k_law_crowd (PySem.W.mg_of X G a_law_crowd) (fun _ _ _ _ _ _ us hl => match us, hl with | [_], _ => rfl)
  d_law_right := .mk (st := s_law_right) l_law_right c_law_right k_law_right (PySem.W.mg_of X G a_law_right) (fun _ _ _ _ _ _ us hl => match us, hl with | [_], _ => rfl)
  d_law := .mk (st := s_law) l_law c_law k_law (PySem.W.mg_of X G a_law) (fun _ _ _ _ _ _ us hl => match us, hl with | [_], _ => rfl)
  b_all := PySem.W.mg_none_of X G z_all
  b_bool := PySem.W.mg_none_of X G z_bool
  b_dict := PySem.W.mg_none_of X G z_dict
  b_enumerate := PySem.W.mg_none_of X G z_enumerate
  b_int := PySem.W.mg_none_of X G z_int
  b_isinstance := PySem.W.mg_none_of X G z_isinstance
  b_len := PySem.W.mg_none_of X G z_len
  b_list := PySem.W.mg_none_of X G z_list
  b_max := PySem.W.mg_none_of X G z_max
  b_min := PySem.W.mg_none_of X G z_min
  b_range := PySem.W.mg_none_of X G z_range
  b_repr := PySem.W.mg_none_of X G z_repr
  b_sorted := PySem.W.mg_none_of X G z_sorted
  b_str := PySem.W.mg_none_of X G z_str
  b_tuple := PySem.W.mg_none_of X G z_tuple
  b_zip := PySem.W.mg_none_of X G z_zip
  e_InvalidStore := ⟨C_InvalidStore, PySem.W.mg_of X G g_InvalidStore, x_InvalidStore, kk_InvalidStore, bb_InvalidStore, tt_InvalidStore, ii_InvalidStore⟩
  e_InvalidRoom := ⟨C_InvalidRoom, PySem.W.mg_of X G g_InvalidRoom, x_InvalidRoom, kk_InvalidRoom, bb_InvalidRoom, tt_InvalidRoom, ii_InvalidRoom⟩
  e_InvalidPath := ⟨C_InvalidPath, PySem.W.mg_of X G g_InvalidPath, x_InvalidPath, kk_InvalidPath, bb_InvalidPath, tt_InvalidPath, ii_InvalidPath⟩
  e_NotRoom := ⟨C_NotRoom, F_NotRoom, ⟨by decide +kernel, by decide +kernel, by decide +kernel, by decide +kernel⟩, PySem.W.mg_of X G g_NotRoom, PySem.W.mg_none_of X G gsuper, ⟨_, _, _, _, _, _, _, _, _, _, _, _, _, _, _, x_NotRoom, rfl⟩, sa_NotRoom, ga_NotRoom, gg_NotRoom, no_NotRoom, ic_NotRoom, tf_NotRoom, kk_NotRoom, bb_NotRoom, ve_NotRoom, tt_NotRoom, hd_NotRoom, ii_NotRoom, sl_NotRoom, su_NotRoom, third, topS,
    ⟨_, _, _, _, _, _, _, _, _, _, _, ⟨21, 17, 21, 21⟩, ⟨21, 23, 21, 28⟩, ⟨22, 8, 22, 13⟩, ⟨22, 8, 22, 15⟩, ⟨22, 8, 22, 24⟩, ⟨22, 25, 22, 37⟩, ⟨22, 8, 22, 38⟩, ⟨22, 8, 22, 38⟩, ⟨23, 8, 23, 12⟩, ⟨23, 8, 23, 18⟩, ⟨23, 21, 23, 26⟩, ⟨23, 8, 23, 26⟩, "not a room", 0, "NotRoom.__init__", l_NotRoom, c_NotRoom, ⟨_, _, _, _, _, _, co_NotRoom, v2_NotRoom, fe_NotRoom⟩, ⟨_, _, _, ce_NotRoom⟩, fun _ _ => rfl, fun _ => ⟨_, rfl⟩, fun _ => rfl, fun _ => rfl⟩⟩
  e_NoEntry := ⟨C_NoEntry, F_NoEntry, ⟨by decide +kernel, by decide +kernel, by decide +kernel, by decide +kernel⟩, PySem.W.mg_of X G g_NoEntry, PySem.W.mg_none_of X G gsuper, ⟨_, _, _, _, _, _, _, _, _, _, _, _, _, _, _, x_NoEntry, rfl⟩, sa_NoEntry, ga_NoEntry, gg_NoEntry, no_NoEntry, ic_NoEntry, tf_NoEntry, kk_NoEntry, bb_NoEntry, ve_NoEntry, tt_NoEntry, hd_NoEntry, ii_NoEntry, sl_NoEntry, su_NoEntry, third, topS,
    ⟨_, _, _, _, _, _, _, _, _, _, _, ⟨26, 17, 26, 21⟩, ⟨26, 23, 26, 28⟩, ⟨27, 8, 27, 13⟩, ⟨27, 8, 27, 15⟩, ⟨27, 8, 27, 24⟩, ⟨27, 25, 27, 40⟩, ⟨27, 8, 27, 41⟩, ⟨27, 8, 27, 41⟩, ⟨28, 8, 28, 12⟩, ⟨28, 8, 28, 18⟩, ⟨28, 21, 28, 26⟩, ⟨28, 8, 28, 26⟩, "no such entry", 0, "NoEntry.__init__", l_NoEntry, c_NoEntry, ⟨_, _, _, _, _, _, co_NoEntry, v2_NoEntry, fe_NoEntry⟩, ⟨_, _, _, ce_NoEntry⟩, fun _ _ => rfl, fun _ => ⟨_, rfl⟩, fun _ => rfl, fun _ => rfl⟩⟩
  e_TooManySigns := ⟨C_TooManySigns, F_TooManySigns, ⟨by decide +kernel, by decide +kernel, by decide +kernel, by decide +kernel⟩, PySem.W.mg_of X G g_TooManySigns, PySem.W.mg_none_of X G gsuper, ⟨_, _, _, _, _, _, _, _, _, _, _, _, _, _, _, x_TooManySigns, rfl⟩, sa_TooManySigns, ga_TooManySigns, gg_TooManySigns, no_TooManySigns, ic_TooManySigns, tf_TooManySigns, kk_TooManySigns, bb_TooManySigns, ve_TooManySigns, tt_TooManySigns, hd_TooManySigns, ii_TooManySigns, sl_TooManySigns, su_TooManySigns, third, topS,
    ⟨_, _, _, _, _, _, _, _, _, _, _, ⟨41, 17, 41, 21⟩, ⟨41, 23, 41, 28⟩, ⟨42, 8, 42, 13⟩, ⟨42, 8, 42, 15⟩, ⟨42, 8, 42, 24⟩, ⟨42, 25, 42, 41⟩, ⟨42, 8, 42, 42⟩, ⟨42, 8, 42, 42⟩, ⟨43, 8, 43, 12⟩, ⟨43, 8, 43, 18⟩, ⟨43, 21, 43, 26⟩, ⟨43, 8, 43, 26⟩, "too many signs", 0, "TooManySigns.__init__", l_TooManySigns, c_TooManySigns, ⟨_, _, _, _, _, _, co_TooManySigns, v2_TooManySigns, fe_TooManySigns⟩, ⟨_, _, _, ce_TooManySigns⟩, fun _ _ => rfl, fun _ => ⟨_, rfl⟩, fun _ => rfl, fun _ => rfl⟩⟩
  e_NotPlain := ⟨C_NotPlain, F_NotPlain, ⟨by decide +kernel, by decide +kernel, by decide +kernel, by decide +kernel⟩, PySem.W.mg_of X G g_NotPlain, PySem.W.mg_none_of X G gsuper, ⟨_, _, _, _, _, _, _, _, _, _, _, _, _, _, _, x_NotPlain, rfl⟩, sa_NotPlain, ga_NotPlain, gg_NotPlain, no_NotPlain, ic_NotPlain, tf_NotPlain, kk_NotPlain, bb_NotPlain, ve_NotPlain, tt_NotPlain, hd_NotPlain, ii_NotPlain, sl_NotPlain, su_NotPlain, third, topS,
    ⟨_, _, _, _, _, _, _, _, _, _, _, ⟨31, 17, 31, 21⟩, ⟨31, 23, 31, 28⟩, ⟨32, 8, 32, 13⟩, ⟨32, 8, 32, 15⟩, ⟨32, 8, 32, 24⟩, ⟨32, 25, 32, 43⟩, ⟨32, 8, 32, 44⟩, ⟨32, 8, 32, 44⟩, ⟨33, 8, 33, 12⟩, ⟨33, 8, 33, 18⟩, ⟨33, 21, 33, 26⟩, ⟨33, 8, 33, 26⟩, "not a plain name", 0, "NotPlain.__init__", l_NotPlain, c_NotPlain, ⟨_, _, _, _, _, _, co_NotPlain, v2_NotPlain, fe_NotPlain⟩, ⟨_, _, _, ce_NotPlain⟩, fun _ _ => rfl, fun _ => ⟨_, rfl⟩, fun _ => rfl, fun _ => rfl⟩⟩
  e_TooLarge := ⟨C_TooLarge, F_TooLarge, ⟨by decide +kernel, by decide +kernel, by decide +kernel, by decide +kernel⟩, PySem.W.mg_of X G g_TooLarge, PySem.W.mg_none_of X G gsuper, ⟨_, _, _, _, _, _, _, _, _, _, _, _, _, _, _, x_TooLarge, rfl⟩, sa_TooLarge, ga_TooLarge, gg_TooLarge, no_TooLarge, ic_TooLarge, tf_TooLarge, kk_TooLarge, bb_TooLarge, ve_TooLarge, tt_TooLarge, hd_TooLarge, ii_TooLarge, sl_TooLarge, su_TooLarge, third, topS,
    ⟨_, _, _, _, _, _, _, _, _, _, _, ⟨6, 17, 6, 21⟩, ⟨6, 23, 6, 28⟩, ⟨7, 8, 7, 13⟩, ⟨7, 8, 7, 15⟩, ⟨7, 8, 7, 24⟩, ⟨7, 25, 7, 36⟩, ⟨7, 8, 7, 37⟩, ⟨7, 8, 7, 37⟩, ⟨8, 8, 8, 12⟩, ⟨8, 8, 8, 18⟩, ⟨8, 21, 8, 26⟩, ⟨8, 8, 8, 26⟩, "too large", 0, "TooLarge.__init__", l_TooLarge, c_TooLarge, ⟨_, _, _, _, _, _, co_TooLarge, v2_TooLarge, fe_TooLarge⟩, ⟨_, _, _, ce_TooLarge⟩, fun _ _ => rfl, fun _ => ⟨_, rfl⟩, fun _ => rfl, fun _ => rfl⟩⟩
  e_Exists := ⟨C_Exists, F_Exists, ⟨by decide +kernel, by decide +kernel, by decide +kernel, by decide +kernel⟩, PySem.W.mg_of X G g_Exists, PySem.W.mg_none_of X G gsuper, ⟨_, _, _, _, _, _, _, _, _, _, _, _, _, _, _, x_Exists, rfl⟩, sa_Exists, ga_Exists, gg_Exists, no_Exists, ic_Exists, tf_Exists, kk_Exists, bb_Exists, ve_Exists, tt_Exists, hd_Exists, ii_Exists, sl_Exists, su_Exists, third, topS,
    ⟨_, _, _, _, _, _, _, _, _, _, _, ⟨36, 17, 36, 21⟩, ⟨36, 23, 36, 28⟩, ⟨37, 8, 37, 13⟩, ⟨37, 8, 37, 15⟩, ⟨37, 8, 37, 24⟩, ⟨37, 25, 37, 44⟩, ⟨37, 8, 37, 45⟩, ⟨37, 8, 37, 45⟩, ⟨38, 8, 38, 12⟩, ⟨38, 8, 38, 18⟩, ⟨38, 21, 38, 26⟩, ⟨38, 8, 38, 26⟩, "the name is there", 0, "Exists.__init__", l_Exists, c_Exists, ⟨_, _, _, _, _, _, co_Exists, v2_Exists, fe_Exists⟩, ⟨_, _, _, ce_Exists⟩, fun _ _ => rfl, fun _ => ⟨_, rfl⟩, fun _ => rfl, fun _ => rfl⟩⟩
  e_NotEmpty := ⟨C_NotEmpty, PySem.W.mg_of X G g_NotEmpty, x_NotEmpty, kk_NotEmpty, bb_NotEmpty, tt_NotEmpty, ii_NotEmpty⟩
  e_InvalidNode := ⟨C_InvalidNode, PySem.W.mg_of X G g_InvalidNode, x_InvalidNode, kk_InvalidNode, bb_InvalidNode, tt_InvalidNode, ii_InvalidNode⟩
  m_InvalidStore_NotRoom := fun C D h1 h2 => by
    cases (PySem.W.mg_of X G g_InvalidStore).symm.trans h1
    cases (PySem.W.mg_of X G g_NotRoom).symm.trans h2
    exact s_InvalidStore_NotRoom
  m_InvalidStore_NoEntry := fun C D h1 h2 => by
    cases (PySem.W.mg_of X G g_InvalidStore).symm.trans h1
    cases (PySem.W.mg_of X G g_NoEntry).symm.trans h2
    exact s_InvalidStore_NoEntry
  m_InvalidStore_NotPlain := fun C D h1 h2 => by
    cases (PySem.W.mg_of X G g_InvalidStore).symm.trans h1
    cases (PySem.W.mg_of X G g_NotPlain).symm.trans h2
    exact s_InvalidStore_NotPlain
  m_InvalidStore_Exists := fun C D h1 h2 => by
    cases (PySem.W.mg_of X G g_InvalidStore).symm.trans h1
    cases (PySem.W.mg_of X G g_Exists).symm.trans h2
    exact s_InvalidStore_Exists
  m_InvalidStore_NotEmpty := fun C D h1 h2 => by
    cases (PySem.W.mg_of X G g_InvalidStore).symm.trans h1
    cases (PySem.W.mg_of X G g_NotEmpty).symm.trans h2
    exact s_InvalidStore_NotEmpty
  m_InvalidStore_TooManySigns := fun C D h1 h2 => by
    cases (PySem.W.mg_of X G g_InvalidStore).symm.trans h1
    cases (PySem.W.mg_of X G g_TooManySigns).symm.trans h2
    exact s_InvalidStore_TooManySigns
  m_InvalidStore_TooLarge := fun C D h1 h2 => by
    cases (PySem.W.mg_of X G g_InvalidStore).symm.trans h1
    cases (PySem.W.mg_of X G g_TooLarge).symm.trans h2
    exact s_InvalidStore_TooLarge
  m_InvalidRoom_NotRoom := fun C D h1 h2 => by
    cases (PySem.W.mg_of X G g_InvalidRoom).symm.trans h1
    cases (PySem.W.mg_of X G g_NotRoom).symm.trans h2
    exact s_InvalidRoom_NotRoom
  m_InvalidRoom_NoEntry := fun C D h1 h2 => by
    cases (PySem.W.mg_of X G g_InvalidRoom).symm.trans h1
    cases (PySem.W.mg_of X G g_NoEntry).symm.trans h2
    exact s_InvalidRoom_NoEntry
  m_InvalidRoom_NotPlain := fun C D h1 h2 => by
    cases (PySem.W.mg_of X G g_InvalidRoom).symm.trans h1
    cases (PySem.W.mg_of X G g_NotPlain).symm.trans h2
    exact s_InvalidRoom_NotPlain
  m_InvalidRoom_Exists := fun C D h1 h2 => by
    cases (PySem.W.mg_of X G g_InvalidRoom).symm.trans h1
    cases (PySem.W.mg_of X G g_Exists).symm.trans h2
    exact s_InvalidRoom_Exists
  m_InvalidRoom_NotEmpty := fun C D h1 h2 => by
    cases (PySem.W.mg_of X G g_InvalidRoom).symm.trans h1
    cases (PySem.W.mg_of X G g_NotEmpty).symm.trans h2
    exact s_InvalidRoom_NotEmpty
  m_InvalidRoom_TooManySigns := fun C D h1 h2 => by
    cases (PySem.W.mg_of X G g_InvalidRoom).symm.trans h1
    cases (PySem.W.mg_of X G g_TooManySigns).symm.trans h2
    exact s_InvalidRoom_TooManySigns
  m_InvalidRoom_TooLarge := fun C D h1 h2 => by
    cases (PySem.W.mg_of X G g_InvalidRoom).symm.trans h1
    cases (PySem.W.mg_of X G g_TooLarge).symm.trans h2
    exact s_InvalidRoom_TooLarge
  m_InvalidPath_NotRoom := fun C D h1 h2 => by
    cases (PySem.W.mg_of X G g_InvalidPath).symm.trans h1
    cases (PySem.W.mg_of X G g_NotRoom).symm.trans h2
    exact s_InvalidPath_NotRoom
  m_InvalidPath_NoEntry := fun C D h1 h2 => by
    cases (PySem.W.mg_of X G g_InvalidPath).symm.trans h1
    cases (PySem.W.mg_of X G g_NoEntry).symm.trans h2
    exact s_InvalidPath_NoEntry
  m_InvalidPath_NotPlain := fun C D h1 h2 => by
    cases (PySem.W.mg_of X G g_InvalidPath).symm.trans h1
    cases (PySem.W.mg_of X G g_NotPlain).symm.trans h2
    exact s_InvalidPath_NotPlain
  m_InvalidPath_Exists := fun C D h1 h2 => by
    cases (PySem.W.mg_of X G g_InvalidPath).symm.trans h1
    cases (PySem.W.mg_of X G g_Exists).symm.trans h2
    exact s_InvalidPath_Exists
  m_InvalidPath_NotEmpty := fun C D h1 h2 => by
    cases (PySem.W.mg_of X G g_InvalidPath).symm.trans h1
    cases (PySem.W.mg_of X G g_NotEmpty).symm.trans h2
    exact s_InvalidPath_NotEmpty
  m_InvalidPath_TooManySigns := fun C D h1 h2 => by
    cases (PySem.W.mg_of X G g_InvalidPath).symm.trans h1
    cases (PySem.W.mg_of X G g_TooManySigns).symm.trans h2
    exact s_InvalidPath_TooManySigns
  m_InvalidPath_TooLarge := fun C D h1 h2 => by
    cases (PySem.W.mg_of X G g_InvalidPath).symm.trans h1
    cases (PySem.W.mg_of X G g_TooLarge).symm.trans h2
    exact s_InvalidPath_TooLarge
  m_NotRoom_NotRoom := fun C D h1 h2 => by
    cases (PySem.W.mg_of X G g_NotRoom).symm.trans h1
    cases (PySem.W.mg_of X G g_NotRoom).symm.trans h2
    exact s_NotRoom_NotRoom
  m_NotRoom_NoEntry := fun C D h1 h2 => by
    cases (PySem.W.mg_of X G g_NotRoom).symm.trans h1
    cases (PySem.W.mg_of X G g_NoEntry).symm.trans h2
    exact s_NotRoom_NoEntry
  m_NotRoom_NotPlain := fun C D h1 h2 => by
    cases (PySem.W.mg_of X G g_NotRoom).symm.trans h1
    cases (PySem.W.mg_of X G g_NotPlain).symm.trans h2
    exact s_NotRoom_NotPlain
  m_NotRoom_Exists := fun C D h1 h2 => by
    cases (PySem.W.mg_of X G g_NotRoom).symm.trans h1
    cases (PySem.W.mg_of X G g_Exists).symm.trans h2
    exact s_NotRoom_Exists
  m_NotRoom_NotEmpty := fun C D h1 h2 => by
    cases (PySem.W.mg_of X G g_NotRoom).symm.trans h1
    cases (PySem.W.mg_of X G g_NotEmpty).symm.trans h2
    exact s_NotRoom_NotEmpty
  m_NotRoom_TooManySigns := fun C D h1 h2 => by
    cases (PySem.W.mg_of X G g_NotRoom).symm.trans h1
    cases (PySem.W.mg_of X G g_TooManySigns).symm.trans h2
    exact s_NotRoom_TooManySigns
  m_NotRoom_TooLarge := fun C D h1 h2 => by
    cases (PySem.W.mg_of X G g_NotRoom).symm.trans h1
    cases (PySem.W.mg_of X G g_TooLarge).symm.trans h2
    exact s_NotRoom_TooLarge
  m_NoEntry_NotRoom := fun C D h1 h2 => by
    cases (PySem.W.mg_of X G g_NoEntry).symm.trans h1
    cases (PySem.W.mg_of X G g_NotRoom).symm.trans h2
    exact s_NoEntry_NotRoom
  m_NoEntry_NoEntry := fun C D h1 h2 => by
    cases (PySem.W.mg_of X G g_NoEntry).symm.trans h1
    cases (PySem.W.mg_of X G g_NoEntry).symm.trans h2
    exact s_NoEntry_NoEntry
  m_NoEntry_NotPlain := fun C D h1 h2 => by
    cases (PySem.W.mg_of X G g_NoEntry).symm.trans h1
    cases (PySem.W.mg_of X G g_NotPlain).symm.trans h2
    exact s_NoEntry_NotPlain
  m_NoEntry_Exists := fun C D h1 h2 => by
    cases (PySem.W.mg_of X G g_NoEntry).symm.trans h1
    cases (PySem.W.mg_of X G g_Exists).symm.trans h2
    exact s_NoEntry_Exists
  m_NoEntry_NotEmpty := fun C D h1 h2 => by
    cases (PySem.W.mg_of X G g_NoEntry).symm.trans h1
    cases (PySem.W.mg_of X G g_NotEmpty).symm.trans h2
    exact s_NoEntry_NotEmpty
  m_NoEntry_TooManySigns := fun C D h1 h2 => by
    cases (PySem.W.mg_of X G g_NoEntry).symm.trans h1
    cases (PySem.W.mg_of X G g_TooManySigns).symm.trans h2
    exact s_NoEntry_TooManySigns
  m_NoEntry_TooLarge := fun C D h1 h2 => by
    cases (PySem.W.mg_of X G g_NoEntry).symm.trans h1
    cases (PySem.W.mg_of X G g_TooLarge).symm.trans h2
    exact s_NoEntry_TooLarge
  m_TooManySigns_NotRoom := fun C D h1 h2 => by
    cases (PySem.W.mg_of X G g_TooManySigns).symm.trans h1
    cases (PySem.W.mg_of X G g_NotRoom).symm.trans h2
    exact s_TooManySigns_NotRoom
  m_TooManySigns_NoEntry := fun C D h1 h2 => by
    cases (PySem.W.mg_of X G g_TooManySigns).symm.trans h1
    cases (PySem.W.mg_of X G g_NoEntry).symm.trans h2
    exact s_TooManySigns_NoEntry
  m_TooManySigns_NotPlain := fun C D h1 h2 => by
    cases (PySem.W.mg_of X G g_TooManySigns).symm.trans h1
    cases (PySem.W.mg_of X G g_NotPlain).symm.trans h2
    exact s_TooManySigns_NotPlain
  m_TooManySigns_Exists := fun C D h1 h2 => by
    cases (PySem.W.mg_of X G g_TooManySigns).symm.trans h1
    cases (PySem.W.mg_of X G g_Exists).symm.trans h2
    exact s_TooManySigns_Exists
  m_TooManySigns_NotEmpty := fun C D h1 h2 => by
    cases (PySem.W.mg_of X G g_TooManySigns).symm.trans h1
    cases (PySem.W.mg_of X G g_NotEmpty).symm.trans h2
    exact s_TooManySigns_NotEmpty
  m_TooManySigns_TooManySigns := fun C D h1 h2 => by
    cases (PySem.W.mg_of X G g_TooManySigns).symm.trans h1
    cases (PySem.W.mg_of X G g_TooManySigns).symm.trans h2
    exact s_TooManySigns_TooManySigns
  m_TooManySigns_TooLarge := fun C D h1 h2 => by
    cases (PySem.W.mg_of X G g_TooManySigns).symm.trans h1
    cases (PySem.W.mg_of X G g_TooLarge).symm.trans h2
    exact s_TooManySigns_TooLarge
  m_NotPlain_NotRoom := fun C D h1 h2 => by
    cases (PySem.W.mg_of X G g_NotPlain).symm.trans h1
    cases (PySem.W.mg_of X G g_NotRoom).symm.trans h2
    exact s_NotPlain_NotRoom
  m_NotPlain_NoEntry := fun C D h1 h2 => by
    cases (PySem.W.mg_of X G g_NotPlain).symm.trans h1
    cases (PySem.W.mg_of X G g_NoEntry).symm.trans h2
    exact s_NotPlain_NoEntry
  m_NotPlain_NotPlain := fun C D h1 h2 => by
    cases (PySem.W.mg_of X G g_NotPlain).symm.trans h1
    cases (PySem.W.mg_of X G g_NotPlain).symm.trans h2
    exact s_NotPlain_NotPlain
  m_NotPlain_Exists := fun C D h1 h2 => by
    cases (PySem.W.mg_of X G g_NotPlain).symm.trans h1
    cases (PySem.W.mg_of X G g_Exists).symm.trans h2
    exact s_NotPlain_Exists
  m_NotPlain_NotEmpty := fun C D h1 h2 => by
    cases (PySem.W.mg_of X G g_NotPlain).symm.trans h1
    cases (PySem.W.mg_of X G g_NotEmpty).symm.trans h2
    exact s_NotPlain_NotEmpty
  m_NotPlain_TooManySigns := fun C D h1 h2 => by
    cases (PySem.W.mg_of X G g_NotPlain).symm.trans h1
    cases (PySem.W.mg_of X G g_TooManySigns).symm.trans h2
    exact s_NotPlain_TooManySigns
  m_NotPlain_TooLarge := fun C D h1 h2 => by
    cases (PySem.W.mg_of X G g_NotPlain).symm.trans h1
    cases (PySem.W.mg_of X G g_TooLarge).symm.trans h2
    exact s_NotPlain_TooLarge
  m_TooLarge_NotRoom := fun C D h1 h2 => by
    cases (PySem.W.mg_of X G g_TooLarge).symm.trans h1
    cases (PySem.W.mg_of X G g_NotRoom).symm.trans h2
    exact s_TooLarge_NotRoom
  m_TooLarge_NoEntry := fun C D h1 h2 => by
    cases (PySem.W.mg_of X G g_TooLarge).symm.trans h1
    cases (PySem.W.mg_of X G g_NoEntry).symm.trans h2
    exact s_TooLarge_NoEntry
  m_TooLarge_NotPlain := fun C D h1 h2 => by
    cases (PySem.W.mg_of X G g_TooLarge).symm.trans h1
    cases (PySem.W.mg_of X G g_NotPlain).symm.trans h2
    exact s_TooLarge_NotPlain
  m_TooLarge_Exists := fun C D h1 h2 => by
    cases (PySem.W.mg_of X G g_TooLarge).symm.trans h1
    cases (PySem.W.mg_of X G g_Exists).symm.trans h2
    exact s_TooLarge_Exists
  m_TooLarge_NotEmpty := fun C D h1 h2 => by
    cases (PySem.W.mg_of X G g_TooLarge).symm.trans h1
    cases (PySem.W.mg_of X G g_NotEmpty).symm.trans h2
    exact s_TooLarge_NotEmpty
  m_TooLarge_TooManySigns := fun C D h1 h2 => by
    cases (PySem.W.mg_of X G g_TooLarge).symm.trans h1
    cases (PySem.W.mg_of X G g_TooManySigns).symm.trans h2
    exact s_TooLarge_TooManySigns
  m_TooLarge_TooLarge := fun C D h1 h2 => by
    cases (PySem.W.mg_of X G g_TooLarge).symm.trans h1
    cases (PySem.W.mg_of X G g_TooLarge).symm.trans h2
    exact s_TooLarge_TooLarge
  m_Exists_NotRoom := fun C D h1 h2 => by
    cases (PySem.W.mg_of X G g_Exists).symm.trans h1
    cases (PySem.W.mg_of X G g_NotRoom).symm.trans h2
    exact s_Exists_NotRoom
  m_Exists_NoEntry := fun C D h1 h2 => by
    cases (PySem.W.mg_of X G g_Exists).symm.trans h1
    cases (PySem.W.mg_of X G g_NoEntry).symm.trans h2
    exact s_Exists_NoEntry
  m_Exists_NotPlain := fun C D h1 h2 => by
    cases (PySem.W.mg_of X G g_Exists).symm.trans h1
    cases (PySem.W.mg_of X G g_NotPlain).symm.trans h2
    exact s_Exists_NotPlain
  m_Exists_Exists := fun C D h1 h2 => by
    cases (PySem.W.mg_of X G g_Exists).symm.trans h1
    cases (PySem.W.mg_of X G g_Exists).symm.trans h2
    exact s_Exists_Exists
  m_Exists_NotEmpty := fun C D h1 h2 => by
    cases (PySem.W.mg_of X G g_Exists).symm.trans h1
    cases (PySem.W.mg_of X G g_NotEmpty).symm.trans h2
    exact s_Exists_NotEmpty
  m_Exists_TooManySigns := fun C D h1 h2 => by
    cases (PySem.W.mg_of X G g_Exists).symm.trans h1
    cases (PySem.W.mg_of X G g_TooManySigns).symm.trans h2
    exact s_Exists_TooManySigns
  m_Exists_TooLarge := fun C D h1 h2 => by
    cases (PySem.W.mg_of X G g_Exists).symm.trans h1
    cases (PySem.W.mg_of X G g_TooLarge).symm.trans h2
    exact s_Exists_TooLarge
  m_NotEmpty_NotRoom := fun C D h1 h2 => by
    cases (PySem.W.mg_of X G g_NotEmpty).symm.trans h1
    cases (PySem.W.mg_of X G g_NotRoom).symm.trans h2
    exact s_NotEmpty_NotRoom
  m_NotEmpty_NoEntry := fun C D h1 h2 => by
    cases (PySem.W.mg_of X G g_NotEmpty).symm.trans h1
    cases (PySem.W.mg_of X G g_NoEntry).symm.trans h2
    exact s_NotEmpty_NoEntry
  m_NotEmpty_NotPlain := fun C D h1 h2 => by
    cases (PySem.W.mg_of X G g_NotEmpty).symm.trans h1
    cases (PySem.W.mg_of X G g_NotPlain).symm.trans h2
    exact s_NotEmpty_NotPlain
  m_NotEmpty_Exists := fun C D h1 h2 => by
    cases (PySem.W.mg_of X G g_NotEmpty).symm.trans h1
    cases (PySem.W.mg_of X G g_Exists).symm.trans h2
    exact s_NotEmpty_Exists
  m_NotEmpty_NotEmpty := fun C D h1 h2 => by
    cases (PySem.W.mg_of X G g_NotEmpty).symm.trans h1
    cases (PySem.W.mg_of X G g_NotEmpty).symm.trans h2
    exact s_NotEmpty_NotEmpty
  m_NotEmpty_TooManySigns := fun C D h1 h2 => by
    cases (PySem.W.mg_of X G g_NotEmpty).symm.trans h1
    cases (PySem.W.mg_of X G g_TooManySigns).symm.trans h2
    exact s_NotEmpty_TooManySigns
  m_NotEmpty_TooLarge := fun C D h1 h2 => by
    cases (PySem.W.mg_of X G g_NotEmpty).symm.trans h1
    cases (PySem.W.mg_of X G g_TooLarge).symm.trans h2
    exact s_NotEmpty_TooLarge
  m_InvalidNode_NotRoom := fun C D h1 h2 => by
    cases (PySem.W.mg_of X G g_InvalidNode).symm.trans h1
    cases (PySem.W.mg_of X G g_NotRoom).symm.trans h2
    exact s_InvalidNode_NotRoom
  m_InvalidNode_NoEntry := fun C D h1 h2 => by
    cases (PySem.W.mg_of X G g_InvalidNode).symm.trans h1
    cases (PySem.W.mg_of X G g_NoEntry).symm.trans h2
    exact s_InvalidNode_NoEntry
  m_InvalidNode_NotPlain := fun C D h1 h2 => by
    cases (PySem.W.mg_of X G g_InvalidNode).symm.trans h1
    cases (PySem.W.mg_of X G g_NotPlain).symm.trans h2
    exact s_InvalidNode_NotPlain
  m_InvalidNode_Exists := fun C D h1 h2 => by
    cases (PySem.W.mg_of X G g_InvalidNode).symm.trans h1
    cases (PySem.W.mg_of X G g_Exists).symm.trans h2
    exact s_InvalidNode_Exists
  m_InvalidNode_NotEmpty := fun C D h1 h2 => by
    cases (PySem.W.mg_of X G g_InvalidNode).symm.trans h1
    cases (PySem.W.mg_of X G g_NotEmpty).symm.trans h2
    exact s_InvalidNode_NotEmpty
  m_InvalidNode_TooManySigns := fun C D h1 h2 => by
    cases (PySem.W.mg_of X G g_InvalidNode).symm.trans h1
    cases (PySem.W.mg_of X G g_TooManySigns).symm.trans h2
    exact s_InvalidNode_TooManySigns
  m_InvalidNode_TooLarge := fun C D h1 h2 => by
    cases (PySem.W.mg_of X G g_InvalidNode).symm.trans h1
    cases (PySem.W.mg_of X G g_TooLarge).symm.trans h2
    exact s_InvalidNode_TooLarge
theorem walk {l : PySem.W.OpenLaw} {q : Program} {loose : List Str} {XP : (Str → Option Value) → Heap → Prop} {YP : World → Heap → Prop} {d : DefRec} {K : Params → PySem.W.Frag} (hn : l.most = some 63) (hdf : d.params.defaults = []) (hdn : d.name = "law")
    (hY : ∀ (w : World) (h : Heap), YP w h → (K w.params).In h) (F : ∀ (w : World) (mg : Str → Option Value) (h : Heap), (K w.params).In h → h.Ns mainGlobals mg → Txt l.prog (K w.params) mg) :
    PySem.W.WalkO q loose XP YP l.row.toRowW d [] (fun f vs => PySem.call f vs) := by
  refine walk_keeps (n := 63) (k := 10) (x := "script") (sp := fun w => sp1 (Φ_law (K w.params))) hn (by decide) hdf ⟨rfl, by decide, by decide⟩ hY ?_ ?_
  · intro w mg fa h KX G hmg
    have T := F w mg h KX G
    obtain ⟨f, fd, F1, hm, B, KB⟩ := T.d_law
    rw [hdn] at hmg
    obtain rfl : f = fa := Value.ref.inj (Option.some.inj (hm.symm.trans hmg))
    exact ⟨fd, fun s u => KB s [u] rfl, fun base _ _ => ok_law T F1⟩
  · intro w H a ns hl hS
    exact ⟨_, rfl, a, ns, rfl, hS, hl, fun _ => rfl⟩
end Mine
open PySem PySem.W PyProof.Rows
set_option maxRecDepth 100000 in
set_option maxHeartbeats 0 in
theorem PySem.Challenge.cw_wireshell_k20_nodes_that_are_made_and_ta_holds : PySem.Challenge.rw_wireshell_k20_nodes_that_are_made_and_ta.Holds := by
  w_on; o_law; k_head; (case hw => w_witness2)
  k_fill
  refine Mine.walk (l := PySem.Challenge.rw_wireshell_k20_nodes_that_are_made_and_ta) rfl rfl rfl (fun w h Y => PySem.W.kIn_of Y) ?F
  case F =>
    intro w mg h KX G
    refine' Mine.all_mk KX G ?h_FILE ?r_FILE ?h_ROOM ?r_ROOM ?h_SIGN ?r_SIGN ?h_HERE ?r_HERE ?h_ABOVE ?r_ABOVE ?h_ROOT ?r_ROOT ?h_MOST_NODES ?r_MOST_NODES ?h_MOST_TEXT ?r_MOST_TEXT ?h_MOST_PATH ?r_MOST_PATH ?h_MOST_NAME ?r_MOST_NAME ?h_MOST_SIGNS ?r_MOST_SIGNS ?h_NAME_SIGNS ?r_NAME_SIGNS ?a_is_whole ?l_is_whole ?c_is_whole ?k_is_whole ?a_is_plain ?l_is_plain ?c_is_plain ?k_is_plain ?a_is_text ?l_is_text ?c_is_text ?k_is_text ?a_is_entry_name ?l_is_entry_name ?c_is_entry_name ?k_is_entry_name ?a_is_a_path ?l_is_a_path ?c_is_a_path ?k_is_a_path ?a_are_entries ?l_are_entries ?c_are_entries ?k_are_entries ?a_is_node ?l_is_node ?c_is_node ?k_is_node ?a_hangs_together ?l_hangs_together ?c_hangs_together ?k_hangs_together ?a_is_a_store ?l_is_a_store ?c_is_a_store ?k_is_a_store ?a_is_room ?l_is_room ?c_is_room ?k_is_room ?a_need_store ?l_need_store ?c_need_store ?k_need_store ?a_need_room ?l_need_room ?c_need_room ?k_need_room ?a_need_path ?l_need_path ?c_need_path ?k_need_path ?a_words_of ?l_words_of ?c_words_of ?k_words_of ?a_last_index ?l_last_index ?c_last_index ?k_last_index ?a_start_of ?l_start_of ?c_start_of ?k_start_of ?a_parent_of ?l_parent_of ?c_parent_of ?k_parent_of ?a_entry_of ?l_entry_of ?c_entry_of ?k_entry_of ?a_steps_of ?l_steps_of ?c_steps_of ?k_steps_of ?a_gone ?l_gone ?c_gone ?k_gone ?a_has_plain_end ?l_has_plain_end ?c_has_plain_end ?k_has_plain_end ?a_place_of ?l_place_of ?c_place_of ?k_place_of ?a_entry_at ?l_entry_at ?c_entry_at ?k_entry_at ?a_with_node ?l_with_node ?c_with_node ?k_with_node ?a_with_entry ?l_with_entry ?c_with_entry ?k_with_entry ?a_let_go ?l_let_go ?c_let_go ?k_let_go ?a_free_number ?l_free_number ?c_free_number ?k_free_number ?a_made ?l_made ?c_made ?k_made ?t_made ?y_made ?a_removed ?l_removed ?c_removed ?k_removed ?a_need_three ?l_need_three ?c_need_three ?k_need_three ?a_make ?l_make ?c_make ?k_make ?a_remove ?l_remove ?c_remove ?k_remove ?a_law_deck ?l_law_deck ?c_law_deck ?k_law_deck ?a_law_draw ?l_law_draw ?c_law_draw ?k_law_draw ?a_law_one_of ?l_law_one_of ?c_law_one_of ?k_law_one_of ?a_law_mixed ?l_law_mixed ?c_law_mixed ?k_law_mixed ?a_law_name ?l_law_name ?c_law_name ?k_law_name ?a_law_path ?l_law_path ?c_law_path ?k_law_path ?a_law_text ?l_law_text ?c_law_text ?k_law_text ?a_law_places ?l_law_places ?c_law_places ?k_law_places ?a_law_store ?l_law_store ?c_law_store ?k_law_store ?a_law_rooms ?l_law_rooms ?c_law_rooms ?k_law_rooms ?a_law_is_room ?l_law_is_room ?c_law_is_room ?k_law_is_room ?a_law_words ?l_law_words ?c_law_words ?k_law_words ?a_law_above ?l_law_above ?c_law_above ?k_law_above ?a_law_walk ?l_law_walk ?c_law_walk ?k_law_walk ?a_law_place ?l_law_place ?c_law_place ?k_law_place ?a_law_entry ?l_law_entry ?c_law_entry ?k_law_entry ?a_law_with ?l_law_with ?c_law_with ?k_law_with ?a_law_tidy ?l_law_tidy ?c_law_tidy ?k_law_tidy ?a_law_made ?l_law_made ?c_law_made ?k_law_made ?a_law_removed ?l_law_removed ?c_law_removed ?k_law_removed ?a_law_got ?l_law_got ?c_law_got ?k_law_got ?a_law_crowd ?l_law_crowd ?c_law_crowd ?k_law_crowd ?a_law_right ?l_law_right ?c_law_right ?k_law_right ?a_law ?l_law ?c_law ?k_law ?z_all ?z_bool ?z_dict ?z_enumerate ?z_int ?z_isinstance ?z_len ?z_list ?z_max ?z_min ?z_range ?z_repr ?z_sorted ?z_str ?z_tuple ?z_zip ?gsuper ?third ?topS ?g_InvalidStore ?x_InvalidStore ?kk_InvalidStore ?bb_InvalidStore ?tt_InvalidStore ?ii_InvalidStore ?g_InvalidRoom ?x_InvalidRoom ?kk_InvalidRoom ?bb_InvalidRoom ?tt_InvalidRoom ?ii_InvalidRoom ?g_InvalidPath ?x_InvalidPath ?kk_InvalidPath ?bb_InvalidPath ?tt_InvalidPath ?ii_InvalidPath ?g_NotRoom ?x_NotRoom ?sa_NotRoom ?ga_NotRoom ?gg_NotRoom ?no_NotRoom ?ic_NotRoom ?tf_NotRoom ?kk_NotRoom ?bb_NotRoom ?ve_NotRoom ?tt_NotRoom ?hd_NotRoom ?ii_NotRoom ?sl_NotRoom ?su_NotRoom ?l_NotRoom ?c_NotRoom ?co_NotRoom ?v2_NotRoom ?fe_NotRoom ?ce_NotRoom ?g_NoEntry ?x_NoEntry ?sa_NoEntry ?ga_NoEntry ?gg_NoEntry ?no_NoEntry ?ic_NoEntry ?tf_NoEntry ?kk_NoEntry ?bb_NoEntry ?ve_NoEntry ?tt_NoEntry ?hd_NoEntry ?ii_NoEntry ?sl_NoEntry ?su_NoEntry ?l_NoEntry ?c_NoEntry ?co_NoEntry ?v2_NoEntry ?fe_NoEntry ?ce_NoEntry ?g_TooManySigns ?x_TooManySigns ?sa_TooManySigns ?ga_TooManySigns ?gg_TooManySigns ?no_TooManySigns ?ic_TooManySigns ?tf_TooManySigns ?kk_TooManySigns ?bb_TooManySigns ?ve_TooManySigns ?tt_TooManySigns ?hd_TooManySigns ?ii_TooManySigns ?sl_TooManySigns ?su_TooManySigns ?l_TooManySigns ?c_TooManySigns ?co_TooManySigns ?v2_TooManySigns ?fe_TooManySigns ?ce_TooManySigns ?g_NotPlain ?x_NotPlain ?sa_NotPlain ?ga_NotPlain ?gg_NotPlain ?no_NotPlain ?ic_NotPlain ?tf_NotPlain ?kk_NotPlain ?bb_NotPlain ?ve_NotPlain ?tt_NotPlain ?hd_NotPlain ?ii_NotPlain ?sl_NotPlain ?su_NotPlain ?l_NotPlain ?c_NotPlain ?co_NotPlain ?v2_NotPlain ?fe_NotPlain ?ce_NotPlain ?g_TooLarge ?x_TooLarge ?sa_TooLarge ?ga_TooLarge ?gg_TooLarge ?no_TooLarge ?ic_TooLarge ?tf_TooLarge ?kk_TooLarge ?bb_TooLarge ?ve_TooLarge ?tt_TooLarge ?hd_TooLarge ?ii_TooLarge ?sl_TooLarge ?su_TooLarge ?l_TooLarge ?c_TooLarge ?co_TooLarge ?v2_TooLarge ?fe_TooLarge ?ce_TooLarge ?g_Exists ?x_Exists ?sa_Exists ?ga_Exists ?gg_Exists ?no_Exists ?ic_Exists ?tf_Exists ?kk_Exists ?bb_Exists ?ve_Exists ?tt_Exists ?hd_Exists ?ii_Exists ?sl_Exists ?su_Exists ?l_Exists ?c_Exists ?co_Exists ?v2_Exists ?fe_Exists ?ce_Exists ?g_NotEmpty ?x_NotEmpty ?kk_NotEmpty ?bb_NotEmpty ?tt_NotEmpty ?ii_NotEmpty ?g_InvalidNode ?x_InvalidNode ?kk_InvalidNode ?bb_InvalidNode ?tt_InvalidNode ?ii_InvalidNode ?s_InvalidStore_NotRoom ?s_InvalidStore_NoEntry ?s_InvalidStore_NotPlain ?s_InvalidStore_Exists ?s_InvalidStore_NotEmpty ?s_InvalidStore_TooManySigns ?s_InvalidStore_TooLarge ?s_InvalidRoom_NotRoom ?s_InvalidRoom_NoEntry ?s_InvalidRoom_NotPlain ?s_InvalidRoom_Exists ?s_InvalidRoom_NotEmpty ?s_InvalidRoom_TooManySigns ?s_InvalidRoom_TooLarge ?s_InvalidPath_NotRoom ?s_InvalidPath_NoEntry ?s_InvalidPath_NotPlain ?s_InvalidPath_Exists ?s_InvalidPath_NotEmpty ?s_InvalidPath_TooManySigns ?s_InvalidPath_TooLarge ?s_NotRoom_NotRoom ?s_NotRoom_NoEntry ?s_NotRoom_NotPlain ?s_NotRoom_Exists ?s_NotRoom_NotEmpty ?s_NotRoom_TooManySigns ?s_NotRoom_TooLarge ?s_NoEntry_NotRoom ?s_NoEntry_NoEntry ?s_NoEntry_NotPlain ?s_NoEntry_Exists ?s_NoEntry_NotEmpty ?s_NoEntry_TooManySigns ?s_NoEntry_TooLarge ?s_TooManySigns_NotRoom ?s_TooManySigns_NoEntry ?s_TooManySigns_NotPlain ?s_TooManySigns_Exists ?s_TooManySigns_NotEmpty ?s_TooManySigns_TooManySigns ?s_TooManySigns_TooLarge ?s_NotPlain_NotRoom ?s_NotPlain_NoEntry ?s_NotPlain_NotPlain ?s_NotPlain_Exists ?s_NotPlain_NotEmpty ?s_NotPlain_TooManySigns ?s_NotPlain_TooLarge ?s_TooLarge_NotRoom ?s_TooLarge_NoEntry ?s_TooLarge_NotPlain ?s_TooLarge_Exists ?s_TooLarge_NotEmpty ?s_TooLarge_TooManySigns ?s_TooLarge_TooLarge ?s_Exists_NotRoom ?s_Exists_NoEntry ?s_Exists_NotPlain ?s_Exists_Exists ?s_Exists_NotEmpty ?s_Exists_TooManySigns ?s_Exists_TooLarge ?s_NotEmpty_NotRoom ?s_NotEmpty_NoEntry ?s_NotEmpty_NotPlain ?s_NotEmpty_Exists ?s_NotEmpty_NotEmpty ?s_NotEmpty_TooManySigns ?s_NotEmpty_TooLarge ?s_InvalidNode_NotRoom ?s_InvalidNode_NoEntry ?s_InvalidNode_NotPlain ?s_InvalidNode_Exists ?s_InvalidNode_NotEmpty ?s_InvalidNode_TooManySigns ?s_InvalidNode_TooLarge
    (case h_FILE => k_is); (case r_FILE => exact ⟨_, rfl⟩)
    (case h_ROOM => k_is); (case r_ROOM => exact ⟨_, rfl⟩)
    (case h_SIGN => k_is); (case r_SIGN => exact ⟨_, rfl⟩)
    (case h_HERE => k_is); (case r_HERE => exact ⟨_, rfl⟩)
    (case h_ABOVE => k_is); (case r_ABOVE => exact ⟨_, rfl⟩)
    (case h_ROOT => k_is); (case r_ROOT => exact ⟨_, rfl⟩)
    (case h_MOST_NODES => k_is); (case r_MOST_NODES => exact ⟨_, rfl⟩)
    (case h_MOST_TEXT => k_is); (case r_MOST_TEXT => exact ⟨_, rfl⟩)
    (case h_MOST_PATH => k_is); (case r_MOST_PATH => exact ⟨_, rfl⟩)
    (case h_MOST_NAME => k_is); (case r_MOST_NAME => exact ⟨_, rfl⟩)
    (case h_MOST_SIGNS => k_is); (case r_MOST_SIGNS => exact ⟨_, rfl⟩)
    (case h_NAME_SIGNS => k_is); (case r_NAME_SIGNS => exact ⟨_, rfl⟩)
    (case a_is_whole => k_is); (case l_is_whole => k_is); (case c_is_whole => k_is); (case k_is_whole => k_is)
    (case a_is_plain => k_is); (case l_is_plain => k_is); (case c_is_plain => k_is); (case k_is_plain => k_is)
    (case a_is_text => k_is); (case l_is_text => k_is); (case c_is_text => k_is); (case k_is_text => k_is)
    (case a_is_entry_name => k_is); (case l_is_entry_name => k_is); (case c_is_entry_name => k_is); (case k_is_entry_name => k_is)
    (case a_is_a_path => k_is); (case l_is_a_path => k_is); (case c_is_a_path => k_is); (case k_is_a_path => k_is)
    (case a_are_entries => k_is); (case l_are_entries => k_is); (case c_are_entries => k_is); (case k_are_entries => k_is)
    (case a_is_node => k_is); (case l_is_node => k_is); (case c_is_node => k_is); (case k_is_node => k_is)
    (case a_hangs_together => k_is); (case l_hangs_together => k_is); (case c_hangs_together => k_is); (case k_hangs_together => k_is)
    (case a_is_a_store => k_is); (case l_is_a_store => k_is); (case c_is_a_store => k_is); (case k_is_a_store => k_is)
    (case a_is_room => k_is); (case l_is_room => k_is); (case c_is_room => k_is); (case k_is_room => k_is)
    (case a_need_store => k_is); (case l_need_store => k_is); (case c_need_store => k_is); (case k_need_store => k_is)
    (case a_need_room => k_is); (case l_need_room => k_is); (case c_need_room => k_is); (case k_need_room => k_is)
    (case a_need_path => k_is); (case l_need_path => k_is); (case c_need_path => k_is); (case k_need_path => k_is)
    (case a_words_of => k_is); (case l_words_of => k_is); (case c_words_of => k_is); (case k_words_of => k_is)
    (case a_last_index => k_is); (case l_last_index => k_is); (case c_last_index => k_is); (case k_last_index => k_is)
    (case a_start_of => k_is); (case l_start_of => k_is); (case c_start_of => k_is); (case k_start_of => k_is)
    (case a_parent_of => k_is); (case l_parent_of => k_is); (case c_parent_of => k_is); (case k_parent_of => k_is)
    (case a_entry_of => k_is); (case l_entry_of => k_is); (case c_entry_of => k_is); (case k_entry_of => k_is)
    (case a_steps_of => k_is); (case l_steps_of => k_is); (case c_steps_of => k_is); (case k_steps_of => k_is)
    (case a_gone => k_is); (case l_gone => k_is); (case c_gone => k_is); (case k_gone => k_is)
    (case a_has_plain_end => k_is); (case l_has_plain_end => k_is); (case c_has_plain_end => k_is); (case k_has_plain_end => k_is)
    (case a_place_of => k_is); (case l_place_of => k_is); (case c_place_of => k_is); (case k_place_of => k_is)
    (case a_entry_at => k_is); (case l_entry_at => k_is); (case c_entry_at => k_is); (case k_entry_at => k_is)
    (case a_with_node => k_is); (case l_with_node => k_is); (case c_with_node => k_is); (case k_with_node => k_is)
    (case a_with_entry => k_is); (case l_with_entry => k_is); (case c_with_entry => k_is); (case k_with_entry => k_is)
    (case a_let_go => k_is); (case l_let_go => k_is); (case c_let_go => k_is); (case k_let_go => k_is)
    (case a_free_number => k_is); (case l_free_number => k_is); (case c_free_number => k_is); (case k_free_number => k_is)
    (case a_made => k_is); (case l_made => k_is); (case c_made => k_is); (case k_made => k_is); (case t_made => k_is); (case y_made => k_is)
    (case a_removed => k_is); (case l_removed => k_is); (case c_removed => k_is); (case k_removed => k_is)
    (case a_need_three => k_is); (case l_need_three => k_is); (case c_need_three => k_is); (case k_need_three => k_is)
    (case a_make => k_is); (case l_make => k_is); (case c_make => k_is); (case k_make => k_is)
    (case a_remove => k_is); (case l_remove => k_is); (case c_remove => k_is); (case k_remove => k_is)
    (case a_law_deck => k_is); (case l_law_deck => k_is); (case c_law_deck => k_is); (case k_law_deck => k_is)
    (case a_law_draw => k_is); (case l_law_draw => k_is); (case c_law_draw => k_is); (case k_law_draw => k_is)
    (case a_law_one_of => k_is); (case l_law_one_of => k_is); (case c_law_one_of => k_is); (case k_law_one_of => k_is)
    (case a_law_mixed => k_is); (case l_law_mixed => k_is); (case c_law_mixed => k_is); (case k_law_mixed => k_is)
    (case a_law_name => k_is); (case l_law_name => k_is); (case c_law_name => k_is); (case k_law_name => k_is)
    (case a_law_path => k_is); (case l_law_path => k_is); (case c_law_path => k_is); (case k_law_path => k_is)
    (case a_law_text => k_is); (case l_law_text => k_is); (case c_law_text => k_is); (case k_law_text => k_is)
    (case a_law_places => k_is); (case l_law_places => k_is); (case c_law_places => k_is); (case k_law_places => k_is)
    (case a_law_store => k_is); (case l_law_store => k_is); (case c_law_store => k_is); (case k_law_store => k_is)
    (case a_law_rooms => k_is); (case l_law_rooms => k_is); (case c_law_rooms => k_is); (case k_law_rooms => k_is)
    (case a_law_is_room => k_is); (case l_law_is_room => k_is); (case c_law_is_room => k_is); (case k_law_is_room => k_is)
    (case a_law_words => k_is); (case l_law_words => k_is); (case c_law_words => k_is); (case k_law_words => k_is)
    (case a_law_above => k_is); (case l_law_above => k_is); (case c_law_above => k_is); (case k_law_above => k_is)
    (case a_law_walk => k_is); (case l_law_walk => k_is); (case c_law_walk => k_is); (case k_law_walk => k_is)
    (case a_law_place => k_is); (case l_law_place => k_is); (case c_law_place => k_is); (case k_law_place => k_is)
    (case a_law_entry => k_is); (case l_law_entry => k_is); (case c_law_entry => k_is); (case k_law_entry => k_is)
    (case a_law_with => k_is); (case l_law_with => k_is); (case c_law_with => k_is); (case k_law_with => k_is)
    (case a_law_tidy => k_is); (case l_law_tidy => k_is); (case c_law_tidy => k_is); (case k_law_tidy => k_is)
    (case a_law_made => k_is); (case l_law_made => k_is); (case c_law_made => k_is); (case k_law_made => k_is)
    (case a_law_removed => k_is); (case l_law_removed => k_is); (case c_law_removed => k_is); (case k_law_removed => k_is)
    (case a_law_got => k_is); (case l_law_got => k_is); (case c_law_got => k_is); (case k_law_got => k_is)
    (case a_law_crowd => k_is); (case l_law_crowd => k_is); (case c_law_crowd => k_is); (case k_law_crowd => k_is)
    (case a_law_right => k_is); (case l_law_right => k_is); (case c_law_right => k_is); (case k_law_right => k_is)
    (case a_law => k_is); (case l_law => k_is); (case c_law => k_is); (case k_law => k_is)
    (case z_all => k_is)
    (case z_bool => k_is)
    (case z_dict => k_is)
    (case z_enumerate => k_is)
    (case z_int => k_is)
    (case z_isinstance => k_is)
    (case z_len => k_is)
    (case z_list => k_is)
    (case z_max => k_is)
    (case z_min => k_is)
    (case z_range => k_is)
    (case z_repr => k_is)
    (case z_sorted => k_is)
    (case z_str => k_is)
    (case z_tuple => k_is)
    (case z_zip => k_is)
    (case gsuper => k_is); (case third => k_is); (case topS => first | rfl | decide +kernel)
    (case g_InvalidStore => k_is); (case x_InvalidStore => k_exc); (case kk_InvalidStore => k_is); (case bb_InvalidStore => k_is); (case tt_InvalidStore => k_is); (case ii_InvalidStore => k_is)
    (case g_InvalidRoom => k_is); (case x_InvalidRoom => k_exc); (case kk_InvalidRoom => k_is); (case bb_InvalidRoom => k_is); (case tt_InvalidRoom => k_is); (case ii_InvalidRoom => k_is)
    (case g_InvalidPath => k_is); (case x_InvalidPath => k_exc); (case kk_InvalidPath => k_is); (case bb_InvalidPath => k_is); (case tt_InvalidPath => k_is); (case ii_InvalidPath => k_is)
    (case g_NotRoom => k_is); (case x_NotRoom => k_is); (case sa_NotRoom => k_is); (case ga_NotRoom => k_is); (case gg_NotRoom => k_is); (case no_NotRoom => k_is); (case ic_NotRoom => k_is); (case tf_NotRoom => k_is); (case kk_NotRoom => k_is); (case bb_NotRoom => k_is); (case ve_NotRoom => k_is); (case tt_NotRoom => k_is); (case hd_NotRoom => k_is); (case ii_NotRoom => k_is); (case sl_NotRoom => first | rfl | k_is); (case su_NotRoom => first | rfl | k_is); (case l_NotRoom => k_is); (case c_NotRoom => k_is); (case co_NotRoom => k_is); (case v2_NotRoom => first | rfl | decide +kernel); (case fe_NotRoom => first | rfl | decide +kernel); (case ce_NotRoom => k_is)
    (case g_NoEntry => k_is); (case x_NoEntry => k_is); (case sa_NoEntry => k_is); (case ga_NoEntry => k_is); (case gg_NoEntry => k_is); (case no_NoEntry => k_is); (case ic_NoEntry => k_is); (case tf_NoEntry => k_is); (case kk_NoEntry => k_is); (case bb_NoEntry => k_is); (case ve_NoEntry => k_is); (case tt_NoEntry => k_is); (case hd_NoEntry => k_is); (case ii_NoEntry => k_is); (case sl_NoEntry => first | rfl | k_is); (case su_NoEntry => first | rfl | k_is); (case l_NoEntry => k_is); (case c_NoEntry => k_is); (case co_NoEntry => k_is); (case v2_NoEntry => first | rfl | decide +kernel); (case fe_NoEntry => first | rfl | decide +kernel); (case ce_NoEntry => k_is)
    (case g_TooManySigns => k_is); (case x_TooManySigns => k_is); (case sa_TooManySigns => k_is); (case ga_TooManySigns => k_is); (case gg_TooManySigns => k_is); (case no_TooManySigns => k_is); (case ic_TooManySigns => k_is); (case tf_TooManySigns => k_is); (case kk_TooManySigns => k_is); (case bb_TooManySigns => k_is); (case ve_TooManySigns => k_is); (case tt_TooManySigns => k_is); (case hd_TooManySigns => k_is); (case ii_TooManySigns => k_is); (case sl_TooManySigns => first | rfl | k_is); (case su_TooManySigns => first | rfl | k_is); (case l_TooManySigns => k_is); (case c_TooManySigns => k_is); (case co_TooManySigns => k_is); (case v2_TooManySigns => first | rfl | decide +kernel); (case fe_TooManySigns => first | rfl | decide +kernel); (case ce_TooManySigns => k_is)
    (case g_NotPlain => k_is); (case x_NotPlain => k_is); (case sa_NotPlain => k_is); (case ga_NotPlain => k_is); (case gg_NotPlain => k_is); (case no_NotPlain => k_is); (case ic_NotPlain => k_is); (case tf_NotPlain => k_is); (case kk_NotPlain => k_is); (case bb_NotPlain => k_is); (case ve_NotPlain => k_is); (case tt_NotPlain => k_is); (case hd_NotPlain => k_is); (case ii_NotPlain => k_is); (case sl_NotPlain => first | rfl | k_is); (case su_NotPlain => first | rfl | k_is); (case l_NotPlain => k_is); (case c_NotPlain => k_is); (case co_NotPlain => k_is); (case v2_NotPlain => first | rfl | decide +kernel); (case fe_NotPlain => first | rfl | decide +kernel); (case ce_NotPlain => k_is)
    (case g_TooLarge => k_is); (case x_TooLarge => k_is); (case sa_TooLarge => k_is); (case ga_TooLarge => k_is); (case gg_TooLarge => k_is); (case no_TooLarge => k_is); (case ic_TooLarge => k_is); (case tf_TooLarge => k_is); (case kk_TooLarge => k_is); (case bb_TooLarge => k_is); (case ve_TooLarge => k_is); (case tt_TooLarge => k_is); (case hd_TooLarge => k_is); (case ii_TooLarge => k_is); (case sl_TooLarge => first | rfl | k_is); (case su_TooLarge => first | rfl | k_is); (case l_TooLarge => k_is); (case c_TooLarge => k_is); (case co_TooLarge => k_is); (case v2_TooLarge => first | rfl | decide +kernel); (case fe_TooLarge => first | rfl | decide +kernel); (case ce_TooLarge => k_is)
    (case g_Exists => k_is); (case x_Exists => k_is); (case sa_Exists => k_is); (case ga_Exists => k_is); (case gg_Exists => k_is); (case no_Exists => k_is); (case ic_Exists => k_is); (case tf_Exists => k_is); (case kk_Exists => k_is); (case bb_Exists => k_is); (case ve_Exists => k_is); (case tt_Exists => k_is); (case hd_Exists => k_is); (case ii_Exists => k_is); (case sl_Exists => first | rfl | k_is); (case su_Exists => first | rfl | k_is); (case l_Exists => k_is); (case c_Exists => k_is); (case co_Exists => k_is); (case v2_Exists => first | rfl | decide +kernel); (case fe_Exists => first | rfl | decide +kernel); (case ce_Exists => k_is)
    (case g_NotEmpty => k_is); (case x_NotEmpty => k_exc); (case kk_NotEmpty => k_is); (case bb_NotEmpty => k_is); (case tt_NotEmpty => k_is); (case ii_NotEmpty => k_is)
    (case g_InvalidNode => k_is); (case x_InvalidNode => k_exc); (case kk_InvalidNode => k_is); (case bb_InvalidNode => k_is); (case tt_InvalidNode => k_is); (case ii_InvalidNode => k_is)
    (case s_InvalidStore_NotRoom => first | rfl | k_is)
    (case s_InvalidStore_NoEntry => first | rfl | k_is)
    (case s_InvalidStore_NotPlain => first | rfl | k_is)
    (case s_InvalidStore_Exists => first | rfl | k_is)
    (case s_InvalidStore_NotEmpty => first | rfl | k_is)
    (case s_InvalidStore_TooManySigns => first | rfl | k_is)
    (case s_InvalidStore_TooLarge => first | rfl | k_is)
    (case s_InvalidRoom_NotRoom => first | rfl | k_is)
    (case s_InvalidRoom_NoEntry => first | rfl | k_is)
    (case s_InvalidRoom_NotPlain => first | rfl | k_is)
    (case s_InvalidRoom_Exists => first | rfl | k_is)
    (case s_InvalidRoom_NotEmpty => first | rfl | k_is)
    (case s_InvalidRoom_TooManySigns => first | rfl | k_is)
    (case s_InvalidRoom_TooLarge => first | rfl | k_is)
    (case s_InvalidPath_NotRoom => first | rfl | k_is)
    (case s_InvalidPath_NoEntry => first | rfl | k_is)
    (case s_InvalidPath_NotPlain => first | rfl | k_is)
    (case s_InvalidPath_Exists => first | rfl | k_is)
    (case s_InvalidPath_NotEmpty => first | rfl | k_is)
    (case s_InvalidPath_TooManySigns => first | rfl | k_is)
    (case s_InvalidPath_TooLarge => first | rfl | k_is)
    (case s_NotRoom_NotRoom => first | rfl | k_is)
    (case s_NotRoom_NoEntry => first | rfl | k_is)
    (case s_NotRoom_NotPlain => first | rfl | k_is)
    (case s_NotRoom_Exists => first | rfl | k_is)
    (case s_NotRoom_NotEmpty => first | rfl | k_is)
    (case s_NotRoom_TooManySigns => first | rfl | k_is)
    (case s_NotRoom_TooLarge => first | rfl | k_is)
    (case s_NoEntry_NotRoom => first | rfl | k_is)
    (case s_NoEntry_NoEntry => first | rfl | k_is)
    (case s_NoEntry_NotPlain => first | rfl | k_is)
    (case s_NoEntry_Exists => first | rfl | k_is)
    (case s_NoEntry_NotEmpty => first | rfl | k_is)
    (case s_NoEntry_TooManySigns => first | rfl | k_is)
    (case s_NoEntry_TooLarge => first | rfl | k_is)
    (case s_TooManySigns_NotRoom => first | rfl | k_is)
    (case s_TooManySigns_NoEntry => first | rfl | k_is)
    (case s_TooManySigns_NotPlain => first | rfl | k_is)
    (case s_TooManySigns_Exists => first | rfl | k_is)
    (case s_TooManySigns_NotEmpty => first | rfl | k_is)
    (case s_TooManySigns_TooManySigns => first | rfl | k_is)
    (case s_TooManySigns_TooLarge => first | rfl | k_is)
    (case s_NotPlain_NotRoom => first | rfl | k_is)
    (case s_NotPlain_NoEntry => first | rfl | k_is)
    (case s_NotPlain_NotPlain => first | rfl | k_is)
    (case s_NotPlain_Exists => first | rfl | k_is)
    (case s_NotPlain_NotEmpty => first | rfl | k_is)
    (case s_NotPlain_TooManySigns => first | rfl | k_is)
    (case s_NotPlain_TooLarge => first | rfl | k_is)
    (case s_TooLarge_NotRoom => first | rfl | k_is)
    (case s_TooLarge_NoEntry => first | rfl | k_is)
    (case s_TooLarge_NotPlain => first | rfl | k_is)
    (case s_TooLarge_Exists => first | rfl | k_is)
    (case s_TooLarge_NotEmpty => first | rfl | k_is)
    (case s_TooLarge_TooManySigns => first | rfl | k_is)
    (case s_TooLarge_TooLarge => first | rfl | k_is)
    (case s_Exists_NotRoom => first | rfl | k_is)
    (case s_Exists_NoEntry => first | rfl | k_is)
    (case s_Exists_NotPlain => first | rfl | k_is)
    (case s_Exists_Exists => first | rfl | k_is)
    (case s_Exists_NotEmpty => first | rfl | k_is)
    (case s_Exists_TooManySigns => first | rfl | k_is)
    (case s_Exists_TooLarge => first | rfl | k_is)
    (case s_NotEmpty_NotRoom => first | rfl | k_is)
    (case s_NotEmpty_NoEntry => first | rfl | k_is)
    (case s_NotEmpty_NotPlain => first | rfl | k_is)
    (case s_NotEmpty_Exists => first | rfl | k_is)
    (case s_NotEmpty_NotEmpty => first | rfl | k_is)
    (case s_NotEmpty_TooManySigns => first | rfl | k_is)
    (case s_NotEmpty_TooLarge => first | rfl | k_is)
    (case s_InvalidNode_NotRoom => first | rfl | k_is)
    (case s_InvalidNode_NoEntry => first | rfl | k_is)
    (case s_InvalidNode_NotPlain => first | rfl | k_is)
    (case s_InvalidNode_Exists => first | rfl | k_is)
    (case s_InvalidNode_NotEmpty => first | rfl | k_is)
    (case s_InvalidNode_TooManySigns => first | rfl | k_is)
    (case s_InvalidNode_TooLarge => first | rfl | k_is)
#print axioms PySem.Challenge.cw_wireshell_k20_nodes_that_are_made_and_ta_holds

