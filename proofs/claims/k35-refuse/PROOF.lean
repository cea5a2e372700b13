import PyProof.Rows.All
import Wide.All
import OpenK.AllK
import Wide.FinOn
import HandS.ForMost
import HandS.IsInst
import HandS.Walk
import HandS.Style
import HandS.Wide
import HandS.StrMore
import HandS.TryOnly
import HandS.TryMany
import HandS.More
import HandS.Star
import HandS.Deep
import HandS.TupMul
import HandS.DictComp
import HandS.WordsDict
import PyProof.Rows.SetFrom
import HandS.ExcOwn
import KE.KExcSuper
import HandS.Zip
import KE.GoesEnum
import HandS.TupLen
import HandS.TupAny
import HandS.DictTup
import KE.KDictPairs
import KE.SortData
import HandS.Conv
import HandS.Defaults
import HandS.Remove
import HandS.ExcIs
import HandS.Hot
import HandS.ExcCtx
import PySem.Challenge.RW_wireshell_k35_families_refuse
set_option Elab.async false
set_option maxRecDepth 100000
set_option maxHeartbeats 4000000
set_option linter.all false
/-! ## The prelude: promises of defs under which no repr is under way, combined rules (one a construct, whatever the kinds), readings step by step -/
namespace Mine
open PySem PySem.Spec PyProof.Rows
open L2 hiding CX XE Takes takes_of passes_call ps_raise ps_try_as ps_try_many ps_try_only pmk_own passAt MkP PMk mk_of Zc HdsOk takes_none5
open L2N hiding St
set_option linter.all false
abbrev St := L2.St

/-! ### names of the top -/
/-- a constant of the top -/
def GK (mg : Str → Option Value) (x : Str) (v : V) : Prop := ∃ u, mg x = some u ∧ RelV v u
theorem pe_gk {X : Cx} {x : Str} {v : V} {pos : Pos} (hg : Gl X x) (h : GK X.mg x v) (hd : (x == ("__debug__" : Str)) = false := by decide) : PE X (.Name x pos) (tC v) := by
  obtain ⟨u, hm, r⟩ := h
  exact pe_glob hg hm r hd

/-! ### a def's promise where no repr is under way -/
/-- room for k calls, no repr under way -/
structure Rm (k : Nat) (A : Around) : Prop where
  r : Room k A
  g : A.guards = some []
theorem Rm.mono {j k : Nat} {A : Around} (h : Rm k A) (l : j ≤ k) : Rm j A := ⟨h.r.mono l, h.g⟩
theorem Rm.down {k : Nat} {A : Around} (h : Rm (k + 1) A) (env : Env) : Rm k (A.deeper env) := ⟨h.r.deeper env, h.g⟩
theorem Rm.hu {k : Nat} {A : Around} (h : Rm k A) : A.units + 1 < cLine := hu_of h.r
theorem Rm.u65 {k : Nat} {A : Around} (h : Rm k A) : A.units + 65 < cLine := by
  have := h.r.un
  omega
/-- the promise itself -/
def Keeps (P : Program) (w : World) (K : PySem.W.Frag) (mg : Str → Option Value) (base : Heap) (CX : CXT) (k : Nat) (f : Addr) (fd : FuncData) (ps : List Str) (sp : Sp) : Prop :=
  (∀ vs H Q E, sp vs H Q E → vs.length = ps.length) ∧
  ∀ (A : Around) (outer : List Env) (s : Shared) (H : Hp) (args : Args) (us : List Value) (vs : List V) (Q : VK) (E : XK),
    Rm k A → Env0 P w K mg base A outer s H → BindsTo s fd args (ps.zip us) → Vals vs us → sp vs H Q E →
      codeAny (model P w) A (.call (.ref f) args) (CR CX outer P w H s Q E) s
/-- a def of the text keeps it, if its body's reading holds at each entry -/
theorem keeps_core {CX : CXT} {P : Program} {w : World} {K : PySem.W.Frag} {mg : Str → Option Value} {base : Heap} {k : Nat} {x qual : Str} {st : Stmt} {f : Addr} {oc dV kV doc pm cdv ct : Value} {od an : Option Addr} {osl : Array (Option Value)} {N ps : List Str} {sp : Sp}
    (lk : K.lookup f = some ⟨oc, od, .func (PySem.W.fnOf x qual (defArgs st) (defBody st) (defScope st) dV kV doc pm an cdv ct), osl⟩) (hcd : PySem.W.codeIn K cdv qual = true) (S : FnScope N ps (defScope st)) (len : ∀ vs H Q E, sp vs H Q E → vs.length = ps.length)
    (body : ∀ (cdv : Value) (A : Around) (outer : List Env) (s : Shared) (H : Hp) (vs : List V) (Q : VK) (E : XK), Rm k (A.deeper (envOfC qual (defScope st) s.heap.objs.size f cdv)) → sp vs H Q E →
      ∃ t, PSs (cxOf CX P w K mg base N qual (defScope st) f cdv A outer s H E) (defBody st) t ∧ t { nx := fun _ H' => Q .non H', rt := Q } (start N vs) H) :
    Keeps P w K mg base CX (k + 1) f (PySem.W.fnOf x qual (defArgs st) (defBody st) (defScope st) dV kV doc pm an cdv ct) ps sp := by
  refine And.intro len ?_
  intro A outer s H args us vs Q E hr e0 hb rv hsp
  have kp : ∀ b o, base.get? b = some o → s.heap.get? b = some o := fun b o e => (e0.bs b o e).1
  have inK : K.In s.heap := PySem.W.Frag.In.keeps e0.mod.kin kp
  have kinds : ∀ q ∈ ps.zip us, (defScope st).names.lookup q.1 = some .local ∨
      ((defScope st).names.lookup q.1 = some .cell ∧ ((cellsFrom (s.heap.objs.size + 1) (defScope st).names []).lookup q.1).isSome = true) := by
    intro q hq
    have hmem := (List.of_mem_zip (show (q.1, q.2) ∈ ps.zip us from hq)).1
    cases S.par q.1 hmem with
    | inl h => exact Or.inl h
    | inr h => exact Or.inr ⟨h, PySem.W.cellsFrom_some _ _ _ (Or.inl h)⟩
  refine codeAny_call_function hr.r.depth (inK _ _ lk) rfl S.co S.gen rfl (PySem.W.codeRec_of inK hcd) ?_
  refine hb _ _ _ _ ?_
  refine wpAny_newFunctionEnv_cells S.kind kinds ?_
  rintro env rfl s1 x1
  refine And.intro (Heap.NoLimit.keeps e0.mod.nolimit fun b o e => x1.toInCall.keep b o (kp b o e)) ?_
  refine codeAny_func ?_
  obtain ⟨t, pt, red⟩ := body cdv A outer s H vs Q E (hr.down _) hsp
  have I0 := inv_start (CX := CX) (E := E) (K := K) (mg := mg) S hr.r.hd e0 (len vs H Q E hsp) rv x1
  refine wpAny_mono (pt.run [] s1 _ H _ I0 red) ?_ (fun _ _ h => h)
  intro fl s2 hfl
  cases fl with
  | ret u =>
    obtain ⟨v, σ2, H2, J, r2, q2⟩ := hfl
    exact ⟨v, H2, J.os, J.bare, J.base, J.hok, r2, q2⟩
  | next =>
    obtain ⟨σ2, H2, J, q2⟩ := hfl
    exact ⟨V.non, H2, J.os, J.bare, J.base, J.hok, rfl, q2⟩
  | brk =>
    obtain ⟨σ2, H2, J, q2⟩ := hfl
    exact False.elim q2
  | cont =>
    obtain ⟨σ2, H2, J, q2⟩ := hfl
    exact False.elim q2

/-- a def of the text keeps it, if its body's reading holds at each entry -/
theorem keeps_of {CX : CXT} {P : Program} {w : World} {K : PySem.W.Frag} {mg : Str → Option Value} {base : Heap} {k : Nat} {x qual : Str} {st : Stmt} {f : Addr} {fd : FuncData} {N ps : List Str} {sp : Sp}
    (F : Fun K x qual st f fd) (S : FnScope N ps (defScope st)) (len : ∀ vs H Q E, sp vs H Q E → vs.length = ps.length)
    (body : ∀ (cdv : Value) (A : Around) (outer : List Env) (s : Shared) (H : Hp) (vs : List V) (Q : VK) (E : XK), Rm k (A.deeper (envOfC qual (defScope st) s.heap.objs.size f cdv)) → sp vs H Q E →
      ∃ t, PSs (cxOf CX P w K mg base N qual (defScope st) f cdv A outer s H E) (defBody st) t ∧ t { nx := fun _ H' => Q .non H', rt := Q } (start N vs) H) :
    Keeps P w K mg base CX (k + 1) f fd ps sp := by
  obtain ⟨_, _, kV, doc, pm, an, cdv, ct, _, rfl, lk, hcd⟩ := F.ex
  exact keeps_core lk hcd S len body

/-- where nothing that is raised leaves it -/
theorem keeps0_of {P : Program} {w : World} {K : PySem.W.Frag} {mg : Str → Option Value} {base : Heap} {k : Nat} {x qual : Str} {st : Stmt} {f : Addr} {fd : FuncData} {N ps : List Str} {sp : Sp}
    (F : Fun K x qual st f fd) (S : FnScope N ps (defScope st)) (len : ∀ vs H Q E, sp vs H Q E → vs.length = ps.length)
    (body : ∀ (cdv : Value) (A : Around) (outer : List Env) (s : Shared) (H : Hp) (vs : List V) (Q : VK) (E : XK), Rm k (A.deeper (envOfC qual (defScope st) s.heap.objs.size f cdv)) → sp vs H Q E →
      ∃ t, PSs (cxOf CX0 P w K mg base N qual (defScope st) f cdv A outer s H E).nox (defBody st) t ∧ t { nx := fun _ H' => Q .non H', rt := Q } (start N vs) H) :
    Keeps P w K mg base CX0 (k + 1) f fd ps sp := by
  refine keeps_of F S len ?_
  intro cdv A outer s H vs Q E hr hsp
  obtain ⟨t, h1, h2⟩ := body cdv A outer s H vs Q E hr hsp
  exact ⟨t, h1.nox, h2⟩

/-! ### defs of the top, by name -/
/-- a def of the top -/
def DefAt (K : PySem.W.Frag) (mg : Str → Option Value) (x : Str) (ps : List Str) (st : Stmt) : Prop :=
  ∃ (f : Addr) (fd : FuncData), Fun K x x st f fd ∧ mg x = some (.ref f) ∧ Binds K fd ps [] ∧ ∀ (s : Shared) (us : List Value), us.length = ps.length → BindsTo s fd ⟨us, []⟩ (ps.zip us)
theorem DefAt.mk {K : PySem.W.Frag} {mg : Str → Option Value} {x : Str} {ps : List Str} {st : Stmt} {f : Addr} {oc : Value} {od an : Option Addr} {osl : Array (Option Value)} {kV doc pm cdv ct : Value}
    (l : K.lookup f = some ⟨oc, od, .func (PySem.W.fnOf x x (defArgs st) (defBody st) (defScope st) .none kV doc pm an cdv ct), osl⟩) (c : PySem.W.codeIn K cdv x = true) (k : PySem.W.keepIn K (.ref f) = true) (hm : mg x = some (.ref f))
    (b : ∀ (kV doc pm : Value) (an : Option Addr) (cdv ct : Value) (us : List Value), us.length = ps.length → bindArgs (PySem.W.fnOf x x (defArgs st) (defBody st) (defScope st) .none kV doc pm an cdv ct) ⟨us, []⟩ = pure (ps.zip us)) : DefAt K mg x ps st := by
  have F := fun_mk (st := st) l c k
  exact ⟨f, _, F, hm, F.binds b, fun s us hl => .of_eq (b _ _ _ _ _ _ us hl)⟩
/-- a def of the top that keeps a promise -/
def Cal (P : Program) (w : World) (K : PySem.W.Frag) (mg : Str → Option Value) (base : Heap) (CX : CXT) (k : Nat) (x : Str) (st : Stmt) (ps : List Str) (sp : Sp) : Prop :=
  ∃ (f : Addr) (fd : FuncData), Fun K x x st f fd ∧ mg x = some (.ref f) ∧ Binds K fd ps [] ∧ Keeps P w K mg base CX k f fd ps sp
theorem cal {P : Program} {w : World} {K : PySem.W.Frag} {mg : Str → Option Value} {base : Heap} {CX : CXT} {k : Nat} {x : Str} {st : Stmt} {ps : List Str} {sp : Sp} (D : DefAt K mg x ps st)
    (h : ∀ {f : Addr} {fd : FuncData}, Fun K x x st f fd → Keeps P w K mg base CX k f fd ps sp) : Cal P w K mg base CX k x st ps sp := by
  obtain ⟨f, fd, F, hm, B, _⟩ := D
  exact ⟨f, fd, F, hm, B, h F⟩
section
variable {X : Cx} {CX : CXT} {k : Nat} {ps : List Str} {sp : Sp} {E : XK} {x : Str} {st : Stmt} {p pos : Pos} {e : Expr} {es : List Expr} {t tk : TA} {kws : List Keyword}
/-- the callee runs, whatever way its arguments were bound -/
theorem run_keeps {pins : List (Addr × Obj)} {σ : St} {H : Hp} {s : Shared} {Q : VK} {args : List Value} {kwargs : List (Str × Value)} {us : List Value} {vs : List V} {f : Addr} {fd : FuncData} (O : Keeps X.prog X.w X.K X.mg X.base CX k f fd ps sp)
    (hr : Rm k X.A) (hx : Passes CX X E) (I : Inv X pins σ H s) (b : BindsTo s fd ⟨args, kwargs⟩ (ps.zip us)) (r : Vals vs us) (h : sp vs H Q E) :
    wpAny (model X.prog X.w) X.A (call (.ref f) args kwargs) (EP X pins σ Q) X.xe s := by
  have run := O.2 X.A X.stack s H ⟨args, kwargs⟩ us vs Q E hr I.env0 b r h
  refine wpAny_call (codeAny_mono run ?_)
  intro res s2 hres
  match res, hres with
  | .error e, hres => exact hx pins σ H s e s2 I hres
  | .ok (.ret u), hres => exact I.after hres
theorem pe_cal (C : Cal X.prog X.w X.K X.mg X.base CX k x st ps sp) (hr : Rm k X.A) (hg : Gl X x) (hx : Passes CX X E) (ha : PA X (e :: es) t)
    (hdb : (x == ("__debug__" : Str)) = false := by decide) (he : starEach (e :: es) X.env = (false, eval e X.env) :: starEach es X.env := by rfl) (hpl : (backTo pos (starEach es X.env)).any (·.1) = false := by rfl) :
    PE X (.Call (.Name x p) (e :: es) [] pos) (tCall sp [] E t) := by
  obtain ⟨f, fd, F, hm, B, O⟩ := C
  constructor
  intro pins s σ H Q I h
  refine wpAny_Call_Name_kw (ld_glob I hg hm ?_ hdb)
  refine PySem.W.callWith_K (h₀ := X.base) I.ok.mod.kin F.kp (thn (ha.run pos pins s σ H _ I h) ?_) he hpl
  rintro us s1 ⟨vs, H1, I1, r, q⟩
  refine And.intro I1.kIn ?_
  have q' : sp vs H1 Q E := by
    have q0 : sp (vs ++ []) H1 Q E := q
    rwa [List.append_nil] at q0
  have hl : (us ++ []).length = ps.length := by
    rw [List.append_nil, ← Vals.length r]
    exact O.1 _ _ _ _ q'
  have b := B s1 us I1.kIn hl
  rw [List.append_nil] at b
  exact run_keeps O hr hx I1 b r q'
theorem pe_cal0 (C : Cal X.prog X.w X.K X.mg X.base CX k x st ps sp) (hr : Rm k X.A) (hg : Gl X x) (hx : Passes CX X E)
    (hdb : (x == ("__debug__" : Str)) = false := by decide) : PE X (.Call (.Name x p) [] [] pos) (tCall sp [] E tNil) := by
  obtain ⟨f, fd, F, hm, B, O⟩ := C
  constructor
  intro pins s σ H Q I h
  have q' : sp [] H Q E := h
  refine wpAny_Call_Name_kw (ld_glob I hg hm ?_ hdb)
  have b := B s [] I.kIn (show ([] ++ [] : List Value).length = ps.length from O.1 _ _ _ _ q')
  exact PySem.W.callWith_K0 I.kIn F.kp (run_keeps (us := []) O hr hx I b .nil q')
/-- positional values, then the keywords' values by their places -/
def gK {α : Type} (pm : List Nat) (us ws : List α) : List α := us ++ pm.filterMap fun i => ws[i]?
theorem gK_rel {pm : List Nat} {vs : List V} {us : List Value} {zs : List V} {ws : List Value} (r : Vals vs us) (q : Vals zs ws) : Vals (gK pm vs zs) (gK pm us ws) := by
  unfold gK
  refine Vals.append r ?_
  induction pm with
  | nil => exact .nil
  | cons i pm ih =>
    rw [List.filterMap_cons, List.filterMap_cons]
    cases e : zs[i]? with
    | none => rw [Vals.none_of q e]; exact ih
    | some z =>
      obtain ⟨u, e1, e2⟩ := Vals.get q e
      rw [e1]
      exact .cons e2 ih
def KwOk (x : Str) (st : Stmt) (ps : List Str) (n : Nat) (ks : List Str) (pm : List Nat) : Prop :=
  ∀ (kV doc pmv : Value) (an : Option Addr) (cdv ct : Value) (us ws : List Value), us.length = n → ws.length = ks.length →
    bindArgs (PySem.W.fnOf x x (defArgs st) (defBody st) (defScope st) .none kV doc pmv an cdv ct) ⟨us, ks.zip ws⟩ = pure (ps.zip (gK pm us ws))
def tCalK (n m : Nat) (pm : List Nat) (sp : Sp) (E : XK) (t tk : TA) : TE := fun σ H Q => t σ H fun vs H1 => tk σ H1 fun zs H2 => vs.length = n ∧ zs.length = m ∧ sp (gK pm vs zs) H2 Q E
theorem kw_binds {K : PySem.W.Frag} {f : Addr} {fd : FuncData} {n : Nat} {ks : List Str} {pm : List Nat} (F : Fun K x x st f fd) (hb : KwOk x st ps n ks pm) (s : Shared) {us ws : List Value} (h1 : us.length = n) (h2 : ws.length = ks.length) :
    BindsTo s fd ⟨us, ks.zip ws⟩ (ps.zip (gK pm us ws)) := by
  obtain ⟨_, _, kV, doc, pmv, an, cdv, ct, _, rfl, _, _⟩ := F.ex
  exact .of_eq (hb kV doc pmv an cdv ct us ws h1 h2)
theorem pe_calK {n : Nat} {ks : List Str} {pm : List Nat} (C : Cal X.prog X.w X.K X.mg X.base CX k x st ps sp) (hr : Rm k X.A) (hg : Gl X x) (hb : KwOk x st ps n ks pm) (hx : Passes CX X E)
    (ha : PA X (e :: es) t) (hkw : PK X kws tk) (hall : (backToKw pos (keywordEach kws X.env)).all (·.1.isSome) = true := by rfl) (hks : (backToKw pos (keywordEach kws X.env)).filterMap (·.1) = ks := by rfl)
    (hdb : (x == ("__debug__" : Str)) = false := by decide) (he : starEach (e :: es) X.env = (false, eval e X.env) :: starEach es X.env := by rfl)
    (hpl : ((backTo pos (starEach (e :: es) X.env)).any (·.1) || (backToKw pos (keywordEach kws X.env)).any (·.1.isNone)) = false := by rfl) :
    PE X (.Call (.Name x p) (e :: es) kws pos) (tCalK n ks.length pm sp E t tk) := by
  obtain ⟨f, fd, F, hm, B, O⟩ := C
  constructor
  intro pins s σ H Q I h
  refine wpAny_Call_Name_kw (ld_glob I hg hm ?_ hdb)
  refine PySem.W.callWith_KW (h₀ := X.base) I.ok.mod.kin F.kp hall (thn (ha.run pos pins s σ H _ I h) ?_) hpl he
  rintro us s1 ⟨vs, H1, I1, r, q⟩
  refine thn (hkw.run pos pins s1 σ H1 _ I1 q) ?_
  rintro ws s2 ⟨zs, H2, I2, rz, l1, l2, q2⟩
  refine And.intro I2.kIn ?_
  rw [hks]
  exact run_keeps O hr hx I2 (kw_binds F hb s2 (by have := Vals.length r; simpa [this] using l1) (by rw [← Vals.length rz]; exact l2)) (gK_rel r rz) q2
theorem pe_calK0 {ks : List Str} {pm : List Nat} (C : Cal X.prog X.w X.K X.mg X.base CX k x st ps sp) (hr : Rm k X.A) (hg : Gl X x) (hb : KwOk x st ps 0 ks pm) (hx : Passes CX X E)
    (hkw : PK X kws tk) (hall : (backToKw pos (keywordEach kws X.env)).all (·.1.isSome) = true := by rfl) (hks : (backToKw pos (keywordEach kws X.env)).filterMap (·.1) = ks := by rfl)
    (hdb : (x == ("__debug__" : Str)) = false := by decide)
    (hpl : ((backTo pos (starEach [] X.env)).any (·.1) || (backToKw pos (keywordEach kws X.env)).any (·.1.isNone)) = false := by rfl) :
    PE X (.Call (.Name x p) [] kws pos) (tCalK 0 ks.length pm sp E tNil tk) := by
  obtain ⟨f, fd, F, hm, B, O⟩ := C
  constructor
  intro pins s σ H Q I h
  refine wpAny_Call_Name_kw (ld_glob I hg hm ?_ hdb)
  refine PySem.W.callWith_KW0 (h₀ := X.base) I.ok.mod.kin F.kp hall ?_ hpl
  have h' : tk σ H fun zs H2 => ([] : List V).length = 0 ∧ zs.length = ks.length ∧ sp (gK pm [] zs) H2 Q E := h
  refine thn (hkw.run pos pins s σ H _ I h') ?_
  rintro ws s2 ⟨zs, H2, I2, rz, l1, l2, q2⟩
  refine And.intro I2.kIn ?_
  rw [hks]
  exact run_keeps (us := gK pm [] ws) O hr hx I2 (kw_binds F hb s2 (us := []) rfl (by rw [← Vals.length rz]; exact l2)) (gK_rel .nil rz) q2
end
/-! ### ways that meet again: what follows is shown once -/
def tMeet (t u : TS) : TS := fun D σ H => ∃ M : St → Hp → Prop, t { D with nx := M } σ H ∧ ∀ σ' H', M σ' H' → u D σ' H'
theorem pss_meet {X : Cx} {st : Stmt} {rest : List Stmt} {t u : TS} (h1 : PS X st t) (h2 : PSs X rest u) : PSs X (st :: rest) (tMeet t u) := by
  constructor
  rintro pins s σ H D I ⟨M, hM, hu⟩
  have first := h1.run pins s σ H { D with nx := M } I hM
  refine wpAny_execs_cons (thn first ?_)
  intro f s1 q
  match f, q with
  | .next, ⟨σ', H', I', q⟩ => exact h2.run pins s1 σ' H' D I' (hu σ' H' q)
  | .ret v, q => exact q
  | .brk, q => exact q
  | .cont, q => exact q
/-! ### promises by the number of parameters -/
abbrev sp1 (Φ : V → Hp → VK → Prop) : Sp := fun vs H Q _ => ∃ a, vs = [a] ∧ Φ a H Q
abbrev sp2 (Φ : V → V → Hp → VK → Prop) : Sp := fun vs H Q _ => ∃ a b, vs = [a, b] ∧ Φ a b H Q
abbrev sp3 (Φ : V → V → V → Hp → VK → Prop) : Sp := fun vs H Q _ => ∃ a b c, vs = [a, b, c] ∧ Φ a b c H Q
abbrev sp4 (Φ : V → V → V → V → Hp → VK → Prop) : Sp := fun vs H Q _ => ∃ a b c d, vs = [a, b, c, d] ∧ Φ a b c d H Q
abbrev sp5 (Φ : V → V → V → V → V → Hp → VK → Prop) : Sp := fun vs H Q _ => ∃ a b c d e, vs = [a, b, c, d, e] ∧ Φ a b c d e H Q
abbrev sp6 (Φ : V → V → V → V → V → V → Hp → VK → Prop) : Sp := fun vs H Q _ => ∃ a b c d e f, vs = [a, b, c, d, e, f] ∧ Φ a b c d e f H Q

/-! ### the law's call -/
theorem law_keeps {P : Program} {w : World} {K : PySem.W.Frag} {mg mb : Str → Option Value} {k : Nat} {fa a : Addr} {fd : FuncData} {x : Str} {sp : Sp} {s₁ : Shared} {vs : List Value} {ns : List Int}
    (kin : K.In s₁.heap) (gns : s₁.heap.Ns mainGlobals mg) (bns : s₁.heap.Ns builtinsNs mb) (bb : ∀ x : Str, x ≠ "__name__" → mb x = bootBuiltins x) (nl : s₁.heap.NoLimit) (ng : s₁.gens = #[])
    (obj : s₁.heap.get? a = some { cls := .type "list", data := .seq vs.toArray }) (his : IntsAre vs ns) (short : ns.length ≤ sizeLine) (room : Room k callerA)
    (F : ∀ base : Heap, K.In base → base.Ns mainGlobals mg → Keeps P w K mg base CX0 k fa fd [x] sp) (bind : ∀ (s : Shared) (u : Value), BindsTo s fd ⟨[u], []⟩ [(x, u)])
    (hsp : ∀ H : Hp, SqL K H a (ns.map V.int) → sp [.ref a] H (fun v _ => v = .bl true) fun _ _ _ => False) :
    codeAny (model P w) callerA (.call (.ref fa) ⟨[.ref a], []⟩) (fun r s' => r = .ok (.ret (.bool true)) ∧ OldK s₁.heap s'.heap ∧ s'.os = s₁.os ∧ AllBare s'.gens) s₁ := by
  have rv := vals_ints his
  have hlen := his.length
  let o₁ : Obj := { cls := .type "list", data := .seq vs.toArray }
  let H₁ : Hp := fun b => if b = a ∧ K.lookup a = none then some (.frz o₁ (.lst (ns.map V.int))) else none
  have hit : ∀ {b u}, H₁ b = some u → (b = a ∧ K.lookup a = none) ∧ u = .frz o₁ (.lst (ns.map V.int)) := by
    intro b u e
    by_cases c : b = a ∧ K.lookup a = none
    · rw [show H₁ b = _ from if_pos c] at e
      exact ⟨c, (Option.some.inj e).symm⟩
    · rw [show H₁ b = _ from if_neg c] at e
      cases e
  have seq : SqL K H₁ a (ns.map V.int) := by
    cases lk : K.lookup a with
    | none => exact Or.inl (Or.inr ⟨o₁, if_pos ⟨rfl, lk⟩⟩)
    | some o =>
      have e := (kin a o lk).symm.trans obj
      cases Option.some.inj e
      exact Or.inr ⟨_, vs.toArray, _, lk, rfl, rfl, rfl, (by rw [List.size_toArray, hlen]; exact short), (by simpa using rv)⟩
  have hok : HOk P w H₁ s₁.heap := by
    intro b u e
    obtain ⟨⟨rfl, _⟩, rfl⟩ := hit e
    exact ⟨obj, (by rw [List.length_map]; exact short), vs, _, rv, obj⟩
  have hid : ∀ {b o}, s₁.heap.get? b = some o → H₁ b = none → (hidT s₁.heap H₁).get? b = some o := fun e n => hidT_get e n
  have free : ∀ {b o es ep}, s₁.heap.get? b = some o → o.data = .dict es ep → H₁ b = none := by
    intro b o es ep e d
    cases q : H₁ b with
    | none => rfl
    | some u =>
      obtain ⟨⟨rfl, _⟩, _⟩ := hit q
      rw [obj] at e
      cases e
      cases d
  have nsOf : ∀ {b : Addr} {m : Str → Option Value}, s₁.heap.Ns b m → (hidT s₁.heap H₁).Ns b m := by
    rintro b m ⟨o, es, ep, e, d, r⟩
    exact ⟨o, es, ep, hid e (free e d), d, r⟩
  have kb : K.In (hidT s₁.heap H₁) := by
    intro b o e
    refine hid (kin b o e) ?_
    cases q : H₁ b with
    | none => rfl
    | some u =>
      obtain ⟨⟨rfl, n⟩, _⟩ := hit q
      rw [n] at e
      cases e
  have md : Mod K mg (hidT s₁.heap H₁) := by
    obtain ⟨mc, l1, l2⟩ := nl
    exact ⟨kb, nsOf gns, ⟨mb, nsOf bns, bb⟩, ⟨mc, nsOf l1, l2⟩⟩
  have e0 : Env0 P w K mg (hidT s₁.heap H₁) callerA [] s₁ H₁ :=
    ⟨rfl, md, fun _ _ e => of_hidT e, Nat.le_of_eq (hidT_size _ _), trivial, fun b hb => absurd (show b ∈ ([] : List Addr) from hb) List.not_mem_nil, hok, .of_eq ng⟩
  have run := (F _ kb (nsOf gns)).2 callerA [] s₁ H₁ ⟨[.ref a], []⟩ [.ref a] [.ref a] _ _ ⟨room, rfl⟩ e0 (bind s₁ (.ref a)) (.cons rfl .nil) (hsp H₁ seq)
  refine codeAny_mono run ?_
  intro res s2 hres
  match res, hres with
  | .error e, hres => exact hres.elim
  | .ok (.ret u), hres =>
    obtain ⟨v, H2, os, bare, un, hok2, rr, q⟩ := hres
    cases (show v = .bl true from q)
    cases (show u = Value.bool true from rr)
    refine ⟨rfl, OldK.of_keep ?_, os, bare⟩
    intro b o e
    cases q2 : H₁ b with
    | none => exact un.keep b o e q2 (fun z => absurd (show b ∈ ([] : List Addr) from z) List.not_mem_nil) List.not_mem_nil
    | some z =>
      have z2 := (hit q2).2
      subst z2
      have e1 := (hok b _ q2).1
      have e2 := (hok2 b _ (un.frzs b _ _ q2)).1
      rw [e] at e1
      cases Option.some.inj e1
      exact e2
/-- the goal that the head leaves, from the law's promise -/
theorem walk_keeps {l : PySem.W.OpenLaw} {n k : Nat} {q : Program} {loose : List Str} {XP : (Str → Option Value) → Heap → Prop} {YP : World → Heap → Prop} {d : DefRec} {K : Params → PySem.W.Frag} {sp : World → Sp} {x : Str}
    (hn : l.most = some n) (hn2 : n ≤ sizeLine) (hdf : d.params.defaults = []) (hr : Room k callerA) (hY : ∀ (w : World) (h : Heap), YP w h → (K w.params).In h)
    (F : ∀ (w : World) (mg : Str → Option Value) (fa : Addr) (h : Heap), (K w.params).In h → h.Ns mainGlobals mg → mg d.name = some (.ref fa) →
      ∃ fd : FuncData, (∀ (s : Shared) (u : Value), BindsTo s fd ⟨[u], []⟩ [(x, u)]) ∧ ∀ base : Heap, (K w.params).In base → base.Ns mainGlobals mg → Keeps l.prog w (K w.params) mg base CX0 k fa fd [x] (sp w))
    (hsp : ∀ (w : World) (H : Hp) (a : Addr) (ns : List Int), ns.length ≤ n → SqL (K w.params) H a (ns.map V.int) → sp w [.ref a] H (fun v _ => v = .bl true) fun _ _ _ => False) :
    PySem.W.WalkO q loose XP YP l.row.toRowW d [] (fun f vs => PySem.call f vs) := by
  refine Att.attach_call hn hdf ?_
  intro w s₀ s₁ mg mb fa o pm cd doc a vs ns G Y _ _ _ hmg obj his hl ng
  obtain ⟨fd, hb, hF⟩ := F w mg fa _ (hY w _ Y) G.T.g hmg
  exact law_keeps (hY w _ Y) G.T.g G.T.b G.T.builtins G.T.nolimit ng obj his (Nat.le_trans hl hn2) hr hF hb fun H hS => hsp w H a ns hl hS
end Mine

/-! ## Operators whatever the kinds -/
namespace Mine
open PySem PySem.Spec PyProof.Rows
open L2 hiding CX XE Takes takes_of passes_call ps_raise ps_try_as ps_try_many ps_try_only pmk_own passAt MkP PMk mk_of Zc HdsOk takes_none5
open L2N hiding St
set_option linter.all false
section
variable {X : Cx}
/-- lists put together, each whichever stands -/
def rCatS (K : PySem.W.Frag) : R2 := fun x y H Q => ∃ l b xs zs, x = .ref l ∧ y = .ref b ∧ SqL K H l xs ∧ SqL K H b zs ∧ xs.length + zs.length ≤ sizeLine ∧ ∀ p, H p = none → Q (.ref p) (upd H p (.lst (xs ++ zs)))
theorem op_catS : OpR X (binaryOp .Add) (rCatS X.K) := by
  intro pins s σ H x y v u Q I rx ry h
  obtain ⟨l, b, xs, zs, rfl, rfl, h1, h2, hz, q⟩ := h
  cases rx
  cases ry
  obtain ⟨its, r, p, _⟩ := I.list h1
  obtain ⟨its2, r2, p2, _⟩ := I.list h2
  obtain ⟨⟨cls, dd, data, sl⟩, ho, hc, n, hd⟩ := p.isList
  obtain ⟨⟨cls2, dd2, data2, sl2⟩, ho2, hc2, n2, hd2⟩ := p2.isList
  simp only at hc hd hc2 hd2
  subst hc hd hc2 hd2
  have lx := r.length
  have ly := r2.length
  have hs : its.toArray.size + its2.toArray.size ≤ sizeLine := by rw [List.size_toArray, List.size_toArray]; omega
  have e : its.toArray ++ its2.toArray = (its ++ its2).toArray := by simp
  refine concat_meets ⟨_, ho, rfl⟩ ⟨_, ho2, rfl⟩ noFill_list_add seq_list_add PySem.F.slot_list_add PySem.F.entry_list_add (PySem.F.args_list_add_2 _ _) (list_addW l b its.toArray its2.toArray n n2 dd dd2 sl sl2 hs) ⟨ho, ho2, ?_⟩
  rw [e]
  exact ⟨.ref _, _, I.lnew (t' := s.toks) (r.append r2) (by rw [List.length_append]; omega), rfl, q _ I.fresh⟩
def xAdd (K : PySem.W.Frag) : R2 := fun x y H Q => match x, y with
  | .int i, .int j => Q (.int (i + j)) H
  | .str a, .str b => a.length + b.length ≤ sizeLine ∧ Q (.str (a ++ b)) H
  | .ref a, .ref b => rCatS K (.ref a) (.ref b) H Q ∨ rCatA K (.ref a) (.ref b) H Q
  | _, _ => False
theorem oAdd₀ : OpR X (binaryOp .Add) (xAdd X.K) := by
  intro pins s σ H x y v u Q I rx ry h
  cases x <;> cases y <;> first
    | exact False.elim h
    | exact op_add pins s σ H _ _ v u Q I rx ry ⟨_, _, rfl, rfl, h⟩
    | exact op_add_str pins s σ H _ _ v u Q I rx ry ⟨_, _, rfl, rfl, h⟩
    | exact (OpR.or op_catS op_catA) pins s σ H _ _ v u Q I rx ry h
def xSub : R2 := fun x y H Q => match x, y with
  | .int i, .int j => Q (.int (i - j)) H
  | _, _ => False
theorem oSub : OpR X (binaryOp .Sub) xSub := by
  intro pins s σ H x y v u Q I rx ry h
  cases x <;> cases y <;> first
    | exact False.elim h
    | exact op_sub pins s σ H _ _ v u Q I rx ry ⟨_, _, rfl, rfl, h⟩
theorem mulI : OpR X (binaryOp .Mult) (rI IntMulOk fun i j => .int (i * j)) := opI fun _ _ _ _ _ _ _ hc q => mul_int q hc
theorem mulS : OpR X (binaryOp .Mult) (fun x y H Q => ∃ a k, x = .str a ∧ y = .int k ∧ MulOk a k ∧ Q (.str (Txt.mul a k)) H) := by
  intro pins s σ H x y v u Q I rx ry h
  obtain ⟨a, k, rfl, rfl, ok, q⟩ := h
  obtain ⟨t, rfl⟩ := rx
  obtain ⟨t', rfl⟩ := ry
  exact SB.mul ok fun t2 k2 => ⟨.str _, H, I.tok k2, ⟨_, rfl⟩, q⟩
def xMul (K : PySem.W.Frag) : R2 := fun x y H Q => match x, y with
  | .int i, .int j => IntMulOk i j ∧ Q (.int (i * j)) H
  | .str a, .int k => MulOk a k ∧ Q (.str (Txt.mul a k)) H
  | .ref a, .int k => rRep (.ref a) (.int k) H Q ∨ rRepT K (.ref a) (.int k) H Q
  | _, _ => False
theorem oMul₀ : OpR X (binaryOp .Mult) (xMul X.K) := by
  intro pins s σ H x y v u Q I rx ry h
  cases x <;> cases y <;> first
    | exact False.elim h
    | exact mulI pins s σ H _ _ v u Q I rx ry ⟨_, _, rfl, rfl, h⟩
    | exact mulS pins s σ H _ _ v u Q I rx ry ⟨_, _, rfl, rfl, h⟩
    | exact (OpR.or op_rep op_repT) pins s σ H _ _ v u Q I rx ry h
def xMod : R2 := fun x y H Q => match x, y with
  | .int i, .int j => 0 < j ∧ Q (.int (i % j)) H
  | _, _ => False
theorem oMod : OpR X (binaryOp .Mod) xMod := by
  intro pins s σ H x y v u Q I rx ry h
  cases x <;> cases y <;> first
    | exact False.elim h
    | exact op_mod pins s σ H _ _ v u Q I rx ry ⟨_, _, rfl, rfl, h⟩
def xDiv : R2 := fun x y H Q => match x, y with
  | .int i, .int j => CDivW i j ∧ Q (.int (i / j)) H
  | _, _ => False
theorem oDiv : OpR X (binaryOp .FloorDiv) xDiv := by
  intro pins s σ H x y v u Q I rx ry h
  cases x <;> cases y <;> first
    | exact False.elim h
    | exact op_fdivW pins s σ H _ _ v u Q I rx ry ⟨_, _, rfl, rfl, h⟩
def PowOk (i j : Int) : Prop := 0 ≤ j ∧ (Builtin.Int.intBits i : Int) * j ≤ 2 ^ 27
def xPow : R2 := fun x y H Q => match x, y with
  | .int i, .int j => PowOk i j ∧ Q (.int (i ^ j.toNat)) H
  | _, _ => False
theorem powI : OpR X (binaryOp .Pow) (rI PowOk fun i j => .int (i ^ j.toNat)) := opI fun _ _ _ _ _ _ _ hc q => pow_int hc.1 hc.2 q
theorem oPow : OpR X (binaryOp .Pow) xPow := by
  intro pins s σ H x y v u Q I rx ry h
  cases x <;> cases y <;> first
    | exact False.elim h
    | exact powI pins s σ H _ _ v u Q I rx ry ⟨_, _, rfl, rfl, h⟩
/-! ### comparisons -/
/-- two lists one of which is empty: their lengths tell -/
def rLen2 (K : PySem.W.Frag) (f : Bool → Bool) : R2 := fun x y H Q => ∃ p q xs ys, x = .ref p ∧ y = .ref q ∧ SqL K H p xs ∧ SqL K H q ys ∧ (xs = [] ∨ ys = []) ∧ Q (.bl (f (decide (xs.length = ys.length)))) H
theorem eqLen (hu : X.A.units < cLine) : OpR X (compareOp .Eq) (rLen2 X.K id) := by
  intro pins s σ H x y v u Q I rx ry h
  obtain ⟨p, q, xs, ys, rfl, rfl, hx, hy, he, k⟩ := h
  cases rx
  cases ry
  obtain ⟨ix, vx, px, _⟩ := I.list hx
  obtain ⟨iy, vy, py, _⟩ := I.list hy
  have lx := vx.length
  have ly := vy.length
  by_cases e : xs.length = ys.length
  · have x0 : ix.toArray.size = 0 := by rcases he with rfl | rfl <;> simp_all
    rw [decide_eq_true e] at k
    refine SeqAt.eq_listAt (e := fun _ => true) px.isList py.isList (by rw [List.size_toArray, List.size_toArray]; omega) hu (fun j h1 _ => by omega) ?_
    rw [x0]
    exact ⟨.bl _, H, I, rfl, k⟩
  · rw [decide_eq_false e] at k
    exact SeqAt.eq_list_lengthsAt px.isList py.isList (by rw [List.size_toArray, List.size_toArray]; simp; omega) hu ⟨.bl _, H, I, rfl, k⟩
theorem neLen (hu : X.A.units < cLine) : OpR X (compareOp .NotEq) (rLen2 X.K (!·)) := by
  intro pins s σ H x y v u Q I rx ry h
  obtain ⟨p, q, xs, ys, rfl, rfl, hx, hy, he, k⟩ := h
  cases rx
  cases ry
  obtain ⟨ix, vx, px, _⟩ := I.list hx
  obtain ⟨iy, vy, py, _⟩ := I.list hy
  have lx := vx.length
  have ly := vy.length
  by_cases e : xs.length = ys.length
  · have x0 : ix.toArray.size = 0 := by rcases he with rfl | rfl <;> simp_all
    rw [decide_eq_true e] at k
    refine SeqAt.RcNeAt.lists (e := fun _ => true) px.isList py.isList (by rw [List.size_toArray, List.size_toArray]; omega) hu (fun j h1 _ => by omega) _ _ _ _ ?_
    rw [x0]
    exact ⟨.bl _, H, I, rfl, k⟩
  · rw [decide_eq_false e] at k
    exact SeqAt.RcNeAt.lists_lengths px.isList py.isList (by rw [List.size_toArray, List.size_toArray]; simp; omega) hu _ _ _ _ ⟨.bl _, H, I, rfl, k⟩
def xEq (K : PySem.W.Frag) : R2 := fun x y H Q => (scal x y = true ∧ Q (.bl (decide (x = y))) H) ∨ rEqD K x y H Q ∨ rLen2 K id x y H Q
theorem oEq₀ (hu : X.A.units + 65 < cLine) : OpR X (compareOp .Eq) (xEq X.K) := OpR.or op_eq (OpR.or (op_eqD (by omega)) (eqLen (by omega)))
def xNe (K : PySem.W.Frag) : R2 := fun x y H Q => (scal x y = true ∧ Q (.bl (!decide (x = y))) H) ∨ rNeD K x y H Q ∨ rLen2 K (!·) x y H Q
theorem oNe₀ (hu : X.A.units + 65 < cLine) : OpR X (compareOp .NotEq) (xNe X.K) := OpR.or op_ne (OpR.or (op_neD (by omega)) (neLen (by omega)))
def xLt : R2 := fun x y H Q => match x, y with
  | .int i, .int j => Q (.bl (decide (i < j))) H
  | .str a, .str b => Q (.bl (decide (a.cps.toList < b.cps.toList))) H
  | _, _ => False
theorem oLt : OpR X (compareOp .Lt) xLt := by
  intro pins s σ H x y v u Q I rx ry h
  cases x <;> cases y <;> first
    | exact False.elim h
    | exact op_lt pins s σ H _ _ v u Q I rx ry ⟨_, _, rfl, rfl, h⟩
    | exact op_lt_str pins s σ H _ _ v u Q I rx ry ⟨_, _, rfl, rfl, h⟩
def xLe : R2 := fun x y H Q => match x, y with
  | .int i, .int j => Q (.bl (decide (i ≤ j))) H
  | .str a, .str b => Q (.bl (!decide (b.cps.toList < a.cps.toList))) H
  | _, _ => False
theorem oLe : OpR X (compareOp .LtE) xLe := by
  intro pins s σ H x y v u Q I rx ry h
  cases x <;> cases y <;> first
    | exact False.elim h
    | exact op_le pins s σ H _ _ v u Q I rx ry ⟨_, _, rfl, rfl, h⟩
    | exact op_le_str pins s σ H _ _ v u Q I rx ry ⟨_, _, rfl, rfl, h⟩
def xGt : R2 := fun x y H Q => match x, y with
  | .int i, .int j => Q (.bl (decide (j < i))) H
  | .str a, .str b => Q (.bl (decide (b.cps.toList < a.cps.toList))) H
  | _, _ => False
theorem oGt : OpR X (compareOp .Gt) xGt := by
  intro pins s σ H x y v u Q I rx ry h
  cases x <;> cases y <;> first
    | exact False.elim h
    | exact op_gt pins s σ H _ _ v u Q I rx ry ⟨_, _, rfl, rfl, h⟩
    | exact op_gt_str pins s σ H _ _ v u Q I rx ry ⟨_, _, rfl, rfl, h⟩
def xGe : R2 := fun x y H Q => match x, y with
  | .int i, .int j => Q (.bl (decide (j ≤ i))) H
  | .str a, .str b => Q (.bl (!decide (a.cps.toList < b.cps.toList))) H
  | _, _ => False
theorem oGe : OpR X (compareOp .GtE) xGe := by
  intro pins s σ H x y v u Q I rx ry h
  cases x <;> cases y <;> first
    | exact False.elim h
    | exact op_ge pins s σ H _ _ v u Q I rx ry ⟨_, _, rfl, rfl, h⟩
    | exact op_ge_str pins s σ H _ _ v u Q I rx ry ⟨_, _, rfl, rfl, h⟩
/-- a text stands in another one -/
def inS (a b : Str) : Bool := !(Builtin.Str.occurrences b a 0 b.length 1).isEmpty
theorem inS_sign (c : Nat) (z : Str) : inS ⟨#[c]⟩ z = decide (c ∈ z.cps.toList) := PySem.StrLaws.found_one z c
def xIn (K : PySem.W.Frag) : R2 := fun x y H Q => match y with
  | .str b => ∃ a, x = .str a ∧ Q (.bl (inS a b)) H
  | .ref p => rIn K false x (.ref p) H Q ∨ rInD K x (.ref p) H Q
  | _ => False
theorem oIn₀ (hu : X.A.units + 65 < cLine) : OpR X (compareOp .In) (xIn X.K) := by
  intro pins s σ H x y v u Q I rx ry h
  cases y with
  | str b =>
    obtain ⟨a, rfl, q⟩ := h
    exact op_in_str pins s σ H _ _ v u Q I rx ry ⟨_, _, rfl, rfl, q⟩
  | ref p => exact (OpR.or op_in_seq (op_inD hu)) pins s σ H _ _ v u Q I rx ry h
  | _ => exact False.elim h
def xNotIn (K : PySem.W.Frag) : R2 := fun x y H Q => match y with
  | .str b => ∃ a, x = .str a ∧ Q (.bl (!inS a b)) H
  | .ref p => rIn K true x (.ref p) H Q ∨ rNotInD K x (.ref p) H Q
  | _ => False
theorem oNotIn₀ (hu : X.A.units + 65 < cLine) : OpR X (compareOp .NotIn) (xNotIn X.K) := by
  intro pins s σ H x y v u Q I rx ry h
  cases y with
  | str b =>
    obtain ⟨a, rfl, q⟩ := h
    exact op_notin_str pins s σ H _ _ v u Q I rx ry ⟨_, _, rfl, rfl, q⟩
  | ref p => exact (OpR.or op_notIn_seq (op_notInD hu)) pins s σ H _ _ v u Q I rx ry h
  | _ => exact False.elim h
def xIs : R2 := fun x y H Q => (y = .non ∧ Q (.bl (decide (x = .non))) H) ∨ rIsB x y H Q
theorem oIs : OpR X (compareOp .Is) xIs := OpR.or op_isN op_isBl
def xIsNot : R2 := fun x y H Q => (y = .non ∧ Q (.bl (!decide (x = .non))) H) ∨ rNotB x y H Q
theorem oIsNot : OpR X (compareOp .IsNot) xIsNot := OpR.or op_notN op_notBl
/-! ### subscripts, slices, len, int, repr, what a for walks -/
def xIx (K : PySem.W.Frag) : R2 := fun x y H Q => match x, y with
  | .str z, .int i => ∃ c, z.length ≤ sizeLine ∧ atI z.cps.toList i = some c ∧ Q (.str ⟨#[c]⟩) H
  | .ref p, .int i => ∃ xs v, (SqL K H p xs ∨ SqT K H p xs) ∧ atI xs i = some v ∧ Q v H
  | _, _ => False
theorem ixX₀ : IxR X (xIx X.K) := by
  intro a b pins s σ H x y v u Q I rx ry h hs
  refine ix_seq a b pins s σ H x y v u Q I rx ry ?_ hs
  cases x <;> cases y <;> first
    | exact False.elim h
    | (obtain ⟨c, h1, h2, q⟩ := h; exact .inr (.inr ⟨_, _, c, rfl, rfl, h1, h2, q⟩))
    | (obtain ⟨xs, v, h1, h2, q⟩ := h
       rcases h1 with h1 | h1
       · exact .inl ⟨_, xs, _, v, rfl, rfl, h1, h2, q⟩
       · exact .inr (.inl ⟨_, xs, _, v, rfl, rfl, h1, h2, q⟩))
def xSl (K : PySem.W.Frag) : V → Option Int → Option Int → Hp → VK → Prop := fun x lo hi H Q => match x with
  | .str z => z.length ≤ sizeLine ∧ Q (.str (cutS z lo hi)) H
  | .ref p => rSlL K (.ref p) lo hi H Q ∨ rSlA K (.ref p) lo hi H Q
  | _ => False
theorem sX₀ : SlR X (xSl X.K) := by
  intro pins s σ H x v vl vu lo hi sl Q I rx hs pl pu h
  refine (SlR.or (SlR.or sl_list sl_tupA) sl_str) pins s σ H x v vl vu lo hi sl Q I rx hs pl pu ?_
  cases x with
  | str z => exact .inr ⟨z, rfl, h⟩
  | ref p => exact .inl h
  | _ => exact False.elim h
def xLen (K : PySem.W.Frag) : List V → Hp → VK → Prop := fun xs H Q => (∃ x n, xs = [x] ∧ LenV K x H n ∧ Q (.int (n : Int)) H) ∨ ∃ a kvs, xs = [V.ref a] ∧ H a = some (.dK kvs) ∧ Q (.int kvs.length) H
theorem call_lenX₀ : CallR X (.builtin "len") (xLen X.K) := fun pins s σ H xs us Q I r h => by
  rcases h with h | h
  · exact call_len pins s σ H xs us Q I r h
  · exact call_lenD pins s σ H xs us Q I r h
def xInt : List V → Hp → VK → Prop := fun xs H Q => match xs with
  | [.int i] => Q (.int i) H
  | [.bl k] => Q (.int (if k then 1 else 0)) H
  | [.str a] => ∃ n, PySem.intText? a = some n ∧ a.length ≤ 640 ∧ Q (.int n) H
  | _ => False
theorem call_intX : CallR X (.type "int") xInt := by
  intro pins s σ H xs us Q I r h
  match xs, h with
  | [.int i], h => exact call_int1 pins s σ H _ us Q I r (.inl ⟨i, rfl, h⟩)
  | [.bl k], h => exact call_int1 pins s σ H _ us Q I r (.inr ⟨k, rfl, h⟩)
  | [.str a], ⟨n, h1, h2, h3⟩ => exact call_int_str pins s σ H _ us Q I r ⟨a, n, rfl, h1, h2, h3⟩
def xMax : List V → Hp → VK → Prop := fun xs H Q => match xs with
  | [.int i, .int j] => Q (.int (max i j)) H
  | _ => False
theorem call_maxX (hc : X.calm = true) : CallR X (.builtin "max") xMax := by
  intro pins s σ H xs us Q I r h
  match xs, h with
  | [.int i, .int j], h =>
    refine call_max2 hc pins s σ H _ us Q I r ⟨i, j, rfl, ?_⟩
    have e : (if j > i then j else i) = max i j := by omega
    rw [e]
    exact h
def xMin : List V → Hp → VK → Prop := fun xs H Q => match xs with
  | [.int i, .int j] => Q (.int (min i j)) H
  | _ => False
theorem call_minX (hc : X.calm = true) : CallR X (.builtin "min") xMin := by
  intro pins s σ H xs us Q I r h
  match xs, h with
  | [.int i, .int j], h =>
    refine call_min2 hc pins s σ H _ us Q I r ⟨i, j, rfl, ?_⟩
    have e : (if j < i then j else i) = min i j := by omega
    rw [e]
    exact h
/-- what may be shown -/
def Shows (d : PyData) : Prop := d.showable = true ∧ d.hasDict = false ∧ d.depth ≤ 60 ∧ d.shown.length ≤ sizeLine
def xRepr (K : PySem.W.Frag) : List V → Hp → VK → Prop := fun xs H Q => ∃ x d, xs = [x] ∧ Dp K H x d ∧ Shows d ∧ Q (.str d.shown) H
theorem call_reprX₀ (hr : Rm 0 X.A) : CallR X (.builtin "repr") (xRepr X.K) := by
  intro pins s σ H xs us Q I r h
  obtain ⟨x, d, rfl, hd, ⟨h1, h2, h3, h4⟩, q⟩ := h
  obtain ⟨u, rfl, rx⟩ := vals1 r
  obtain ⟨as, rd⟩ := Dp.reads I d x u hd rx
  have hu := hr.r.un
  have hl : d.shown.length ≤ sizeLine := h4
  cases u with
  | ref a =>
    refine repr_of_reads' rd h1 (fun e => by rw [h2] at e; cases e) hr.g (by omega) (fun _ _ e => e) ?_ hl
    intro h' t tk keep
    exact ⟨.str _, H, I.kept keep, ⟨_, rfl⟩, q⟩
  | none => cases rd; exact P.repr_of_none ⟨.str _, H, I.tok _, ⟨_, rfl⟩, q⟩
  | bool b => cases rd; exact P.repr_of_bool ⟨.str _, H, I.tok _, ⟨_, by cases b <;> rfl⟩, q⟩
  | int i t =>
    cases rd
    refine P.repr_of_int ?_ ⟨.str _, H, I.tok _, ⟨_, rfl⟩, q⟩
    simpa [PyData.showable] using h1
  | str z t => cases rd; exact P.repr_of_str ⟨.str _, H, I.tok _, ⟨_, rfl⟩, q⟩ hl
  | _ => cases hd <;> cases rx <;> rename_i h <;> cases h
def xList (K : PySem.W.Frag) : List V → Hp → VK → Prop := fun xs H Q => ∃ p ys, xs = [.ref p] ∧ (SqL K H p ys ∨ SqT K H p ys) ∧ ∀ l, H l = none → Q (.ref l) (upd H l (.lst ys))
def xTup (K : PySem.W.Frag) : List V → Hp → VK → Prop := fun xs H Q => ∃ p ys, xs = [.ref p] ∧ ((SqL K H p ys ∧ ∀ l, H l = none → Q (.ref l) (upd H l (.tup ys))) ∨ (SqT K H p ys ∧ Q (.ref p) H))
def xSortDI : List V → Hp → VK → Prop := fun xs H Q => ∃ (a : Addr) (kvs : List (Key × V)) (ks : List Int), xs = [.ref a] ∧ Rd H a (.dK kvs) ∧ kvs.map (·.1) = ks.map Sum.inl ∧ ks.length < 64 ∧
  ∀ (ys : List Int) (p : Addr), ys.Perm ks → ys.Pairwise (· ≤ ·) → H p = none → Q (.ref p) (upd H p (.lst (ys.map V.int)))
/-! the same, the written part named -/
variable {K : PySem.W.Frag}
theorem oAdd (e : X.K = K := by rfl) : OpR X (binaryOp .Add) (xAdd K) := by
  subst e
  exact oAdd₀
theorem oMul (e : X.K = K := by rfl) : OpR X (binaryOp .Mult) (xMul K) := by
  subst e
  exact oMul₀
theorem oEq (hu : X.A.units + 65 < cLine) (e : X.K = K := by rfl) : OpR X (compareOp .Eq) (xEq K) := by
  subst e
  exact oEq₀ hu
theorem oNe (hu : X.A.units + 65 < cLine) (e : X.K = K := by rfl) : OpR X (compareOp .NotEq) (xNe K) := by
  subst e
  exact oNe₀ hu
theorem oIn (hu : X.A.units + 65 < cLine) (e : X.K = K := by rfl) : OpR X (compareOp .In) (xIn K) := by
  subst e
  exact oIn₀ hu
theorem oNotIn (hu : X.A.units + 65 < cLine) (e : X.K = K := by rfl) : OpR X (compareOp .NotIn) (xNotIn K) := by
  subst e
  exact oNotIn₀ hu
theorem ixX (e : X.K = K := by rfl) : IxR X (xIx K) := by
  subst e
  exact ixX₀
theorem sX (e : X.K = K := by rfl) : SlR X (xSl K) := by
  subst e
  exact sX₀
theorem call_lenX (e : X.K = K := by rfl) : CallR X (.builtin "len") (xLen K) := by
  subst e
  exact call_lenX₀
theorem call_reprX (hr : Rm 0 X.A) (e : X.K = K := by rfl) : CallR X (.builtin "repr") (xRepr K) := by
  subst e
  exact call_reprX₀ hr
theorem isiX (e : X.K = K := by rfl) : CallR X (.builtin "isinstance") (rIsi K) := by
  subst e
  exact call_isi
theorem isiTX (e : X.K = K := by rfl) : CallR X (.builtin "isinstance") (rIsiT K) := by
  subst e
  exact call_isiT
theorem allX (hc : X.calm = true) (e : X.K = K := by rfl) : CallR X (.builtin "all") (rAll K) := by
  subst e
  exact cr_all hc
theorem anyX (hc : X.calm = true) (e : X.K = K := by rfl) : CallR X (.builtin "any") (rAny K) := by
  subst e
  exact cr_any hc
/-- whatever a for walks: a list, a tuple, a text -/
def iAny (K : PySem.W.Frag) (te : TE) : TI := fun σ H R => iList K te σ H R ∨ iTup K te σ H R ∨ iStr te σ H R
theorem pi_any {tg e : Expr} {te : TE} (he : PE X e te) (ek : X.K = K := by rfl) : PI X tg e (iAny K te) := by
  subst ek
  refine ⟨fun pins s σ H R I h => ?_⟩
  rcases h with h | h | h
  · exact (pi_list he).run pins s σ H R I h
  · exact (pi_tup he).run pins s σ H R I h
  · exact (pi_str he).run pins s σ H R I h
theorem pe_bmX {o e : Expr} {es : List Expr} {to : TE} {t : TA} {name : Str} {apos cpos : Pos} {T id : String} {r : V → List V → Hp → VK → Prop} (pa : PlainAttrs T) (slot : Slot T name id) (hty : typeOf (.builtin id) = pure (.type "method_descriptor"))
    (hm : MtR X id r) (ho : PE X o to) (ha : PA X (e :: es) t) (ek : X.K = K := by rfl)
    (hbase : attributeBase o name X.env (eval o X.env) = eval o X.env := by rfl)
    (hfew : ((backTo cpos (starEach (e :: es) X.env)).all (fun x => !x.1) && (backToKw cpos (keywordEach [] X.env)).all (fun x => x.1.isSome) && decide ((e :: es).length + ([] : List Keyword).length + (if ([] : List Keyword).isEmpty then 0 else 1) < 30)) = true := by rfl)
    (hline : (apos.endLine == cpos.line) = true := by rfl) (hs : starEach (e :: es) X.env = (false, eval e X.env) :: starEach es X.env := by rfl) (hplain : (backTo cpos (starEach es X.env)).any (·.1) = false := by rfl) :
    PE X (.Call (.Attribute o name apos) (e :: es) [] cpos) (tBM K T r to t) := by
  subst ek
  exact pe_bm pa slot hty hm ho ha hbase hfew hline hs hplain
theorem pe_bm0X {o : Expr} {to : TE} {name : Str} {apos cpos : Pos} {T id : String} {r : V → List V → Hp → VK → Prop} (pa : PlainAttrs T) (slot : Slot T name id) (hty : typeOf (.builtin id) = pure (.type "method_descriptor"))
    (hm : MtR X id r) (ho : PE X o to) (ek : X.K = K := by rfl) (hbase : attributeBase o name X.env (eval o X.env) = eval o X.env := by rfl) (hline : (apos.endLine == cpos.line) = true := by rfl) :
    PE X (.Call (.Attribute o name apos) [] [] cpos) (tBM0 K T r to) := by
  subst ek
  exact pe_bm0 pa slot hty hm ho hbase hline
theorem pg_tupX {es : List Expr} {k : Nat} {t : TGs} {n : Nat} {pos : Pos} (hc : X.calm = true) (h : PGs X es t) (ek : X.K = K := by rfl)
    (hn : (assignEach es X.env).length = n := by rfl) (hst : (assignEach es X.env).findIdx? (·.1) = none := by rfl) : PG X (.Tuple es k pos) (gTup K n t) := by
  subst ek
  exact pg_tup hc h hn hst
theorem pi_enumX {e : Expr} {ta : TA} {p pos tpos : Pos} {elts : List Expr} {kk : Nat} (hg : Gl X "enumerate") (hm : X.mg "enumerate" = none) (ha : PA X [e] ta) (ek : X.K = K := by rfl)
    (hs : starEach [e] X.env = [(false, eval e X.env)] := by rfl) : PI X (.Tuple elts kk tpos) (.Call (.Name "enumerate" p) [e] [] pos) (iEnum K ta) := by
  subst ek
  exact pi_enum hg hm ha hs
theorem pi_zipX {e e2 : Expr} {ta : TA} {p pos tpos : Pos} {elts : List Expr} {kk : Nat} (hg : Gl X "zip") (hm : X.mg "zip" = none) (ha : PA X [e, e2] ta) (ek : X.K = K := by rfl)
    (hs : starEach [e, e2] X.env = (false, eval e X.env) :: starEach [e2] X.env := by rfl) (hpl : (backTo pos (starEach [e2] X.env)).any (·.1) = false := by rfl) :
    PI X (.Tuple elts kk tpos) (.Call (.Name "zip" p) [e, e2] [] pos) (iZip K ta) := by
  subst ek
  exact pi_zip hg hm ha hs hpl
/-- len(set(xs)), xs a list of ints -/
def dist (ns : List Int) : List Int := PyProof.Rows.firstMet (fun i => ns.getD i 0) ns.length
def tLenSetX (K : PySem.W.Frag) (ta : TE) : TE := fun σ H Q => ta σ H fun x H1 => ∃ (l : Addr) (ns : List Int), x = .ref l ∧ SqL K H1 l (ns.map V.int) ∧ ns.length ≤ 4000 ∧ Q (.int ((dist ns).length : Nat)) H1
theorem pe_lenSetX {a : Expr} {ta : TE} {p p2 q pos : Pos} (hg : Gl X "len") (hm : X.mg "len" = none) (hg2 : Gl X "set") (hm2 : X.mg "set" = none) (ha : PE X a ta) (hc : X.calm = true := by rfl) (ek : X.K = K := by rfl)
    (na : starEach [a] X.env = (false, eval a X.env) :: starEach [] X.env := by rfl) : PE X (.Call (.Name "len" p) [.Call (.Name "set" p2) [a] [] q] [] pos) (tLenSetX K ta) := by
  subst ek
  refine ⟨fun pins s σ H Q I h => ?_⟩
  refine Call_ (ld_blt I hg hm boot_len ?_)
  refine PyProof.Rows.callWith_builtin1 (PyProof.Rows.args_cons ?_ rfl) rfl rfl
  refine Call_ (ld_blt I hg2 hm2 boot_set ?_)
  refine PyProof.Rows.callWith_type1 (PyProof.Rows.args_cons (thn (ha.run pins s σ H _ I h) fun v s1 ⟨x, H1, I1, r1, q1⟩ => PyProof.Rows.args_nil ?_) na) na rfl
  obtain ⟨l, ns, rfl, hq, hl, q1⟩ := q1
  cases r1
  obtain ⟨its, r, pl, hz⟩ := I1.list hq
  have hlen : its.toArray.size = ns.length := by rw [List.size_toArray, ← r.length, List.length_map]
  have hb : (dist ns).length ≤ ns.length := firstMet_length_le _ _
  refine call_set_list (I1.ok.hd hc) pl.isList (by simpa using ints_vals r) (by rw [hlen]; unfold scanBound; omega) fun h' tk hS hk => ?_
  refine PyProof.Rows.args_nil ?_
  rw [hlen] at hS
  obtain ⟨o, es, ep, t, ho, hex, hd, _, _, _, hf, hn⟩ := hS
  have hn' : es.size = (dist ns).length := hn
  have I2 : Inv X pins σ H1 { s1 with heap := h', toks := tk } := I1.kept fun b o e => hk b o (Heap.lt_size e) e
  exact call_len_set ho hex hd hf (by rw [hn'] <;> omega) ⟨.int (dist ns).length, H1, I2.tok _, ⟨_, by rw [hn']⟩, q1⟩
theorem callListX (e : X.K = K := by rfl) : CallR X (.type "list") (xList K) := by
  subst e
  exact call_list_of
theorem callTupX (e : X.K = K := by rfl) : CallR X (.type "tuple") (xTup K) := by
  subst e
  exact call_tuple_of
/-- a, b, .. = a tuple or a list of that length -/
def gSeq (K : PySem.W.Frag) (n : Nat) (t : TGs) : TG := fun v σ H Q => gTup K n t v σ H Q ∨ gLst K n t v σ H Q
theorem pg_seqX {es : List Expr} {k : Nat} {t : TGs} {n : Nat} {pos : Pos} (hc : X.calm = true) (h : PGs X es t) (ek : X.K = K := by rfl)
    (hn : (assignEach es X.env).length = n := by rfl) (hst : (assignEach es X.env).findIdx? (·.1) = none := by rfl) : PG X (.Tuple es k pos) (gSeq K n t) := by
  subst ek
  refine ⟨fun pins s σ H v u Q I r hw => ?_⟩
  rcases hw with hw | hw
  · exact (pg_tup hc h hn hst).run pins s σ H v u Q I r hw
  · exact (pg_lst hc h hn hst).run pins s σ H v u Q I r hw
def xStrI : List V → Hp → VK → Prop := fun xs H Q => ∃ i, xs = [.int i] ∧ i.natAbs.log2 < 1920 ∧ Q (.str (toString i)) H
theorem callStrX : CallR X (.type "str") xStrI := call_str_int
theorem pe_revX {e : Expr} {te : TE} {k : Nat} {p1 p2 p3 pos : Pos} (he : PE X e te) (ek : X.K = K := by rfl) : PE X (.Subscript e (.Slice none none (some (.UnaryOp .USub (.Constant (.int 1) k p1) p2)) p3) pos) (tRevL K te) := by
  subst ek
  exact pe_revL he
theorem pa_starX {e : Expr} {es : List Expr} {te : TE} {t : TA} {p : Pos} (he : PE X e te) (hr : PA X es t) (ek : X.K = K := by rfl) (hs : starEach (.Starred e p :: es) X.env = (true, eval e X.env) :: starEach es X.env := by rfl) : PA X (.Starred e p :: es) (StX.tStar K te t) := by
  subst ek
  exact StX.pa_star he hr hs
end
end Mine

/-! ## Readings, step by step -/
namespace Mine
open PySem PySem.Spec PyProof.Rows
open L2 hiding CX XE Takes takes_of passes_call ps_raise ps_try_as ps_try_many ps_try_only pmk_own passAt MkP PMk mk_of Zc HdsOk takes_none5
open L2N hiding St
set_option linter.all false
theorem dec_i {a b : Int} : decide (V.int a = V.int b) = decide (a = b) := by
  rw [Bool.eq_iff_iff]
  simp
theorem dec_s {a b : Str} : decide (V.str a = V.str b) = decide (a = b) := by
  rw [Bool.eq_iff_iff]
  simp
theorem dec_b {a b : Bool} : decide (V.bl a = V.bl b) = (a == b) := by
  cases a <;> cases b <;> rfl
section
variable {σ σ' : St} {H : Hp} {Q : VK} {QB : Bool → Hp → Prop} {QA : List V → Hp → Prop} {QO : Option Int → Hp → Prop} {v x y : V} {i j : Nat} {ta tb tc te : TE} {r r' : R2} {t u : TT} {b : Bool} {K : PySem.W.Frag} {D : Ends} {g : TG} {s s' : TS} {tA tA' : TA} {to tl th : TO}
theorem rd_var (h : σ[i]? = some (some v)) (q : Q v H) : tVar i σ H Q := ⟨v, h, q⟩
theorem rd_c (q : Q v H) : tC v σ H Q := q
theorem rd_op (q : ta σ H fun x H1 => tb σ H1 fun y H2 => r x y H2 Q) : tOp r ta tb σ H Q := q
theorem rd_un {r : V → Hp → VK → Prop} (q : ta σ H fun x H1 => r x H1 Q) : tUn r ta σ H Q := q
theorem rd_test (q : te σ H fun x H' => ∃ k, x = .bl k ∧ QB k H') : tTest te σ H QB := q
theorem rd_tB (q : te σ H fun x H' => ∃ k, x = .bl k ∧ QB k H') : tB te σ H QB := q
theorem rd_bl {QB : Bool → Prop} (q : QB b) : ∃ k, V.bl b = .bl k ∧ QB k := ⟨b, rfl, q⟩
theorem rd_chain (q : ta σ H fun x H1 => tb σ H1 fun y H2 => r x y H2 fun z H3 => ∃ k, z = .bl k ∧ (if k = true then tc σ H3 fun w' H4 => r' y w' H4 Q else Q (.bl false) H3)) : tChain r r' ta tb tc σ H Q := q
theorem rd_ifE (q : t σ H fun c H1 => if c = true then ta σ H1 Q else tb σ H1 Q) : tIf t ta tb σ H Q := q
theorem rd_and (q : t σ H fun c H1 => if c = true then u σ H1 QB else QB false H1) : tAnd t u σ H QB := q
theorem rd_or (q : t σ H fun c H1 => if c = true then QB true H1 else u σ H1 QB) : tOr t u σ H QB := q
theorem rd_not (q : t σ H fun c H1 => QB (!c) H1) : tNot t σ H QB := q
theorem rd_andV (q : ta σ H fun x H1 => ∃ c, x = .bl c ∧ if c = true then tb σ H1 Q else Q (.bl false) H1) : tAndV ta tb σ H Q := q
theorem rd_orV (q : ta σ H fun x H1 => ∃ c, x = .bl c ∧ if c = true then Q (.bl true) H1 else tb σ H1 Q) : tOrV ta tb σ H Q := q
theorem rd_notV (q : ta σ H fun x H1 => ∃ c, x = .bl c ∧ Q (.bl (!c)) H1) : tNotV ta σ H Q := q
theorem rd_nil (q : QA [] H) : tNil σ H QA := q
theorem rd_cons (q : ta σ H fun x H1 => tA σ H1 fun xs H2 => QA (x :: xs) H2) : tCons ta tA σ H QA := q
theorem rd_lst (q : tA σ H fun xs H1 => xs.length ≤ sizeLine ∧ ∀ p, H1 p = none → Q (.ref p) (upd H1 p (.lst xs))) : tLst tA σ H Q := q
theorem rd_tup (q : tA σ H fun xs H1 => xs.length ≤ sizeLine ∧ ∀ p, H1 p = none → Q (.ref p) (upd H1 p (.tup xs))) : tTup tA σ H Q := q
theorem rd_new {A : Prop} {xs : List V} (h : Nat.ble xs.length 100000 = true) (q : A) : xs.length ≤ sizeLine ∧ A := ⟨Nat.le_trans (Nat.le_of_ble_eq_true h) (by decide), q⟩
theorem rd_call {sp : Sp} {ds : List V} {E : XK} (q : tA σ H fun vs H1 => sp (vs ++ ds) H1 Q E) : tCall sp ds E tA σ H Q := q
theorem rd_callK {n m : Nat} {pm : List Nat} {sp : Sp} {E : XK} (q : tA σ H fun vs H1 => tA' σ H1 fun zs H2 => vs.length = n ∧ zs.length = m ∧ sp (gK pm vs zs) H2 Q E) : tCalK n m pm sp E tA tA' σ H Q := q
theorem rd_sp1 {Φ : V → Hp → VK → Prop} {E : XK} {a : V} (q : Φ a H Q) : sp1 Φ ([a] ++ []) H Q E := ⟨a, rfl, q⟩
theorem rd_sp2 {Φ : V → V → Hp → VK → Prop} {E : XK} {a b : V} (q : Φ a b H Q) : sp2 Φ ([a, b] ++ []) H Q E := ⟨a, b, rfl, q⟩
theorem rd_sp3 {Φ : V → V → V → Hp → VK → Prop} {E : XK} {a b c : V} (q : Φ a b c H Q) : sp3 Φ ([a, b, c] ++ []) H Q E := ⟨a, b, c, rfl, q⟩
theorem rd_sp4 {Φ : V → V → V → V → Hp → VK → Prop} {E : XK} {a b c d : V} (q : Φ a b c d H Q) : sp4 Φ ([a, b, c, d] ++ []) H Q E := ⟨a, b, c, d, rfl, q⟩
theorem rd_k {A B C D : Prop} (h : A = True) (h' : B = True) (q : C) : A ∧ B ∧ C := ⟨h ▸ trivial, h' ▸ trivial, q⟩
theorem rd_cb {r : List V → Hp → VK → Prop} (q : tA σ H fun vs H1 => r vs H1 Q) : tCB r tA σ H Q := q
theorem rd_bm0 {T : String} {r : V → List V → Hp → VK → Prop} (q : te σ H fun x H1 => tyV K T x H1 ∧ r x [] H1 Q) : tBM0 K T r te σ H Q := q
theorem rd_bm {T : String} {r : V → List V → Hp → VK → Prop} (q : te σ H fun x H1 => tyV K T x H1 ∧ tA σ H1 fun xs H2 => r x xs H2 Q) : tBM K T r te tA σ H Q := q
theorem rd_m0 {r : V → List V → Hp → VK → Prop} (q : te σ H fun x H1 => (∃ a, x = .str a) ∧ r x [] H1 Q) : tM0 r te σ H Q := q
theorem rd_m1 {r : V → List V → Hp → VK → Prop} (q : te σ H fun x H1 => (∃ a, x = .str a) ∧ ta σ H1 fun y H2 => r x [y] H2 Q) : tM1 r te ta σ H Q := q
theorem rd_tyS {A : Prop} {a : Str} (q : A) : tyV K "str" (.str a) H ∧ A := ⟨rfl, q⟩
theorem rd_isS {A : Prop} {a : Str} (q : A) : (∃ z, V.str a = .str z) ∧ A := ⟨⟨a, rfl⟩, q⟩
theorem rd_tyL {A : Prop} {p : Addr} {xs : List V} (h : SqL K H p xs) (q : A) : tyV K "list" (.ref p) H ∧ A := ⟨.inl ⟨rfl, xs, h⟩, q⟩
theorem rd_sl {r : V → Option Int → Option Int → Hp → VK → Prop} (q : te σ H fun x H1 => tl σ H1 fun l H2 => th σ H2 fun u H3 => r x l u H3 Q) : L2.tSl r te tl th σ H Q := q
theorem rd_noPart (q : QO none H) : tNoPart σ H QO := q
theorem rd_part (q : te σ H fun x H1 => ∃ i, x = .int i ∧ QO (some i) H1) : tPart te σ H QO := q
theorem rd_int {QI : Int → Prop} {n : Int} (q : QI n) : ∃ i, V.int n = .int i ∧ QI i := ⟨n, rfl, q⟩
theorem rd_yes (q : QB true H) : tYes σ H QB := q
/-! statements -/
theorem rd_seq (q : s { D with nx := s' D } σ H) : tSeq s s' D σ H := q
theorem rd_meet (M : St → Hp → Prop) (h : s { D with nx := M } σ H) (k : ∀ σ' H', M σ' H' → s' D σ' H') : tMeet s s' D σ H := ⟨M, h, k⟩
theorem rd_next (q : D.nx σ H) : tNext D σ H := q
theorem rd_brk (q : D.bk σ H) : tBreak D σ H := q
theorem rd_cont (q : D.ct σ H) : tCont D σ H := q
theorem rd_asg (q : te σ H fun x H1 => g x σ H1 D.nx) : tAsg te g D σ H := q
theorem rd_gname {k : St → Hp → Prop} (e : σ.set i (some x) = σ') (q : k σ' H) : gName i x σ H k := by subst e; exact q
theorem rd_gtup {n : Nat} {t : TGs} {a : Addr} {xs : List V} {k : St → Hp → Prop} (h : SqT K H a xs) (e : xs.length = n) (q : t xs σ H k) : gSeq K n t (.ref a) σ H k := .inl ⟨a, xs, rfl, h, e, q⟩
theorem rd_glst {n : Nat} {t : TGs} {a : Addr} {xs : List V} {k : St → Hp → Prop} (h : SqL K H a xs) (e : xs.length = n) (q : t xs σ H k) : gSeq K n t (.ref a) σ H k := .inr ⟨a, xs, rfl, h, e, q⟩
theorem rd_gcons {t : TG} {u : TGs} {vs : List V} {k : St → Hp → Prop} (q : t v σ H fun σ' H' => u vs σ' H' k) : gCons t u (v :: vs) σ H k := ⟨v, vs, rfl, q⟩
theorem rd_gnil {k : St → Hp → Prop} (q : k σ H) : gNil [] σ H k := ⟨rfl, q⟩
theorem rd_gsub {t : TSet} {k : St → Hp → Prop} (q : ta σ H fun o H1 => tb σ H1 fun i H2 => t o i v H2 fun H3 => k σ H3) : gSub ta tb t v σ H k := q
theorem rd_par (q : tA σ H fun vs H1 => ∃ v w, vs = [v, w] ∧ D.nx ((σ.set i (some v)).set j (some w)) H1) : tPar i j tA D σ H := q
theorem rd_par2 {a b : V} (e : (σ.set i (some a)).set j (some b) = σ') (q : D.nx σ' H) : ∃ v w, [a, b] = [v, w] ∧ D.nx ((σ.set i (some v)).set j (some w)) H := ⟨a, b, rfl, by rw [e]; exact q⟩
theorem rd_drop (q : te σ H fun _ H1 => D.nx σ H1) : tDrop te D σ H := q
theorem rd_ret (q : te σ H D.rt) : tRet te D σ H := q
theorem rd_retN (q : D.rt .non H) : tRetN D σ H := q
theorem rd_ifS (q : t σ H fun b H1 => if b = true then s D σ H1 else s' D σ H1) : tIfS t s s' D σ H := q
theorem rd_aug {ti : TIp} (h : σ[i]? = some (some x)) (q : te σ H fun y H1 => ti x y H1 fun z H2 => D.nx (σ.set i (some z)) H2) : tAug i te ti D σ H := ⟨x, h, q⟩
theorem rd_ipI {f : Int → Int → Int} {a b : Int} (q : Q (.int (f a b)) H) : ipI f (.int a) (.int b) H Q := ⟨a, b, rfl, rfl, q⟩
/-! what is asked of values -/
theorem rd_addI {a b : Int} (q : Q (.int (a + b)) H) : xAdd K (.int a) (.int b) H Q := q
theorem rd_addS {a b : Str} (h : a.length + b.length ≤ sizeLine) (q : Q (.str (a ++ b)) H) : xAdd K (.str a) (.str b) H Q := ⟨h, q⟩
theorem rd_subI {a b : Int} (q : Q (.int (a - b)) H) : xSub (.int a) (.int b) H Q := q
theorem rd_mulI {a b : Int} (h : IntMulOk a b) (q : Q (.int (a * b)) H) : xMul K (.int a) (.int b) H Q := ⟨h, q⟩
theorem rd_modI {a b : Int} (h : 0 < b) (q : Q (.int (a % b)) H) : xMod (.int a) (.int b) H Q := ⟨h, q⟩
theorem rd_modL {a b : Int} (h : 0 < b) (q : ∀ z, 0 ≤ z → z < b → Q (.int z) H) : xMod (.int a) (.int b) H Q := ⟨h, q _ (Int.emod_nonneg _ (by omega)) (Int.emod_lt_of_pos _ h)⟩
theorem rd_divI {a b : Int} (h : CDivW a b) (q : Q (.int (a / b)) H) : xDiv (.int a) (.int b) H Q := ⟨h, q⟩
theorem rd_powI {a b : Int} (h : PowOk a b) (q : Q (.int (a ^ b.toNat)) H) : xPow (.int a) (.int b) H Q := ⟨h, q⟩
theorem rd_ltI {a b : Int} (q : Q (.bl (decide (a < b))) H) : xLt (.int a) (.int b) H Q := q
theorem rd_leI {a b : Int} (q : Q (.bl (decide (a ≤ b))) H) : xLe (.int a) (.int b) H Q := q
theorem rd_gtI {a b : Int} (q : Q (.bl (decide (b < a))) H) : xGt (.int a) (.int b) H Q := q
theorem rd_geI {a b : Int} (q : Q (.bl (decide (b ≤ a))) H) : xGe (.int a) (.int b) H Q := q
theorem rd_ltS {a b : Str} (q : Q (.bl (decide (a.cps.toList < b.cps.toList))) H) : xLt (.str a) (.str b) H Q := q
theorem rd_leS {a b : Str} (q : Q (.bl (!decide (b.cps.toList < a.cps.toList))) H) : xLe (.str a) (.str b) H Q := q
theorem rd_gtS {a b : Str} (q : Q (.bl (decide (b.cps.toList < a.cps.toList))) H) : xGt (.str a) (.str b) H Q := q
theorem rd_geS {a b : Str} (q : Q (.bl (!decide (a.cps.toList < b.cps.toList))) H) : xGe (.str a) (.str b) H Q := q
theorem rd_eqI {a b : Int} (q : Q (.bl (decide (a = b))) H) : xEq K (.int a) (.int b) H Q := .inl ⟨rfl, by rw [dec_i]; exact q⟩
theorem rd_eqS {a b : Str} (q : Q (.bl (decide (a = b))) H) : xEq K (.str a) (.str b) H Q := .inl ⟨rfl, by rw [dec_s]; exact q⟩
theorem rd_neI {a b : Int} (q : Q (.bl (!decide (a = b))) H) : xNe K (.int a) (.int b) H Q := .inl ⟨rfl, by rw [dec_i]; exact q⟩
theorem rd_neS {a b : Str} (q : Q (.bl (!decide (a = b))) H) : xNe K (.str a) (.str b) H Q := .inl ⟨rfl, by rw [dec_s]; exact q⟩
theorem rd_eqB {a b : Bool} (q : Q (.bl (a == b)) H) : xEq K (.bl a) (.bl b) H Q := .inl ⟨rfl, by rw [dec_b]; exact q⟩
theorem rd_neB {a b : Bool} (q : Q (.bl (a != b)) H) : xNe K (.bl a) (.bl b) H Q := .inl ⟨rfl, by rw [dec_b]; exact q⟩
theorem rd_inS {a b : Str} (q : Q (.bl (inS a b)) H) : xIn K (.str a) (.str b) H Q := ⟨a, rfl, q⟩
theorem rd_notInS {a b : Str} (q : Q (.bl (!inS a b)) H) : xNotIn K (.str a) (.str b) H Q := ⟨a, rfl, q⟩
theorem rd_inT {p : Addr} {xs : List V} (h : SqT K H p xs) (f : flatV x = true) (f' : xs.all flatV = true) (q : Q (.bl (inV x xs)) H) : xIn K x (.ref p) H Q := .inl ⟨p, xs, rfl, .inr h, f, f', q⟩
theorem rd_inL {p : Addr} {xs : List V} (h : SqL K H p xs) (f : flatV x = true) (f' : xs.all flatV = true) (q : Q (.bl (inV x xs)) H) : xIn K x (.ref p) H Q := .inl ⟨p, xs, rfl, .inl h, f, f', q⟩
theorem rd_notInT {p : Addr} {xs : List V} (h : SqT K H p xs) (f : flatV x = true) (f' : xs.all flatV = true) (q : Q (.bl (!inV x xs)) H) : xNotIn K x (.ref p) H Q := .inl ⟨p, xs, rfl, .inr h, f, f', q⟩
theorem rd_notInL {p : Addr} {xs : List V} (h : SqL K H p xs) (f : flatV x = true) (f' : xs.all flatV = true) (q : Q (.bl (!inV x xs)) H) : xNotIn K x (.ref p) H Q := .inl ⟨p, xs, rfl, .inl h, f, f', q⟩
theorem rd_eqNil {p q : Addr} {xs : List V} (h : SqL K H p xs) (h' : SqL K H q []) (k : Q (.bl xs.isEmpty) H) : xEq K (.ref p) (.ref q) H Q :=
  .inr (.inr ⟨p, q, xs, [], rfl, rfl, h, h', .inr rfl, by cases xs <;> exact k⟩)
theorem rd_neNil {p q : Addr} {xs : List V} (h : SqL K H p xs) (h' : SqL K H q []) (k : Q (.bl (!xs.isEmpty)) H) : xNe K (.ref p) (.ref q) H Q :=
  .inr (.inr ⟨p, q, xs, [], rfl, rfl, h, h', .inr rfl, by cases xs <;> exact k⟩)
theorem rd_eqD {d e : PyData} (hd : Dp K H x d) (he : Dp K H y e) (sd : SeqAt.shaped d = true) (se : SeqAt.shaped e = true) (q : Q (.bl (PyData.eqv d e)) H) : xEq K x y H Q := .inr (.inl ⟨d, e, hd, he, sd, se, q⟩)
theorem rd_neD {d e : PyData} (hd : Dp K H x d) (he : Dp K H y e) (sd : SeqAt.shaped d = true) (se : SeqAt.shaped e = true) (q : Q (.bl (!PyData.eqv d e)) H) : xNe K x y H Q := .inr (.inl ⟨d, e, hd, he, sd, se, q⟩)
theorem rd_is (q : Q (.bl (decide (x = .non))) H) : xIs x .non H Q := .inl ⟨rfl, q⟩
theorem rd_isNot (q : Q (.bl (!decide (x = .non))) H) : xIsNot x .non H Q := .inl ⟨rfl, q⟩
theorem rd_isB {a b : Bool} (q : Q (.bl (decide (a = b))) H) : xIs (.bl a) (.bl b) H Q := .inr ⟨a, b, rfl, rfl, q⟩
theorem rd_notB {a b : Bool} (q : Q (.bl (!decide (a = b))) H) : xIsNot (.bl a) (.bl b) H Q := .inr ⟨a, b, rfl, rfl, q⟩
theorem rd_revL {te : TE} (q : te σ H fun x H1 => ∃ a xs, x = .ref a ∧ SqL K H1 a xs ∧ ∀ p, H1 p = none → Q (.ref p) (upd H1 p (.lst xs.reverse))) : tRevL K te σ H Q := q
theorem rd_rev2 {p : Addr} {xs : List V} (h : SqL K H p xs) (q : ∀ l, H l = none → Q (.ref l) (upd H l (.lst xs.reverse))) : ∃ a xs, V.ref p = .ref a ∧ SqL K H a xs ∧ ∀ p, H p = none → Q (.ref p) (upd H p (.lst xs.reverse)) := ⟨p, xs, rfl, h, q⟩
theorem rd_star {te : TE} (q : te σ H fun y H1 => ∃ a xs, y = .ref a ∧ (SqT K H1 a xs ∨ SqL K H1 a xs) ∧ tA σ H1 fun vs H2 => QA (xs ++ vs) H2) : StX.tStar K te tA σ H QA := q
theorem rd_starL {p : Addr} {xs : List V} {N : List V → Prop} (h : SqL K H p xs) (q : N xs) : ∃ a ys, V.ref p = .ref a ∧ (SqT K H a ys ∨ SqL K H a ys) ∧ N ys := ⟨p, xs, rfl, .inr h, q⟩
theorem rd_starT {p : Addr} {xs : List V} {N : List V → Prop} (h : SqT K H p xs) (q : N xs) : ∃ a ys, V.ref p = .ref a ∧ (SqT K H a ys ∨ SqL K H a ys) ∧ N ys := ⟨p, xs, rfl, .inl h, q⟩
theorem rd_ixL {p : Addr} {xs : List V} {n : Int} (h : SqL K H p xs) (e : atI xs n = some v) (q : Q v H) : xIx K (.ref p) (.int n) H Q := ⟨xs, v, .inl h, e, q⟩
theorem rd_ixT {p : Addr} {xs : List V} {n : Int} (h : SqT K H p xs) (e : atI xs n = some v) (q : Q v H) : xIx K (.ref p) (.int n) H Q := ⟨xs, v, .inr h, e, q⟩
theorem rd_ixLU {p : Addr} {xs : List V} {n : Int} (e : atI xs n = some v) (q : Q v (upd H p (.lst xs))) : xIx K (.ref p) (.int n) (upd H p (.lst xs)) Q := rd_ixL (SqL.of upd_same) e q
theorem rd_ixTU {p : Addr} {xs : List V} {n : Int} (e : atI xs n = some v) (q : Q v (upd H p (.tup xs))) : xIx K (.ref p) (.int n) (upd H p (.tup xs)) Q := rd_ixT (SqT.of upd_same) e q
theorem rd_ixS {z : Str} {n : Int} {c : Nat} (h : z.length ≤ sizeLine) (e : atI z.cps.toList n = some c) (q : Q (.str ⟨#[c]⟩) H) : xIx K (.str z) (.int n) H Q := ⟨c, h, e, q⟩
theorem rd_slS {z : Str} {lo hi : Option Int} (h : z.length ≤ sizeLine) (q : Q (.str (cutS z lo hi)) H) : xSl K (.str z) lo hi H Q := ⟨h, q⟩
theorem rd_slL {p : Addr} {xs : List V} {lo hi : Option Int} (h : SqL K H p xs) (q : ∀ l, H l = none → Q (.ref l) (upd H l (.lst (cutV xs lo hi)))) : xSl K (.ref p) lo hi H Q := .inl ⟨p, xs, rfl, h, q⟩
theorem rd_lenS {z : Str} (h : z.length ≤ sizeLine) (q : Q (.int (z.length : Nat)) H) : xLen K [.str z] H Q := .inl ⟨_, _, rfl, ⟨h, rfl⟩, q⟩
theorem rd_lenL {p : Addr} {xs : List V} (h : SqL K H p xs) (q : Q (.int (xs.length : Nat)) H) : xLen K [.ref p] H Q := .inl ⟨_, _, rfl, .inl ⟨xs, h, rfl⟩, q⟩
theorem rd_lenT {p : Addr} {xs : List V} (h : SqT K H p xs) (q : Q (.int (xs.length : Nat)) H) : xLen K [.ref p] H Q := .inl ⟨_, _, rfl, .inr ⟨xs, h, rfl⟩, q⟩
theorem rd_intI {n : Int} (q : Q (.int n) H) : xInt [.int n] H Q := q
theorem rd_intB (q : Q (.int (if b then 1 else 0)) H) : xInt [.bl b] H Q := q
theorem rd_abs {n : Int} (q : Q (.int (if n < 0 then -n else n)) H) : ∃ i, [V.int n] = [.int i] ∧ Q (.int (if i < 0 then -i else i)) H := ⟨n, rfl, q⟩
theorem rd_max {n m : Int} (q : Q (.int (max n m)) H) : xMax [.int n, .int m] H Q := q
theorem rd_min {n m : Int} (q : Q (.int (min n m)) H) : xMin [.int n, .int m] H Q := q
theorem rd_repr {d : PyData} (h : Dp K H x d) (h' : Shows d) (q : Q (.str d.shown) H) : xRepr K [x] H Q := ⟨x, d, rfl, h, h', q⟩
theorem rd_isi {T : String} {t : Value} (ty : TyX K H x t) (e : PySem.W.kitOne K t (.type T) = some b) (q : Q (.bl b) H) : rIsi K [x, .ty T] H Q := ⟨x, .ty T, t, .type T, b, rfl, .ty T, ty, e, q⟩
theorem rd_isiS {z : Str} (q : Q (.bl true) H) : rIsi K [.str z, .ty "str"] H Q := rd_isi (b := true) (.base (.str z)) (kit_ty (by decide +kernel)) q
theorem rd_isiSN (q : Q (.bl false) H) : rIsi K [.non, .ty "str"] H Q := rd_isi (b := false) (.base .non) (kit_ty (by decide +kernel)) q
theorem rd_isiSI {n : Int} (q : Q (.bl false) H) : rIsi K [.int n, .ty "str"] H Q := rd_isi (b := false) (.base (.int n)) (kit_ty (by decide +kernel)) q
theorem rd_isiSB {c : Bool} (q : Q (.bl false) H) : rIsi K [.bl c, .ty "str"] H Q := rd_isi (b := false) (.base (.bl c)) (kit_ty (by decide +kernel)) q
theorem rd_isiI {n : Int} (q : Q (.bl true) H) : rIsi K [.int n, .ty "int"] H Q := rd_isi (b := true) (.base (.int n)) (kit_ty (by decide +kernel)) q
theorem rd_isiIB {c : Bool} (q : Q (.bl true) H) : rIsi K [.bl c, .ty "int"] H Q := rd_isi (b := true) (.base (.bl c)) (kit_ty (by decide +kernel)) q
theorem rd_isiIN (q : Q (.bl false) H) : rIsi K [.non, .ty "int"] H Q := rd_isi (b := false) (.base .non) (kit_ty (by decide +kernel)) q
theorem rd_isiIS {z : Str} (q : Q (.bl false) H) : rIsi K [.str z, .ty "int"] H Q := rd_isi (b := false) (.base (.str z)) (kit_ty (by decide +kernel)) q
theorem rd_isiB {c : Bool} (q : Q (.bl true) H) : rIsi K [.bl c, .ty "bool"] H Q := rd_isi (b := true) (.base (.bl c)) (kit_ty (by decide +kernel)) q
theorem rd_isiBI {n : Int} (q : Q (.bl false) H) : rIsi K [.int n, .ty "bool"] H Q := rd_isi (b := false) (.base (.int n)) (kit_ty (by decide +kernel)) q
theorem rd_rep {p : Addr} {xs : List V} {n : Int} (h : H p = some (.lst xs)) (h0 : 0 ≤ n) (h1 : n < 1000000) (hz : xs.length * n.toNat ≤ sizeLine) (q : ∀ l, H l = none → Q (.ref l) (upd H l (.lst (List.replicate n.toNat xs).flatten))) : xMul K (.ref p) (.int n) H Q :=
  .inl ⟨p, n, xs, rfl, rfl, h, by omega, by omega, hz, q⟩
theorem rd_repT {p : Addr} {xs : List V} {n : Int} (h : SqT K H p xs) (hn : xs ≠ []) (h0 : 2 ≤ n) (h1 : n ≤ 1000) (hz : xs.length ≤ 1000) (q : ∀ l, H l = none → Q (.ref l) (upd H l (.tup (List.replicate n.toNat xs).flatten))) : xMul K (.ref p) (.int n) H Q :=
  .inr ⟨p, n, xs, rfl, rfl, h, hn, h0, h1, hz, q⟩
theorem rd_inD {p : Addr} {d : PyData} {ds : List PyData} (hd : Dp K H x d) (he : Dp K H (.ref p) (.list ds)) (sd : SeqAt.shaped d = true) (se : SeqAt.shaped (.list ds) = true) (q : Q (.bl (ds.any fun z => PyData.eqv z d)) H) : xIn K x (.ref p) H Q := .inr ⟨d, ds, hd, he, sd, se, q⟩
theorem rd_notInD {p : Addr} {d : PyData} {ds : List PyData} (hd : Dp K H x d) (he : Dp K H (.ref p) (.list ds)) (sd : SeqAt.shaped d = true) (se : SeqAt.shaped (.list ds) = true) (q : Q (.bl (!ds.any fun z => PyData.eqv z d)) H) : xNotIn K x (.ref p) H Q := .inr ⟨d, ds, hd, he, sd, se, q⟩
theorem rd_lenD {p : Addr} {kvs : List (Key × V)} (h : H p = some (.dK kvs)) (q : Q (.int kvs.length) H) : xLen K [.ref p] H Q := .inr ⟨p, kvs, rfl, h, q⟩
theorem rd_catT {p l : Addr} {xs ys : List V} (h : SqT K H p xs) (h' : SqT K H l ys) (hx : xs ≠ []) (hy : ys ≠ []) (hz : xs.length + ys.length ≤ sizeLine) (q : ∀ r, H r = none → Q (.ref r) (upd H r (.tup (xs ++ ys)))) : xAdd K (.ref p) (.ref l) H Q := .inr ⟨p, l, xs, ys, rfl, rfl, h, h', hz, fun e => absurd e hx, fun _ e => absurd e hy, fun _ _ => q⟩
theorem rd_slT {p : Addr} {xs : List V} {lo hi : Option Int} (h : SqT K H p xs) (n : ¬ (HT.sIx xs.length 0 lo = 0 ∧ HT.sIx xs.length xs.length hi = xs.length)) (q : ∀ l, H l = none → Q (.ref l) (upd H l (.tup (cutV xs lo hi)))) : xSl K (.ref p) lo hi H Q := .inr ⟨p, xs, rfl, h, fun c => absurd c n, fun _ => q⟩
theorem rd_slTA {p : Addr} {xs : List V} {lo hi : Option Int} (h : H p = some (.tup xs)) (q : ∀ r H', (∀ a o, H a = some o → H' a = some o) → H' r = some (.tup (cutV xs lo hi)) → (r = p ∧ H' = H) ∨ (H r = none ∧ H' = upd H r (.tup (cutV xs lo hi))) → Q (.ref r) H') : xSl K (.ref p) lo hi H Q := by
  refine .inr ⟨p, xs, rfl, SqT.of h, fun c => ?_, fun _ r hr => ?_⟩
  · refine q p H (fun _ _ e => e) ?_ (.inl ⟨rfl, rfl⟩)
    rw [h]
    unfold cutV
    rw [c.1, c.2, List.drop_zero, Nat.sub_zero, List.take_length]
  · refine q r _ (fun a o e => ?_) upd_same (.inr ⟨hr, rfl⟩)
    rw [upd_ne (ne_of_none e hr)]
    exact e
theorem rd_catTA {p l : Addr} {xs ys : List V} (h : H p = some (.tup xs)) (h' : H l = some (.tup ys)) (hz : xs.length + ys.length ≤ sizeLine) (q : ∀ r H', (∀ a o, H a = some o → H' a = some o) → H' r = some (.tup (xs ++ ys)) → ((r = p ∨ r = l) ∧ H' = H) ∨ (H r = none ∧ H' = upd H r (.tup (xs ++ ys))) → Q (.ref r) H') : xAdd K (.ref p) (.ref l) H Q := by
  refine .inr ⟨p, l, xs, ys, rfl, rfl, SqT.of h, SqT.of h', hz, fun e => ?_, fun _ e => ?_, fun _ _ r hr => q r _ (fun a o e => by rw [upd_ne (ne_of_none e hr)]; exact e) upd_same (.inr ⟨hr, rfl⟩)⟩
  · exact q l H (fun _ _ e => e) (by rw [h', e, List.nil_append]) (.inl ⟨.inr rfl, rfl⟩)
  · exact q p H (fun _ _ e => e) (by rw [h, e, List.append_nil]) (.inl ⟨.inl rfl, rfl⟩)
theorem rd_lenSet {ta : TE} (q : ta σ H fun x H1 => ∃ (l : Addr) (ns : List Int), x = .ref l ∧ SqL K H1 l (ns.map V.int) ∧ ns.length ≤ 4000 ∧ Q (.int ((dist ns).length : Nat)) H1) : tLenSetX K ta σ H Q := q
theorem rd_isiT {p : Addr} {xs : List V} (h : H p = some (.tup xs)) (q : Q (.bl true) H) : rIsi K [.ref p, .ty "tuple"] H Q := rd_isi (b := true) (.base (.tup h)) (kit_ty (by decide +kernel)) q
theorem rd_isiL {p : Addr} {xs : List V} (h : H p = some (.lst xs)) (q : Q (.bl true) H) : rIsi K [.ref p, .ty "list"] H Q := rd_isi (b := true) (.base (.lst h)) (kit_ty (by decide +kernel)) q
theorem rd_mulS {z : Str} {n : Int} (hz : z.length ≤ 16) (hn : n ≤ 1048576) (h0 : 0 ≤ n) (q : Q (.str (Txt.mul z n)) H) : xMul K (.str z) (.int n) H Q := ⟨mulOk_of 16 1048576 hz hn (by omega) (by decide) (by decide), q⟩
theorem rd_catS {p l : Addr} {xs ys : List V} (h : SqL K H p xs) (h' : SqL K H l ys) (hz : xs.length + ys.length ≤ sizeLine) (q : ∀ r, H r = none → Q (.ref r) (upd H r (.lst (xs ++ ys)))) : xAdd K (.ref p) (.ref l) H Q :=
  .inl ⟨p, l, xs, ys, rfl, rfl, h, h', hz, q⟩
theorem rd_cat {p l : Addr} {xs ys : List V} (h : H p = some (.lst xs)) (h' : H l = some (.lst ys)) (hz : xs.length + ys.length ≤ sizeLine) (q : ∀ r, H r = none → Q (.ref r) (upd H r (.lst (xs ++ ys)))) : xAdd K (.ref p) (.ref l) H Q :=
  rd_catS (.of h) (.of h') hz q
theorem rd_wipe {s1 s2 : St} {ws : List Nat} {A : Prop} (h : wipe s1 ws = wipe s2 ws) (q : A) : wipe s1 ws = wipe s2 ws ∧ A := ⟨h, q⟩
theorem rd_split {a b : Str} (h : (b.length == 0) = false) (hz : a.length ≤ 1000000) (q : ∀ p, H p = none → Q (.ref p) (upd H p (.lst ((Txt.split a b).map V.str)))) :
    ∃ a' b', V.str a = .str a' ∧ [V.str b] = [.str b'] ∧ (b'.length == 0) = false ∧ a'.length + 2 ≤ sizeLine ∧ rNewStrs (Txt.split a' b') H Q := ⟨a, b, rfl, rfl, h, Nat.le_trans (Nat.add_le_add_right hz 2) (by decide), q⟩
theorem rd_app {p : Addr} {xs : List V} (h : H p = some (.lst xs)) (l : xs.length < sizeLine) (q : Q .non (upd H p (.lst (xs ++ [x])))) : rAppend (.ref p) [x] H Q := ⟨p, xs, x, rfl, rfl, h, l, q⟩
theorem rd_all {p : Addr} {bs : List Bool} (h : SqL K H p (bs.map V.bl)) (q : Q (.bl (bs.all id)) H) : rAll K [.ref p] H Q := ⟨p, bs, rfl, h, q⟩
theorem rd_any {p : Addr} {bs : List Bool} (h : SqL K H p (bs.map V.bl)) (q : Q (.bl (bs.any id)) H) : rAny K [.ref p] H Q := ⟨p, bs, rfl, h, q⟩
theorem rd_setL {p : Addr} {xs : List V} {n : Int} {j : Nat} {QH : Hp → Prop} (h : H p = some (.lst xs)) (e : ixN xs.length n = some j) (q : QH (upd H p (.lst (xs.set j v)))) : rSetL (.ref p) (.int n) v H QH := ⟨p, xs, n, j, rfl, rfl, h, e, q⟩
theorem rd_setLU {p : Addr} {xs : List V} {n : Int} {j : Nat} {QH : Hp → Prop} (e : ixN xs.length n = some j) (q : QH (upd (upd H p (.lst xs)) p (.lst (xs.set j v)))) : rSetL (.ref p) (.int n) v (upd H p (.lst xs)) QH := rd_setL upd_same e q
theorem rd_ite {A B : Prop} (h1 : b = true → A) (h2 : b = false → B) : if b = true then A else B := by
  cases b with
  | true => exact h1 rfl
  | false => exact h2 rfl
theorem rd_yT {A B : Prop} (h : A) : if true = true then A else B := by rw [if_pos rfl]; exact h
theorem rd_yF {A B : Prop} (h : A) : if (!false) = true then A else B := by rw [if_pos (show (!false) = true from rfl)]; exact h
theorem rd_nF {A B : Prop} (h : B) : if false = true then A else B := by rw [if_neg Bool.false_ne_true]; exact h
theorem rd_nT {A B : Prop} (h : B) : if (!true) = true then A else B := by rw [if_neg (by decide)]; exact h
theorem rd_yesI {A B : Prop} (e : b = true) (h : A) : if b = true then A else B := by rw [if_pos e]; exact h
theorem rd_noI {A B : Prop} (e : b = false) (h : B) : if b = true then A else B := by rw [if_neg (by rw [e]; decide)]; exact h
theorem rd_dput {td ty tv : TE} (q : tv σ H fun v H1 => td σ H1 fun x H2 => ty σ H2 fun y H3 => ∃ a H4, x = .ref a ∧ DPut H3 a y v H4 ∧ D.nx σ H4) : sDPut td ty tv D σ H := q
theorem rd_putI {p : Addr} {kvs : List (Key × V)} {n : Int} {N : Hp → Prop} (h : H p = some (.dK kvs)) (l : kvs.length < sizeLine) (q : N (upd H p (.dK (putK kvs (Sum.inl n) v)))) : ∃ a H4, V.ref p = .ref a ∧ DPut H a (.int n) v H4 ∧ N H4 :=
  ⟨p, _, rfl, DPut.k (k := Sum.inl n) h l, q⟩
theorem rd_putS {p : Addr} {kvs : List (Key × V)} {n : Str} {N : Hp → Prop} (h : H p = some (.dK kvs)) (l : kvs.length < sizeLine) (q : N (upd H p (.dK (putK kvs (Sum.inr n) v)))) : ∃ a H4, V.ref p = .ref a ∧ DPut H a (.str n) v H4 ∧ N H4 :=
  ⟨p, _, rfl, DPut.k (k := Sum.inr n) h l, q⟩
theorem rd_dnew (q : ∀ p, H p = none → Q (.ref p) (upd H p (.dK []))) : tDNewK σ H Q := q
theorem rd_sortDI {p : Addr} {kvs : List (Key × V)} {ks : List Int} (h : H p = some (.dK kvs)) (e : kvs.map (·.1) = ks.map Sum.inl) (l : ks.length < 64) (q : ∀ (ys : List Int) (r : Addr), ys.Perm ks → ys.Pairwise (· ≤ ·) → H r = none → Q (.ref r) (upd H r (.lst (ys.map V.int)))) :
    xSortDI [V.ref p] H Q := ⟨p, kvs, ks, rfl, .of h, e, l, q⟩
theorem rd_tupL {p : Addr} {ys : List V} (h : SqL K H p ys) (q : ∀ l, H l = none → Q (.ref l) (upd H l (.tup ys))) : xTup K [V.ref p] H Q := ⟨p, ys, rfl, .inl ⟨h, q⟩⟩
theorem rd_tupT {p : Addr} {ys : List V} (h : SqT K H p ys) (q : Q (.ref p) H) : xTup K [V.ref p] H Q := ⟨p, ys, rfl, .inr ⟨h, q⟩⟩
theorem rd_lstL {p : Addr} {ys : List V} (h : SqL K H p ys) (q : ∀ l, H l = none → Q (.ref l) (upd H l (.lst ys))) : xList K [V.ref p] H Q := ⟨p, ys, rfl, .inl h, q⟩
theorem rd_lstT {p : Addr} {ys : List V} (h : SqT K H p ys) (q : ∀ l, H l = none → Q (.ref l) (upd H l (.lst ys))) : xList K [V.ref p] H Q := ⟨p, ys, rfl, .inr h, q⟩
/-! loops -/
variable {a : Addr} {xs ys : List V} {z : Str} {tt : TT} {vs : List Nat}
/-- a turn of a while -/
def WhT (m : Nat) (W : Nat → St → Hp → Prop) (s : TS) (D : Ends) (σ : St) (H : Hp) : Prop := ∃ N : St → Hp → Prop, (∀ σ' H', N σ' H' → ∃ m', m' < m ∧ W m' σ' H') ∧ s { D with nx := N, ct := N, bk := D.nx } σ H
/-- while, by a word W over a number that falls -/
theorem rd_while {tc : TT} (W : Nat → St → Hp → Prop) (m0 : Nat) (h0 : W m0 σ H)
    (hs : ∀ m σ H, W m σ H → tc σ H fun b H1 => if b = true then WhT m W s D σ H1 else D.nx σ H1) : tWhile tc s D σ H := ⟨W, ⟨m0, h0⟩, hs⟩
theorem rd_turn {m : Nat} {W : Nat → St → Hp → Prop} (q : s { D with nx := fun σ' H' => ∃ m', m' < m ∧ W m' σ' H', ct := fun σ' H' => ∃ m', m' < m ∧ W m' σ' H', bk := D.nx } σ H) : WhT m W s D σ H := ⟨_, fun _ _ h => h, q⟩
/-- what stands behind the walked thing in a for's reading -/
def ForW (J : It) (g : TG) (tb : TS) (D : Ends) (σ : St) (H : Hp) : Prop := ∃ W : Nat → Nat → St → Hp → Prop, (∃ m, W 0 m σ H) ∧ ∀ i m σ H, W i m σ H →
  (J.stop i H ∧ D.nx σ H) ∨ (J.go i H ∧ ∃ N : St → Hp → Prop, (∀ σ' H', N σ' H' → ∃ m', m' < m ∧ W (i + 1) m' σ' H') ∧ ∀ x H', J.yld i H x H' → g x σ H' fun σ2 H2 => tb { D with nx := N, ct := N, bk := D.nx } σ2 H2)
theorem rd_forL (q : te σ H fun x H1 => ∃ a, x = .ref a ∧ (∃ xs, SqL K H1 a xs) ∧ ForW (Itl K a) g s D σ H1) : tFor (iAny K te) g s D σ H := .inl q
theorem rd_forT (q : te σ H fun x H1 => ∃ a, x = .ref a ∧ (∃ xs, SqT K H1 a xs) ∧ ForW (Itt K a) g s D σ H1) : tFor (iAny K te) g s D σ H := .inr (.inl q)
theorem rd_forS (q : te σ H fun v H1 => ∃ x, v = .str x ∧ ForW (Its x) g s D σ H1) : tFor (iAny K te) g s D σ H := .inr (.inr q)
theorem rd_forR (q : tA σ H fun vs H1 => ∃ j : Int, vs = [.int j] ∧ -(2 ^ 62) ≤ j ∧ j < 2 ^ 62 ∧ ForW (Itr 0 j.toNat) g s D σ H1) : tFor (iRng1 tA) g s D σ H := q
theorem rd_forR2 (q : tA σ H fun vs H1 => ∃ i j : Int, vs = [.int i, .int j] ∧ (-(2 ^ 62) ≤ i ∧ i < 2 ^ 62 ∧ -(2 ^ 62) ≤ j ∧ j < 2 ^ 62) ∧ ForW (Itr i (j - i).toNat) g s D σ H1) : tFor (iRng2 tA) g s D σ H := q
theorem rd_itL (h : SqL K H a xs) (Pv : Nat → St → Hp → Prop) (h0 : Pv 0 σ H) (hl : ∀ i σ H, i ≤ xs.length → Pv i σ H → SqL K H a xs)
    (hs : ∀ i x σ H, xs[i]? = some x → Pv i σ H → g x σ H fun σ2 H2 => s { D with nx := Pv (i + 1), ct := Pv (i + 1), bk := D.nx } σ2 H2) (hd : ∀ σ H, Pv xs.length σ H → D.nx σ H) :
    ∃ b, V.ref a = .ref b ∧ (∃ xs, SqL K H b xs) ∧ ForW (Itl K b) g s D σ H := ⟨a, rfl, ⟨xs, h⟩, for_list Pv h0 hl hs hd⟩
theorem rd_itT (h : SqT K H a xs) (Pv : Nat → St → Hp → Prop) (h0 : Pv 0 σ H) (hl : ∀ i σ H, i ≤ xs.length → Pv i σ H → SqT K H a xs)
    (hs : ∀ i x σ H, xs[i]? = some x → Pv i σ H → g x σ H fun σ2 H2 => s { D with nx := Pv (i + 1), ct := Pv (i + 1), bk := D.nx } σ2 H2) (hd : ∀ σ H, Pv xs.length σ H → D.nx σ H) :
    ∃ b, V.ref a = .ref b ∧ (∃ xs, SqT K H b xs) ∧ ForW (Itt K b) g s D σ H := ⟨a, rfl, ⟨xs, h⟩, for_tup Pv h0 hl hs hd⟩
theorem rd_itS (Pv : Nat → St → Hp → Prop) (h0 : Pv 0 σ H)
    (hs : ∀ i c σ H, z.cps[i]? = some c → Pv i σ H → g (.str ⟨#[c]⟩) σ H fun σ2 H2 => s { D with nx := Pv (i + 1), ct := Pv (i + 1), bk := D.nx } σ2 H2) (hd : ∀ σ H, Pv z.cps.size σ H → D.nx σ H) :
    ∃ x, V.str z = .str x ∧ ForW (Its x) g s D σ H := by
  refine ⟨z, rfl, for_it walk_str Pv h0 (fun _ _ _ _ _ => trivial) ?_ hd⟩
  rintro i x σ1 H1 H2 hi hP ⟨rfl, c, hc, rfl⟩
  exact hs i c σ1 H2 hc hP
theorem rd_itR {n : Int} (b0 : -(2 ^ 62) ≤ n) (b1 : n < 2 ^ 62) (Pv : Nat → St → Hp → Prop) (h0 : Pv 0 σ H)
    (hs : ∀ (i : Nat) σ H, (i : Int) < n → Pv i σ H → g (.int (i : Int)) σ H fun σ2 H2 => s { D with nx := Pv (i + 1), ct := Pv (i + 1), bk := D.nx } σ2 H2) (hd : ∀ σ H, Pv n.toNat σ H → D.nx σ H) :
    ∃ j : Int, [V.int n] = [.int j] ∧ -(2 ^ 62) ≤ j ∧ j < 2 ^ 62 ∧ ForW (Itr 0 j.toNat) g s D σ H := by
  refine ⟨n, rfl, b0, b1, for_range Pv h0 ?_ hd⟩
  intro i σ1 H1 hi hP
  rw [Int.zero_add]
  exact hs i σ1 H1 (by omega) hP
theorem rd_itR2 {m n : Int} (b : -(2 ^ 62) ≤ m ∧ m < 2 ^ 62 ∧ -(2 ^ 62) ≤ n ∧ n < 2 ^ 62) (Pv : Nat → St → Hp → Prop) (h0 : Pv 0 σ H)
    (hs : ∀ (i : Nat) σ H, m + (i : Int) < n → Pv i σ H → g (.int (m + (i : Int))) σ H fun σ2 H2 => s { D with nx := Pv (i + 1), ct := Pv (i + 1), bk := D.nx } σ2 H2) (hd : ∀ σ H, Pv (n - m).toNat σ H → D.nx σ H) :
    ∃ i j : Int, [V.int m, V.int n] = [.int i, .int j] ∧ (-(2 ^ 62) ≤ i ∧ i < 2 ^ 62 ∧ -(2 ^ 62) ≤ j ∧ j < 2 ^ 62) ∧ ForW (Itr i (j - i).toNat) g s D σ H :=
  ⟨m, n, rfl, b, for_range Pv h0 (fun i σ1 H1 hi hP => hs i σ1 H1 (by omega) hP) hd⟩
theorem rd_forE (q : tA σ H fun vs H1 => ∃ a xs, vs = [.ref a] ∧ SqL K H1 a xs ∧ ForW (Ite K a) g s D σ H1) : tFor (iEnum K tA) g s D σ H := q
theorem rd_forZ (q : tA σ H fun vs H1 => ∃ a b xs ys, vs = [.ref a, .ref b] ∧ SqL K H1 a xs ∧ SqL K H1 b ys ∧ ForW (Itz K a b) g s D σ H1) : tFor (iZip K tA) g s D σ H := q
theorem rd_itE (h : SqL K H a xs) (Pv : Nat → St → Hp → Prop) (h0 : Pv 0 σ H) (hl : ∀ i σ H, i ≤ xs.length → Pv i σ H → SqL K H a xs)
    (hs : ∀ i x T σ H, xs[i]? = some x → Pv i σ H → H T = none → g (.ref T) σ (upd H T (.tup [.int (i : Int), x])) fun σ2 H2 => s { D with nx := Pv (i + 1), ct := Pv (i + 1), bk := D.nx } σ2 H2) (hd : ∀ σ H, Pv xs.length σ H → D.nx σ H) :
    ∃ b ys, [V.ref a] = [.ref b] ∧ SqL K H b ys ∧ ForW (Ite K b) g s D σ H := by
  refine ⟨a, xs, rfl, h, for_it walk_enum Pv h0 hl ?_ hd⟩
  rintro i x σ1 H1 H2 hi hP ⟨T, u, y, rfl, hT, rfl, hu, hy⟩
  cases hu
  exact hs i y T σ1 H1 hy hP hT
theorem rd_itZ {b : Addr} (h : SqL K H a xs) (h' : SqL K H b ys) {n : Nat} (hn : n = min xs.length ys.length) (Pv : Nat → St → Hp → Prop) (h0 : Pv 0 σ H) (hl : ∀ i σ H, i ≤ n → Pv i σ H → SqL K H a xs ∧ SqL K H b ys)
    (hs : ∀ i x y T σ H, xs[i]? = some x → ys[i]? = some y → Pv i σ H → H T = none → g (.ref T) σ (upd H T (.tup [x, y])) fun σ2 H2 => s { D with nx := Pv (i + 1), ct := Pv (i + 1), bk := D.nx } σ2 H2) (hd : ∀ σ H, Pv n σ H → D.nx σ H) :
    ∃ c d us vs, [V.ref a, V.ref b] = [.ref c, .ref d] ∧ SqL K H c us ∧ SqL K H d vs ∧ ForW (Itz K c d) g s D σ H := by
  refine ⟨a, b, xs, ys, rfl, h, h', for_it (walk_zip hn) Pv h0 hl ?_ hd⟩
  rintro i x σ1 H1 H2 hi hP ⟨T, u, y, rfl, hT, rfl, hu, hy⟩
  exact hs i u y T σ1 H1 hu hy hP hT
/-- what stands behind the walked thing in a comprehension's reading -/
def LcW (J : It) (g : TG) (tt : TT) (te : TE) (vs : List Nat) (σ : St) (H1 : Hp) (Q : VK) : Prop := ∀ D, H1 D = none → ∃ W : Nat → Nat → Hp → Prop, (∃ m, W 0 m (upd H1 D (.lst []))) ∧ ∀ i m H, W i m H →
  (J.stop i H ∧ Q (.ref D) H) ∨ (J.go i H ∧ ∃ Nx : Hp → Prop, (∀ H', Nx H' → ∃ m', m' < m ∧ W (i + 1) m' H') ∧ ∀ x H', J.yld i H x H' → g x (wipe σ vs) H' fun σ2 H2 => wipe σ2 vs = wipe σ vs ∧ tt σ2 H2 fun b H3 =>
    if b = true then te σ2 H3 fun y H4 => ∃ acc, H4 D = some (.lst acc) ∧ acc.length < sizeLine ∧ Nx (upd H4 D (.lst (acc ++ [y]))) else Nx H3)
theorem rd_lcL (q : ta σ H fun x H1 => ∃ a, x = .ref a ∧ (∃ xs, SqL K H1 a xs) ∧ LcW (Itl K a) g tt te vs σ H1 Q) : tLc (iAny K ta) g tt te vs σ H Q := .inl q
theorem rd_lcT (q : ta σ H fun x H1 => ∃ a, x = .ref a ∧ (∃ xs, SqT K H1 a xs) ∧ LcW (Itt K a) g tt te vs σ H1 Q) : tLc (iAny K ta) g tt te vs σ H Q := .inr (.inl q)
theorem rd_lcS (q : ta σ H fun x H1 => ∃ z, x = .str z ∧ LcW (Its z) g tt te vs σ H1 Q) : tLc (iAny K ta) g tt te vs σ H Q := .inr (.inr q)
theorem rd_lcR (q : tA σ H fun ws H1 => ∃ j : Int, ws = [.int j] ∧ -(2 ^ 62) ≤ j ∧ j < 2 ^ 62 ∧ LcW (Itr 0 j.toNat) g tt te vs σ H1 Q) : tLc (iRng1 tA) g tt te vs σ H Q := q
theorem rd_lcR2 (q : tA σ H fun ws H1 => ∃ i j : Int, ws = [.int i, .int j] ∧ (-(2 ^ 62) ≤ i ∧ i < 2 ^ 62 ∧ -(2 ^ 62) ≤ j ∧ j < 2 ^ 62) ∧ LcW (Itr i (j - i).toNat) g tt te vs σ H1 Q) : tLc (iRng2 tA) g tt te vs σ H Q := q
/-- one turn of a comprehension: the target, the test, the element, the list grown at D -/
def LcT (g : TG) (tt : TT) (te : TE) (vs : List Nat) (σ : St) (D : Addr) (N : Hp → Prop) (x : V) (H : Hp) : Prop :=
  g x (wipe σ vs) H fun σ2 H2 => wipe σ2 vs = wipe σ vs ∧ tt σ2 H2 fun b H3 => if b = true then te σ2 H3 fun y H4 => ∃ acc, H4 D = some (.lst acc) ∧ acc.length < sizeLine ∧ N (upd H4 D (.lst (acc ++ [y]))) else N H3
theorem rd_lcT1 {D : Addr} {N : Hp → Prop} (q : g x (wipe σ vs) H fun σ2 H2 => wipe σ2 vs = wipe σ vs ∧ tt σ2 H2 fun b H3 => if b = true then te σ2 H3 fun y H4 => ∃ acc, H4 D = some (.lst acc) ∧ acc.length < sizeLine ∧ N (upd H4 D (.lst (acc ++ [y]))) else N H3) :
    LcT g tt te vs σ D N x H := q
/-- what holds between two turns: what stands stays by R, the list at D is what A says -/
theorem lc_by {J : It} {n : Nat} {G : Hp → Prop} {Y : Nat → Hp → V → Hp → Prop} (w : Walk J n G Y) (Pv : Addr → Nat → Hp → Prop) (h0 : ∀ D, H D = none → Pv D 0 (upd H D (.lst []))) (hG : ∀ D i H', H D = none → i ≤ n → Pv D i H' → G H')
    (hs : ∀ D i x H1 H2, H D = none → i < n → Pv D i H1 → Y i H1 x H2 → LcT g tt te vs σ D (Pv D (i + 1)) x H2) (hd : ∀ D H', H D = none → Pv D n H' → Q (.ref D) H') : LcW J g tt te vs σ H Q := by
  intro D hD
  exact lc_it w (Pv D) (h0 D hD) (fun i H' hi hP => hG D i H' hD hi hP) (fun i x H1 H2 hi hP hY => hs D i x H1 H2 hD hi hP hY) fun H' hP => hd D H' hD hP
theorem rd_clL (h : SqL K H a xs) (Pv : Addr → Nat → Hp → Prop) (h0 : ∀ D, H D = none → Pv D 0 (upd H D (.lst []))) (hG : ∀ D i H', H D = none → i ≤ xs.length → Pv D i H' → SqL K H' a xs)
    (hs : ∀ D i x H', H D = none → xs[i]? = some x → Pv D i H' → LcT g tt te vs σ D (Pv D (i + 1)) x H') (hd : ∀ D H', H D = none → Pv D xs.length H' → Q (.ref D) H') :
    ∃ b, V.ref a = .ref b ∧ (∃ xs, SqL K H b xs) ∧ LcW (Itl K b) g tt te vs σ H Q := by
  refine ⟨a, rfl, ⟨xs, h⟩, lc_by walk_list Pv h0 hG ?_ hd⟩
  rintro D i x H1 H2 hD hi hP ⟨rfl, hx⟩
  exact hs D i x H2 hD hx hP
theorem rd_clT (h : SqT K H a xs) (Pv : Addr → Nat → Hp → Prop) (h0 : ∀ D, H D = none → Pv D 0 (upd H D (.lst []))) (hG : ∀ D i H', H D = none → i ≤ xs.length → Pv D i H' → SqT K H' a xs)
    (hs : ∀ D i x H', H D = none → xs[i]? = some x → Pv D i H' → LcT g tt te vs σ D (Pv D (i + 1)) x H') (hd : ∀ D H', H D = none → Pv D xs.length H' → Q (.ref D) H') :
    ∃ b, V.ref a = .ref b ∧ (∃ xs, SqT K H b xs) ∧ LcW (Itt K b) g tt te vs σ H Q := by
  refine ⟨a, rfl, ⟨xs, h⟩, lc_by walk_tup Pv h0 hG ?_ hd⟩
  rintro D i x H1 H2 hD hi hP ⟨rfl, hx⟩
  exact hs D i x H2 hD hx hP
/-! dict comprehensions over a list -/
def DcT (g : TG) (tt : TT) (tk tv : TE) (vs : List Nat) (σ : St) (D : Addr) (N : Hp → Prop) (x : V) (H : Hp) : Prop :=
  g x (wipe σ vs) H fun σ2 H2 => wipe σ2 vs = wipe σ vs ∧ tt σ2 H2 fun b H3 => if b = true then tk σ2 H3 fun y H4 => tv σ2 H4 fun z H5 => ∃ kvs k, y = kV k ∧ H5 D = some (.dK kvs) ∧ kvs.length < sizeLine ∧ N (upd H5 D (.dK (putK kvs k z))) else N H3
theorem rd_dcT1 {tk tv : TE} {D : Addr} {N : Hp → Prop} (q : g x (wipe σ vs) H fun σ2 H2 => wipe σ2 vs = wipe σ vs ∧ tt σ2 H2 fun b H3 => if b = true then tk σ2 H3 fun y H4 => tv σ2 H4 fun z H5 => ∃ kvs k, y = kV k ∧ H5 D = some (.dK kvs) ∧ kvs.length < sizeLine ∧ N (upd H5 D (.dK (putK kvs k z))) else N H3) :
    DcT g tt tk tv vs σ D N x H := q
def DcW (J : It) (g : TG) (tt : TT) (tk tv : TE) (vs : List Nat) (σ : St) (H1 : Hp) (Q : VK) : Prop := ∀ D, H1 D = none → ∃ W : Nat → Nat → Hp → Prop, (∃ m, W 0 m (upd H1 D (.dK []))) ∧ ∀ i m H, W i m H →
  (J.stop i H ∧ Q (.ref D) H) ∨ (J.go i H ∧ ∃ Nx : Hp → Prop, (∀ H', Nx H' → ∃ m', m' < m ∧ W (i + 1) m' H') ∧ ∀ x H', J.yld i H x H' → DcT g tt tk tv vs σ D Nx x H')
theorem rd_dcL {tk tv : TE} (q : ta σ H fun x H1 => ∃ a, x = .ref a ∧ (∃ xs, SqL K H1 a xs) ∧ DcW (Itl K a) g tt tk tv vs σ H1 Q) : tDc (iAny K ta) g tt tk tv vs σ H Q := .inl q
theorem rd_ddL {tk tv : TE} (h : SqL K H a xs) (Pv : Addr → Nat → Hp → Prop) (h0 : ∀ D, H D = none → Pv D 0 (upd H D (.dK []))) (hG : ∀ D i H', H D = none → i ≤ xs.length → Pv D i H' → SqL K H' a xs)
    (hs : ∀ D i x H', H D = none → xs[i]? = some x → Pv D i H' → DcT g tt tk tv vs σ D (Pv D (i + 1)) x H') (hd : ∀ D H', H D = none → Pv D xs.length H' → Q (.ref D) H') :
    ∃ b, V.ref a = .ref b ∧ (∃ xs, SqL K H b xs) ∧ DcW (Itl K b) g tt tk tv vs σ H Q := by
  refine ⟨a, rfl, ⟨xs, h⟩, fun D hD => ⟨fun i m H' => m = xs.length - i ∧ i ≤ xs.length ∧ Pv D i H', ⟨xs.length, by simp, Nat.zero_le _, h0 D hD⟩, ?_⟩⟩
  rintro i m H' ⟨rfl, hi, p⟩
  have q := hG D i H' hD hi p
  have w := walk_list (K := K) (a := a) (xs := xs)
  by_cases hlt : i < xs.length
  · refine .inr ⟨w.goes i H' hlt q, Pv D (i + 1), fun H2 p' => ⟨xs.length - (i + 1), by omega, rfl, hlt, p'⟩, fun x H2 y => ?_⟩
    obtain ⟨e, hx⟩ := w.yields i H' x H2 hlt q y
    subst e
    exact hs D i x _ hD hx p
  · have e : i = xs.length := by omega
    subst e
    exact .inl ⟨w.stops H' q, hd D H' hD p⟩
theorem rd_lcE (q : tA σ H fun ws H1 => ∃ a xs, ws = [.ref a] ∧ SqL K H1 a xs ∧ LcW (Ite K a) g tt te vs σ H1 Q) : tLc (iEnum K tA) g tt te vs σ H Q := q
theorem rd_lcZ (q : tA σ H fun ws H1 => ∃ a b xs ys, ws = [.ref a, .ref b] ∧ SqL K H1 a xs ∧ SqL K H1 b ys ∧ LcW (Itz K a b) g tt te vs σ H1 Q) : tLc (iZip K tA) g tt te vs σ H Q := q
theorem rd_clE (h : SqL K H a xs) (Pv : Addr → Nat → Hp → Prop) (h0 : ∀ D, H D = none → Pv D 0 (upd H D (.lst []))) (hG : ∀ D i H', H D = none → i ≤ xs.length → Pv D i H' → SqL K H' a xs)
    (hs : ∀ D i x T H', H D = none → xs[i]? = some x → Pv D i H' → H' T = none → LcT g tt te vs σ D (Pv D (i + 1)) (.ref T) (upd H' T (.tup [.int (i : Int), x]))) (hd : ∀ D H', H D = none → Pv D xs.length H' → Q (.ref D) H') :
    ∃ b ys, [V.ref a] = [.ref b] ∧ SqL K H b ys ∧ LcW (Ite K b) g tt te vs σ H Q := by
  refine ⟨a, xs, rfl, h, lc_by walk_enum Pv h0 hG ?_ hd⟩
  rintro D i x H1 H2 hD hi hP ⟨T, u, y, rfl, hT, rfl, hu, hy⟩
  cases hu
  exact hs D i y T H1 hD hy hP hT
theorem rd_clZ {b : Addr} (h : SqL K H a xs) (h' : SqL K H b ys) {n : Nat} (hn : n = min xs.length ys.length) (Pv : Addr → Nat → Hp → Prop) (h0 : ∀ D, H D = none → Pv D 0 (upd H D (.lst []))) (hG : ∀ D i H', H D = none → i ≤ n → Pv D i H' → SqL K H' a xs ∧ SqL K H' b ys)
    (hs : ∀ D i x y T H', H D = none → xs[i]? = some x → ys[i]? = some y → Pv D i H' → H' T = none → LcT g tt te vs σ D (Pv D (i + 1)) (.ref T) (upd H' T (.tup [x, y]))) (hd : ∀ D H', H D = none → Pv D n H' → Q (.ref D) H') :
    ∃ c d us ws, [V.ref a, V.ref b] = [.ref c, .ref d] ∧ SqL K H c us ∧ SqL K H d ws ∧ LcW (Itz K c d) g tt te vs σ H Q := by
  refine ⟨a, b, xs, ys, rfl, h, h', lc_by (walk_zip hn) Pv h0 hG ?_ hd⟩
  rintro D i x H1 H2 hD hi hP ⟨T, u, y, rfl, hT, rfl, hu, hy⟩
  exact hs D i u y T H1 hD hu hy hP hT
theorem rd_clS (Pv : Addr → Nat → Hp → Prop) (h0 : ∀ D, H D = none → Pv D 0 (upd H D (.lst [])))
    (hs : ∀ D i c H', H D = none → z.cps[i]? = some c → Pv D i H' → LcT g tt te vs σ D (Pv D (i + 1)) (.str ⟨#[c]⟩) H') (hd : ∀ D H', H D = none → Pv D z.cps.size H' → Q (.ref D) H') :
    ∃ y, V.str z = .str y ∧ LcW (Its y) g tt te vs σ H Q := by
  refine ⟨z, rfl, lc_by walk_str Pv h0 (fun _ _ _ _ _ _ => trivial) ?_ hd⟩
  rintro D i x H1 H2 hD hi hP ⟨rfl, c, hc, rfl⟩
  exact hs D i c H2 hD hc hP
theorem rd_clR {n : Int} (b0 : -(2 ^ 62) ≤ n) (b1 : n < 2 ^ 62) (Pv : Addr → Nat → Hp → Prop) (h0 : ∀ D, H D = none → Pv D 0 (upd H D (.lst [])))
    (hs : ∀ D (i : Nat) H', H D = none → (i : Int) < n → Pv D i H' → LcT g tt te vs σ D (Pv D (i + 1)) (.int (i : Int)) H') (hd : ∀ D H', H D = none → Pv D n.toNat H' → Q (.ref D) H') :
    ∃ j : Int, [V.int n] = [.int j] ∧ -(2 ^ 62) ≤ j ∧ j < 2 ^ 62 ∧ LcW (Itr 0 j.toNat) g tt te vs σ H Q := by
  refine ⟨n, rfl, b0, b1, lc_by walk_range Pv h0 (fun _ _ _ _ _ _ => trivial) ?_ hd⟩
  rintro D i x H1 H2 hD hi hP ⟨rfl, rfl⟩
  show LcT g tt te vs σ D (Pv D (i + 1)) (V.int (0 + (i : Int))) H2
  rw [Int.zero_add]
  exact hs D i H2 hD (by omega) hP
theorem rd_clR2 {m n : Int} (b : -(2 ^ 62) ≤ m ∧ m < 2 ^ 62 ∧ -(2 ^ 62) ≤ n ∧ n < 2 ^ 62) (Pv : Addr → Nat → Hp → Prop) (h0 : ∀ D, H D = none → Pv D 0 (upd H D (.lst [])))
    (hs : ∀ D (i : Nat) H', H D = none → m + (i : Int) < n → Pv D i H' → LcT g tt te vs σ D (Pv D (i + 1)) (.int (m + (i : Int))) H') (hd : ∀ D H', H D = none → Pv D (n - m).toNat H' → Q (.ref D) H') :
    ∃ i j : Int, [V.int m, V.int n] = [.int i, .int j] ∧ (-(2 ^ 62) ≤ i ∧ i < 2 ^ 62 ∧ -(2 ^ 62) ≤ j ∧ j < 2 ^ 62) ∧ LcW (Itr i (j - i).toNat) g tt te vs σ H Q := by
  refine ⟨m, n, rfl, b, lc_by walk_range Pv h0 (fun _ _ _ _ _ _ => trivial) ?_ hd⟩
  rintro D i x H1 H2 hD hi hP ⟨rfl, rfl⟩
  exact hs D i H2 hD (by omega) hP
end
end Mine

/-! ## Texts and drawn things -/
namespace Mine
open PySem PySem.Spec PyProof.Rows
open L2 hiding CX XE Takes takes_of passes_call ps_raise ps_try_as ps_try_many ps_try_only pmk_own passAt MkP PMk mk_of Zc HdsOk takes_none5
open L2N hiding St
open TL (tl spl pre spl_nil spl_hit spl_miss split_spl)
set_option linter.all false
theorem len_tl (z : Str) : (tl z).length = z.length := by
  show z.cps.toList.length = z.cps.size
  simp
theorem str_ext {a b : Str} (h : tl a = tl b) : a = b := by
  obtain ⟨⟨a⟩⟩ := a
  obtain ⟨⟨b⟩⟩ := b
  have h' : a = b := h
  rw [h']
theorem tl_app (a b : Str) : tl (a ++ b) = tl a ++ tl b := by
  show (a ++ b).cps.toList = _
  rw [show (a ++ b).cps = a.cps ++ b.cps from rfl, Array.toList_append]
theorem len_app (a b : Str) : (a ++ b).length = a.length + b.length := by rw [← len_tl, tl_app, List.length_append, len_tl, len_tl]
theorem tl_cut (z : Str) (lo hi : Option Int) : tl (cutS z lo hi) = ((tl z).drop (HT.sIx z.length 0 lo)).take (HT.sIx z.length z.length hi - HT.sIx z.length 0 lo) := by
  show (cutS z lo hi).cps.toList = _
  unfold cutS
  simp
theorem tl_take (z : Str) (k : Nat) : tl (cutS z none (some (k : Int))) = (tl z).take k := by
  rw [tl_cut, HT.sIx_none, List.drop_zero, Nat.sub_zero, HT.sIx_nat]
  by_cases h : k ≤ z.length
  · rw [Nat.min_eq_left h]
  · rw [Nat.min_eq_right (by omega), List.take_of_length_le (by rw [len_tl]; exact Nat.le_refl _), List.take_of_length_le (by rw [len_tl]; omega)]
theorem tl_drop (z : Str) (k : Nat) : tl (cutS z (some (k : Int)) none) = (tl z).drop k := by
  rw [tl_cut, HT.sIx_none, HT.sIx_nat]
  by_cases h : k ≤ z.length
  · rw [Nat.min_eq_left h, List.take_of_length_le (by rw [List.length_drop, len_tl]; exact Nat.le_refl _)]
  · rw [Nat.min_eq_right (by omega), List.drop_of_length_le (by rw [len_tl]; exact Nat.le_refl _), List.take_nil, List.drop_of_length_le (by rw [len_tl]; omega)]
theorem cut_take {z : Str} {i : Int} (h0 : 0 ≤ i) : (cutS z none (some i)).length = min i.toNat z.length := by
  obtain ⟨k, rfl⟩ : ∃ k : Nat, i = (k : Int) := ⟨i.toNat, by omega⟩
  rw [← len_tl, tl_take, List.length_take, len_tl]
  rfl
theorem cut_drop {z : Str} {i : Int} (h0 : 0 ≤ i) : (cutS z (some i) none).length = z.length - i.toNat := by
  obtain ⟨k, rfl⟩ : ∃ k : Nat, i = (k : Int) := ⟨i.toNat, by omega⟩
  rw [← len_tl, tl_drop, List.length_drop, len_tl]
  rfl
/-- a text of at most so many signs -/
def strLe (L : Nat) : V → Bool
  | .str z => decide (z.length ≤ L)
  | _ => false
theorem strLe_str {L : Nat} {x : V} (h : strLe L x = true) : ∃ z, x = .str z ∧ z.length ≤ L := by
  cases x with
  | str z => exact ⟨z, rfl, of_decide_eq_true h⟩
  | _ => cases h
theorem atI_mem {xs : List V} {v : Int} (h0 : 0 ≤ v) (h1 : v < xs.length) : ∃ x, x ∈ xs ∧ atI xs v = some x := by
  obtain ⟨j, rfl⟩ : ∃ j : Nat, v = (j : Int) := ⟨v.toNat, by omega⟩
  have hj : j < xs.length := by omega
  exact ⟨xs[j], List.getElem_mem hj, atI_nat (List.getElem?_eq_getElem hj)⟩
/-- an item of a list, whichever -/
theorem pick {K : PySem.W.Frag} {p : Addr} {xs : List V} {v : Int} {H : Hp} {Q : VK} (h : SqL K H p xs) (h0 : 0 ≤ v) (h1 : v < xs.length) (q : ∀ x, x ∈ xs → Q x H) : xIx K (.ref p) (.int v) H Q := by
  obtain ⟨x, hx, e⟩ := atI_mem h0 h1
  exact rd_ixL h e (q x hx)
theorem pickT {K : PySem.W.Frag} {p : Addr} {xs : List V} {v : Int} {H : Hp} {Q : VK} (h : SqT K H p xs) (h0 : 0 ≤ v) (h1 : v < xs.length) (q : ∀ x, x ∈ xs → Q x H) : xIx K (.ref p) (.int v) H Q := by
  obtain ⟨x, hx, e⟩ := atI_mem h0 h1
  exact rd_ixT h e (q x hx)
theorem pickS {K : PySem.W.Frag} {p : Addr} {xs : List V} {v : Int} {H : Hp} {Q : VK} (L : Nat) (h : SqL K H p xs) (h0 : 0 ≤ v) (h1 : v < xs.length) (hL : xs.all (strLe L) = true) (q : ∀ z, z.length ≤ L → Q (.str z) H) : xIx K (.ref p) (.int v) H Q := by
  refine pick h h0 h1 fun x hx => ?_
  obtain ⟨z, rfl, hz⟩ := strLe_str (List.all_eq_true.mp hL x hx)
  exact q z hz
theorem join_le (sep : Str) (ys : List Str) (L : Nat) (h : ∀ y ∈ ys, y.length ≤ L) : (ys.map (·.length)).sum ≤ ys.length * L := by
  induction ys with
  | nil => exact Nat.zero_le _
  | cons y ys ih =>
    have h1 := h y List.mem_cons_self
    have h2 := ih fun z hz => h z (List.mem_cons_of_mem _ hz)
    rw [List.map_cons, List.sum_cons, List.length_cons, Nat.add_mul, Nat.one_mul]
    omega
theorem len_join (sep : Str) (ys : List Str) : (Txt.join sep ys).length ≤ (ys.map (·.length)).sum + ys.length * sep.length := by
  show (Builtin.Str.glued sep ys).length ≤ _
  rw [StrLaws.glued_eq_join]
  exact StrLaws.join_length_le sep ys
theorem spl_len {S : List Nat} : ∀ (l : List Nat) (k : Nat) (acc : List Nat), (∀ p ∈ spl S k acc l, p.length ≤ acc.length + l.length) ∧ (spl S k acc l).length ≤ l.length + 1
  | [], k, acc => by
    rw [spl_nil]
    exact ⟨fun p hp => by rw [List.mem_singleton.mp hp]; exact Nat.le_add_right _ _, Nat.le_refl _⟩
  | c :: r, 0, acc => by
    cases h : pre S (c :: r) with
    | true =>
      rw [spl_hit h]
      obtain ⟨h1, h2⟩ := spl_len (S := S) r (S.length - 1) []
      refine ⟨fun p hp => ?_, by rw [List.length_cons, List.length_cons]; omega⟩
      rcases List.mem_cons.mp hp with rfl | hp
      · exact Nat.le_add_right _ _
      · have := h1 p hp
        rw [List.length_nil] at this
        rw [List.length_cons]
        omega
    | false =>
      rw [spl_miss h]
      obtain ⟨h1, h2⟩ := spl_len (S := S) r 0 (acc ++ [c])
      refine ⟨fun p hp => ?_, by rw [List.length_cons]; omega⟩
      have := h1 p hp
      rw [List.length_append, List.length_singleton] at this
      rw [List.length_cons]
      omega
  | c :: r, k + 1, acc => by
    show (∀ p ∈ spl S k acc r, _) ∧ (spl S k acc r).length ≤ _
    obtain ⟨h1, h2⟩ := spl_len (S := S) r k acc
    refine ⟨fun p hp => ?_, by rw [List.length_cons]; omega⟩
    have := h1 p hp
    rw [List.length_cons]
    omega
/-- the parts of a text, the sign between them below 256 -/
theorem split_len {z y : Str} (hy : tl y ≠ []) (hk : y.cps.all (· < 256) = true) : (∀ w ∈ Txt.split z y, w.length ≤ z.length) ∧ (Txt.split z y).length ≤ z.length + 1 := by
  have k1 : Builtin.Str.strKind y = 1 := by
    unfold Builtin.Str.strKind
    rw [if_pos hk]
  have k2 : ¬ Builtin.Str.strKind z < Builtin.Str.strKind y := by
    rw [k1]
    unfold Builtin.Str.strKind
    split
    · omega
    · split <;> omega
  have e := split_spl z y hy k2
  obtain ⟨h1, h2⟩ := spl_len (S := tl y) (tl z) 0 []
  rw [← e] at h1 h2
  constructor
  · intro w hw
    have := h1 (tl w) (List.mem_map_of_mem hw)
    rw [List.length_nil, Nat.zero_add, len_tl, len_tl] at this
    exact this
  · rw [List.length_map, len_tl] at h2
    exact h2
theorem szOk {n : Nat} (h : n ≤ 1000000) : n ≤ sizeLine := Nat.le_trans h (by decide)
theorem szLt {n : Nat} (h : n ≤ 1000000) : n < sizeLine := Nat.lt_of_le_of_lt h (by decide)
/-- bools shown in a list -/
def bools (bs : List Bool) : PyData := .list (bs.map .bool)
theorem dp_bools {K : PySem.W.Frag} {H : Hp} : ∀ bs : List Bool, DpAll K H (bs.map V.bl) (bs.map .bool)
  | [] => .nil
  | b :: bs => .cons (.bl b) (dp_bools bs)
theorem _root_.L2.Same.new {H H' : Hp} {p : Addr} {o : HO} (a : Same H H') (h : H' p = none) : Same H (upd H' p o) := fun c u e => by
  rw [upd_ne (ne_of_none (a c u e) h)]
  exact a c u e
theorem _root_.L2.Same.put {H H' : Hp} {p : Addr} {o : HO} (a : Same H H') (h : H p = none) : Same H (upd H' p o) := fun c u e => by
  rw [upd_ne (ne_of_none e h)]
  exact a c u e
theorem _root_.L2.Same.there {H H' : Hp} {p : Addr} {o : HO} (k : Same (upd H p o) H') : H' p = some o := k p _ upd_same
theorem sm_tup {K : PySem.W.Frag} {H H' : Hp} {a : Addr} {xs : List V} (e : Same H H') (h : SqT K H a xs) : SqT K H' a xs := by
  rcases h with (h | ⟨o, h⟩) | h
  · exact .inl (.inl (e _ _ h))
  · exact .inl (.inr ⟨o, e _ _ h⟩)
  · exact .inr h
/-! ### comprehensions that change nothing: [f x for x in .. if p x] -/
section
variable {K : PySem.W.Frag} {J : It} {xs : List V} {G : Hp → Prop} {tt : TT} {te : TE} {vs : List Nat} {σ : St} {H : Hp} {Q : VK} {j : Nat} {a : Addr} {z : Str}
/-- reads and makes new things alone: b at the end -/
def Pt (t : TT) (σ : St) (H : Hp) (b : Bool) : Prop := ∀ H1, Same H H1 → ∀ QE : Bool → Hp → Prop, (∀ H2, Same H1 H2 → QE b H2) → t σ H1 QE
def Pe (t : TE) (σ : St) (H : Hp) (v : V) : Prop := ∀ H1, Same H H1 → ∀ QE : VK, (∀ H2, Same H1 H2 → QE v H2) → t σ H1 QE
theorem pt_yes : Pt tYes σ H true := fun H1 _ QE q => q H1 (Same.refl H1)
theorem lc_pure (w : Walk J xs.length G (YAt xs)) (hG : ∀ H', Same H H' → G H') (p : V → Bool) (f : V → V) (hw : ∀ x, wipe ((wipe σ vs).set j (some x)) vs = wipe σ vs) (hl : xs.length ≤ 1000000)
    (ht : ∀ x, x ∈ xs → Pt tt ((wipe σ vs).set j (some x)) H (p x)) (he : ∀ x, x ∈ xs → p x = true → Pe te ((wipe σ vs).set j (some x)) H (f x))
    (hd : ∀ D H', H D = none → Same H H' → H' D = some (.lst ((xs.filter p).map f)) → Q (.ref D) H') : LcW J (gName j) tt te vs σ H Q := by
  refine lc_by w (fun D i H' => Same H H' ∧ H' D = some (.lst (((xs.take i).filter p).map f))) (fun D hD => ⟨(Same.refl H).new hD, upd_same⟩) (fun D i H' _ _ h => hG H' h.1) ?_ (fun D H' hD h => hd D H' hD h.1 (by have := h.2; rwa [List.take_length] at this))
  rintro D i x H1 H2 hD hi ⟨hS, hD1⟩ ⟨rfl, hx⟩
  have mem : x ∈ xs := List.mem_of_getElem? hx
  have grow : xs.take (i + 1) = xs.take i ++ [x] := by rw [List.take_add_one, hx]; rfl
  refine ⟨hw x, ht x mem H2 hS _ fun H3 s3 => ?_⟩
  cases hp : p x with
  | true =>
    refine rd_yT (he x mem hp H3 (hS.trans s3) _ fun H4 s4 => ?_)
    refine ⟨_, s4 _ _ (s3 _ _ hD1), szLt ?_, ((hS.trans s3).trans s4).put hD, ?_⟩
    · rw [List.length_map]
      have h1 := List.length_filter_le p (xs.take i)
      rw [List.length_take] at h1
      omega
    · rw [upd_same, grow, List.filter_append, List.map_append]
      simp [hp]
  | false =>
    refine rd_nF ⟨hS.trans s3, ?_⟩
    rw [s3 _ _ hD1, grow, List.filter_append]
    simp [hp]
theorem rd_mapL (h : SqL K H a xs) (p : V → Bool) (f : V → V) (hw : ∀ x, wipe ((wipe σ vs).set j (some x)) vs = wipe σ vs) (hl : xs.length ≤ 1000000)
    (ht : ∀ x, x ∈ xs → Pt tt ((wipe σ vs).set j (some x)) H (p x)) (he : ∀ x, x ∈ xs → p x = true → Pe te ((wipe σ vs).set j (some x)) H (f x))
    (hd : ∀ D H', H D = none → Same H H' → H' D = some (.lst ((xs.filter p).map f)) → Q (.ref D) H') : ∃ b, V.ref a = .ref b ∧ (∃ xs, SqL K H b xs) ∧ LcW (Itl K b) (gName j) tt te vs σ H Q :=
  ⟨a, rfl, ⟨xs, h⟩, lc_pure walk_list (fun H' e => e.seq h) p f hw hl ht he hd⟩
theorem rd_mapT (h : SqT K H a xs) (p : V → Bool) (f : V → V) (hw : ∀ x, wipe ((wipe σ vs).set j (some x)) vs = wipe σ vs) (hl : xs.length ≤ 1000000)
    (ht : ∀ x, x ∈ xs → Pt tt ((wipe σ vs).set j (some x)) H (p x)) (he : ∀ x, x ∈ xs → p x = true → Pe te ((wipe σ vs).set j (some x)) H (f x))
    (hd : ∀ D H', H D = none → Same H H' → H' D = some (.lst ((xs.filter p).map f)) → Q (.ref D) H') : ∃ b, V.ref a = .ref b ∧ (∃ xs, SqT K H b xs) ∧ LcW (Itt K b) (gName j) tt te vs σ H Q :=
  ⟨a, rfl, ⟨xs, h⟩, lc_pure walk_tup (fun H' e => sm_tup e h) p f hw hl ht he hd⟩
/-- the signs of a text, each as a text -/
def signs (z : Str) : List V := z.cps.toList.map fun c => .str ⟨#[c]⟩
theorem walk_signs : Walk (Its z) (signs z).length (fun _ => True) (YAt (signs z)) := by
  have e : (signs z).length = z.cps.size := by unfold signs; simp
  rw [e]
  refine walk_str.mono (fun _ h => h) ?_
  rintro i H1 x H2 hi _ ⟨rfl, c, hc, rfl⟩
  refine ⟨rfl, ?_⟩
  unfold signs
  rw [List.getElem?_map, Array.getElem?_toList, hc]
  rfl
theorem rd_mapS (p : V → Bool) (f : V → V) (hw : ∀ x, wipe ((wipe σ vs).set j (some x)) vs = wipe σ vs) (hl : z.length ≤ 1000000)
    (ht : ∀ x, x ∈ signs z → Pt tt ((wipe σ vs).set j (some x)) H (p x)) (he : ∀ x, x ∈ signs z → p x = true → Pe te ((wipe σ vs).set j (some x)) H (f x))
    (hd : ∀ D H', H D = none → Same H H' → H' D = some (.lst (((signs z).filter p).map f)) → Q (.ref D) H') : ∃ y, V.str z = .str y ∧ LcW (Its y) (gName j) tt te vs σ H Q :=
  ⟨z, rfl, lc_pure walk_signs (fun _ _ => trivial) p f hw (by unfold signs; rw [List.length_map]; simpa [Str.length] using hl) ht he hd⟩
end
/-- a value's type stays while what is tracked stays -/
theorem tyx_same {K : PySem.W.Frag} {H H' : Hp} {v : V} {t : Value} (e : Same H H') (h : TyX K H v t) : TyX K H' v t := by
  cases h with
  | base b =>
    refine .base ?_
    cases b with
    | non => exact .non
    | bl x => exact .bl x
    | int i => exact .int i
    | str x => exact .str x
    | flt x => exact .flt x
    | lst h => exact .lst (e _ _ h)
    | frz h => exact .frz (e _ _ h)
    | tup h => exact .tup (e _ _ h)
    | dK h => exact .dK (e _ _ h)
    | dT h => exact .dT (e _ _ h)
    | ins h c1 c2 c3 c4 c5 => exact .ins (e _ _ h) c1 c2 c3 c4 c5
  | byt b => exact .byt b
  | set h => exact .set (e _ _ h)
  | kList h c => exact .kList h c
  | kTuple h c => exact .kTuple h c
  | kDict h c => exact .kDict h c
  | fTuple h => exact .fTuple (e _ _ h)
  | fDict h => exact .fDict (e _ _ h)
theorem shows_2 (b : Bool) : Shows (.list [.bool b, .bool b]) := by
  cases b <;> exact ⟨by decide +kernel, by decide +kernel, by decide +kernel, by decide +kernel⟩
/-! ### signs, parts of a text -/
theorem tl_mid (z : Str) (i j : Nat) (h : i ≤ j) : tl (cutS z (some (i : Int)) (some (j : Int))) = ((tl z).drop i).take (j - i) := by
  rw [tl_cut, HT.sIx_nat, HT.sIx_nat]
  have e := len_tl z
  by_cases h1 : i ≤ z.length
  · rw [Nat.min_eq_left h1]
    by_cases h2 : j ≤ z.length
    · rw [Nat.min_eq_left h2]
    · rw [Nat.min_eq_right (by omega), List.take_of_length_le (by rw [List.length_drop, e]; exact Nat.le_refl _), List.take_of_length_le (by rw [List.length_drop, e]; omega)]
  · rw [Nat.min_eq_right (by omega), Nat.min_eq_right (by omega), List.drop_of_length_le (by rw [e]; exact Nat.le_refl _), List.drop_of_length_le (by rw [e]; omega), List.take_nil, List.take_nil]
theorem tl_inj {a b : Str} : a = b ↔ tl a = tl b := ⟨fun h => h ▸ rfl, str_ext⟩
theorem dec_tl (a b : Str) : decide (a = b) = decide (tl a = tl b) := decide_eq_decide.mpr tl_inj
theorem tl_sg (c : Nat) : tl (⟨#[c]⟩ : Str) = [c] := rfl
theorem drop_ne {l : List Nat} {k c : Nat} {r : List Nat} (h : l.drop k = c :: r) : l[k]? = some c ∧ k < l.length ∧ l.drop (k + 1) = r := by
  have h1 : (l.drop k)[0]? = some c := by rw [h]; rfl
  rw [List.getElem?_drop, Nat.add_zero] at h1
  refine ⟨h1, (List.getElem?_eq_some_iff.mp h1).1, ?_⟩
  rw [← List.drop_drop, h]
  rfl
/-- the first c in a row of signs: what stands before it, what behind -/
def cutAt (c : Nat) : List Nat → Option (List Nat × List Nat)
  | [] => none
  | x :: r => if x = c then some ([], r) else (cutAt c r).map fun p => (x :: p.1, p.2)
theorem cutAt_none {c : Nat} : ∀ {l : List Nat}, cutAt c l = none → c ∉ l
  | [], _ => List.not_mem_nil
  | x :: r, h => by
    unfold cutAt at h
    by_cases e : x = c
    · rw [if_pos e] at h; cases h
    · rw [if_neg e, Option.map_eq_none_iff] at h
      rw [List.mem_cons]
      rintro (q | q)
      · exact e q.symm
      · exact cutAt_none h q
theorem cutAt_some {c : Nat} : ∀ {l b t : List Nat}, cutAt c l = some (b, t) → l = b ++ c :: t ∧ c ∉ b
  | [], _, _, h => by cases h
  | x :: r, b, t, h => by
    unfold cutAt at h
    by_cases e : x = c
    · rw [if_pos e] at h
      cases h
      exact ⟨by rw [e]; rfl, List.not_mem_nil⟩
    · rw [if_neg e] at h
      obtain ⟨⟨b', t'⟩, h1, h2⟩ := Option.map_eq_some_iff.mp h
      cases h2
      obtain ⟨h3, h4⟩ := cutAt_some h1
      refine ⟨by rw [h3]; rfl, ?_⟩
      rw [List.mem_cons]
      rintro (q | q)
      · exact e q.symm
      · exact h4 q
theorem from_nat {n i : Nat} : fromIndex n (i : Int) = i := by
  unfold fromIndex
  rw [if_neg (by omega)]
  omega
theorem getD_tl {z : Str} {v c : Nat} (hv : v < z.length) : z.cps.getD v 0 = c ↔ (tl z)[v]? = some c := ⟨StrLaws.getElem?_of_getD hv, StrLaws.getD_of_getElem?⟩
/-- find of one sign, from a place on -/
theorem find_cut (z : Str) (c i : Nat) : Txt.find3 z ⟨#[c]⟩ (i : Int) = (match cutAt c ((tl z).drop i) with | none => -1 | some (b, _) => ((i + b.length : Nat) : Int)) := by
  have sp := StrLaws.find3_spec z c (i : Int)
  rw [from_nat] at sp
  cases e : cutAt c ((tl z).drop i) with
  | none =>
    rcases sp with ⟨h, _⟩ | ⟨k, h, h1, h2, h3, _⟩
    · exact h
    · refine absurd ?_ (cutAt_none e)
      refine List.mem_of_getElem? (i := k - i) ?_
      rw [List.getElem?_drop, show i + (k - i) = k by omega]
      exact (getD_tl h2).mp h3
  | some p =>
    obtain ⟨b, t⟩ := p
    obtain ⟨h5, h6⟩ := cutAt_some e
    have at_ : (tl z)[i + b.length]? = some c := by
      rw [← List.getElem?_drop, h5, List.getElem?_append_right (Nat.le_refl _), Nat.sub_self]
      rfl
    have lt := (List.getElem?_eq_some_iff.mp at_).1
    rw [len_tl] at lt
    rcases sp with ⟨_, h⟩ | ⟨k, h, h1, h2, h3, h4⟩
    · exact absurd ((getD_tl lt).mpr at_) (h _ (by omega) lt)
    · rw [h]
      have h3' := (getD_tl h2).mp h3
      have e1 : ¬ k < i + b.length := fun q => h6 (by
        refine List.mem_of_getElem? (i := k - i) (a := c) ?_
        have : ((tl z).drop i)[k - i]? = some c := by rw [List.getElem?_drop, show i + (k - i) = k by omega]; exact h3'
        rw [h5, List.getElem?_append_left (by omega)] at this
        exact this)
      have e2 : ¬ i + b.length < k := fun q => h4 _ (by omega) q ((getD_tl lt).mpr at_)
      show (k : Int) = ((i + b.length : Nat) : Int)
      omega
theorem find_cut0 (z : Str) (c : Nat) : Txt.find z ⟨#[c]⟩ = (match cutAt c (tl z) with | none => -1 | some (b, _) => (b.length : Int)) := by
  rw [find_is_find3, show (0 : Int) = ((0 : Nat) : Int) from rfl, find_cut, List.drop_zero]
  cases cutAt c (tl z) with
  | none => rfl
  | some p => show ((0 + p.1.length : Nat) : Int) = _; rw [Nat.zero_add]
/-! ### what is new since A -/
def nw (A H : Hp) : Hp := fun a => match A a with | none => H a | some _ => none
/-- all that A tracks is tracked still -/
def Sub (A H : Hp) : Prop := ∀ a, H a = none → A a = none
theorem Sub.refl (A : Hp) : Sub A A := fun _ h => h
theorem Sub.of {A H : Hp} (e : Same A H) : Sub A H := fun a h => by
  cases q : A a with
  | none => rfl
  | some o => rw [e _ _ q] at h; cases h
theorem Sub.trans {A B C : Hp} (h : Sub A B) (k : Sub B C) : Sub A C := fun a q => h a (k a q)
theorem Sub.upd {A H : Hp} {p : Addr} {o : HO} (h : Sub A H) : Sub A (upd H p o) := fun a q => by
  by_cases e : a = p
  · rw [e, upd_same] at q; cases q
  · rw [upd_ne e] at q; exact h a q
theorem nw_get {A H : Hp} {a : Addr} {o : HO} (h : A a = none) (k : H a = some o) : nw A H a = some o := by
  unfold nw
  rw [h]
  exact k
theorem nw_inv {A H : Hp} {a : Addr} {o : HO} (k : nw A H a = some o) : A a = none ∧ H a = some o := by
  unfold nw at k
  cases q : A a with
  | none => rw [q] at k; exact ⟨rfl, k⟩
  | some u => rw [q] at k; cases k
theorem nw_same {A H : Hp} : Same (nw A H) H := fun _ _ k => (nw_inv k).2
theorem nw_mono {A H H' : Hp} (e : Same H H') : Same (nw A H) (nw A H') := fun a o k => nw_get (nw_inv k).1 (e _ _ (nw_inv k).2)
theorem nw_base {A B H : Hp} (e : Sub A B) : Same (nw B H) (nw A H) := fun a o k => nw_get (e a (nw_inv k).1) (nw_inv k).2
theorem nw_put {A H : Hp} {p : Addr} {u o : HO} (h : A p = some u) : Same (nw A H) (nw A (upd H p o)) := fun a v k => by
  obtain ⟨k1, k2⟩ := nw_inv k
  have e : a ≠ p := fun e => by rw [e, h] at k1; cases k1
  exact nw_get k1 (by rw [upd_ne e]; exact k2)
theorem nw_ne {A H : Hp} {a p : Addr} {u o : HO} (h : A p = some u) (k : nw A H a = some o) : a ≠ p := fun e => by
  have := (nw_inv k).1
  rw [e, h] at this
  cases this
theorem tl_nil : tl ("" : Str) = [] := by decide +kernel
theorem isSome_map {α β : Type} {f : α → β} {o : Option α} : (o.map f).isSome = o.isSome := by cases o <;> rfl
/-- a text of signs: its first one, the rest -/
theorem tl_cases (z : Str) : tl z = [] ∨ ∃ c r, tl z = c :: r := by
  cases e : tl z with
  | nil => exact .inl rfl
  | cons c r => exact .inr ⟨c, r, rfl⟩
theorem tl_from (z : Str) (k : Nat) : tl (cutS z (some (k : Int)) none) = (tl z).drop k := tl_drop z k
/-! ### rising rows, keys of dicts -/
theorem incr_ext : ∀ {l m : List Int}, l.Pairwise (· < ·) → m.Pairwise (· < ·) → (∀ x, x ∈ l ↔ x ∈ m) → l = m
  | [], [], _, _, _ => rfl
  | [], b :: m, _, _, h => absurd ((h b).mpr List.mem_cons_self) List.not_mem_nil
  | a :: l, [], _, _, h => absurd ((h a).mp List.mem_cons_self) List.not_mem_nil
  | a :: l, b :: m, hl, hm, h => by
    obtain ⟨l1, l2⟩ := List.pairwise_cons.mp hl
    obtain ⟨m1, m2⟩ := List.pairwise_cons.mp hm
    have e : a = b := by
      rcases List.mem_cons.mp ((h a).mp List.mem_cons_self) with e | e
      · exact e
      · rcases List.mem_cons.mp ((h b).mpr List.mem_cons_self) with e' | e'
        · exact e'.symm
        · have := l1 _ e'
          have := m1 _ e
          omega
    subst e
    rw [incr_ext l2 m2 fun x => ⟨fun q => ?_, fun q => ?_⟩]
    · rcases List.mem_cons.mp ((h x).mp (List.mem_cons_of_mem _ q)) with e | e
      · have := l1 _ q; omega
      · exact e
    · rcases List.mem_cons.mp ((h x).mpr (List.mem_cons_of_mem _ q)) with e | e
      · have := m1 _ q; omega
      · exact e
theorem strict_of {l : List Int} (h : l.Pairwise (· ≤ ·)) (n : l.Nodup) : l.Pairwise (· < ·) := by
  refine (List.Pairwise.and h n).imp ?_
  rintro a b ⟨h1, h2⟩
  have : a ≠ b := h2
  omega
/-- a set's members, in the sequence in which they came -/
def putI (ks : List Int) (k : Int) : List Int := if k ∈ ks then ks else ks ++ [k]
theorem keys_put {kvs : List (Key × V)} {ks : List Int} {k : Int} {v : V} (h : kvs.map (·.1) = ks.map Sum.inl) : (putK kvs (Sum.inl k) v).map (·.1) = (putI ks k).map Sum.inl := by
  have any : (kvs.any fun kv => decide (kv.1 = Sum.inl k)) = decide (k ∈ ks) := by
    have e : (kvs.any fun kv => decide (kv.1 = Sum.inl k)) = (kvs.map (·.1)).any fun x => decide (x = Sum.inl k) := by rw [List.any_map]; rfl
    rw [e, h, List.any_map]
    rw [Bool.eq_iff_iff, List.any_eq_true, decide_eq_true_eq]
    constructor
    · rintro ⟨x, h1, h2⟩
      have h2 := of_decide_eq_true h2
      cases h2
      exact h1
    · exact fun h1 => ⟨k, h1, decide_eq_true rfl⟩
  unfold putK putI
  rw [any]
  by_cases c : k ∈ ks
  · rw [decide_eq_true c, if_pos rfl, if_pos c, ← h, List.map_map]
    refine List.map_congr_left fun kv _ => ?_
    show (if kv.1 = Sum.inl k then (kv.1, v) else kv).1 = kv.1
    split <;> rfl
  · rw [decide_eq_false c, if_neg (by decide), if_neg c, List.map_append, List.map_append, h]
    rfl
theorem putI_mem {ks : List Int} {k x : Int} : x ∈ putI ks k ↔ x ∈ ks ∨ x = k := by
  unfold putI
  split
  · rename_i h
    exact ⟨.inl, fun q => q.elim id fun e => e ▸ h⟩
  · rw [List.mem_append, List.mem_singleton]
theorem putI_nodup {ks : List Int} {k : Int} (h : ks.Nodup) : (putI ks k).Nodup := by
  unfold putI
  split
  · exact h
  · rename_i c
    refine List.nodup_append.mpr ⟨h, List.pairwise_singleton _ _, ?_⟩
    intro a ha b hb e
    rw [List.mem_singleton] at hb
    exact c (hb ▸ e ▸ ha)
theorem keys_len {kvs : List (Key × V)} {ks : List Int} (h : kvs.map (·.1) = ks.map Sum.inl) : kvs.length = ks.length := by
  have := congrArg List.length h
  rwa [List.length_map, List.length_map] at this
/-- members below n, none twice: n at most -/
theorem few_ints : ∀ (n : Nat) {ks : List Int}, ks.Nodup → (∀ k ∈ ks, 0 ≤ k ∧ k < (n : Int)) → ks.length ≤ n
  | 0, [], _, _ => Nat.le_refl _
  | 0, k :: ks, _, h => by have := h k List.mem_cons_self; omega
  | n + 1, ks, hn, h => by
    have h1 : (ks.erase (n : Int)).length ≤ n := by
      refine few_ints n (hn.erase _) fun k hk => ?_
      have h2 := h k (List.mem_of_mem_erase hk)
      have h3 : k ≠ (n : Int) := by
        intro e
        rw [e] at hk
        exact (List.Nodup.mem_erase_iff hn).mp hk |>.1 rfl
      omega
    rw [List.length_erase] at h1
    split at h1 <;> omega
def sg (c : Nat) : Str := ⟨#[c]⟩
def mk (l : List Nat) : Str := ⟨l.toArray⟩
theorem tl_mk (l : List Nat) : tl (mk l) = l := by
  show (l.toArray).toList = l
  simp
theorem len_mk (l : List Nat) : (mk l).length = l.length := by rw [← len_tl, tl_mk]
theorem rd_strD {H : Hp} {Q : VK} {n : Nat} (h : n < 10) (q : Q (.str (sg (48 + n))) H) : xStrI [.int (n : Int)] H Q := by
  have e : ∀ n, n < 10 → ((toString ((n : Nat) : Int) : String) : Str) = sg (48 + n) := by decide +kernel
  refine ⟨_, rfl, ?_, ?_⟩
  · have : ∀ n, n < 10 → (((n : Nat) : Int).natAbs.log2 < 1920) := by decide +kernel
    exact this n h
  · rw [e n h]; exact q
theorem cutV_take (xs : List V) (k : Nat) : cutV xs none (some (k : Int)) = xs.take k := by
  unfold cutV
  rw [HT.sIx_none, List.drop_zero, Nat.sub_zero, HT.sIx_nat]
  by_cases h : k ≤ xs.length
  · rw [Nat.min_eq_left h]
  · rw [Nat.min_eq_right (by omega), List.take_of_length_le (Nat.le_refl _), List.take_of_length_le (by omega)]
theorem cutV_drop (xs : List V) (k : Nat) : cutV xs (some (k : Int)) none = xs.drop k := by
  unfold cutV
  rw [HT.sIx_none, HT.sIx_nat]
  by_cases h : k ≤ xs.length
  · rw [Nat.min_eq_left h, List.take_of_length_le (by rw [List.length_drop]; exact Nat.le_refl _)]
  · rw [Nat.min_eq_right (by omega), List.drop_of_length_le (Nat.le_refl _), List.drop_of_length_le (by omega), List.take_nil]
theorem cutV_mid (xs : List V) (i j : Nat) (h : i ≤ j) : cutV xs (some (i : Int)) (some (j : Int)) = (xs.drop i).take (j - i) := by
  unfold cutV
  rw [HT.sIx_nat, HT.sIx_nat]
  by_cases h1 : i ≤ xs.length
  · rw [Nat.min_eq_left h1]
    by_cases h2 : j ≤ xs.length
    · rw [Nat.min_eq_left h2]
    · rw [Nat.min_eq_right (by omega), List.take_of_length_le (by rw [List.length_drop]; exact Nat.le_refl _), List.take_of_length_le (by rw [List.length_drop]; omega)]
  · rw [Nat.min_eq_right (by omega), Nat.min_eq_right (by omega), List.drop_of_length_le (Nat.le_refl _), List.drop_of_length_le (by omega), List.take_nil, List.take_nil]
end Mine

/-! ## Data that never changes: tuples of tuples, ints, texts -/
namespace Mine
open PySem PySem.Spec PyProof.Rows
open L2 hiding CX XE Takes takes_of passes_call ps_raise ps_try_as ps_try_many ps_try_only pmk_own passAt MkP PMk mk_of Zc HdsOk takes_none5
open L2N hiding St
open TL (tl)
set_option linter.all false
/-- tuples stay -/
def Tp (H H' : Hp) : Prop := ∀ a xs, H a = some (.tup xs) → H' a = some (.tup xs)
theorem Tp.refl (H : Hp) : Tp H H := fun _ _ h => h
theorem Tp.trans {A B C : Hp} (h : Tp A B) (k : Tp B C) : Tp A C := fun a xs q => k a xs (h a xs q)
theorem Tp.of {A B : Hp} (h : Same A B) : Tp A B := fun a xs q => h a _ q
theorem Tp.new {A B : Hp} {p : Addr} {o : HO} (h : Tp A B) (n : B p = none) : Tp A (upd B p o) := fun a xs q => by
  have := h a xs q
  rw [upd_ne (ne_of_none this n)]
  exact this
theorem Tp.lst {A B : Hp} {p : Addr} {o : HO} {ys : List V} (h : Tp A B) (n : B p = some (.lst ys)) : Tp A (upd B p o) := fun a xs q => by
  have := h a xs q
  rw [upd_ne (fun e => by rw [e, n] at this; cases this)]
  exact this
theorem Tp.dct {A B : Hp} {p : Addr} {o : HO} {ys : List (Key × V)} (h : Tp A B) (n : B p = some (.dK ys)) : Tp A (upd B p o) := fun a xs q => by
  have := h a xs q
  rw [upd_ne (fun e => by rw [e, n] at this; cases this)]
  exact this
theorem Tp.put {A B : Hp} {p : Addr} {o : HO} (h : Tp A B) (n : A p = none) : Tp A (upd B p o) := fun a xs q => by
  rw [upd_ne (ne_of_none q n)]
  exact h a xs q
mutual
/-- data, held by a value -/
inductive Im (H : Hp) : V → PyData → Prop
  | non : Im H .non .none
  | bl (b : Bool) : Im H (.bl b) (.bool b)
  | int (i : Int) : Im H (.int i) (.int i)
  | str (x : Str) : Im H (.str x) (.str x)
  | tup {a : Addr} {xs : List V} {ds : List PyData} : H a = some (.tup xs) → ImAll H xs ds → Im H (.ref a) (.tuple ds)
inductive ImAll (H : Hp) : List V → List PyData → Prop
  | nil : ImAll H [] []
  | cons {v : V} {vs : List V} {d : PyData} {ds : List PyData} : Im H v d → ImAll H vs ds → ImAll H (v :: vs) (d :: ds)
end
section
variable {H H' : Hp} {K : PySem.W.Frag}
mutual
theorem Im.mono (e : Tp H H') : ∀ (d : PyData) (v : V), Im H v d → Im H' v d
  | .none, _, h => by cases h; exact .non
  | .bool b, _, h => by cases h; exact .bl b
  | .int i, _, h => by cases h; exact .int i
  | .str x, _, h => by cases h; exact .str x
  | .tuple ds, _, h => by
    cases h with
    | tup h1 h2 => exact .tup (e _ _ h1) (ImAll.mono e ds _ h2)
  | .list ds, _, h => by cases h
  | .dict ds, _, h => by cases h
theorem ImAll.mono (e : Tp H H') : ∀ (ds : List PyData) (vs : List V), ImAll H vs ds → ImAll H' vs ds
  | [], _, h => by cases h; exact .nil
  | d :: ds, _, h => by
    cases h with
    | cons h1 h2 => exact .cons (Im.mono e d _ h1) (ImAll.mono e ds _ h2)
end
mutual
theorem Im.dp : ∀ (d : PyData) (v : V), Im H v d → Dp K H v d
  | .none, _, h => by cases h; exact .non
  | .bool b, _, h => by cases h; exact .bl b
  | .int i, _, h => by cases h; exact .int i
  | .str x, _, h => by cases h; exact .str x
  | .tuple ds, _, h => by
    cases h with
    | tup h1 h2 => exact .tup (SqT.of h1) (ImAll.dp ds _ h2)
  | .list ds, _, h => by cases h
  | .dict ds, _, h => by cases h
theorem ImAll.dp : ∀ (ds : List PyData) (vs : List V), ImAll H vs ds → DpAll K H vs ds
  | [], _, h => by cases h; exact .nil
  | d :: ds, _, h => by
    cases h with
    | cons h1 h2 => exact .cons (Im.dp d _ h1) (ImAll.dp ds _ h2)
end
theorem Im.up {v : V} {d : PyData} (h : Im H v d) (e : Tp H H') : Im H' v d := Im.mono e d v h
theorem ImAll.up {vs : List V} {ds : List PyData} (h : ImAll H vs ds) (e : Tp H H') : ImAll H' vs ds := ImAll.mono e ds vs h
theorem Im.to {v : V} {d : PyData} (h : Im H v d) : Dp K H v d := Im.dp d v h
theorem ImAll.to {vs : List V} {ds : List PyData} (h : ImAll H vs ds) : DpAll K H vs ds := ImAll.dp ds vs h
theorem ImAll.length : ∀ {vs : List V} {ds : List PyData}, ImAll H vs ds → vs.length = ds.length
  | _, [], h => by cases h; rfl
  | _, d :: ds, h => by
    cases h with
    | cons _ h2 => rw [List.length_cons, List.length_cons, ImAll.length h2]
theorem ImAll.get : ∀ {vs : List V} {ds : List PyData} {i : Nat} {d : PyData}, ImAll H vs ds → ds[i]? = some d → ∃ v, vs[i]? = some v ∧ Im H v d
  | _, [], i, _, h, e => by simp at e
  | _, d :: ds, 0, _, h, e => by
    cases h with
    | cons h1 h2 => cases e; exact ⟨_, rfl, h1⟩
  | _, d :: ds, i + 1, _, h, e => by
    cases h with
    | cons h1 h2 => exact ImAll.get (i := i) h2 e
theorem ImAll.getV : ∀ {vs : List V} {ds : List PyData} {i : Nat} {v : V}, ImAll H vs ds → vs[i]? = some v → ∃ d, ds[i]? = some d ∧ Im H v d := fun {vs ds i v} h e => by
  have l := (List.getElem?_eq_some_iff.mp e).1
  rw [h.length] at l
  obtain ⟨w, h1, h2⟩ := h.get (List.getElem?_eq_getElem l)
  rw [e] at h1
  cases h1
  exact ⟨_, List.getElem?_eq_getElem l, h2⟩
theorem ImAll.append : ∀ {vs ws : List V} {ds es : List PyData}, ImAll H vs ds → ImAll H ws es → ImAll H (vs ++ ws) (ds ++ es)
  | _, _, [], _, h, k => by cases h; exact k
  | _, _, d :: ds, _, h, k => by
    cases h with
    | cons h1 h2 => exact .cons h1 (ImAll.append h2 k)
theorem ImAll.snoc {vs : List V} {v : V} {ds : List PyData} {d : PyData} (h : ImAll H vs ds) (k : Im H v d) : ImAll H (vs ++ [v]) (ds ++ [d]) := h.append (.cons k .nil)
theorem ImAll.set : ∀ {vs : List V} {ds : List PyData} {v : V} {d : PyData} (i : Nat), ImAll H vs ds → Im H v d → ImAll H (vs.set i v) (ds.set i d)
  | _, [], _, _, i, h, _ => by cases h; exact .nil
  | _, d :: ds, _, _, 0, h, k => by
    cases h with
    | cons h1 h2 => exact .cons k h2
  | _, d :: ds, _, _, i + 1, h, k => by
    cases h with
    | cons h1 h2 => exact .cons h1 (ImAll.set i h2 k)
theorem ImAll.take : ∀ {vs : List V} {ds : List PyData} (i : Nat), ImAll H vs ds → ImAll H (vs.take i) (ds.take i)
  | _, [], i, h => by cases h; rw [List.take_nil, List.take_nil]; exact .nil
  | _, d :: ds, 0, h => .nil
  | _, d :: ds, i + 1, h => by
    cases h with
    | cons h1 h2 => exact .cons h1 (ImAll.take i h2)
theorem ImAll.drop : ∀ {vs : List V} {ds : List PyData} (i : Nat), ImAll H vs ds → ImAll H (vs.drop i) (ds.drop i)
  | _, [], i, h => by cases h; rw [List.drop_nil, List.drop_nil]; exact .nil
  | _, d :: ds, 0, h => h
  | _, d :: ds, i + 1, h => by
    cases h with
    | cons h1 h2 => exact ImAll.drop i h2
theorem im_strs : ∀ ws : List Str, ImAll H (ws.map V.str) (ws.map PyData.str)
  | [] => .nil
  | w :: ws => .cons (.str w) (im_strs ws)
theorem im_ints : ∀ ws : List Int, ImAll H (ws.map V.int) (ws.map PyData.int)
  | [] => .nil
  | w :: ws => .cons (.int w) (im_ints ws)
/-- a tuple of one, two, three, four -/
theorem Im.t1 {v : V} {d : PyData} (h : Im H v (.tuple [d])) : ∃ a x, v = .ref a ∧ H a = some (.tup [x]) ∧ Im H x d := by
  cases h with
  | tup h1 h2 =>
    cases h2 with
    | cons k1 r1 => cases r1; exact ⟨_, _, rfl, h1, k1⟩
theorem Im.t2 {v : V} {d e : PyData} (h : Im H v (.tuple [d, e])) : ∃ a x y, v = .ref a ∧ H a = some (.tup [x, y]) ∧ Im H x d ∧ Im H y e := by
  cases h with
  | tup h1 h2 =>
    cases h2 with
    | cons k1 r1 =>
      cases r1 with
      | cons k2 r2 => cases r2; exact ⟨_, _, _, rfl, h1, k1, k2⟩
theorem Im.t3 {v : V} {d e f : PyData} (h : Im H v (.tuple [d, e, f])) : ∃ a x y z, v = .ref a ∧ H a = some (.tup [x, y, z]) ∧ Im H x d ∧ Im H y e ∧ Im H z f := by
  cases h with
  | tup h1 h2 =>
    cases h2 with
    | cons k1 r1 =>
      cases r1 with
      | cons k2 r2 =>
        cases r2 with
        | cons k3 r3 => cases r3; exact ⟨_, _, _, _, rfl, h1, k1, k2, k3⟩
theorem Im.t4 {v : V} {d e f g : PyData} (h : Im H v (.tuple [d, e, f, g])) : ∃ a x y z u, v = .ref a ∧ H a = some (.tup [x, y, z, u]) ∧ Im H x d ∧ Im H y e ∧ Im H z f ∧ Im H u g := by
  cases h with
  | tup h1 h2 =>
    cases h2 with
    | cons k1 r1 =>
      cases r1 with
      | cons k2 r2 =>
        cases r2 with
        | cons k3 r3 =>
          cases r3 with
          | cons k4 r4 => cases r4; exact ⟨_, _, _, _, _, rfl, h1, k1, k2, k3, k4⟩
theorem Im.tn {v : V} {ds : List PyData} (h : Im H v (.tuple ds)) : ∃ a xs, v = .ref a ∧ H a = some (.tup xs) ∧ ImAll H xs ds := by
  cases h with
  | tup h1 h2 => exact ⟨_, _, rfl, h1, h2⟩
theorem Im.i {v : V} {i : Int} (h : Im H v (.int i)) : v = .int i := by cases h; rfl
theorem Im.s {v : V} {x : Str} (h : Im H v (.str x)) : v = .str x := by cases h; rfl
theorem Im.n {v : V} (h : Im H v .none) : v = .non := by cases h; rfl
theorem Im.b {v : V} {b : Bool} (h : Im H v (.bool b)) : v = .bl b := by cases h; rfl
theorem Im.mk1 {a : Addr} {x : V} {d : PyData} (h : H a = some (.tup [x])) (h1 : Im H x d) : Im H (.ref a) (.tuple [d]) := .tup h (.cons h1 .nil)
theorem Im.mk2 {a : Addr} {x y : V} {d e : PyData} (h : H a = some (.tup [x, y])) (h1 : Im H x d) (h2 : Im H y e) : Im H (.ref a) (.tuple [d, e]) := .tup h (.cons h1 (.cons h2 .nil))
theorem Im.mk3 {a : Addr} {x y z : V} {d e f : PyData} (h : H a = some (.tup [x, y, z])) (h1 : Im H x d) (h2 : Im H y e) (h3 : Im H z f) : Im H (.ref a) (.tuple [d, e, f]) := .tup h (.cons h1 (.cons h2 (.cons h3 .nil)))
theorem Im.mk4 {a : Addr} {x y z u : V} {d e f g : PyData} (h : H a = some (.tup [x, y, z, u])) (h1 : Im H x d) (h2 : Im H y e) (h3 : Im H z f) (h4 : Im H u g) : Im H (.ref a) (.tuple [d, e, f, g]) := .tup h (.cons h1 (.cons h2 (.cons h3 (.cons h4 .nil))))
end
/-! ### what may be shown, by bounds -/
mutual
def good : PyData → Bool
  | .none | .bool _ => true
  | .int i => decide (i.natAbs < 10 ^ 6)
  | .str x => x.cps.all (· < 0x110000)
  | .list xs | .tuple xs => goodAll xs
  | .dict _ => false
def goodAll : List PyData → Bool
  | [] => true
  | x :: xs => good x && goodAll xs
end
mutual
theorem good_ok : ∀ d : PyData, good d = true → d.canLay0 = true ∧ d.intsShort 13 = true ∧ d.showable = true ∧ d.hasDict = false
  | .none, _ => ⟨rfl, rfl, rfl, rfl⟩
  | .bool _, _ => ⟨rfl, rfl, rfl, rfl⟩
  | .int i, h => by
    have h1 : i.natAbs < 10 ^ 6 := of_decide_eq_true h
    refine ⟨rfl, ?_, ?_, rfl⟩
    · exact decide_eq_true (PyData.shown_int_le (Nat.lt_trans h1 (by decide)))
    · refine decide_eq_true (Nat.lt_of_le_of_lt ?_ (show 20 < 1920 by decide))
      have h2 : i.natAbs < 2 ^ 20 := Nat.lt_trans h1 (by decide)
      have := PySem.Flt.log2_lt_of (by decide) h2
      omega
  | .str x, h => ⟨h, rfl, rfl, rfl⟩
  | .list xs, h => goodAll_ok xs h
  | .tuple xs, h => goodAll_ok xs h
theorem goodAll_ok : ∀ xs : List PyData, goodAll xs = true → PyData.canLayAll0 xs = true ∧ PyData.intsShortAll 13 xs = true ∧ PyData.showableAll xs = true ∧ PyData.hasDictAll xs = false
  | [], _ => ⟨rfl, rfl, rfl, rfl⟩
  | x :: xs, h => by
    have h' : (good x && goodAll xs) = true := h
    rw [Bool.and_eq_true] at h'
    obtain ⟨a1, a2, a3, a4⟩ := good_ok x h'.1
    obtain ⟨b1, b2, b3, b4⟩ := goodAll_ok xs h'.2
    refine ⟨?_, ?_, ?_, ?_⟩
    · show (PyData.canLay0 x && PyData.canLayAll0 xs) = true
      rw [a1, b1]; rfl
    · show (PyData.intsShort 13 x && PyData.intsShortAll 13 xs) = true
      rw [a2, b2]; rfl
    · show (PyData.showable x && PyData.showableAll xs) = true
      rw [a3, b3]; rfl
    · show (PyData.hasDict x || PyData.hasDictAll xs) = false
      rw [a4, b4]; rfl
end
/-- bounds of data: its depth, its weight -/
structure Bd (k w : Nat) (d : PyData) : Prop where
  g : good d = true
  dp : d.depth ≤ k
  w : d.weight ≤ w
theorem Bd.mono {k w k' w' : Nat} {d : PyData} (h : Bd k w d) (h1 : k ≤ k') (h2 : w ≤ w') : Bd k' w' d := ⟨h.g, Nat.le_trans h.dp h1, Nat.le_trans h.w h2⟩
theorem bd_all {k w : Nat} : ∀ {ds : List PyData}, (∀ d ∈ ds, Bd k w d) → goodAll ds = true ∧ PyData.depthAll ds ≤ k ∧ PyData.weightAll ds ≤ ds.length * (w + 1)
  | [], _ => ⟨rfl, Nat.zero_le _, Nat.zero_le _⟩
  | d :: ds, h => by
    obtain ⟨h1, h2, h3⟩ := bd_all fun e he => h e (List.mem_cons_of_mem _ he)
    obtain ⟨a1, a2, a3⟩ := h d List.mem_cons_self
    refine ⟨?_, ?_, ?_⟩
    · show (good d && goodAll ds) = true
      rw [a1, h1]; rfl
    · show max _ _ ≤ k
      omega
    · show PyData.weight d + 1 + PyData.weightAll ds ≤ _
      rw [List.length_cons, Nat.add_mul, Nat.one_mul]
      omega
theorem Bd.tup {k w : Nat} {ds : List PyData} (h : ∀ d ∈ ds, Bd k w d) : Bd (k + 1) (ds.length * (w + 1)) (.tuple ds) := by
  obtain ⟨h1, h2, h3⟩ := bd_all h
  exact ⟨h1, Nat.succ_le_succ h2, h3⟩
theorem Bd.lst {k w : Nat} {ds : List PyData} (h : ∀ d ∈ ds, Bd k w d) : Bd (k + 1) (ds.length * (w + 1)) (.list ds) := by
  obtain ⟨h1, h2, h3⟩ := bd_all h
  exact ⟨h1, Nat.succ_le_succ h2, h3⟩
theorem Bd.int {i : Int} (h : i.natAbs < 10 ^ 6) : Bd 0 20 (.int i) := by
  refine ⟨decide_eq_true h, Nat.le_refl _, ?_⟩
  show (if i == 0 then 0 else i.natAbs.log2 + 1) ≤ 20
  split
  · omega
  · have h2 : i.natAbs < 2 ^ 20 := Nat.lt_trans h (by decide)
    have := PySem.Flt.log2_lt_of (by decide) h2
    omega
theorem Bd.str {x : Str} (h : ∀ c ∈ tl x, c < 0x110000) : Bd 0 x.length (.str x) := by
  refine ⟨?_, Nat.le_refl _, Nat.le_refl _⟩
  show x.cps.all (· < 0x110000) = true
  rw [Array.all_eq_true']
  intro c hc
  exact decide_eq_true (h c (Array.mem_toList_iff.mpr hc))
theorem Bd.non : Bd 0 0 .none := ⟨rfl, Nat.le_refl _, Nat.le_refl _⟩
theorem Bd.bl {b : Bool} : Bd 0 0 (.bool b) := ⟨rfl, Nat.le_refl _, Nat.le_refl _⟩
theorem Bd.shows {k w : Nat} {d : PyData} (h : Bd k w d) (h1 : k ≤ 60) (h2 : w ≤ 2 ^ 20) : Shows d := by
  obtain ⟨g1, g2, g3, g4⟩ := good_ok d h.g
  refine ⟨g3, g4, Nat.le_trans h.dp h1, ?_⟩
  refine PyData.shown_fits_of_layable0 (B := 13) (by decide) (by decide) ?_ g2
  show (PyData.canLay0 d && decide (PyData.depth d ≤ 64) && decide (PyData.weight d ≤ 2 ^ 20)) = true
  rw [g1, decide_eq_true (show PyData.depth d ≤ 64 from Nat.le_trans h.dp (by omega)), decide_eq_true (show PyData.weight d ≤ 2 ^ 20 from Nat.le_trans h.w h2)]
  rfl
theorem Bd.shaped {k w : Nat} {d : PyData} (h : Bd k w d) (h1 : k ≤ 60) : SeqAt.shaped d = true := by
  obtain ⟨g1, _, _, _⟩ := good_ok d h.g
  show (PyData.canLay0 d && decide (PyData.depth d ≤ 64)) = true
  rw [g1, decide_eq_true (show PyData.depth d ≤ 64 from Nat.le_trans h.dp (by omega))]
  rfl
/-! ### equal data without bools is the same data -/
mutual
def noB : PyData → Bool
  | .none | .int _ | .str _ => true
  | .list xs | .tuple xs => noBs xs
  | .bool _ | .dict _ => false
def noBs : List PyData → Bool
  | [] => true
  | x :: xs => noB x && noBs xs
end
mutual
theorem eqv_iff : ∀ (d e : PyData), noB d = true → noB e = true → (PyData.eqv d e = true ↔ d = e)
  | .none, e, _, h => by cases e <;> first | exact ⟨fun _ => rfl, fun _ => rfl⟩ | exact ⟨(fun q => nomatch q), (fun q => nomatch q)⟩
  | .int i, e, _, h => by
    cases e with
    | int j =>
      refine ⟨fun q => ?_, fun q => ?_⟩
      · have q' : (i == j) = true := q
        rw [beq_iff_eq.mp q']
      · cases q
        exact beq_self_eq_true i
    | bool b => cases h
    | _ => exact ⟨(fun q => nomatch q), (fun q => nomatch q)⟩
  | .str x, e, _, h => by
    cases e with
    | str y =>
      refine ⟨fun q => ?_, fun q => ?_⟩
      · have q' : (x == y) = true := q
        rw [beq_iff_eq.mp q']
      · cases q
        exact beq_self_eq_true x
    | _ => exact ⟨(fun q => nomatch q), (fun q => nomatch q)⟩
  | .list xs, e, hd, h => by
    cases e with
    | list ys =>
      have r := eqvs_iff xs ys hd h
      exact ⟨fun q => by rw [r.mp q], fun q => r.mpr (PyData.list.inj q)⟩
    | _ => exact ⟨(fun q => nomatch q), (fun q => nomatch q)⟩
  | .tuple xs, e, hd, h => by
    cases e with
    | tuple ys =>
      have r := eqvs_iff xs ys hd h
      exact ⟨fun q => by rw [r.mp q], fun q => r.mpr (PyData.tuple.inj q)⟩
    | _ => exact ⟨(fun q => nomatch q), (fun q => nomatch q)⟩
  | .bool _, _, hd, _ => by cases hd
  | .dict _, _, hd, _ => by cases hd
theorem eqvs_iff : ∀ (xs ys : List PyData), noBs xs = true → noBs ys = true → (PyData.eqvAll xs ys = true ↔ xs = ys)
  | [], [], _, _ => ⟨fun _ => rfl, fun _ => rfl⟩
  | [], _ :: _, _, _ => ⟨(fun q => nomatch q), (fun q => nomatch q)⟩
  | _ :: _, [], _, _ => ⟨(fun q => nomatch q), (fun q => nomatch q)⟩
  | x :: xs, y :: ys, hx, hy => by
    have hx' : (noB x && noBs xs) = true := hx
    have hy' : (noB y && noBs ys) = true := hy
    rw [Bool.and_eq_true] at hx' hy'
    have r1 := eqv_iff x y hx'.1 hy'.1
    have r2 := eqvs_iff xs ys hx'.2 hy'.2
    have e : PyData.eqvAll (x :: xs) (y :: ys) = (PyData.eqv x y && PyData.eqvAll xs ys) := by rw [PyData.eqvAll]
    rw [e, Bool.and_eq_true, r1, r2, List.cons.injEq]
end
theorem noBs_map {α : Type} (f : α → PyData) (h : ∀ a, noB (f a) = true) : ∀ xs : List α, noBs (xs.map f) = true
  | [] => rfl
  | x :: xs => by
    show (noB (f x) && noBs (xs.map f)) = true
    rw [h x, noBs_map f h xs]
    rfl
theorem map_inj' {α β : Type} {f : α → β} (h : ∀ a b, f a = f b → a = b) : ∀ {xs ys : List α}, xs.map f = ys.map f → xs = ys
  | [], [], _ => rfl
  | [], _ :: _, q => nomatch q
  | _ :: _, [], q => nomatch q
  | x :: xs, y :: ys, q => by
    rw [List.map_cons, List.map_cons] at q
    obtain ⟨q1, q2⟩ := List.cons.inj q
    rw [h _ _ q1, map_inj' h q2]
end Mine

/-! ## Comprehensions and loops over data that never changes -/
namespace Mine
open PySem PySem.Spec PyProof.Rows
open L2 hiding CX XE Takes takes_of passes_call ps_raise ps_try_as ps_try_many ps_try_only pmk_own passAt MkP PMk mk_of Zc HdsOk takes_none5
open L2N hiding St
open TL (tl)
set_option linter.all false
section
variable {K : PySem.W.Frag} {H : Hp} {σ : St} {vs : List Nat} {g : TG} {tt : TT} {te tk tv : TE} {Q : VK} {a : Addr} {xs : List V} {α : Type} {as : List α} {enc out : α → PyData} {p : α → Bool}
theorem Same.tp {H H' : Hp} (h : Same H H') : Tp H H' := Tp.of h
theorem ixN_nat {n j : Nat} (h : j < n) : ixN n (j : Int) = some j := by
  unfold ixN
  rw [if_pos (by omega), if_pos (by omega)]
  rfl
/-- what one turn asks: x is a's; the test tells p a, the new value is out a's -/
def ImT (enc out : α → PyData) (p : α → Bool) (as : List α) (g : TG) (tt : TT) (te : TE) (vs : List Nat) (σ : St) (H : Hp) : Prop := ∀ (D : Addr) (x : V) (y : α) (H1 : Hp) (N : Hp → Prop), H D = none → y ∈ as → Same H H1 → Im H1 x (enc y) →
  (p y = false → ∀ H2, Same H1 H2 → N H2) → (p y = true → ∀ v H2, Same H1 H2 → Im H2 v (out y) → ∃ acc, H2 D = some (.lst acc) ∧ acc.length < sizeLine ∧ N (upd H2 D (.lst (acc ++ [v])))) → LcT g tt te vs σ D N x H1
def ImP (enc out : α → PyData) (p : α → Bool) (as : List α) (H : Hp) (D : Addr) (i : Nat) (H' : Hp) : Prop := Same H H' ∧ ∃ ys, H' D = some (.lst ys) ∧ ImAll H' ys (((as.take i).filter p).map out)
theorem ImP.zero {D : Addr} (hD : H D = none) : ImP enc out p as H D 0 (upd H D (.lst [])) := ⟨(Same.refl H).new (o := .lst []) hD, [], upd_same, .nil⟩
theorem ImP.step {D : Addr} {i : Nat} {x : V} {y : α} {H1 : Hp} (hl : as.length ≤ 1000000) (h : ImT enc out p as g tt te vs σ H) (hD : H D = none) (hy : as[i]? = some y) (ix : Im H1 x (enc y)) (hP : ImP enc out p as H D i H1) : LcT g tt te vs σ D (ImP enc out p as H D (i + 1)) x H1 := by
  obtain ⟨k, ys, hys, im⟩ := hP
  have grow : as.take (i + 1) = as.take i ++ [y] := by rw [List.take_add_one, hy]; rfl
  refine h D x y H1 _ hD (List.mem_of_getElem? hy) k ix (fun hp H2 k2 => ⟨k.trans k2, ys, k2 _ _ hys, ?_⟩) (fun hp v H2 k2 iv => ⟨ys, k2 _ _ hys, ?_, (k.trans k2).put hD, ys ++ [v], upd_same, ?_⟩)
  · rw [grow, List.filter_append, List.map_append]
    simp only [List.filter_cons, hp, List.filter_nil, Bool.false_eq_true, if_false, List.map_nil, List.append_nil]
    exact im.up (Tp.of k2)
  · refine szLt ?_
    rw [im.length, List.length_map]
    have h1 := List.length_filter_le p (as.take i)
    rw [List.length_take] at h1
    omega
  · rw [grow, List.filter_append, List.map_append]
    simp only [List.filter_cons, hp, List.filter_nil, if_true, List.map_cons, List.map_nil]
    exact ((im.up (Tp.of k2)).snoc iv).up ((Tp.refl H2).lst (k2 _ _ hys))
/-- [.. for target in a list of data if ..] -/
theorem rd_imL (h : H a = some (.lst xs)) (im : ImAll H xs (as.map enc)) (hl : as.length ≤ 1000000) (t : ImT enc out p as g tt te vs σ H)
    (hd : ∀ D H' ys, H D = none → Same H H' → H' D = some (.lst ys) → ImAll H' ys ((as.filter p).map out) → Q (.ref D) H') : ∃ b, V.ref a = .ref b ∧ (∃ xs, SqL K H b xs) ∧ LcW (Itl K b) g tt te vs σ H Q := by
  refine rd_clL (SqL.of h) (fun D i H' => ImP enc out p as H D i H') (fun D hD => ImP.zero hD) (fun D i H' _ _ h' => SqL.of (h'.1 _ _ h)) (fun D i x H' hD hx hP => ?_) (fun D H' hD hP => ?_)
  · obtain ⟨d, hd, ix⟩ := im.getV hx
    rw [List.getElem?_map] at hd
    obtain ⟨y, hy, rfl⟩ := Option.map_eq_some_iff.mp hd
    exact ImP.step hl t hD hy (ix.up (Tp.of hP.1)) hP
  · obtain ⟨k, ys, hys, im'⟩ := hP
    have l : xs.length = as.length := by rw [im.length, List.length_map]
    rw [l, List.take_length] at im'
    exact hd D H' ys hD k hys im'
theorem rd_imT (h : H a = some (.tup xs)) (im : ImAll H xs (as.map enc)) (hl : as.length ≤ 1000000) (t : ImT enc out p as g tt te vs σ H)
    (hd : ∀ D H' ys, H D = none → Same H H' → H' D = some (.lst ys) → ImAll H' ys ((as.filter p).map out) → Q (.ref D) H') : ∃ b, V.ref a = .ref b ∧ (∃ xs, SqT K H b xs) ∧ LcW (Itt K b) g tt te vs σ H Q := by
  refine rd_clT (SqT.of h) (fun D i H' => ImP enc out p as H D i H') (fun D hD => ImP.zero hD) (fun D i H' _ _ h' => SqT.of (h'.1 _ _ h)) (fun D i x H' hD hx hP => ?_) (fun D H' hD hP => ?_)
  · obtain ⟨d, hd, ix⟩ := im.getV hx
    rw [List.getElem?_map] at hd
    obtain ⟨y, hy, rfl⟩ := Option.map_eq_some_iff.mp hd
    exact ImP.step hl t hD hy (ix.up (Tp.of hP.1)) hP
  · obtain ⟨k, ys, hys, im'⟩ := hP
    have l : xs.length = as.length := by rw [im.length, List.length_map]
    rw [l, List.take_length] at im'
    exact hd D H' ys hD k hys im'
theorem eqv_pair (a b : Str) (i j : Int) : PyData.eqv (.tuple [.str a, .int i]) (.tuple [.str b, .int j]) = (decide (a = b) && decide (i = j)) := by
  rw [Bool.eq_iff_iff, eqv_iff _ _ rfl rfl, Bool.and_eq_true, decide_eq_true_eq, decide_eq_true_eq]
  constructor
  · intro h
    obtain ⟨h1, h2⟩ := List.cons.inj (PyData.tuple.inj h)
    exact ⟨PyData.str.inj h1, PyData.int.inj (List.cons.inj h2).1⟩
  · rintro ⟨rfl, rfl⟩
    rfl
/-- the distinct ones, as they are first met -/
theorem dist_step (ns : List Int) (i : Nat) {n : Int} (h : ns[i]? = some n) : PyProof.Rows.firstMet (fun i => ns.getD i 0) (i + 1) = putI (PyProof.Rows.firstMet (fun i => ns.getD i 0) i) n := by
  have e : ns.getD i 0 = n := by rw [List.getD_eq_getElem?_getD, h]; rfl
  rw [firstMet_succ]
  show step_dedup _ (ns.getD i 0) = _
  rw [e]
  unfold step_dedup putI
  by_cases c : n ∈ PyProof.Rows.firstMet (fun i => ns.getD i 0) i
  · rw [if_pos c, if_pos (show ((PyProof.Rows.firstMet (fun i => ns.getD i 0) i).any fun x => x == n) = true from List.any_eq_true.mpr ⟨n, c, beq_self_eq_true n⟩)]
  · rw [if_neg c, if_neg (fun q => by obtain ⟨y, h1, h2⟩ := List.any_eq_true.mp q; rw [eq_of_beq h2] at h1; exact c h1)]
/-! ### a walk over the keys of a dict, which is locked meanwhile -/
theorem rd_lock {t : TS} {D : Ends} {d : Addr} {u : HO} (h : H d = some u) (mu : Mut (some u)) (q : ∀ od, t ⟨fun σ' H' => H' d = some (.frz od u) ∧ D.nx σ' (upd H' d u), fun v H' => H' d = some (.frz od u) ∧ D.rt v (upd H' d u), fun σ' H' => H' d = some (.frz od u) ∧ D.bk σ' (upd H' d u), fun σ' H' => H' d = some (.frz od u) ∧ D.ct σ' (upd H' d u)⟩ σ (upd H d (.frz od u))) : tLock t D σ H := ⟨d, u, h, mu, q⟩
theorem rd_dIn {ty td : TE} (q : ty σ H fun y H1 => td σ H1 fun x H2 => ∃ a o, x = .ref a ∧ DGet H2 a y o ∧ Q (.bl o.isSome) H2) : tDIn ty td σ H Q := q
theorem rd_forK {td : TE} {s : TS} {D : Ends} (q : td σ H fun x H1 => ∃ d o, x = .ref d ∧ ((∃ kvs, H1 d = some (.frz o (.dK kvs)) ∧ ForW (Itk d o kvs) g s D σ H1) ∨ ∃ kvs, H1 d = some (.frz o (.dT kvs)) ∧ ForW (Itkt d o kvs) g s D σ H1)) : tFor (iKeys td) g s D σ H := q
theorem rd_itK {d : Addr} {o : Obj} {kvs : List (Key × V)} {s : TS} {D : Ends} (h : H d = some (.frz o (.dK kvs))) (Pv : Nat → St → Hp → Prop) (h0 : Pv 0 σ H) (hl : ∀ i σ H, i ≤ kvs.length → Pv i σ H → H d = some (.frz o (.dK kvs)))
    (hs : ∀ i k v σ H', kvs[i]? = some (k, v) → Pv i σ H' → g (kV k) σ H' fun σ2 H2 => s { D with nx := Pv (i + 1), ct := Pv (i + 1), bk := D.nx } σ2 H2) (hd : ∀ σ H', Pv kvs.length σ H' → D.nx σ H') :
    ∃ d' o', V.ref d = .ref d' ∧ ((∃ kvs, H d' = some (.frz o' (.dK kvs)) ∧ ForW (Itk d' o' kvs) g s D σ H) ∨ ∃ kvs, H d' = some (.frz o' (.dT kvs)) ∧ ForW (Itkt d' o' kvs) g s D σ H) := by
  refine ⟨d, o, rfl, .inl ⟨kvs, h, ?_⟩⟩
  refine for_it walk_keys Pv h0 (fun i σ H hi p => hl i σ H hi p) ?_ hd
  rintro i x σ' H1 H2 hi hP ⟨rfl, k, v, hk, rfl⟩
  exact hs i k v σ' H2 hk hP
/-! ### a walk over a list or a tuple -/
def LT (H : Hp) (p : Addr) (xs : List V) : Prop := H p = some (.lst xs) ∨ H p = some (.tup xs)
theorem LT.one {H Hc H' : Hp} {p : Addr} {xs : List V} (h : LT H p xs) (k1 : Same H Hc) (k2 : Same H H') : ∀ o, Hc p = some o → H' p = some o := fun o e => by
  rcases h with h | h
  · cases (k1 _ _ h).symm.trans e
    exact k2 _ _ h
  · cases (k1 _ _ h).symm.trans e
    exact k2 _ _ h
theorem LT.up {H H' : Hp} {p : Addr} {xs : List V} (h : LT H p xs) (k : Same H H') : LT H' p xs := h.elim (fun h => .inl (k _ _ h)) fun h => .inr (k _ _ h)
theorem rd_forV {i : Nat} {p : Addr} {s : TS} {D : Ends} (hv : σ[i]? = some (some (.ref p))) (h : LT H p xs) (Pv : Nat → St → Hp → Prop) (h0 : Pv 0 σ H) (hl : ∀ i σ' H', Pv i σ' H' → ∀ o, H p = some o → H' p = some o)
    (hs : ∀ i x σ' H', xs[i]? = some x → Pv i σ' H' → g x σ' H' fun σ2 H2 => s { D with nx := Pv (i + 1), ct := Pv (i + 1), bk := D.nx } σ2 H2) (hd : ∀ σ' H', Pv xs.length σ' H' → D.nx σ' H') : tFor (iAny K (tVar i)) g s D σ H := by
  rcases h with h | h
  · exact rd_forL (rd_var hv ⟨p, rfl, ⟨xs, SqL.of h⟩, for_it walk_list Pv h0 (fun i σ' H' _ q => SqL.of (hl i σ' H' q _ h)) (fun i x σ' H1 H2 hi hP y => by rw [y.1]; exact hs i x σ' H1 y.2 hP) hd⟩)
  · exact rd_forT (rd_var hv ⟨p, rfl, ⟨xs, SqT.of h⟩, for_it walk_tup Pv h0 (fun i σ' H' _ q => SqT.of (hl i σ' H' q _ h)) (fun i x σ' H1 H2 hi hP y => by rw [y.1]; exact hs i x σ' H1 y.2 hP) hd⟩)
/-- [.. for i in range(n)] -/
theorem rd_imR {H : Hp} {σ : St} {vs : List Nat} {g : TG} {tt : TT} {te : TE} {Q : VK} {n : Int} {p : Nat → Bool} {out : Nat → PyData} (b0 : 0 ≤ n) (b1 : n ≤ 1000000) (t : ImT (fun i : Nat => .int (i : Int)) out p (List.range n.toNat) g tt te vs σ H)
    (hd : ∀ D H' ys, H D = none → Same H H' → H' D = some (.lst ys) → ImAll H' ys (((List.range n.toNat).filter p).map out) → Q (.ref D) H') : ∃ j : Int, [V.int n] = [.int j] ∧ -(2 ^ 62) ≤ j ∧ j < 2 ^ 62 ∧ LcW (Itr 0 j.toNat) g tt te vs σ H Q := by
  refine rd_clR (by omega) (by omega) (fun D i H' => ImP (fun i : Nat => .int (i : Int)) out p (List.range n.toNat) H D i H') (fun D hD => ImP.zero hD) (fun D i H' hD hi hP => ?_) (fun D H' hD hP => ?_)
  · exact ImP.step (y := i) (by rw [List.length_range]; omega) t hD (by rw [List.getElem?_range (by omega)]) (.int _) hP
  · obtain ⟨k, ys, hys, im'⟩ := hP
    rw [List.take_of_length_le (by rw [List.length_range]; exact Nat.le_refl _)] at im'
    exact hd D H' ys hD k hys im'
end
end Mine
namespace Mine
open PySem PySem.Spec PyProof.Rows
open L2 hiding CX XE Takes takes_of passes_call ps_raise ps_try_as ps_try_many ps_try_only pmk_own passAt MkP PMk mk_of Zc HdsOk takes_none5
open L2N hiding St
theorem rd_iteS {σ : St} {H : Hp} {Q : VK} {c : Bool} {a b : Str} (q : Q (.str (if c = true then a else b)) H) : if c = true then tC (.str a) σ H Q else tC (.str b) σ H Q := by
  cases c <;> exact q
end Mine

/-! ## Exceptions of own classes: raised, let out, caught -/
namespace Mine
open PySem PySem.Spec PyProof.Rows
open L2 hiding CX XE Takes takes_of passes_call ps_raise ps_try_as ps_try_many ps_try_only pmk_own passAt MkP PMk mk_of Zc HdsOk takes_none5
open L2N hiding St
set_option linter.all false
/-- an own class over ValueError, however deep, made with a text -/
structure ExcF (K : PySem.W.Frag) (mg : Str → Option Value) (x : Str) (C : Addr) : Prop where
  g : mg x = some (.ref C)
  x : PySem.W.excIn K C [.type "ValueError", .type "Exception", .type "BaseException", .type "object"] "ValueError.__new__" = true
  k : PySem.W.keepIn K (.ref C) = true
  b : PySem.W.subIn K (.ref C) (.type "BaseException") = some true
  t : PySem.W.typeIn K (.ref C) = some (.type "type")
  i : PySem.W.isClsIn K C = true
theorem exm_to {K : PySem.W.Frag} {C D : Addr} {b : Bool} (h1 : PySem.W.subIn K (.ref D) (.type "BaseException") = some true) (h2 : PySem.W.isClsIn K D = true) (h3 : PySem.W.typeIn K (.ref D) = some (.type "type")) (h4 : PySem.W.subIn K (.ref C) (.ref D) = some b) :
    PySem.W.exmOne K (.ref C) (.ref D) = some b := by
  have e1 : (PySem.W.subIn K (.ref D) (.type "BaseException") == some true) = true := by rw [h1] <;> rfl
  have e2 : ((PySem.W.clsIn K D).isSome && PySem.W.typeIn K (.ref D) == some (.type "type")) = true := by
    have h2' : (PySem.W.clsIn K D).isSome = true := h2
    rw [h2', h3] <;> rfl
  show (if (PySem.W.subIn K (.ref D) (.type "BaseException") == some true) = true then (if ((PySem.W.clsIn K D).isSome && PySem.W.typeIn K (.ref D) == some (.type "type")) = true then PySem.W.subIn K (.ref C) (.ref D) else none) else none) = some b
  rw [if_pos e1, if_pos e2]
  exact h4
theorem ExcF.m {K : PySem.W.Frag} {mg : Str → Option Value} {y : Str} {C D : Addr} {b : Bool} (e : ExcF K mg y D) (h : PySem.W.subIn K (.ref C) (.ref D) = some b) : PySem.W.exmOne K (.ref C) (.ref D) = some b := exm_to e.b e.i e.t h
theorem ExcF.one {K : PySem.W.Frag} {mg : Str → Option Value} {x : Str} {C D : Addr} (e : ExcF K mg x C) (f : mg x = some (.ref D)) : D = C := by
  have := e.g.symm.trans f
  cases this
  rfl
/-- promises that tell what is raised, too -/
abbrev sp1x (Φ : V → Hp → VK → XK → Prop) : Sp := fun vs H Q E => ∃ a, vs = [a] ∧ Φ a H Q E
abbrev sp2x (Φ : V → V → Hp → VK → XK → Prop) : Sp := fun vs H Q E => ∃ a b, vs = [a, b] ∧ Φ a b H Q E
abbrev sp3x (Φ : V → V → V → Hp → VK → XK → Prop) : Sp := fun vs H Q E => ∃ a b c, vs = [a, b, c] ∧ Φ a b c H Q E
abbrev sp4x (Φ : V → V → V → V → Hp → VK → XK → Prop) : Sp := fun vs H Q E => ∃ a b c d, vs = [a, b, c, d] ∧ Φ a b c d H Q E
abbrev sp5x (Φ : V → V → V → V → V → Hp → VK → XK → Prop) : Sp := fun vs H Q E => ∃ a b c d e, vs = [a, b, c, d, e] ∧ Φ a b c d e H Q E
section
variable {X : Cx} {CX : CXT} {k : Nat} {ps : List Str} {sp : Sp} {E : St → XK} {x : Str} {st : Stmt} {p pos : Pos} {e : Expr} {es : List Expr} {t tk : TA} {kws : List Keyword}
theorem run_keepsS {pins : List (Addr × Obj)} {σ : St} {H : Hp} {s : Shared} {Q : VK} {args : List Value} {kwargs : List (Str × Value)} {us : List Value} {vs : List V} {f : Addr} {fd : FuncData} (O : Keeps X.prog X.w X.K X.mg X.base CX k f fd ps sp)
    (hr : Rm k X.A) (hx : PassesAt CX X σ (E σ)) (I : Inv X pins σ H s) (b : BindsTo s fd ⟨args, kwargs⟩ (ps.zip us)) (r : Vals vs us) (h : sp vs H Q (E σ)) :
    wpAny (model X.prog X.w) X.A (call (.ref f) args kwargs) (EP X pins σ Q) X.xe s := by
  have run := O.2 X.A X.stack s H ⟨args, kwargs⟩ us vs Q (E σ) hr I.env0 b r h
  refine wpAny_call (codeAny_mono run ?_)
  intro res s2 hres
  match res, hres with
  | .error e, hres => exact hx pins H s e s2 I hres
  | .ok (.ret u), hres => exact I.after hres
theorem pe_calS (C : Cal X.prog X.w X.K X.mg X.base CX k x st ps sp) (hr : Rm k X.A) (hg : Gl X x) (hx : ∀ σ, PassesAt CX X σ (E σ)) (ha : PA X (e :: es) t)
    (hdb : (x == ("__debug__" : Str)) = false := by decide) (he : starEach (e :: es) X.env = (false, eval e X.env) :: starEach es X.env := by rfl) (hpl : (backTo pos (starEach es X.env)).any (·.1) = false := by rfl) :
    PE X (.Call (.Name x p) (e :: es) [] pos) (tCallS sp E t) := by
  obtain ⟨f, fd, F, hm, B, O⟩ := C
  constructor
  intro pins s σ H Q I h
  refine wpAny_Call_Name_kw (ld_glob I hg hm ?_ hdb)
  refine PySem.W.callWith_K (h₀ := X.base) I.ok.mod.kin F.kp (thn (ha.run pos pins s σ H _ I h) ?_) he hpl
  rintro us s1 ⟨vs, H1, I1, r, q⟩
  refine And.intro I1.kIn ?_
  have hl : (us ++ []).length = ps.length := by
    rw [List.append_nil, ← Vals.length r]
    exact O.1 _ _ _ _ q
  have b := B s1 us I1.kIn hl
  rw [List.append_nil] at b
  exact run_keepsS O hr (hx σ) I1 b r q
def tCalKS (n m : Nat) (pm : List Nat) (sp : Sp) (E : St → XK) (t tk : TA) : TE := fun σ H Q => t σ H fun vs H1 => tk σ H1 fun zs H2 => vs.length = n ∧ zs.length = m ∧ sp (gK pm vs zs) H2 Q (E σ)
theorem pe_calKS {n : Nat} {ks : List Str} {pm : List Nat} (C : Cal X.prog X.w X.K X.mg X.base CX k x st ps sp) (hr : Rm k X.A) (hg : Gl X x) (hb : KwOk x st ps n ks pm) (hx : ∀ σ, PassesAt CX X σ (E σ))
    (ha : PA X (e :: es) t) (hkw : PK X kws tk) (hall : (backToKw pos (keywordEach kws X.env)).all (·.1.isSome) = true := by rfl) (hks : (backToKw pos (keywordEach kws X.env)).filterMap (·.1) = ks := by rfl)
    (hdb : (x == ("__debug__" : Str)) = false := by decide) (he : starEach (e :: es) X.env = (false, eval e X.env) :: starEach es X.env := by rfl)
    (hpl : ((backTo pos (starEach (e :: es) X.env)).any (·.1) || (backToKw pos (keywordEach kws X.env)).any (·.1.isNone)) = false := by rfl) :
    PE X (.Call (.Name x p) (e :: es) kws pos) (tCalKS n ks.length pm sp E t tk) := by
  obtain ⟨f, fd, F, hm, B, O⟩ := C
  constructor
  intro pins s σ H Q I h
  refine wpAny_Call_Name_kw (ld_glob I hg hm ?_ hdb)
  refine PySem.W.callWith_KW (h₀ := X.base) I.ok.mod.kin F.kp hall (thn (ha.run pos pins s σ H _ I h) ?_) hpl he
  rintro us s1 ⟨vs, H1, I1, r, q⟩
  refine thn (hkw.run pos pins s1 σ H1 _ I1 q) ?_
  rintro ws s2 ⟨zs, H2, I2, rz, l1, l2, q2⟩
  refine And.intro I2.kIn ?_
  rw [hks]
  exact run_keepsS O hr (hx σ) I2 (kw_binds F hb s2 (by have := Vals.length r; simpa [this] using l1) (by rw [← Vals.length rz]; exact l2)) (gK_rel r rz) q2
theorem pe_calK0S {ks : List Str} {pm : List Nat} (C : Cal X.prog X.w X.K X.mg X.base CX k x st ps sp) (hr : Rm k X.A) (hg : Gl X x) (hb : KwOk x st ps 0 ks pm) (hx : ∀ σ, PassesAt CX X σ (E σ))
    (hkw : PK X kws tk) (hall : (backToKw pos (keywordEach kws X.env)).all (·.1.isSome) = true := by rfl) (hks : (backToKw pos (keywordEach kws X.env)).filterMap (·.1) = ks := by rfl)
    (hdb : (x == ("__debug__" : Str)) = false := by decide)
    (hpl : ((backTo pos (starEach [] X.env)).any (·.1) || (backToKw pos (keywordEach kws X.env)).any (·.1.isNone)) = false := by rfl) :
    PE X (.Call (.Name x p) [] kws pos) (tCalKS 0 ks.length pm sp E tNil tk) := by
  obtain ⟨f, fd, F, hm, B, O⟩ := C
  constructor
  intro pins s σ H Q I h
  refine wpAny_Call_Name_kw (ld_glob I hg hm ?_ hdb)
  refine PySem.W.callWith_KW0 (h₀ := X.base) I.ok.mod.kin F.kp hall ?_ hpl
  have h' : tk σ H fun zs H2 => ([] : List V).length = 0 ∧ zs.length = ks.length ∧ sp (gK pm [] zs) H2 Q (E σ) := h
  refine thn (hkw.run pos pins s σ H _ I h') ?_
  rintro ws s2 ⟨zs, H2, I2, rz, l1, l2, q2⟩
  refine And.intro I2.kIn ?_
  rw [hks]
  exact run_keepsS (us := gK pm [] ws) O hr (hx σ) I2 (kw_binds F hb s2 (us := []) rfl (by rw [← Vals.length rz]; exact l2)) (gK_rel .nil rz) q2
end
/-! ### raise, try -/
def tRaise (C : Addr) (W : WX) : TS := fun _ σ H => W (.ref C) none σ H
theorem ps_raiseX {X : Cx} {W : WX} {x m : Str} {j : Nat} {C : Addr} {p p2 p3 pos : Pos} (hc : X.calm = true) (tk : Takes X W) (e : ExcF X.K X.mg x C) (hg : Gl X x) (hdb : (x == ("__debug__" : Str)) = false := by decide) :
    PS X (.Raise (some (.Call (.Name x p) [.Constant (.str m) j p2] [] p3)) none pos) (tRaise C W) :=
  ps_raise hc tk (pmk_own PySem.F.excBase_ValueError e.x e.g e.k (raises_own e.b e.t) hg hdb)
def tTryO (K : PySem.W.Frag) (C : Addr) (tb : WX → TS) (ts : Addr → Value → Option Addr → TS) (Wout : WX) : TS := fun D σ H => tb (wOnly K (.ref C) ts Wout D) D σ H
def tTryM (K : PySem.W.Frag) (l : List (Value × (Addr → Value → Option Addr → TS))) (tb : WX → TS) (Wout : WX) : TS := fun D σ H => tb (wMany K Wout D l) D σ H
def tTryA (K : PySem.W.Frag) (C : Addr) (i : Nat) (tb : WX → TS) (ts : Addr → Value → Option Addr → TS) (Wout : WX) : TS := fun D σ H => tb (wAs K (.ref C) i ts Wout D) D σ H
section
variable {X : Cx} {K : PySem.W.Frag} {x n : Str} {C : Addr} {i : Nat} {body suite : List Stmt} {b₀ : Stmt} {np pos pos' : Pos} {tb : WX → TS} {ts : Addr → Value → Option Addr → TS} {Wout : WX}
theorem names_of (e : ExcF X.K X.mg x C) (hg : Gl X x) (hdb : (x == ("__debug__" : Str)) = false := by decide) : Names X x (.ref C) := ⟨hg, hdb, .inl e.g⟩
theorem ps_tryO (hs : X.stack = X.env :: X.outer) (hf : X.env.frame = some X.env.locals) (hc : Names X x (.ref C)) (tk : Takes X Wout) (ek : X.K = K)
    (hb : ∀ (W : WX) (pn : List (Addr × Obj)) (xe : Value → Shared → Prop), Takes (X.tr pn xe) W → PassesOwn (model X.prog X.w) X.A X.env xe → PSs (X.tr pn xe) body (tb W))
    (hsu : ∀ (a : Addr) (oe : Obj) (cls : Value) (d : Option Addr) (pn : List (Addr × Obj)), Zn cls d oe → (∃ vs, oe.data = .fields vs) → PSs (X.suite a ((a, oe) :: pn)) (b₀ :: suite) (ts a cls d)) :
    PS X (.Try body [.ExceptHandler (some (.Name x np)) none (b₀ :: suite) pos'] [] [] pos) (tTryO K C tb ts Wout) := by
  subst ek
  refine ⟨fun pins s σ H D I h => (ps_try_many hs hf tk (tb := tb) hb (.cons hc hsu .nil)).run pins s σ H D I ?_⟩
  exact h
theorem ps_tryM {h₀ : ExceptHandler} {hds : List ExceptHandler} {l : List (Value × (Addr → Value → Option Addr → TS))} (hs : X.stack = X.env :: X.outer) (hf : X.env.frame = some X.env.locals) (tk : Takes X Wout) (ek : X.K = K)
    (hb : ∀ (W : WX) (pn : List (Addr × Obj)) (xe : Value → Shared → Prop), Takes (X.tr pn xe) W → PassesOwn (model X.prog X.w) X.A X.env xe → PSs (X.tr pn xe) body (tb W))
    (hh : HdsOk X (h₀ :: hds) l) : PS X (.Try body (h₀ :: hds) [] [] pos) (tTryM K l tb Wout) := by
  subst ek
  exact ps_try_many hs hf tk hb hh
theorem ps_tryA (hs : X.stack = X.env :: X.outer) (hf : X.env.frame = some X.env.locals) (hN : X.N.Nodup) (hi : X.N[i]? = some n) (hln : X.env.kindOf n = some .local) (hc : Names X x (.ref C)) (tk : Takes X Wout) (ek : X.K = K)
    (hb : ∀ (W : WX) (pn : List (Addr × Obj)) (xe : Value → Shared → Prop), Takes (X.tr pn xe) W → PassesOwn (model X.prog X.w) X.A X.env xe → PSs (X.tr pn xe) body (tb W))
    (hsu : ∀ (a : Addr) (oe : Obj) (cls : Value) (d : Option Addr) (pn : List (Addr × Obj)), Zn cls d oe → (∃ vs, oe.data = .fields vs) → PSs (X.suite a ((a, oe) :: pn)) (b₀ :: suite) (ts a cls d)) :
    PS X (.Try body [.ExceptHandler (some (.Name x np)) (some n) (b₀ :: suite) pos'] [] [] pos) (tTryA K C i tb ts Wout) := by
  subst ek
  exact ps_try_as hs hf hN hi hln hc tk hb hsu
end
section
variable {σ : St} {H : Hp} {Q : VK} {D : Ends} {K : PySem.W.Frag} {C : Addr} {W Wout : WX} {tb : WX → TS} {ts : Addr → Value → Option Addr → TS} {cls : Value} {d : Option Addr} {i : Nat} {l : List (Value × (Addr → Value → Option Addr → TS))} {c : Value}
theorem rd_callS {sp : Sp} {E : St → XK} {tA : TA} (q : tA σ H fun vs H1 => sp vs H1 Q (E σ)) : tCallS sp E tA σ H Q := q
theorem rd_callKS {n m : Nat} {pm : List Nat} {sp : Sp} {E : St → XK} {t tk : TA} (q : t σ H fun vs H1 => tk σ H1 fun zs H2 => vs.length = n ∧ zs.length = m ∧ sp (gK pm vs zs) H2 Q (E σ)) : tCalKS n m pm sp E t tk σ H Q := q
theorem rd_raise (q : W (.ref C) none σ H) : tRaise C W D σ H := q
theorem rd_tryO (q : tb (wOnly K (.ref C) ts Wout D) D σ H) : tTryO K C tb ts Wout D σ H := q
theorem rd_tryM (q : tb (wMany K Wout D l) D σ H) : tTryM K l tb Wout D σ H := q
theorem rd_tryA (q : tb (wAs K (.ref C) i ts Wout D) D σ H) : tTryA K C i tb ts Wout D σ H := q
theorem rd_hit {c : Value} (e : PySem.W.exmOne K cls c = some true) (q : ∀ a, H a = none → ts a cls d D σ H) : wOnly K c ts Wout D cls d σ H := ⟨true, e, fun _ => q, fun h => nomatch h⟩
theorem rd_miss {c : Value} (e : PySem.W.exmOne K cls c = some false) (q : Wout cls d σ H) : wOnly K c ts Wout D cls d σ H := ⟨false, e, (fun h => nomatch h), fun _ => q⟩
theorem rd_hitM (e : PySem.W.exmOne K cls c = some true) (q : ∀ a, H a = none → ts a cls d D σ H) : wMany K Wout D ((c, ts) :: l) cls d σ H := ⟨true, e, fun _ => q, fun h => nomatch h⟩
theorem rd_missM (e : PySem.W.exmOne K cls c = some false) (q : wMany K Wout D l cls d σ H) : wMany K Wout D ((c, ts) :: l) cls d σ H := ⟨false, e, (fun h => nomatch h), fun _ => q⟩
theorem rd_hitA {c : Value} (e : PySem.W.exmOne K cls c = some true) (q : ∀ a, H a = none → ts a cls d { nx := fun σ' H' => D.nx (σ'.set i none) H', rt := D.rt, bk := fun σ' H' => D.bk (σ'.set i none) H', ct := fun σ' H' => D.ct (σ'.set i none) H' } (σ.set i (some (.ref a))) H) : wAs K c i ts Wout D cls d σ H := ⟨true, e, q |> fun q _ => q, fun h => nomatch h⟩
theorem rd_sp1x {Φ : V → Hp → VK → XK → Prop} {E : XK} {a : V} (q : Φ a H Q E) : sp1x Φ [a] H Q E := ⟨a, rfl, q⟩
theorem rd_sp2x {Φ : V → V → Hp → VK → XK → Prop} {E : XK} {a b : V} (q : Φ a b H Q E) : sp2x Φ [a, b] H Q E := ⟨a, b, rfl, q⟩
theorem rd_sp3x {Φ : V → V → V → Hp → VK → XK → Prop} {E : XK} {a b c : V} (q : Φ a b c H Q E) : sp3x Φ [a, b, c] H Q E := ⟨a, b, c, rfl, q⟩
theorem rd_sp4x {Φ : V → V → V → V → Hp → VK → XK → Prop} {E : XK} {a b c d : V} (q : Φ a b c d H Q E) : sp4x Φ [a, b, c, d] H Q E := ⟨a, b, c, d, rfl, q⟩
end
end Mine

/-! ## Own exceptions whose __init__ says super().__init__('..') and keeps one value -/
namespace PySem
namespace SupX
open PySem.W PySem.Calls PyProof.Rows PySem.HandSPX
/-- the text of such an __init__ -/
def iArgs (f : Str) (p1 p2 : Pos) : Arguments := { posonlyargs := [], args := [{ arg := "self", annotation := none, pos := p1 }, { arg := f, annotation := none, pos := p2 }], vararg := none, kwonlyargs := [], kw_defaults := [], kwarg := none, defaults := [] }
def iSup (msg : Str) (j : Nat) (q1 q2 q3 q4 q5 q6 : Pos) : Stmt := .Expr (.Call (.Attribute (.Call (.Name "super" q1) [] [] q2) "__init__" q3) [.Constant (.str msg) j q4] [] q5) q6
def iSet (f : Str) (q1 q2 q3 q4 : Pos) : Stmt := .Assign [.Attribute (.Name "self" q1) f q2] (.Name f q3) q4
def iScope (f : Str) : Scope := { kind := .function, names := [(PySem.Str.ofString "self", .local), (f, .local), (PySem.Str.ofString "__class__", .free), (PySem.Str.ofString "super", .globalImplicit)], isGenerator := false, isCoroutine := false, more := [] }
/-- what the written part says of the class at C, of its __init__ at fI -/
structure SupTxt (prog : Program) (K : Frag) (mg : Str → Option Value) (x f : Str) (C fI : Addr) : Prop where
  fs : f ≠ "self" ∧ f ≠ "__class__" ∧ f ≠ "super" ∧ (f == ("__debug__" : Str)) = false
  gC : mg x = some (.ref C)
  gS : mg "super" = none
  cls : ∃ nm q N bs bm sn sub ab col dd k0 k1 k2 k3 k5, K.lookup C = some (excClassObj nm q C N bs bm true sn sub ab col dd k0 k1 k2 k3 k5 "ValueError.__new__") ∧ refsVE bm = true
  sa : findIn K (.ref C) "__setattr__" = some (some (.builtin "object.__setattr__"))
  ga : findIn K (.ref C) "__getattribute__" = some (some (.builtin "BaseException.__getattribute__"))
  gg : findIn K (.ref C) "__getattr__" = some none
  noN : findIn K (.ref C) f = some none
  iC : findIn K (.ref C) "__init__" = some (some (.ref fI))
  tC : typeIn K (.ref fI) = some (.type "function")
  kC : keepIn K (.ref C) = true
  exC : subIn K (.ref C) (.type "BaseException") = some true
  exV : subIn K (.ref C) (.type "ValueError") = some true
  tyC : typeIn K (.ref C) = some (.type "type")
  hdC : hasDictIn K C = true
  icC : isClsIn K C = true
  self : mroIn K C (.ref C) = some true
  sup : ks_superIn K C C "__init__" = some (some (.builtin "ValueError.__init__"))
  third : nsIn K cStatics "thirdparty.any" = some none
  top : (prog.main.scope.names.lookup ("super" : Str)).isSome = false
  fn : ∃ (oc : Value) (od : Option Addr) (dV kV doc pm : Value) (an : Option Addr) (cda cc : Addr) (ct : Value) (osl : Array (Option Value)) (p1 p2 q1 q2 q3 q4 q5 q6 r1 r2 r3 r4 : Pos) (msg : Str) (j : Nat) (qual : Str),
    K.lookup fI = some ⟨oc, od, .func (fnX "__init__" qual (iArgs f p1 p2) [iSup msg j q1 q2 q3 q4 q5 q6, iSet f r1 r2 r3 r4] (iScope f) [("__class__", cc)] dV kV doc pm an (.ref cda) ct), osl⟩ ∧ codeIn K (.ref cda) qual = true ∧
    (∃ ccl cdd ccs vs file tf, K.lookup cda = some ⟨ccl, cdd, .fields vs, ccs⟩ ∧ vs[2]? = some (.str file tf) ∧ ((prog.main.file : Str) == file) = true) ∧
    (∃ cl cld csl, K.lookup cc = some ⟨cl, cld, .cell (some (.ref C)), csl⟩) ∧
    (∀ u v, bindArgs (fnX "__init__" qual (iArgs f p1 p2) [iSup msg j q1 q2 q3 q4 q5 q6, iSet f r1 r2 r3 r4] (iScope f) [("__class__", cc)] dV kV doc pm an (.ref cda) ct) ⟨[u, v], []⟩ = pure [((PySem.Str.ofString "self"), u), (f, v)]) ∧
    (∀ env : Env, ∃ pl, eval (.Call (.Attribute (.Call (.Name "super" q1) [] [] q2) "__init__" q3) [.Constant (.str msg) j q4] [] q5) env = (do
      let ov ← attributeBase (.Call (.Name "super" q1) [] [] q2) "__init__" env (eval (.Call (.Name "super" q1) [] [] q2) env)
      standAt q3.atName
      let (f, first) ← holding [ov] (getMethod ov "__init__" pl)
      callWith q5 f first (backTo q5 (starEach [.Constant (.str msg) j q4] env)) [])) ∧
    (∀ env : Env, swapsWith (.Call (.Attribute (.Call (.Name "super" q1) [] [] q2) "__init__" q3) [.Constant (.str msg) j q4] [] q5) none q6.line env = pure false) ∧
    (∀ env : Env, swapsWith (.Name f r3) (some (.Attribute (.Name "self" r1) f r2)) r4.line env = pure false)
theorem one_fits (v : Value) : [v].length ≤ sizeLine := by
  rw [sizeLine_eq]
  exact Nat.le_of_ble_eq_true rfl
/-- what __init__ leaves of a fresh exception at x -/
structure Done (h h' : Heap) (x C dx : Addr) (f : Str) (v : Value) : Prop where
  keep : ∀ b o, b ≠ x → h.get? b = some o → h'.get? b = some o
  obj : ∃ t1 : Addr, h'.get? x = some { cls := .ref C, dict := some dx, data := .fields #[.ref t1, .none, .none, .none, .bool false, .none] }
  dbig : h.objs.size ≤ dx
  dne : dx ≠ x
  ns : h'.Ns1 dx (fun y => if y = f then some v else none)
section
variable {prog : Program} {w : World} {A : Around} {E : Value → Shared → Prop} {R : Result → Shared → Prop} {s : Shared} {K : Frag} {mg : Str → Option Value} {C fI : Addr} {x f : Str}
section
variable {nm q : Str} {N : Addr} {bs bm : List Value} {hdct : Bool} {sn : List Str} {sub : List Value} {ab : Bool} {col : Option Bool} {dd : Option Addr} {k0 k1 k2 k3 k5 : Option Value} {h : Heap} {g : Array GenState} {d : Drawn} {t : Nat} {os : OsState}
/-- the bound ValueError.__init__, called -/
theorem call_bound {u e t0 : Addr} {rest : List Value} {Q : Value → Shared → Prop} (hm : refsVE bm = true)
    (hC : h.get? C = some (excClassObj nm q C N bs bm hdct sn sub ab col dd k0 k1 k2 k3 k5 "ValueError.__new__")) (he : h.get? e = some (excO C t0)) (hu : h.get? u = some (kxs_mw "ValueError.__init__" e)) (hrest : rest.length ≤ sizeLine)
    (hq : ∀ h' t1, (∀ b o, b ≠ e → h.get? b = some o → h'.get? b = some o) → h'.get? e = some (excO C t1) → Q .none ⟨h', g, d, t, os⟩) :
    wpAny (model prog w) A (call (.ref u) rest) Q E ⟨h, g, d, t, os⟩ := by
  refine wpAny_call <| codeAny_of_tree <| ?_
  show wpAny _ A.in1 (callAny (.ref u) (⟨rest, []⟩ : Args)) _ _ _
  simp only [callAny]
  refine wpAny_bind <| wpAny_load hu ?_
  have e1 : (Value.type "method-wrapper" == Value.type "method" || Value.type "method-wrapper" == Value.type "builtin_function_or_method" || Value.type "method-wrapper" == Value.type "method-wrapper") = true := by decide
  simp only [kxs_mw, e1, if_true]
  refine KFB.if_so (by decide) <| ?_
  refine wpAny_bind <| check_bound_init (nm := nm) F.excBase_ValueError.toExcCallFacts hC he rfl ?_
  refine wpAny_bind <| wpAny_pure <| wpAny_pure ?_
  refine And.intro (plainId_quiet F.excBase_ValueError.init.plain _) <| codeAny_builtin F.excBase_ValueError.initEntry ?_
  exact exc_init_tree (cls := .ref C) (t0 := t0) (dv := none) (c2 := .none) (c3 := .none) (b4 := .bool false) he hrest fun h' k e' _ => hq h' _ k e'
end
theorem kept_on {K : Frag} {h h' : Heap} {x : Addr} (X : K.In h) (hx : K.lookup x = none) (k : ∀ b o, b ≠ x → h.get? b = some o → h'.get? b = some o) : K.In h' := fun a o e =>
  k a o (fun z => by rw [z, hx] at e; cases e) (X a o e)
theorem look_f {f : Str} (hs : f ≠ "self") : List.lookup f [(PySem.Str.ofString "self", NameKind.local), (f, .local), (PySem.Str.ofString "__class__", .free), (PySem.Str.ofString "super", .globalImplicit)] = some NameKind.local := by
  rw [List.lookup_cons, show (f == PySem.Str.ofString "self") = false from beq_eq_false_iff_ne.mpr hs, List.lookup_cons, beq_self_eq_true]
theorem look_o {f y : Str} (hs : y ≠ f) (h0 : (y == PySem.Str.ofString "self") = false) {r : Option NameKind} (h : List.lookup y [(PySem.Str.ofString "__class__", NameKind.free), (PySem.Str.ofString "super", .globalImplicit)] = r) :
    List.lookup y [(PySem.Str.ofString "self", NameKind.local), (f, .local), (PySem.Str.ofString "__class__", .free), (PySem.Str.ofString "super", .globalImplicit)] = r := by
  rw [List.lookup_cons, h0, List.lookup_cons, show (y == f) = false from beq_eq_false_iff_ne.mpr hs]
  exact h
theorem sup_init (T : SupTxt prog K mg x f C fI) {y t0 : Addr} {v : Value} (X : K.In s.heap) (G : s.heap.Ns mainGlobals mg) {mb : Str → Option Value} (B : s.heap.Ns builtinsNs mb) (hb : mb "super" = bootBuiltins "super") (hlim : s.heap.NoLimit) (hx : s.heap.get? y = some (excO C t0)) (hnx : K.lookup y = none) (hroom : A.depth < recursionLimit)
    (hq : ∀ h' tk dx, Done s.heap h' y C dx f v → R (.ok (.ret .none)) { s with heap := h', toks := tk }) :
    codeAny (model prog w) A (.call (.ref fI) ⟨[.ref y, v], []⟩) R s := by
  obtain ⟨oc, od, dV, kV, doc, pm, an, cda, cc, ct, osl, p1, p2, q1, q2, q3, q4, q5, q6, r1, r2, r3, r4, msg, j, qual, ho, hcd, ⟨ccl, cdd, ccs, vs, file, tf, hcode, hvs, hfile⟩, ⟨cl, cld, csl, hcell⟩, hbind, hev, hsw, hsw2⟩ := T.fn
  obtain ⟨nm, q, N, bs, bm, sn, sub, ab, col, dd, k0, k1, k2, k3, k5, hC, hbm⟩ := T.cls
  obtain ⟨f1, f2, f3, f4⟩ := T.fs
  have hcl : clsIn K C = some { name := nm, bases := bs, mro := .ref C :: bm, ns := N, qualname := q, hasDict := true, slotNames := sn, subclasses := sub, abstract := ab, collection := col, hasDel := false } := by unfold clsIn; rw [hC] <;> rfl
  have lf := look_f f1
  have lc : List.lookup (PySem.Str.ofString "__class__") (iScope f).names = some NameKind.free := look_o (fun e => f2 e.symm) (by decide +kernel) (by decide +kernel)
  have lsu : List.lookup (PySem.Str.ofString "super") (iScope f).names = some NameKind.globalImplicit := look_o (fun e => f3 e.symm) (by decide +kernel) (by decide +kernel)
  have lse : List.lookup (PySem.Str.ofString "self") (iScope f).names = some NameKind.local := by
    show List.lookup (PySem.Str.ofString "self") ((PySem.Str.ofString "self", NameKind.local) :: _) = _
    rw [List.lookup_cons, beq_self_eq_true]
  refine ks_codeAny_call_defAt (fd := fnX "__init__" qual (iArgs f p1 p2) [iSup msg j q1 q2 q3 q4 q5 q6, iSet f r1 r2 r3 r4] (iScope f) [("__class__", cc)] dV kV doc pm an (.ref cda) ct) (binds := [("self", .ref y), (f, v)]) hroom (X _ _ ho) rfl hlim (codeRec_of X hcd) rfl ?_ ?_ ?_ (fun h₁ hns hk => ?_)
  · exact BindsTo.of_eq (hbind _ _)
  · intro p hp
    have hp' : p ∈ [(PySem.Str.ofString "self", NameKind.local), (f, .local), (PySem.Str.ofString "__class__", .free), (PySem.Str.ofString "super", .globalImplicit)] := hp
    simp only [List.mem_cons, List.not_mem_nil, or_false] at hp'
    rcases hp' with rfl | rfl | rfl | rfl <;> exact fun z => nomatch z
  · intro p hp
    simp only [List.mem_cons, List.not_mem_nil, or_false] at hp
    rcases hp with rfl | rfl
    · exact lse
    · exact lf
  have X₁ : K.In h₁ := X.keeps hk
  have hx₁ := hk _ _ hx
  have hD := X₁ _ _ hC
  have mx : (fun z => List.lookup z (List.reverse [((PySem.Str.ofString "self"), Value.ref y), (f, v)])) = fun z => List.lookup z [(f, v), ((PySem.Str.ofString "self"), Value.ref y)] := rfl
  have mS : List.lookup (PySem.Str.ofString "self") [(f, v), ((PySem.Str.ofString "self"), Value.ref y)] = some (.ref y) := by
    rw [List.lookup_cons, show (PySem.Str.ofString "self" == f) = false from beq_eq_false_iff_ne.mpr fun e => f1 e.symm, List.lookup_cons, beq_self_eq_true]
  have mF : List.lookup f [(f, v), ((PySem.Str.ofString "self"), Value.ref y)] = some v := by
    rw [List.lookup_cons, beq_self_eq_true]
  have I₁ : InstAt h₁ y (excO C t0) C none := ⟨hx₁, rfl, rfl, trivial⟩
  have hxC : y ≠ C := ks_ne X₁ I₁ hcl
  obtain ⟨pl, hev⟩ := hev (callEnv (fnX "__init__" qual (iArgs f p1 p2) [iSup msg j q1 q2 q3 q4 q5 q6, iSet f r1 r2 r3 r4] (iScope f) [("__class__", cc)] dV kV doc pm an (.ref cda) ct) s.heap.objs.size fI)
  refine ks_wpAt_execs_cons <| ks_wpAt_Expr_any (ks_wpAt_MethodCall (pl := pl) ?_ hev) rfl (hsw _)
  refine ks_wpAt_super_base (f := fI) (cc := cda) lsu lc (by decide +kernel) rfl (X₁ _ _ ho) rfl rfl rfl (X₁ _ _ hcode) rfl hvs hfile T.top ?_
  have boot : bootBuiltins "super" = some (.type "super") := by decide +kernel
  refine ks_loadName_global rfl lsu <| loadGlobal_builtin (G.keeps hk) T.gS (B.keeps hk) (hb.trans boot) (And.intro rfl ?_)
  refine wpAny_loadName_free rfl lc rfl ⟨_, X₁ _ _ hcell, rfl⟩ ?_
  refine wpAny_loadName_local rfl lse hns mS ?_
  refine ks_wpAny_isType_cls hD rfl (And.intro rfl ?_)
  refine ks_wpAny_call_super hD rfl hx₁ rfl (fun c e => nomatch e) (looks_mroIn X₁ T.self) fun h₂ e₂ k₂ => ?_
  have X₂ : K.In h₂ := X₁.keeps k₂
  have hx₂ := k₂ _ _ hx₁
  have I₂ : InstAt h₂ y (excO C t0) C none := ⟨hx₂, rfl, rfl, trivial⟩
  have hin : Looks (model prog w) h₂ (isInstance (.ref y) (.type "ValueError")) true := I₂.type.andThen (looks_subIn X₂ T.exV)
  have hal : alongIn K "__init__" (((Value.ref C :: bm).dropWhile (· != .ref C)).drop 1) = some (some (.builtin "ValueError.__init__")) := by
    have z := T.sup
    unfold ks_superIn at z
    rw [hcl] at z
    exact z
  refine kxs_getMethod kxs_ValueError e₂ (looks_opaque X₂ T.third) (l₀ := .ref C :: bm) (fun A Q E s k q => wpAny_bind ((looks_clsIn X₂ hcl) A _ E s k (wpAny_pure q))) rfl X₂ hal hin hxC (by decide +kernel) ?_
  have k₃ : ∀ b o, h₂.get? b = some o → (h₂.push (kxs_mw "ValueError.__init__" y)).get? b = some o := fun b o e => Heap.get?_push_of_some _ e
  have hu : (h₂.push (kxs_mw "ValueError.__init__" y)).get? h₂.objs.size = some (kxs_mw "ValueError.__init__" y) := Heap.get?_push_at rfl rfl
  generalize h₂.push (kxs_mw "ValueError.__init__" y) = h₃ at k₃ hu ⊢
  have N : News ({} : Heap) (h₂.objs.size + 1) h₃ [(h₂.objs.size, kxs_mw "ValueError.__init__" y)] := fun p hp => by
    rw [List.mem_singleton.mp hp]
    exact ⟨hu, Nat.ne_of_lt (Nat.lt_succ_self _), rfl⟩
  refine kxs_callWith1 (i := "ValueError.__init__") (x := y) N (List.mem_singleton.mpr rfl) (args_cons (wpAny_Constant_str (args_nil ⟨hu, ?_⟩)))
  have X₃ := X₂.keeps k₃
  refine call_bound hbm (X₃ _ _ hC) (k₃ _ _ hx₂) hu (one_fits _) fun h₄ t1 k₄ hx₄ => ?_
  have X₄ : K.In h₄ := kept_on X₃ hnx k₄
  have hyL : s.heap.objs.size ≠ y := Nat.ne_of_gt (Heap.lt_size hx)
  have k14 : ∀ b o, b ≠ y → h₁.get? b = some o → h₄.get? b = some o := fun b o hb e => k₄ b o hb (k₃ _ _ (k₂ _ _ e))
  have hn₄ : h₄.Ns s.heap.objs.size (fun z => List.lookup z [(f, v), ((PySem.Str.ofString "self"), Value.ref y)]) := by
    obtain ⟨o, es, ep, ho1, r⟩ := hns
    exact ⟨o, es, ep, k14 _ _ hyL ho1, r⟩
  refine ks_wpAt_execs_cons <| ks_wpAt_Assign_Attr (wpAt_of_wpAny <| wpAny_Name (wpAny_loadName_local rfl lf hn₄ mF ?_) f4) (hsw2 _)
  refine wpAny_Name (wpAny_loadName_local rfl lse hn₄ mS ?_) (by decide +kernel)
  refine set_plain X₄ (ox := excO C t1) (od := none) ⟨hx₄, rfl, rfl, trivial⟩ T.sa ?_
  refine exc_osa X₄ hx₄ hcl (show refsVE (.ref C :: bm) = true from hbm) rfl T.noN fun h₅ tk₅ dx k₅ dn dne hx₅ hn₅ => ?_
  refine wpAt_of_wpAny <| wpAny_execs_nil ?_
  have big : s.heap.objs.size ≤ h₄.objs.size := by
    obtain ⟨o, es, ep, ho1, r⟩ := hn₄
    exact Nat.le_of_lt (Heap.lt_size ho1)
  exact hq h₅ tk₅ dx ⟨fun b o hb e => k₅ b o hb (k14 b o hb (hk _ _ e)), ⟨t1, hx₅⟩, Nat.le_trans big dn, dne, hn₅⟩
/-- a made one -/
structure Made (h h' : Heap) (e C d : Addr) (f : Str) (v : Value) : Prop where
  keep : ∀ b o, h.get? b = some o → h'.get? b = some o
  new : h.objs.size ≤ e
  obj : ∃ oe vs, h'.get? e = some oe ∧ oe.cls = .ref C ∧ oe.dict = some d ∧ oe.data = .fields vs ∧ vs[1]? = some .none ∧ vs[2]? = some .none
  dbig : h.objs.size ≤ d
  dne : d ≠ e
  ns : h'.Ns1 d (fun y => if y = f then some v else none)
theorem sup_made (T : SupTxt prog K mg x f C fI) {v : Value} (X : K.In s.heap) (G : s.heap.Ns mainGlobals mg) {mb : Str → Option Value} (B : s.heap.Ns builtinsNs mb) (hb : mb "super" = bootBuiltins "super") (hlim : s.heap.NoLimit) (hroom : A.depth + 1 < recursionLimit)
    (hq : ∀ h' tk e d, Made s.heap h' e C d f v → R (.ok (.ret (.ref e))) { s with heap := h', toks := tk }) :
    codeAny (model prog w) A (.call (.ref C) ⟨[v], []⟩) R s := by
  obtain ⟨nm, q, N, bs, bm, sn, sub, ab, col, dd, k0, k1, k2, k3, k5, hC, hbm⟩ := T.cls
  obtain ⟨hp, g, dr, tk, os⟩ := s
  have k : ∀ b o, hp.get? b = some o → ((hp.push (kdv_tup [v])).push (excO C hp.objs.size)).get? b = some o := fun b o e => Heap.get?_push_of_some _ <| Heap.get?_push_of_some _ e
  have hget : ((hp.push (kdv_tup [v])).push (excO C hp.objs.size)).get? (hp.objs.size + 1) = some (excO C hp.objs.size) := by heap_get
  have hnx : K.lookup (hp.objs.size + 1) = none := by
    cases e : K.lookup (hp.objs.size + 1) with
    | none => rfl
    | some o => exact absurd (Nat.lt_of_succ_lt (Heap.lt_size (show hp.get? (hp.objs.size + 1) = some o from X _ _ e))) (Nat.lt_irrefl _)
  refine call_own F.excBase_ValueError (fun X => refsVE_contains X bm hbm) (X _ _ hC) (looks_findIn X T.iC) (fun self => bind_fn X self T.tC) (one_fits v) ?_
  refine sup_init (s := ⟨(hp.push (kdv_tup [v])).push (excO C hp.objs.size), g, dr, tk, os⟩) T (X.keeps k) (G.keeps k) (B.keeps k) hb (hlim.keeps k) hget hnx ?_ fun h' tk' dx D => ?_
  · exact hroom
  · have old : ∀ b o, hp.get? b = some o → h'.get? b = some o := fun b o e => D.keep b o (Nat.ne_of_lt (Nat.lt_succ_of_lt (Heap.lt_size e))) (k b o e)
    have z : hp.objs.size + 1 + 1 ≤ dx := by
      have q := D.dbig
      first
        | (simpa only [Heap.size_push] using q)
        | (rw [Heap.size_push, Heap.size_push] at q; exact q)
    obtain ⟨t1, ho⟩ := D.obj
    exact ⟨rfl, hq h' tk' (hp.objs.size + 1) dx ⟨old, Nat.le_succ _, ⟨_, _, ho, rfl, rfl, rfl, rfl, rfl⟩, Nat.le_trans (Nat.le_trans (Nat.le_succ _) (Nat.le_succ _)) z, D.dne, D.ns⟩⟩
end
end SupX
end PySem
namespace Mine
open PySem PySem.Spec PyProof.Rows
open L2 hiding CX XE Takes takes_of passes_call ps_raise ps_try_as ps_try_many ps_try_only pmk_own passAt MkP PMk mk_of Zc HdsOk takes_none5
open L2N hiding St
open PySem.SupX (SupTxt)
set_option linter.all false
theorem relO_one {f : Str} {v : V} {u : Value} (r : RelV v u) (g : Str) : RelO (List.lookup g [(f, v)]) (if g = f then some u else none) := by
  by_cases e : g = f
  · rw [if_pos e, e, List.lookup_cons, beq_self_eq_true]
    exact r
  · rw [if_neg e, List.lookup_cons, show (g == f) = false from beq_eq_false_iff_ne.mpr e]
    trivial
/-- C(e): a new error, its dict at d -/
def tMkSup (C : Addr) (f : Str) (ta : TA) : St → Hp → XK → Prop := fun σ H Q => ta σ H fun vs H1 => ∃ v, vs = [v] ∧ ∀ d, H1 d = none → Q (.ref C) (some d) (upd H1 d (.xd [(f, v)]))
theorem pmk_sup {X : Cx} {x f : Str} {C fI : Addr} {e : Expr} {ta : TA} {p pos : Pos} {k : Nat} (T : SupTxt X.prog X.K X.mg x f C fI) (hr : Rm k X.A) (hk : 1 ≤ k) (ha : PA X [e] ta) (hg : Gl X x) (hdb : (x == ("__debug__" : Str)) = false := by decide)
    (he : starEach (e :: []) X.env = (false, eval e X.env) :: starEach [] X.env := by rfl) (hpl : (backTo pos (starEach [] X.env)).any (·.1) = false := by rfl) :
    PMk X (.Call (.Name x p) [e] [] pos) (tMkSup C f ta) := by
  intro pins s σ H Q I h
  refine wpAny_Call_Name_kw (ld_glob I hg T.gC ?_ hdb)
  refine PySem.W.callWith_K (h₀ := X.base) I.ok.mod.kin T.kC (thn (ha.run pos pins s σ H _ I h) fun us s1 ⟨vs, H1, I1, r1, v, ev, q1⟩ => ?_) he hpl
  subst ev
  refine And.intro I1.kIn ?_
  obtain ⟨u1, rfl, rv⟩ := vals1 r1
  have lim := I1.nolimit
  obtain ⟨mb, bn, bb⟩ := I1.ok.mod.blt
  have gk := I1.ok.mod.glob.keeps I1.bk
  have bk := bn.keeps I1.bk
  have dp := (hr.mono hk).r.dp
  obtain ⟨hp, g, dr, tk, os⟩ := s1
  show wpAny _ _ (call (.ref C) ([u1] : List Value)) _ _ _
  refine wpAny_call <| PySem.SupX.sup_made T I1.kIn gk bk (bb _ (by decide)) lim (by have := dp; omega) fun h' tk' e d M => ?_
  show MkP X pins σ Q (.ref e) ⟨h', g, dr, tk', os⟩
  obtain ⟨oe, fv, hoe, hc, hd, hdat, h1, h2⟩ := M.obj
  obtain ⟨G', g1, g2⟩ := restrict h' fun b => decide (b ≠ e)
  have same : ∀ b, b ≠ e → G'.get? b = h'.get? b := fun b hb => g1 b (decide_eq_true hb)
  have gone : G'.get? e = none := g2 e (by simp)
  have old : ∀ b o, hp.get? b = some o → G'.get? b = some o := fun b o q => (same b (Nat.ne_of_lt (Nat.lt_of_lt_of_le (Heap.lt_size q) M.new))).trans (M.keep b o q)
  have new : ObjOk X.prog X.w (upd H1 d (.xd [(f, v)])) G' d (.xd [(f, v)]) := ⟨_, M.ns.at (fun o q => (same d M.dne).trans q), fun g => relO_one rv g⟩
  have J : Inv X pins σ (upd H1 d (.xd [(f, v)])) ⟨G', g, dr, tk', os⟩ := I1.laid (t' := tk') old M.dbig new
  refine ⟨e, oe, fv, ⟨G', g, dr, tk', os⟩, _, .ref C, some d, rfl, J, fun b o q => ?_, gone, hoe, ⟨hc, hd, fun vs e => by rw [hdat] at e; cases e; exact h2⟩, hdat, h1, ?_, rfl, I1.bare, raises_own T.exC T.tyC, q1 d (I1.hok.fresh M.dbig)⟩
  · by_cases hb : b = e
    · rw [hb] at q
      exact nomatch gone.symm.trans q
    · exact (same b hb).symm.trans q
  · rw [upd_ne (Ne.symm M.dne)]
    exact I1.hok.fresh M.new
def tRaiseS (C : Addr) (f : Str) (W : WX) (ta : TA) : TS := fun _ σ H => tMkSup C f ta σ H fun cls d H' => W cls d σ H'
theorem ps_raiseS {X : Cx} {x f : Str} {C fI : Addr} {e : Expr} {ta : TA} {W : WX} {p pos pos2 : Pos} {k : Nat} (hc : X.calm = true) (T : SupTxt X.prog X.K X.mg x f C fI) (hr : Rm k X.A) (hk : 1 ≤ k) (tk : Takes X W) (ha : PA X [e] ta) (hg : Gl X x) (hdb : (x == ("__debug__" : Str)) = false := by decide)
    (he : starEach (e :: []) X.env = (false, eval e X.env) :: starEach [] X.env := by rfl) (hpl : (backTo pos (starEach [] X.env)).any (·.1) = false := by rfl) :
    PS X (.Raise (some (.Call (.Name x p) [e] [] pos)) none pos2) (tRaiseS C f W ta) := ps_raise hc tk (pmk_sup T hr hk ha hg hdb he hpl)
/-- e.f of the error that the suite holds -/
def tByS (C : Addr) (f : Str) (a : Addr) (cls : Value) (d : Option Addr) (te : TE) : TE := fun σ H Q => te σ H fun x H1 => x = .ref a ∧ cls = .ref C ∧ ∃ (dd : Addr) (v : V), d = some dd ∧ H1 dd = some (.xd [(f, v)]) ∧ Q v H1
theorem pe_byS {X : Cx} {x f : Str} {C fI a : Addr} {oe : Obj} {cls : Value} {d : Option Addr} {pn : List (Addr × Obj)} {e : Expr} {te : TE} {pos : Pos} (T : SupTxt X.prog X.K X.mg x f C fI) (hz : Zn cls d oe) (hf : ∃ vs, oe.data = .fields vs) (he : PE (X.suite a ((a, oe) :: pn)) e te) 
    (hb : attributeBase e f X.env (eval e X.env) = eval e X.env := by rfl) : PE (X.suite a ((a, oe) :: pn)) (.Attribute e f pos) (tByS C f a cls d te) := by
  refine ⟨fun pins s σ H Q I h => ?_⟩
  refine attr_of hb (thn (he.run pins s σ H _ I h) fun u s1 ⟨x, H1, I1, rx, ex, ec, dd, v, ed, ea, q⟩ => ?_)
  subst ex ec ed
  obtain rfl : u = Value.ref a := rx
  obtain ⟨ha, _⟩ := I1.pin (a, oe) (List.mem_append_left _ List.mem_cons_self)
  obtain ⟨vs, hd⟩ := hf
  obtain ⟨mA, hns, hr⟩ := (show ObjOk X.prog X.w H1 s1.heap dd (.xd [(f, v)]) from I1.hok dd _ ea)
  obtain ⟨od, ho, hl⟩ := lookIn_ns hns
  have l : List.lookup f [(f, v)] = some v := by rw [List.lookup_cons, beq_self_eq_true]
  obtain ⟨u, hu, ru⟩ := RelO.some_of (v := v) (o := mA f) (by rw [← l]; exact hr f)
  have J : PySem.W.InstAt s1.heap a oe C (some od) := ⟨ha, hz.1, by unfold PySem.W.notCls; rw [hd] <;> rfl, by rw [hz.2.1]; exact ho⟩
  exact HandSPX.exc_get I1.kIn J T.ga T.gg T.exC (PySem.W.findObj_own T.hdC T.noN rfl (by rw [hl, hu])) (handed_of ru) ⟨v, H1, I1.tok _, ru, q⟩
section
variable {σ : St} {H : Hp} {Q : VK} {D : Ends} {C a : Addr} {f : Str} {W : WX} {ta : TA} {te : TE} {cls : Value} {d : Option Addr}
theorem rd_raiseS (q : ta σ H fun vs H1 => ∃ v, vs = [v] ∧ ∀ d, H1 d = none → W (.ref C) (some d) σ (upd H1 d (.xd [(f, v)]))) : tRaiseS C f W ta D σ H := q
theorem rd_raised {v : V} {N : V → Prop} (q : N v) : ∃ u, [v] = [u] ∧ N u := ⟨v, rfl, q⟩
theorem rd_byS (q : te σ H fun x H1 => x = .ref a ∧ cls = .ref C ∧ ∃ (dd : Addr) (v : V), d = some dd ∧ H1 dd = some (.xd [(f, v)]) ∧ Q v H1) : tByS C f a cls d te σ H Q := q
end
end Mine
namespace Mine
open PySem PySem.Spec PyProof.Rows
open L2 hiding CX XE Takes takes_of passes_call ps_raise ps_try_as ps_try_many ps_try_only pmk_own passAt MkP PMk mk_of Zc HdsOk takes_none5
open L2N hiding St
open PySem.SupX (SupTxt)
set_option linter.all false
theorem names_sup {X : Cx} {P : Program} {x f : Str} {C fI : Addr} (e : SupTxt P X.K X.mg x f C fI) (hg : Gl X x) (hdb : (x == ("__debug__" : Str)) = false := by decide) : Names X x (.ref C) := ⟨hg, hdb, .inl e.gC⟩
theorem _root_.PySem.SupX.SupTxt.m {P : Program} {K : PySem.W.Frag} {mg : Str → Option Value} {x f : Str} {C D fI : Addr} {b : Bool} (e : SupTxt P K mg x f D fI) (h : PySem.W.subIn K (.ref C) (.ref D) = some b) : PySem.W.exmOne K (.ref C) (.ref D) = some b := exm_to e.exC e.icC e.tyC h
theorem _root_.PySem.SupX.SupTxt.one {P : Program} {K : PySem.W.Frag} {mg : Str → Option Value} {x f : Str} {C D fI : Addr} (e : SupTxt P K mg x f C fI) (h : mg x = some (.ref D)) : D = C := by
  cases e.gC.symm.trans h
  rfl
end Mine

/-! ## enumerate over a tuple and over a text, zip of two tuples -/
namespace PySem
namespace EnumX
open Sem (wp)
set_option maxHeartbeats 1000000 in
theorem new1 {v : Value} {o : Obj} {T : Heap → Prop} (B : Begins v o T) : Meets (Builtin.«enumerate.__new__» ⟨[.type "enumerate", v], []⟩) (fun _ R s => T s.heap ∧
    R (.ok (.ret (.ref (s.heap.push o).objs.size))) { s with heap := (s.heap.push o).push { cls := .type "enumerate", data := .fields #[.none, .bool false, .ref s.heap.objs.size, rawInt 0, .none, .none] } }) :=
  .of_wp fun prog w A R s q => by
    obtain ⟨hp, gs, dr, tk, os⟩ := s
    obtain ⟨t0, q⟩ := q
    have sub := sub_enumerate
    have first : ∀ {A' : Around} {E : Value → Shared → Prop} {Q : Value → Shared → Prop}, Q (.ref hp.objs.size) ⟨hp.push o, gs, dr, tk, os⟩ → wpAny (model prog w) A' (pyIter v) Q E ⟨hp, gs, dr, tk, os⟩ := fun r => B.iter prog w _ _ ⟨hp, gs, dr, tk, os⟩ _ t0 r
    wp_walk using first
    refine wpAny_stack_any fun st => wpAny_pure ?_
    split
    · rename_i c _ _ _ _ _
      cases (c == Value.type "enumerate") <;> (wp_walk using first; exact ⟨_, rfl, q⟩)
    · wp_walk using first
      exact ⟨_, rfl, q⟩
theorem call1 {prog : Program} {w : World} {A : Around} {E : Value → Shared → Prop} {s : Shared} {v : Value} {o : Obj} {T : Heap → Prop} {Q : Value → Shared → Prop} (B : Begins v o T) (t0 : T s.heap)
    (q : ∀ h', IsEnum h' (s.heap.objs.size + 1) s.heap.objs.size 0 .none → h'.get? s.heap.objs.size = some o → (∀ b o, s.heap.get? b = some o → h'.get? b = some o) → Q (.ref (s.heap.objs.size + 1)) { s with heap := h' }) :
    wpAny (model prog w) A (call (.type "enumerate") [v]) Q E s := by
  refine callType_new F.called_enumerate (by decide) (F.typeCall_enumerate_1 _) (F.newCall_enumerate_1 _) (fun obj => F.args_object_init_2 obj _) F.entry_enumerate_new (new1 B) ⟨t0, ?_⟩
  have sz : (s.heap.push o).objs.size = s.heap.objs.size + 1 := Heap.size_push ..
  show _ ∧ _
  rw [sz]
  have he : IsEnum ((s.heap.push o).push { cls := .type "enumerate", data := .fields #[.none, .bool false, .ref s.heap.objs.size, rawInt 0, .none, .none] }) (s.heap.objs.size + 1) s.heap.objs.size 0 .none := by
    have z := Heap.get?_push_size (s.heap.push o) (o := { cls := .type "enumerate", data := .fields #[.none, .bool false, .ref s.heap.objs.size, rawInt 0, .none, .none] }) rfl
    rw [sz] at z
    exact z
  exact ⟨⟨_, he, rfl⟩, q _ he (Heap.get?_push_of_some _ (Heap.get?_push_size _ B.free)) fun b o x => Heap.get?_push_of_some _ (Heap.get?_push_of_some _ x)⟩
end EnumX
end PySem
namespace Mine
open PySem PySem.Spec PyProof.Rows
open L2 hiding CX XE Takes takes_of passes_call ps_raise ps_try_as ps_try_many ps_try_only pmk_own passAt MkP PMk mk_of Zc HdsOk takes_none5
open L2N hiding St
set_option linter.all false
/-- what is told by S, each item in a new pair behind its index -/
def ItE (S : Hp → List V → Prop) : It := ⟨fun i H => ∃ (xs : List V) (x : V), S H xs ∧ xs[i]? = some x, fun i H v H' => ∃ T x, v = .ref T ∧ H T = none ∧ H' = upd H T (.tup [.int (i : Nat), x]) ∧ ∀ xs, S H xs → xs[i]? = some x, fun i H => ∃ xs : List V, S H xs ∧ xs.length = i⟩
/-- what draws the items of S from an iterator at it -/
structure Src (P : Program) (w : World) (K : PySem.W.Frag) (it : Addr) (Sit : Nat → Heap → Prop) (S : Hp → List V → Prop) : Prop where
  has : ∀ i h, Sit i h → ∃ o, h.get? it = some o ∧ ∀ v, o.data ≠ .cell v
  kept : ∀ i h h', Sit i h → (∀ o, h.get? it = some o → h'.get? it = some o) → Sit i h'
  draw : ∀ {X : Cx} {pins : List (Addr × Obj)} {σ : St} {H : Hp} {s : Shared} {xs : List V}, X.prog = P → X.w = w → X.K = K → X.calm = true → Inv X pins σ H s → S H xs → FpOk X pins H it → (∀ i, Sit i s.heap → ∃ (fp : List Addr) (Pr : Nat → Value → Prop) (St : Nat → Heap → Prop),
    Draws P w X.A.in1 it fp xs.length Pr St ∧ St i s.heap ∧ (∀ i h, St i h → Sit i h) ∧ (∀ e c old, IsEnum s.heap e it c old → e ≠ it → e ∉ fp) ∧ ∀ j u x, Pr j u → xs[j]? = some x → RelV x u) ∧ ∀ ys, S H ys → ys = xs
theorem turn_enumS {P : Program} {w : World} {K : PySem.W.Frag} {elts : List Expr} {kk : Nat} {tpos : Pos} {e it : Addr} {Sit : Nat → Heap → Prop} {S : Hp → List V → Prop} (D : Src P w K it Sit S) :
    Turn P w K (.Tuple elts kk tpos) (ItE S) [e, it] e (fun i h => (∃ old, IsEnum h e it ((i : Nat) : Int) old) ∧ Sit i h ∧ e ≠ it) where
  mem := List.mem_cons_self
  obj := fun i h st b hb => by
    obtain ⟨⟨old, he⟩, si, _⟩ := st
    rcases List.mem_cons.mp hb with z | z
    · rw [z]
      exact ⟨_, he, fun v q => nomatch q⟩
    · rw [List.mem_singleton.mp z]
      exact D.has i h si
  keep := fun i h h' st k => ⟨st.1.elim fun old he => ⟨old, k e List.mem_cons_self _ he⟩, D.kept i h h' st.2.1 fun o q => k it (List.mem_cons_of_mem _ List.mem_cons_self) o q, st.2.2⟩
  item := by
    intro X hP hw hK hc i pins s σ H E I hf st hg
    obtain ⟨⟨old, he⟩, si, hne⟩ := st
    obtain ⟨xs, x, hS, hx⟩ := hg
    obtain ⟨dr, inj⟩ := D.draw hP hw hK hc I hS (hf it (List.mem_cons_of_mem _ List.mem_cons_self))
    obtain ⟨fp, Pr, St, dw, st0, back, hef, rel⟩ := dr i si
    have lt : i < xs.length := (List.getElem?_eq_some_iff.mp hx).1
    have el : e < s.heap.objs.size := Heap.lt_size he
    have il : it < s.heap.objs.size := (D.has i _ si).elim fun o q => Heap.lt_size q.1
    refine wpAny_pyNext_enum_itemD dw he st0 lt hne (hef e _ _ he hne) fun u h' tk hu ho st1 hT hsz hk => ?_
    refine ⟨_, rfl, wpAny_letOwnedTupleGo_enum (s := { s with heap := h', toks := tk + 1 }) ho fun h'' he' sb => ?_⟩
    have hT2 : h''.get? s.heap.objs.size = some { cls := .type "tuple", data := .seq #[.int i tk, u] } := (sb.2 _ (Nat.ne_of_gt el)).trans hT
    have new : ObjOk P w (upd H s.heap.objs.size (.tup [.int (i : Nat), x])) h'' s.heap.objs.size (.tup [.int (i : Nat), x]) := ⟨by show 2 ≤ sizeLine; decide, [.int i tk, u], .cons ⟨_, rfl⟩ (.cons (rel i u x hu hx) .nil), ⟨_, hT2, rfl, _, rfl⟩⟩
    subst hP hw
    have I1 : Inv X pins σ (upd H s.heap.objs.size (.tup [.int (i : Nat), x])) { s with heap := h'', toks := tk + 1 } := I.turnedNew (ch := [e, it]) (fun b ob hb q => by
      have b1 : b ≠ e := fun z => hb (by rw [z]; exact List.mem_cons_self)
      have b2 : b ≠ it := fun z => hb (by rw [z]; exact List.mem_cons_of_mem _ List.mem_cons_self)
      exact (sb.2 b b1).trans (hk b ob b1 b2 q)) hf (Nat.le_refl _) new
    refine ⟨.ref s.heap.objs.size, _, I1, rfl, ⟨_, x, rfl, I.hok.fresh (Nat.le_refl _), rfl, fun ys hy => by rw [inj ys hy]; exact hx⟩, ⟨⟨u, ?_⟩, D.kept _ _ _ (back _ _ st1) fun o q => (sb.2 it (Ne.symm hne)).trans q, hne⟩, fun b hb => ?_⟩
    · rw [show ((i + 1 : Nat) : Int) = (i : Int) + 1 by omega]
      exact he'
    · have lb : b < s.heap.objs.size := by
        rcases List.mem_cons.mp hb with z | z
        · rw [z]; exact el
        · rw [List.mem_singleton.mp z]; exact il
      rw [upd_ne (Nat.ne_of_lt lb)]
      exact (hf b hb).1
  done := by
    intro X hP hw hK hc i pins s σ H E I hf st hg
    obtain ⟨⟨old, he⟩, si, hne⟩ := st
    obtain ⟨xs, hS, rfl⟩ := hg
    obtain ⟨dr, _⟩ := D.draw hP hw hK hc I hS (hf it (List.mem_cons_of_mem _ List.mem_cons_self))
    obtain ⟨fp, Pr, St, dw, st0, _⟩ := dr _ si
    obtain ⟨a0, a1, a2, a3, a4, a5⟩ := hf it (List.mem_cons_of_mem _ List.mem_cons_self)
    exact wpAny_pyNext_enum_endD dw he st0 fun h' eb => ⟨rfl, I.turned (t' := s.toks) (fun b o hb q => eb b o hb q) a0 a1 a3 a4 a5⟩
  self := fun A i s Q E st h => st.1.elim fun _ he => wpAny_pyIter_enum he h
theorem src_tup {P : Program} {w : World} {K : PySem.W.Frag} {it a : Addr} : Src P w K it (fun i h => h.IsTupleIter it a i) (fun H xs => SqT K H a xs) where
  has := fun i h ⟨o, ho, hc, hd⟩ => ⟨o, ho, fun v z => by rw [hd] at z; cases z⟩
  kept := fun i h h' x k => x.at k
  draw := fun {X pins σ H s xs} hP hw hK hc I hS f => by
    subst hP hw hK
    obtain ⟨its, rv, p, _⟩ := I.tuple hS
    obtain ⟨oa, pa, pc, _⟩ := id p
    refine ⟨fun i si => ⟨[it, a], fun i v => its.toArray[i]? = some v, fun i h => h.IsTupleIter it a i ∧ h.IsTuple a its.toArray, ?_, ⟨si, p⟩, fun _ _ z => z.1, fun e c old he hne hm => ?_, fun j u x hu hx => ?_⟩, fun ys hy => I.tuple_inj hy hS⟩
    · have ne : a ≠ it := fun z => by
        obtain ⟨oi, h1, h2, _⟩ := si
        rw [z] at pa
        cases pa.symm.trans h1
        rw [pc] at h2
        exact absurd h2 (by decide)
      have z := Draws.tuple (prog := X.prog) (w := X.w) (A := X.A.in1) (I.ok.hd hc) it a ne its.toArray
      rwa [List.size_toArray, ← rv.length] at z
    · rcases List.mem_cons.mp hm with z | z
      · exact hne z
      · rw [List.mem_singleton.mp z] at he
        cases pa.symm.trans he
        have q : Value.type "enumerate" = Value.type "tuple" := pc
        exact absurd q (by decide)
    · obtain ⟨u', h1, h2⟩ := rv.get hx
      have hu : its.toArray[j]? = some u := hu
      rw [List.getElem?_toArray, h1] at hu
      cases hu
      exact h2
theorem src_str {P : Program} {w : World} {K : PySem.W.Frag} {it : Addr} {z : Str} {t : Tok} : Src P w K it (fun i h => h.IsStrIter it (strIterType z) z t i) (fun _ xs => xs = z.cps.toList.map fun c => V.str ⟨#[c]⟩) where
  has := fun i h ⟨o, ho, hc, hd⟩ => ⟨o, ho, fun v z => by rw [hd] at z; cases z⟩
  kept := fun i h h' ⟨o, ho, r⟩ k => ⟨o, k o ho, r⟩
  draw := fun {X pins σ H s xs} hP hw hK hc I hS f => by
    subst hP hw hK hS
    refine ⟨fun i si => ⟨[it], fun i v => ∃ c u, z.cps[i]? = some c ∧ v = .str ⟨#[c]⟩ u, fun i h => h.IsStrIter it (strIterType z) z t i, ?_, si, fun _ _ z => z, fun e c old he hne hm => hne (List.mem_singleton.mp hm), fun j u x hu hx => ?_⟩, fun ys hy => hy⟩
    · have q := Draws.text (prog := X.prog) (w := X.w) (A := X.A.in1) (I.ok.hd hc) it z t
      rwa [show (z.cps.toList.map fun c => V.str ⟨#[c]⟩).length = z.cps.size by simp]
    · obtain ⟨c, u', h1, rfl⟩ := hu
      rw [List.getElem?_map] at hx
      simp at hx
      obtain ⟨c', h2, rfl⟩ := hx
      rw [h1] at h2
      cases h2
      exact ⟨u', rfl⟩
section
variable {X : Cx} {K : PySem.W.Frag} {e : Expr} {ta : TA} {p pos tpos : Pos} {elts : List Expr} {kk : Nat}
def iEnT (K : PySem.W.Frag) (ta : TA) : TI := fun σ H R => ta σ H fun vs H1 => ∃ a xs, vs = [.ref a] ∧ SqT K H1 a xs ∧ R (ItE fun H xs => SqT K H a xs) H1
def iEnS (ta : TA) : TI := fun σ H R => ta σ H fun vs H1 => ∃ z : Str, vs = [.str z] ∧ R (ItE fun _ xs => xs = z.cps.toList.map fun c => V.str ⟨#[c]⟩) H1
theorem new_two {pins : List (Addr × Obj)} {σ : St} {H : Hp} {s : Shared} (I : Inv X pins σ H s) : ∀ b ∈ [s.heap.objs.size + 1, s.heap.objs.size], FpOk X pins H b := fun b hb => by
  have le : s.heap.objs.size ≤ b := by
    rcases List.mem_cons.mp hb with z | z
    · rw [z]; exact Nat.le_add_right _ _
    · rw [List.mem_singleton.mp z]; exact Nat.le_refl _
  exact I.fpOk le (I.hok.fresh le)
theorem pi_enumT (hg : Gl X "enumerate") (hm : X.mg "enumerate" = none) (ha : PA X [e] ta) (ek : X.K = K := by rfl) (hs : starEach [e] X.env = [(false, eval e X.env)] := by rfl) : PI X (.Tuple elts kk tpos) (.Call (.Name "enumerate" p) [e] [] pos) (iEnT K ta) := by
  subst ek
  refine ⟨fun pins s σ H R I h => Call_ (ld_blt I hg hm boot_enumerate (PyProof.Rows.callWith_type1 (thn (ha.run pos pins s σ H _ I h) fun us s1 ⟨vs, H1, I1, r1, a, xs, ex, hq, q⟩ => ?_) hs rfl))⟩
  subst ex
  obtain ⟨u, rfl, r⟩ := vals1 r1
  cases r
  obtain ⟨its, rv, p', hz⟩ := I1.tuple hq
  refine PySem.EnumX.call1 (PySem.begins_tuple a its.toArray) p' fun h' he hit hk => wpAny_pyIter_enum he ?_
  exact ⟨s1.heap.objs.size + 1, [s1.heap.objs.size + 1, s1.heap.objs.size], _, _, H1, rfl, I1.kept (t' := s1.toks) hk, turn_enumS (e := s1.heap.objs.size + 1) (it := s1.heap.objs.size) src_tup, ⟨⟨.none, he⟩, ⟨_, hit, rfl, rfl⟩, Nat.succ_ne_self _⟩, new_two I1, q⟩
theorem pi_enumS (hg : Gl X "enumerate") (hm : X.mg "enumerate" = none) (ha : PA X [e] ta) (hs : starEach [e] X.env = [(false, eval e X.env)] := by rfl) : PI X (.Tuple elts kk tpos) (.Call (.Name "enumerate" p) [e] [] pos) (iEnS ta) := by
  refine ⟨fun pins s σ H R I h => Call_ (ld_blt I hg hm boot_enumerate (PyProof.Rows.callWith_type1 (thn (ha.run pos pins s σ H _ I h) fun us s1 ⟨vs, H1, I1, r1, z, ex, q⟩ => ?_) hs rfl))⟩
  subst ex
  obtain ⟨u, rfl, t, rfl⟩ := vals1 r1
  refine PySem.EnumX.call1 (PySem.begins_text z t) trivial fun h' he hit hk => wpAny_pyIter_enum he ?_
  exact ⟨s1.heap.objs.size + 1, [s1.heap.objs.size + 1, s1.heap.objs.size], _, _, H1, rfl, I1.kept (t' := s1.toks) hk, turn_enumS (e := s1.heap.objs.size + 1) (it := s1.heap.objs.size) src_str, ⟨⟨.none, he⟩, ⟨_, hit, rfl, rfl⟩, Nat.succ_ne_self _⟩, new_two I1, q⟩
def iZipT (K : PySem.W.Frag) (ta : TA) : TI := fun σ H R => ta σ H fun vs H1 => ∃ a b xs ys, vs = [.ref a, .ref b] ∧ ((SqL K H1 a xs ∧ SqL K H1 b ys ∧ R (Itz K a b) H1) ∨ (SqT K H1 a xs ∧ SqT K H1 b ys ∧ R (RZ.ItzT K a b) H1))
theorem pi_zipT {e2 : Expr} (hg : Gl X "zip") (hm : X.mg "zip" = none) (ha : PA X [e, e2] ta) (ek : X.K = K := by rfl)
    (hs : starEach [e, e2] X.env = (false, eval e X.env) :: starEach [e2] X.env := by rfl) (hpl : (backTo pos (starEach [e2] X.env)).any (·.1) = false := by rfl) : PI X (.Tuple elts kk tpos) (.Call (.Name "zip" p) [e, e2] [] pos) (iZipT K ta) := by
  subst ek
  exact RZ.pi_zipA hg hm ha hs hpl
end
section
variable {K : PySem.W.Frag} {a b : Addr} {xs ys : List V} {H : Hp} {σ : St} {g : TG} {s : TS} {D : Ends} {tA : TA} {tt : TT} {te : TE} {vs : List Nat} {Q : VK}
theorem walk_ItE {S : Hp → List V → Prop} : Walk (ItE S) xs.length (fun H => S H xs) (YPair (fun i => some (.int (i : Nat))) (fun i => xs[i]?)) := by
  refine ⟨fun i _ hi q => ⟨xs, xs[i], q, List.getElem?_eq_getElem hi⟩, fun _ q => ⟨xs, q, rfl⟩, fun i H v H' _ q y => ?_⟩
  obtain ⟨T, x, y1, y2, y3, y4⟩ := y
  exact ⟨T, .int (i : Nat), x, y1, y2, y3, rfl, y4 xs q⟩
theorem walk_ItzT {n : Nat} (hn : n = min xs.length ys.length) : Walk (RZ.ItzT K a b) n (fun H => SqT K H a xs ∧ SqT K H b ys) (YPair (fun i => xs[i]?) (fun i => ys[i]?)) := by
  subst hn
  refine ⟨fun i _ hi q => ?_, fun _ q => ⟨xs, ys, q.1, q.2, by omega⟩, fun i H v H' _ q y => ?_⟩
  · have l1 : i < xs.length := by omega
    have l2 : i < ys.length := by omega
    exact ⟨xs, ys, xs[i], ys[i], q.1, q.2, List.getElem?_eq_getElem l1, List.getElem?_eq_getElem l2⟩
  · obtain ⟨T, x, z, y1, y2, y3, y4, y5⟩ := y
    exact ⟨T, x, z, y1, y2, y3, y4 xs q.1, y5 ys q.2⟩
theorem rd_forET (q : tA σ H fun vs H1 => ∃ a xs, vs = [.ref a] ∧ SqT K H1 a xs ∧ ForW (ItE fun H xs => SqT K H a xs) g s D σ H1) : tFor (iEnT K tA) g s D σ H := q
theorem rd_forES (q : tA σ H fun vs H1 => ∃ z : Str, vs = [.str z] ∧ ForW (ItE fun _ xs => xs = z.cps.toList.map fun c => V.str ⟨#[c]⟩) g s D σ H1) : tFor (iEnS tA) g s D σ H := q
theorem rd_lcET (q : tA σ H fun ws H1 => ∃ a xs, ws = [.ref a] ∧ SqT K H1 a xs ∧ LcW (ItE fun H xs => SqT K H a xs) g tt te vs σ H1 Q) : tLc (iEnT K tA) g tt te vs σ H Q := q
theorem rd_lcES (q : tA σ H fun ws H1 => ∃ z : Str, ws = [.str z] ∧ LcW (ItE fun _ xs => xs = z.cps.toList.map fun c => V.str ⟨#[c]⟩) g tt te vs σ H1 Q) : tLc (iEnS tA) g tt te vs σ H Q := q
theorem rd_itET (h : SqT K H a xs) (Pv : Nat → St → Hp → Prop) (h0 : Pv 0 σ H) (hl : ∀ i σ H, i ≤ xs.length → Pv i σ H → SqT K H a xs)
    (hs : ∀ i x T σ H, xs[i]? = some x → Pv i σ H → H T = none → g (.ref T) σ (upd H T (.tup [.int (i : Int), x])) fun σ2 H2 => s { D with nx := Pv (i + 1), ct := Pv (i + 1), bk := D.nx } σ2 H2) (hd : ∀ σ H, Pv xs.length σ H → D.nx σ H) :
    ∃ c ys, [V.ref a] = [.ref c] ∧ SqT K H c ys ∧ ForW (ItE fun H xs => SqT K H c xs) g s D σ H := by
  refine ⟨a, xs, rfl, h, for_it (walk_ItE (S := fun H xs => SqT K H a xs)) Pv h0 hl ?_ hd⟩
  rintro i x τ H1 H2 hi hP ⟨T, u, y, rfl, hT, rfl, hu, hy⟩
  cases hu
  exact hs i y T τ H1 hy hP hT
theorem rd_itES {z : Str} (Pv : Nat → St → Hp → Prop) (h0 : Pv 0 σ H)
    (hs : ∀ i c T σ H, z.cps.toList[i]? = some c → Pv i σ H → H T = none → g (.ref T) σ (upd H T (.tup [.int (i : Int), .str ⟨#[c]⟩])) fun σ2 H2 => s { D with nx := Pv (i + 1), ct := Pv (i + 1), bk := D.nx } σ2 H2) (hd : ∀ σ H, Pv z.cps.toList.length σ H → D.nx σ H) :
    ∃ y, [V.str z] = [.str y] ∧ ForW (ItE fun _ xs => xs = y.cps.toList.map fun c => V.str ⟨#[c]⟩) g s D σ H := by
  refine ⟨z, rfl, for_it (walk_ItE (xs := z.cps.toList.map fun c => V.str ⟨#[c]⟩) (S := fun _ xs => xs = z.cps.toList.map fun c => V.str ⟨#[c]⟩)) Pv h0 (fun _ _ _ _ _ => rfl) ?_ (by rw [List.length_map]; exact hd)⟩
  rintro i x τ H1 H2 hi hP ⟨T, u, y, rfl, hT, rfl, hu, hy⟩
  cases hu
  have hy : (z.cps.toList.map fun c => V.str ⟨#[c]⟩)[i]? = some y := hy
  rw [List.getElem?_map] at hy
  obtain ⟨c, hc, rfl⟩ := Option.map_eq_some_iff.mp hy
  exact hs i c T τ H1 hc hP hT
theorem rd_clET (h : SqT K H a xs) (Pv : Addr → Nat → Hp → Prop) (h0 : ∀ D, H D = none → Pv D 0 (upd H D (.lst []))) (hG : ∀ D i H', H D = none → i ≤ xs.length → Pv D i H' → SqT K H' a xs)
    (hs : ∀ D i x T H', H D = none → xs[i]? = some x → Pv D i H' → H' T = none → LcT g tt te vs σ D (Pv D (i + 1)) (.ref T) (upd H' T (.tup [.int (i : Int), x]))) (hd : ∀ D H', H D = none → Pv D xs.length H' → Q (.ref D) H') :
    ∃ c ys, [V.ref a] = [.ref c] ∧ SqT K H c ys ∧ LcW (ItE fun H xs => SqT K H c xs) g tt te vs σ H Q := by
  refine ⟨a, xs, rfl, h, lc_by (walk_ItE (S := fun H xs => SqT K H a xs)) Pv h0 hG ?_ hd⟩
  rintro D i x H1 H2 hD hi hP ⟨T, u, y, rfl, hT, rfl, hu, hy⟩
  cases hu
  exact hs D i y T H1 hD hy hP hT
theorem rd_lcZT (q : tA σ H fun ws H1 => ∃ a b xs ys, ws = [.ref a, .ref b] ∧ ((SqL K H1 a xs ∧ SqL K H1 b ys ∧ LcW (Itz K a b) g tt te vs σ H1 Q) ∨ (SqT K H1 a xs ∧ SqT K H1 b ys ∧ LcW (RZ.ItzT K a b) g tt te vs σ H1 Q))) : tLc (iZipT K tA) g tt te vs σ H Q := q
theorem rd_clZT (h : SqT K H a xs) (h' : SqT K H b ys) {n : Nat} (hn : n = min xs.length ys.length) (Pv : Addr → Nat → Hp → Prop) (h0 : ∀ D, H D = none → Pv D 0 (upd H D (.lst []))) (hG : ∀ D i H', H D = none → i ≤ n → Pv D i H' → SqT K H' a xs ∧ SqT K H' b ys)
    (hs : ∀ D i x y T H', H D = none → xs[i]? = some x → ys[i]? = some y → Pv D i H' → H' T = none → LcT g tt te vs σ D (Pv D (i + 1)) (.ref T) (upd H' T (.tup [x, y]))) (hd : ∀ D H', H D = none → Pv D n H' → Q (.ref D) H') :
    ∃ c d us ws, [V.ref a, V.ref b] = [.ref c, .ref d] ∧ ((SqL K H c us ∧ SqL K H d ws ∧ LcW (Itz K c d) g tt te vs σ H Q) ∨ (SqT K H c us ∧ SqT K H d ws ∧ LcW (RZ.ItzT K c d) g tt te vs σ H Q)) := by
  refine ⟨a, b, xs, ys, rfl, .inr ⟨h, h', lc_by (walk_ItzT hn) Pv h0 hG ?_ hd⟩⟩
  rintro D i x H1 H2 hD hi hP ⟨T, u, y, rfl, hT, rfl, hu, hy⟩
  exact hs D i u y T H1 hD hu hy hP hT
section
variable {α β : Type} {as : List α} {bs : List β} {enc out : α → PyData} {encB : β → PyData}
/-- [.. for i, x in enumerate(a tuple of data)] -/
theorem rd_imET {p : α × Nat → Bool} {out : α × Nat → PyData} (h : H a = some (.tup xs)) (im : ImAll H xs (as.map enc)) (hl : as.length ≤ 1000000) (t : ImT (fun q : α × Nat => .tuple [.int (q.2 : Int), enc q.1]) out p as.zipIdx g tt te vs σ H)
    (hd : ∀ D H' ys, H D = none → Same H H' → H' D = some (.lst ys) → ImAll H' ys ((as.zipIdx.filter p).map out) → Q (.ref D) H') : ∃ c ys, [V.ref a] = [.ref c] ∧ SqT K H c ys ∧ LcW (ItE fun H xs => SqT K H c xs) g tt te vs σ H Q := by
  refine rd_clET (SqT.of h) (fun D i H' => ImP (fun q : α × Nat => .tuple [.int (q.2 : Int), enc q.1]) out p as.zipIdx H D i H') (fun D hD => ImP.zero hD) (fun D i H' _ _ h' => SqT.of (h'.1 _ _ h)) (fun D i x T H' hD hx hP hT => ?_) (fun D H' hD hP => ?_)
  · obtain ⟨d, hd, ix⟩ := im.getV hx
    rw [List.getElem?_map] at hd
    obtain ⟨y, hy, rfl⟩ := Option.map_eq_some_iff.mp hd
    have hne : D ≠ T := fun e => by
      obtain ⟨_, ws, hws, _⟩ := hP
      rw [e, hT] at hws
      cases hws
    have k := (Same.refl H').new (o := .tup [.int (i : Int), x]) hT
    obtain ⟨k0, ws, hws, iw⟩ := hP
    have hP' : ImP (fun q : α × Nat => .tuple [.int (q.2 : Int), enc q.1]) out p as.zipIdx H D i (upd H' T (.tup [.int (i : Int), x])) := ⟨k0.trans k, ws, k _ _ hws, iw.up (Tp.of k)⟩
    refine ImP.step (y := (y, i)) (by rw [List.length_zipIdx]; exact hl) t hD (by rw [List.getElem?_zipIdx, hy]; simp) ?_ hP'
    exact .tup upd_same (.cons (.int _) (.cons (ix.up (Tp.of (k0.trans k))) .nil))
  · obtain ⟨k, ys, hys, im'⟩ := hP
    have l : xs.length = as.zipIdx.length := by rw [im.length, List.length_map, List.length_zipIdx]
    rw [l, List.take_length] at im'
    exact hd D H' ys hD k hys im'
/-- [.. for x, y in zip(two tuples of data)] -/
theorem rd_imZT {p : α × β → Bool} {out : α × β → PyData} (h : H a = some (.tup xs)) (im : ImAll H xs (as.map enc)) (h2 : H b = some (.tup ys)) (im2 : ImAll H ys (bs.map encB)) (hl : as.length ≤ 1000000)
    (t : ImT (fun q : α × β => .tuple [enc q.1, encB q.2]) out p (as.zip bs) g tt te vs σ H)
    (hd : ∀ D H' ys, H D = none → Same H H' → H' D = some (.lst ys) → ImAll H' ys (((as.zip bs).filter p).map out) → Q (.ref D) H') :
    ∃ c d us ws, [V.ref a, V.ref b] = [.ref c, .ref d] ∧ ((SqL K H c us ∧ SqL K H d ws ∧ LcW (Itz K c d) g tt te vs σ H Q) ∨ (SqT K H c us ∧ SqT K H d ws ∧ LcW (RZ.ItzT K c d) g tt te vs σ H Q)) := by
  have lz : (as.zip bs).length = min xs.length ys.length := by rw [List.length_zip, im.length, im2.length, List.length_map, List.length_map]
  refine rd_clZT (SqT.of h) (SqT.of h2) lz (fun D i H' => ImP (fun q : α × β => .tuple [enc q.1, encB q.2]) out p (as.zip bs) H D i H') (fun D hD => ImP.zero hD) (fun D i H' _ _ h' => ⟨SqT.of (h'.1 _ _ h), SqT.of (h'.1 _ _ h2)⟩) (fun D i x y T H' hD hx hy hP hT => ?_) (fun D H' hD hP => ?_)
  · obtain ⟨d, hd, ix⟩ := im.getV hx
    rw [List.getElem?_map] at hd
    obtain ⟨u, hu, rfl⟩ := Option.map_eq_some_iff.mp hd
    obtain ⟨d, hd, iy⟩ := im2.getV hy
    rw [List.getElem?_map] at hd
    obtain ⟨u', hu', rfl⟩ := Option.map_eq_some_iff.mp hd
    have k := (Same.refl H').new (o := .tup [x, y]) hT
    obtain ⟨k0, ws, hws, iw⟩ := hP
    have hP' : ImP (fun q : α × β => .tuple [enc q.1, encB q.2]) out p (as.zip bs) H D i (upd H' T (.tup [x, y])) := ⟨k0.trans k, ws, k _ _ hws, iw.up (Tp.of k)⟩
    refine ImP.step (y := (u, u')) (by rw [List.length_zip]; omega) t hD ?_ ?_ hP'
    · rw [List.getElem?_zip_eq_some]
      exact ⟨hu, hu'⟩
    · exact .tup upd_same (.cons (ix.up (Tp.of (k0.trans k))) (.cons (iy.up (Tp.of (k0.trans k))) .nil))
  · obtain ⟨k, ys, hys, im'⟩ := hP
    rw [List.take_length] at im'
    exact hd D H' ys hD k hys im'
end
end
end Mine

/-! ## Dict comprehensions whose keys are tuples of ints and texts -/
namespace Mine
open PySem PySem.Spec PyProof.Rows
open L2 hiding CX XE Takes takes_of passes_call ps_raise ps_try_as ps_try_many ps_try_only pmk_own passAt MkP PMk mk_of Zc HdsOk takes_none5
open L2N hiding St
set_option linter.all false
/-- a comprehension stores at such a key -/
theorem dT_set {X : Cx} {pn : List (Addr × Obj)} {τ : St} {G : Hp} {s : Shared} {F : Value → Shared → Prop} {D b : Addr} {es : List (List Key × V)} {k : List Key} {y : V} {r : Value} {Q : Unit → Shared → Prop} (hu : X.A.units + 1 < cLine) (I : Inv X pn τ G s)
    (hD : G D = some (.dT es)) (eb : G b = some (.tup (k.map kV))) (hz : es.length < sizeLine) (rv : RelV y r) (q : ∀ s', Inv X pn τ (upd G D (.dT (putK es k y))) s' → Q () s') : wpAny (model X.prog X.w) X.A (dictSet D (.ref b) r) Q F s := by
  obtain ⟨z, nd, xs, rel, dd⟩ := dt_of I.hok hD
  have z1 : xs.length ≤ sizeLine := by
    have := Paired.length rel
    omega
  have z2 : (putK es k y).length ≤ sizeLine := by
    have := length_putK es k y
    omega
  refine wpAny_dictSet_heap (hsz := z1) (show X.A.units < cLine by omega) (key_of I.hok eb) dd fun h' dd' hs => q _ ?_
  obtain ⟨o, e1, e2, ho, g2, g3, g4, _, g5⟩ := dd'
  refine d_write I (by rw [hD]; trivial) hs ⟨o, ho⟩ ⟨z2, nd, _, (rel.put k eb rv).keeps fun c ys ec => ?_, o, e1, e2, ho, g2, g3, g4, g5⟩
  rw [upd_ne (ne_of ec hD fun z => nomatch z)]
  exact ec
/-- {k: v for target in iter if ..}, the keys tuples; D the new dict -/
def tDcT (wi : TI) (g : TG) (tt : TT) (tk tv : TE) (vs : List Nat) : TE := fun σ H Q => wi σ H fun J H1 => ∀ D, H1 D = none → ∃ W : Nat → Nat → Hp → Prop, (∃ m, W 0 m (upd H1 D (.dT []))) ∧ ∀ i m H, W i m H →
  (J.stop i H ∧ Q (.ref D) H) ∨ (J.go i H ∧ ∃ Nx : Hp → Prop, (∀ H', Nx H' → ∃ m', m' < m ∧ W (i + 1) m' H') ∧ ∀ x H', J.yld i H x H' → g x (wipe σ vs) H' fun σ2 H2 => wipe σ2 vs = wipe σ vs ∧ tt σ2 H2 fun b H3 =>
    if b = true then tk σ2 H3 fun y H4 => tv σ2 H4 fun z H5 => ∃ es k c, y = .ref c ∧ H5 c = some (.tup (k.map kV)) ∧ H5 D = some (.dT es) ∧ es.length < sizeLine ∧ Nx (upd H5 D (.dT (putK es k z))) else Nx H3)
section
variable {X : Cx} {kx vx tg iter : Expr} {ifs : List Expr} {scope : Scope} {own : List (Str × Nat)} {pos : Pos} {wi : TI} {g : TG} {tt : TT} {tk tv : TE}
theorem pe_dcT (hc : X.calm = true) (hu : X.A.units + 1 < cLine) (hN : X.N.Nodup) (hi : PI X tg iter wi) (ok : BlkOk X.N X.env.scope scope own)
    (hg : ∀ (z : Shared) (G : Hp) (C : Addr) (cl : List (Str × Addr)) (fp : List Addr), PG (X.blk z G scope (compEnvC scope cl C X.env) fp) tg g) (ht : ∀ (z : Shared) (G : Hp) (C : Addr) (cl : List (Str × Addr)) (fp : List Addr), PTs (X.blk z G scope (compEnvC scope cl C X.env) fp) ifs tt)
    (hk : ∀ (z : Shared) (G : Hp) (C : Addr) (cl : List (Str × Addr)) (fp : List Addr), PE (X.blk z G scope (compEnvC scope cl C X.env) fp) kx tk)
    (hv : ∀ (z : Shared) (G : Hp) (C : Addr) (cl : List (Str × Addr)) (fp : List Addr), PE (X.blk z G scope (compEnvC scope cl C X.env) fp) vx tv) (hs : ∀ x, foldedSetIterable iter X.env x = pure x := by intro _; rfl) :
    PE X (.DictComp kx vx [⟨tg, iter, ifs, 0⟩] scope pos) (tDcT wi g tt tk tv (own.map (·.2))) := by
  refine ⟨fun pn s τ G Q I q0 => ?_⟩
  rw [arm_eval_DictComp]
  have freed : ∀ y ∈ scope.names, y.2 = .free → ∃ c, X.env.cells.lookup y.1 = some c := fun y hy e => (ok.free y hy e).elim (fun k => I.ok.has _ (.inl k)) fun k => I.ok.has _ (.inr k)
  refine wpAny_comprehension_free rfl hs (closure_ok freed) ok.kind (fun y hy e => (ok.uniq y hy).trans (by rw [e])) (thn (hi.run pn s τ G _ I q0) fun _ _ hx => thn hx fun _ t ht2 => ?_)
  obtain ⟨it, fp, tn, J, H2, rfl, I2, T, at2, own2, q⟩ := ht2
  refine wpAny_newObj_type (newEnv_comp ?_)
  generalize eD : t.heap.objs.size = D
  have freshD : H2 D = none := I2.hok.fresh (Nat.le_of_eq eD)
  obtain ⟨W, ⟨m0, w0⟩, turn⟩ := q D freshD
  generalize et : ({ t with heap := t.heap.push { cls := .type "dict", data := .dict #[] } } : Shared) = t3
  have ht3 : t3.heap = t.heap.push { cls := .type "dict", data := .dict #[] } := by rw [← et]
  have I3 : Inv X pn τ (upd H2 D (.dT [])) t3 := by
    rw [← et]
    refine I2.laid (t' := t.toks) (fun b o e => Heap.get?_push_of_some _ e) (Nat.le_of_eq eD) ?_
    rw [← eD]
    exact dt_empty t.heap I2.big
  have low : ∀ b ∈ fp, b < t.heap.objs.size := fun b hb => (T.obj _ _ at2 b hb).elim fun _ e => Heap.lt_size e.1
  have own3 : ∀ b ∈ fp, FpOk X pn (upd H2 D (.dT [])) b ∧ b < t3.heap.objs.size := fun b hb => by
    have l := low b hb
    refine ⟨⟨?_, (own2 b hb).2⟩, ?_⟩
    · rw [upd_ne (by rw [← eD]; exact Nat.ne_of_lt l)]
      exact (own2 b hb).1
    · rw [ht3, Heap.size_push]
      exact Nat.lt_succ_of_lt l
  have at3 : tn 0 t3.heap := T.keep _ _ _ at2 fun b _ o e => by
    rw [ht3]
    exact Heap.get?_push_of_some _ e
  have I4 := block_start I3 ok hN own3
  have pg := hg t3 (upd H2 D (.dT [])) t3.heap.objs.size (cellsFrom (t3.heap.objs.size + 1) scope.names (cloFrom X.env.cells scope.names [])) fp
  have pt := ht t3 (upd H2 D (.dT [])) t3.heap.objs.size (cellsFrom (t3.heap.objs.size + 1) scope.names (cloFrom X.env.cells scope.names [])) fp
  have pk := hk t3 (upd H2 D (.dT [])) t3.heap.objs.size (cellsFrom (t3.heap.objs.size + 1) scope.names (cloFrom X.env.cells scope.names [])) fp
  have pv := hv t3 (upd H2 D (.dT [])) t3.heap.objs.size (cellsFrom (t3.heap.objs.size + 1) scope.names (cloFrom X.env.cells scope.names [])) fp
  have off : ∀ b ∈ fp, (upd H2 D (.dT [])) b = none := fun b hb => (own3 b hb).1.1
  have back : ∀ (t' : Shared) (G' : Hp), W 0 m0 (upd H2 D (.dT [])) → Inv X pn τ G' t' → Q (.ref D) G' → ∀ mm, t'.heap.Ns t3.heap.objs.size mm → FpOk X pn G' t3.heap.objs.size → compPost (model X.prog X.w) X.A X.xe none (fun v s' => ∃ x H', Inv X pn τ H' s' ∧ RelV x v ∧ Q x H') (.ref D) t3.heap.objs.size (.ok .next) t' := fun t' G' _ I' q' mm hn f => ⟨mm, hn, fun h'' sb => by
    obtain ⟨a0, a1, a2, a3, a4, a5⟩ := f
    exact ⟨.ref D, G', I'.turned (t' := t'.toks) (fun b o hb e => (sb.2 b hb).trans e) a0 a1 a3 a4 a5, rfl, q'⟩⟩
  show codeAny _ _ (.compStart (.DictComp kx vx [⟨tg, iter, ifs, 0⟩] scope pos) 0 (.ref it) (.ref D) (compEnvC scope (cellsFrom (t3.heap.objs.size + 1) scope.names (cloFrom X.env.cells scope.names [])) t3.heap.objs.size X.env)) (compPost (model X.prog X.w) X.A X.xe none _ (.ref D) t3.heap.objs.size) { t3 with heap := pushCells (t3.heap.push { cls := .type "dict", data := .dict #[] }) scope.names }
  generalize ece : compEnvC scope (cellsFrom (t3.heap.objs.size + 1) scope.names (cloFrom X.env.cells scope.names [])) t3.heap.objs.size X.env = ce at I4 pg pt pk pv ⊢
  have locC : ce.locals = t3.heap.objs.size := by rw [← ece]; rfl
  generalize eH3 : upd H2 D (.dT []) = G3 at I3 I4 pg pt pk pv w0 off own3 back
  generalize et4 : ({ t3 with heap := pushCells (t3.heap.push { cls := .type "dict", data := .dict #[] }) scope.names } : Shared) = t4 at I4 ⊢
  have at4 : tn 0 t4.heap := T.keep _ _ _ at3 fun b _ o e => by
    rw [← et4]
    exact pushCells_keeps _ _ _ _ (Heap.get?_push_of_some _ e)
  have still : ∀ {τ' : St} {G' : Hp} {t' : Shared}, Inv (X.blk t3 G3 scope ce fp) [] τ' G' t' → (∀ b ∈ fp, G' b = none) → ∀ b ∈ fp, FpOk (X.blk t3 G3 scope ce fp) [] G' b := fun {_ _ _} J' hn b hb =>
    ⟨hn b hb, (J'.ok.exf b hb).1, J'.ok.exfs b hb, .inl hb, fun x c e => (J'.ok.exf b hb).2 x c e, fun p hp => nomatch (show p ∈ ([] : List (Addr × Obj)) ++ [] from hp)⟩
  refine codeAny_compStart_dict ?lp (T.self X.A 0 _ _ _ at4 ?lp)
  refine compLoop_anyD (fun n t' => ∃ i G', Inv (X.blk t3 G3 scope ce fp) [] (wipe τ (own.map (·.2))) G' t' ∧ tn i t'.heap ∧ (∀ b ∈ fp, G' b = none) ∧ W i n G') ?_ m0 ⟨0, G3, I4, at4, off, w0⟩
  rintro n t5 ⟨i, G5, I5, at5, n5, w5⟩
  rcases turn i n G5 w5 with ⟨stop, qq⟩ | ⟨go, Nx, hNx, step⟩
  · refine thnF (T.done (X.blk t3 G3 scope ce fp) rfl rfl rfl hc i [] t5 _ G5 (fun _ _ => False) I5 (still I5 n5) at5 stop) fun r t6 ⟨hr, I6⟩ => ?_
    cases hr
    have I7 : Inv X pn τ G5 t6 := I3.call' (ch := fp) I6.os I6.base I6.hok I6.bare fun b hb => ⟨(own3 b hb).1.2.2.2.1, (own3 b hb).1.2.1, (own3 b hb).1.2.2.2.2.1, (own3 b hb).1.2.2.2.2.2⟩
    have nC : G5 t3.heap.objs.size = none := by
      have z : G5 ce.locals = none := I6.free
      rwa [locC] at z
    obtain ⟨mm, hn, _⟩ := I6.loc
    have hn : t6.heap.Ns ce.locals mm := hn
    rw [locC] at hn
    exact back t6 G5 w0 I7 qq mm hn (I3.fpOk (Nat.le_refl _) nC)
  · refine thnF (T.item (X.blk t3 G3 scope ce fp) rfl rfl rfl hc i [] t5 _ G5 (fun _ _ => False) I5 (still I5 n5) at5 go) fun r t6 ⟨u, hr, h6⟩ => ?_
    cases hr
    refine thnF h6 fun _ t7 ⟨x, G7, I7, r7, y7, at7, n7⟩ => ?_
    have I7' := I7.pinned (still I7 n7) (T.obj _ _ at7)
    refine thnF (pg.run _ t7 _ G7 x u _ I7' r7 (step x G7 y7)) fun _ t8 ⟨τ8, G8, I8, hw8, q8⟩ => ?_
    refine thnF (pt.run _ t8 τ8 G8 _ I8 q8) fun b t9 ⟨G9, I9, q9⟩ => ?_
    have fin : ∀ {t' : Shared} {G' : Hp}, Inv (X.blk t3 G3 scope ce fp) ([] ++ pinsAt fp t7.heap) τ8 G' t' → Nx G' → ∃ m, m < n ∧ ∃ i G', Inv (X.blk t3 G3 scope ce fp) [] (wipe τ (own.map (·.2))) G' t' ∧ tn i t'.heap ∧ (∀ b ∈ fp, G' b = none) ∧ W i m G' := fun {t' G'} I' nx => by
      obtain ⟨m', hm, w'⟩ := hNx G' nx
      have pin' : ∀ b ∈ fp, ∀ o, t7.heap.get? b = some o → t'.heap.get? b = some o ∧ G' b = none := fun b hb o e =>
        have z := I'.pin (b, o) (List.mem_append_right _ (List.mem_append_right _ (mem_pinsAt hb e)))
        ⟨z.1, z.2.1⟩
      have same : (wipe τ (own.map (·.2))).length = τ8.length := by rw [← hw8, wipe_length]
      refine ⟨m', hm, i + 1, G', (I'.unpinned (pins := [])).weak same (fun j v e => ?_), T.keep _ _ _ at7 fun b hb o e => (pin' b hb o e).1, fun b hb => ?_, w'⟩
      · exact (wipe_some (hw8.symm ▸ e)).1
      · exact (T.obj _ _ at7 b hb).elim fun o e => (pin' b hb o e.1).2
    cases b with
    | false => exact fin I9 q9
    | true =>
      refine thnF (pk.run _ t9 τ8 G9 _ I9 q9) fun z t10 ⟨yk, G10, I10, r10, q10⟩ => ?_
      refine thnF (pv.run _ t10 τ8 G10 _ I10 q10) fun z2 t11 ⟨yv, G11, I11, r11, es, k, c, ek, hc11, hD11, hz11, nx⟩ => ?_
      subst ek
      cases (show z = Value.ref c from r10)
      exact dT_set (X := X.blk t3 G3 scope ce fp) hu I11 hD11 hc11 hz11 r11 fun t12 I12 => fin I12 nx
end
section
variable {K : PySem.W.Frag} {a : Addr} {xs : List V} {H : Hp} {σ : St} {g : TG} {ta tk tv : TE} {tt : TT} {vs : List Nat} {Q : VK}
def DctT (g : TG) (tt : TT) (tk tv : TE) (vs : List Nat) (σ : St) (D : Addr) (N : Hp → Prop) (x : V) (H : Hp) : Prop :=
  g x (wipe σ vs) H fun σ2 H2 => wipe σ2 vs = wipe σ vs ∧ tt σ2 H2 fun b H3 => if b = true then tk σ2 H3 fun y H4 => tv σ2 H4 fun z H5 => ∃ es k c, y = .ref c ∧ H5 c = some (.tup (k.map kV)) ∧ H5 D = some (.dT es) ∧ es.length < sizeLine ∧ N (upd H5 D (.dT (putK es k z))) else N H3
theorem rd_dctT1 {D : Addr} {N : Hp → Prop} {x : V} (q : g x (wipe σ vs) H fun σ2 H2 => wipe σ2 vs = wipe σ vs ∧ tt σ2 H2 fun b H3 => if b = true then tk σ2 H3 fun y H4 => tv σ2 H4 fun z H5 => ∃ es k c, y = .ref c ∧ H5 c = some (.tup (k.map kV)) ∧ H5 D = some (.dT es) ∧ es.length < sizeLine ∧ N (upd H5 D (.dT (putK es k z))) else N H3) :
    DctT g tt tk tv vs σ D N x H := q
def DctW (J : It) (g : TG) (tt : TT) (tk tv : TE) (vs : List Nat) (σ : St) (H1 : Hp) (Q : VK) : Prop := ∀ D, H1 D = none → ∃ W : Nat → Nat → Hp → Prop, (∃ m, W 0 m (upd H1 D (.dT []))) ∧ ∀ i m H, W i m H →
  (J.stop i H ∧ Q (.ref D) H) ∨ (J.go i H ∧ ∃ Nx : Hp → Prop, (∀ H', Nx H' → ∃ m', m' < m ∧ W (i + 1) m' H') ∧ ∀ x H', J.yld i H x H' → DctT g tt tk tv vs σ D Nx x H')
theorem rd_dctT (q : ta σ H fun x H1 => ∃ a, x = .ref a ∧ (∃ xs, SqT K H1 a xs) ∧ DctW (Itt K a) g tt tk tv vs σ H1 Q) : tDcT (iAny K ta) g tt tk tv vs σ H Q := .inr (.inl q)
theorem rd_ddtT (h : SqT K H a xs) (Pv : Addr → Nat → Hp → Prop) (h0 : ∀ D, H D = none → Pv D 0 (upd H D (.dT []))) (hG : ∀ D i H', H D = none → i ≤ xs.length → Pv D i H' → SqT K H' a xs)
    (hs : ∀ D i x H', H D = none → xs[i]? = some x → Pv D i H' → DctT g tt tk tv vs σ D (Pv D (i + 1)) x H') (hd : ∀ D H', H D = none → Pv D xs.length H' → Q (.ref D) H') :
    ∃ b, V.ref a = .ref b ∧ (∃ xs, SqT K H b xs) ∧ DctW (Itt K b) g tt tk tv vs σ H Q := by
  refine ⟨a, rfl, ⟨xs, h⟩, fun D hD => ⟨fun i m H' => m = xs.length - i ∧ i ≤ xs.length ∧ Pv D i H', ⟨xs.length, by simp, Nat.zero_le _, h0 D hD⟩, ?_⟩⟩
  rintro i m H' ⟨rfl, hi, p⟩
  have q := hG D i H' hD hi p
  have wk := walk_tup (K := K) (a := a) (xs := xs)
  by_cases hlt : i < xs.length
  · refine .inr ⟨wk.goes i H' hlt q, Pv D (i + 1), fun H2 p' => ⟨xs.length - (i + 1), by omega, rfl, hlt, p'⟩, fun x H2 y => ?_⟩
    obtain ⟨e, hx⟩ := wk.yields i H' x H2 hlt q y
    subst e
    exact hs D i x _ hD hx p
  · have e : i = xs.length := by omega
    subst e
    exact .inl ⟨wk.stops H' q, hd D H' hD p⟩
theorem rd_lenDT {p : Addr} {kvs : List (List Key × V)} (h : H p = some (.dT kvs)) (q : Q (.int ((kvs.length : Nat) : Int)) H) : rLenT [.ref p] H Q := ⟨p, kvs, rfl, h, q⟩
end
end Mine

/-! ## Tuples that are known to the last, dicts of pairs, their items, sorts of data -/
namespace Mine
open PySem PySem.Spec PyProof.Rows
open L2 hiding CX XE Takes takes_of passes_call ps_raise ps_try_as ps_try_many ps_try_only pmk_own passAt MkP PMk mk_of Zc HdsOk takes_none5
open L2N hiding St
set_option linter.all false
/-- a tuple that has no dict of its own -/
def Ft (H : Hp) (a : Addr) (xs : List V) : Prop := ∃ o : Obj, o.dict = none ∧ H a = some (.frz o (.tup xs))
/-- any tuple of the heap -/
def Rt (H : Hp) (a : Addr) (xs : List V) : Prop := Rd H a (.tup xs)
theorem Ft.rt {H : Hp} {a : Addr} {xs : List V} (h : Ft H a xs) : Rt H a xs := let ⟨o, _, e⟩ := h; .inr ⟨o, e⟩
theorem Rt.of {H : Hp} {a : Addr} {xs : List V} (h : H a = some (.tup xs)) : Rt H a xs := .inl h
theorem Rt.sq {K : PySem.W.Frag} {H : Hp} {a : Addr} {xs : List V} (h : Rt H a xs) : SqT K H a xs := .inl h
/-- tuples stay -/
structure Ty (H H' : Hp) : Prop where
  t : ∀ a xs, H a = some (.tup xs) → H' a = some (.tup xs)
  f : ∀ a o xs, H a = some (.frz o (.tup xs)) → H' a = some (.frz o (.tup xs))
theorem Ty.refl (H : Hp) : Ty H H := ⟨fun _ _ h => h, fun _ _ _ h => h⟩
theorem Ty.trans {A B C : Hp} (h : Ty A B) (k : Ty B C) : Ty A C := ⟨fun a xs q => k.t a xs (h.t a xs q), fun a o xs q => k.f a o xs (h.f a o xs q)⟩
theorem Ty.of {A B : Hp} (h : Same A B) : Ty A B := ⟨fun a xs q => h a _ q, fun a o xs q => h a _ q⟩
theorem Ty.new {A B : Hp} {p : Addr} {o : HO} (h : Ty A B) (n : B p = none) : Ty A (upd B p o) := h.trans (Ty.of fun a u q => by rw [upd_ne (ne_of_none q n)]; exact q)
theorem Ty.lst {A B : Hp} {p : Addr} {o : HO} {ys : List V} (h : Ty A B) (n : B p = some (.lst ys)) : Ty A (upd B p o) :=
  h.trans ⟨fun a xs q => by rw [upd_ne (fun e => by rw [e, n] at q; cases q)]; exact q, fun a u xs q => by rw [upd_ne (fun e => by rw [e, n] at q; cases q)]; exact q⟩
theorem Ty.dct {A B : Hp} {p : Addr} {o : HO} {ys : List (Key × V)} (h : Ty A B) (n : B p = some (.dK ys)) : Ty A (upd B p o) :=
  h.trans ⟨fun a xs q => by rw [upd_ne (fun e => by rw [e, n] at q; cases q)]; exact q, fun a u xs q => by rw [upd_ne (fun e => by rw [e, n] at q; cases q)]; exact q⟩
theorem Rt.up {H H' : Hp} {a : Addr} {xs : List V} (h : Rt H a xs) (k : Ty H H') : Rt H' a xs := h.elim (fun e => .inl (k.t _ _ e)) fun ⟨o, e⟩ => .inr ⟨o, k.f _ _ _ e⟩
theorem Ft.up {H H' : Hp} {a : Addr} {xs : List V} (h : Ft H a xs) (k : Ty H H') : Ft H' a xs := let ⟨o, d, e⟩ := h; ⟨o, d, k.f _ _ _ e⟩
section
variable {X : Cx} {K : PySem.W.Frag}
/-! ### tuples made so -/
def xTupF (K : PySem.W.Frag) : List V → Hp → VK → Prop := fun xs H Q => ∃ p ys, xs = [.ref p] ∧ SqL K H p ys ∧ ∀ l o, o.dict = none → H l = none → Q (.ref l) (upd H l (.frz o (.tup ys)))
theorem callTupF (e : X.K = K := by rfl) : CallR X (.type "tuple") (xTupF K) := by
  subst e
  intro pins s σ H xs us Q I r h
  obtain ⟨p, ys, rfl, hq, q⟩ := h
  obtain ⟨u, rfl, rx⟩ := vals1 r
  cases rx
  obtain ⟨its, r', pl, hz⟩ := I.list hq
  have hlen := r'.length
  refine call_tuple_list pl.isList (fun h' kp => ?_) (by simp only [List.size_toArray] <;> omega)
  have I1 : Inv X pins σ H { s with heap := h' } := I.kept (t' := s.toks) kp
  have I2 : Inv X pins σ (upd H h'.objs.size (.frz { cls := .type "tuple", data := .seq its.toArray } (.tup ys))) { s with heap := h'.push { cls := .type "tuple", data := .seq its.toArray } } :=
    I1.laid (t' := s.toks) (fun b o e => Heap.get?_push_of_some _ e) (Nat.le_refl _) (show ObjOk X.prog X.w _ _ _ (.frz _ (.tup ys)) from ⟨Heap.get?_push_size _ rfl, hz, its, r', IsTup.new _ _⟩)
  exact ⟨.ref h'.objs.size, _, I2, rfl, q _ _ rfl (I1.hok.fresh (Nat.le_refl _))⟩
def tTupF (t : TA) : TE := fun σ H Q => t σ H fun xs H1 => xs.length ≤ sizeLine ∧ ∀ p o, o.dict = none → H1 p = none → Q (.ref p) (upd H1 p (.frz o (.tup xs)))
theorem pe_tupF {es : List Expr} {t : TA} {pos : Pos} {x1 : Nat} (h : PA X es t) : PE X (.Tuple es x1 pos) (tTupF t) := by
  refine ⟨fun pins s σ H Q I hq => ?_⟩
  refine wpAny_Tuple_spliced (thn (h.run pos pins s σ H _ I hq) fun us s1 ⟨xs, H1, I1, r, z, q⟩ => ⟨by rw [← r.length]; exact z, ?_⟩)
  have hf : H1 s1.heap.objs.size = none := I1.hok.fresh (Nat.le_refl _)
  refine ⟨.ref s1.heap.objs.size, upd H1 s1.heap.objs.size (.frz { cls := .type "tuple", data := .seq us.toArray } (.tup xs)), I1.laid (t' := s1.toks) (fun b u e => Heap.get?_push_of_some _ e) (Nat.le_refl _) ?_, rfl, q _ _ rfl hf⟩
  exact ⟨Heap.get?_push_size _ rfl, z, us, r, ⟨_, Heap.get?_push_size _ rfl, rfl, _, rfl⟩⟩
/-! ### dict(t), t a tuple of pairs -/
theorem refs_nth {ps : List Addr} {its : List Value} {j : Nat} {b : Addr} (h : Vals (ps.map V.ref) its) (e : ps[j]? = some b) : its[j]? = some (.ref b) := by
  rw [refs_at h, List.getElem?_map, e]
  rfl
def xDictT (K : PySem.W.Frag) : List V → Hp → VK → Prop := fun xs H Q => ∃ (a : Addr) (ps : List Addr) (kvs : List (Key × V)), xs = [.ref a] ∧ Ft H a (ps.map V.ref) ∧ Paired (fun p kv => SqT K H p [kV kv.1, kv.2]) ps kvs ∧
    ∀ p, H p = none → Q (.ref p) (upd H p (.dK (mergeK [] kvs)))
theorem callDictT (hcalm : X.calm = true) (e : X.K = K := by rfl) : CallR X (.type "dict") (xDictT K) := by
  subst e
  intro pins s σ H xs us Q I r q
  obtain ⟨a, ps, kvs, rfl, ⟨oa, hda, ha⟩, hp, q⟩ := q
  obtain rfl := Vals.ref1 r
  obtain ⟨hoa, hz, its, rv, o', ho', hc', n, hdat⟩ : ObjOk X.prog X.w H s.heap a (.frz oa (.tup (ps.map V.ref))) := I.hok _ _ ha
  have eo : oa = o' := Option.some.inj (hoa.symm.trans ho')
  subst eo
  rw [List.length_map] at hz
  obtain ⟨prs, rel, hl, hpr⟩ := pairs_of I hp
  have li : its.length = ps.length := by rw [← rv.length, List.length_map]
  have hpr' : ∀ (j : Nat) (q : Key × Value), prs[j]? = some q → ∃ u : Value, IsTup s.heap (ps.getD j 0) #[u, q.2] ∧ keyIs q.1 u = true := fun j q e => by
    obtain ⟨b, u, h1, h2, h3⟩ := hpr j q e
    refine ⟨u, ?_, h3⟩
    rw [List.getD_eq_getElem?_getD, h1]
    exact h2
  obtain ⟨pv, lpv, hpv⟩ : ∃ pv : List (Value × Value), pv.length = prs.length ∧ ∀ (j : Nat) (q : Key × Value), prs[j]? = some q → ∃ u : Value, pv[j]? = some (u, q.2) ∧ IsTup s.heap (ps.getD j 0) #[u, q.2] ∧ keyIs q.1 u = true := by
    clear rel hl hpr
    have gen : ∀ (T : Nat → Addr) (l : List (Key × Value)) (c : Nat), (∀ (j : Nat) (q : Key × Value), l[j]? = some q → ∃ u : Value, IsTup s.heap (T (c + j)) #[u, q.2] ∧ keyIs q.1 u = true) →
        ∃ pv : List (Value × Value), pv.length = l.length ∧ ∀ (j : Nat) (q : Key × Value), l[j]? = some q → ∃ u : Value, pv[j]? = some (u, q.2) ∧ IsTup s.heap (T (c + j)) #[u, q.2] ∧ keyIs q.1 u = true := by
      intro T l
      induction l with
      | nil => exact fun c _ => ⟨[], rfl, fun j q e => by simp at e⟩
      | cons x l ih =>
        intro c hx
        obtain ⟨u, h1, h2⟩ := hx 0 x rfl
        obtain ⟨pv, h3, h4⟩ := ih (c + 1) fun j q e => by
          have := hx (j + 1) q (by simpa using e)
          rwa [show c + (j + 1) = c + 1 + j by omega] at this
        refine ⟨(u, x.2) :: pv, by rw [List.length_cons, List.length_cons, h3], fun j q e => ?_⟩
        cases j with
        | zero =>
          have e' : x = q := Option.some.inj e
          subst e'
          exact ⟨u, rfl, h1, h2⟩
        | succ j =>
          obtain ⟨u', a1, a2, a3⟩ := h4 j q (by simpa using e)
          exact ⟨u', by simpa using a1, by rw [show c + (j + 1) = c + 1 + j by omega]; exact a2, a3⟩
    obtain ⟨pv, h1, h2⟩ := gen (fun j => ps.getD j 0) prs 0 fun j q e => by rw [Nat.zero_add]; exact hpr' j q e
    exact ⟨pv, h1, fun j q e => by have := h2 j q e; rwa [Nat.zero_add] at this⟩
  have items : PySem.PairItems s.heap its.toArray (fun j => ps.getD j 0) pv := by
    refine ⟨by rw [List.size_toArray, li, lpv, hl], fun j k v e => ?_⟩
    have lt : j < prs.length := by rw [← lpv]; exact (List.getElem?_eq_some_iff.mp e).1
    obtain ⟨u, e1, e2, e3⟩ := hpv j _ (List.getElem?_eq_getElem lt)
    rw [e] at e1
    cases e1
    have ej : ps[j]? = some (ps.getD j 0) := by
      rw [List.getD_eq_getElem?_getD, List.getElem?_eq_getElem (by omega)]
      rfl
    refine ⟨?_, .inl ?_⟩
    · rw [List.getElem?_toArray]
      exact refs_nth rv ej
    · obtain ⟨o, ho, hc, n, hd⟩ := e2
      exact ⟨o, ho, hc, n, hd⟩
  refine PySem.call_dict_pairs (knd := mixKind X.prog X.w) (kvs := prs) (PySem.PairArg.tuple a its.toArray (fun j => ps.getD j 0) pv) (I.ok.hd hcalm) ⟨⟨oa, n, hoa, hc', hda, hdat⟩, items⟩ ⟨lpv.symm, fun i key v e => ?_⟩ (by rw [lpv, hl]; exact hz) fun h' tk hd' k => ?_
  · have lt : i < prs.length := by rw [← lpv]; exact (List.getElem?_eq_some_iff.mp e).1
    obtain ⟨u, e1, e2, e3⟩ := hpv i _ (List.getElem?_eq_getElem lt)
    have e0 : pv[i]? = some (key, v) := e
    rw [e0] at e1
    cases e1
    exact ⟨_, List.getElem?_eq_getElem lt, e3⟩
  · have hm : (s.heap.objs.size == sysModules) = false := beq_eq_false_iff_ne.mpr (Nat.ne_of_gt I.big)
    have hlen : (mergeK [] kvs).length ≤ sizeLine := by
      refine Nat.le_trans (length_mergeK kvs []) ?_
      rw [List.length_nil, Nat.zero_add, rel.length, hl]
      exact hz
    exact ⟨.ref s.heap.objs.size, upd H s.heap.objs.size (.dK (mergeK [] kvs)), I.laid (t' := tk) (fun b o e => k b o (fun z => nomatch z) e) (Nat.le_refl _) (show ObjOk X.prog X.w _ _ _ (.dK (mergeK [] kvs)) from ⟨hlen, hm, merged [] prs, KV.merge rel .nil, hd'⟩), rfl, q _ (I.hok.fresh (Nat.le_refl _))⟩
/-! ### sorted(xs), xs a list that reads as data -/
theorem vals_each : ∀ {ps : List (V × PyData)} {its : List Value}, Vals (ps.map (·.1)) its → PySem.W.EachIs (fun v (b : V × PyData) => RelV b.1 v) its ps
  | [], its, r => by
    rw [List.map_nil] at r
    cases r
    exact .nil
  | p :: ps, its, r => by
    rw [List.map_cons] at r
    cases r with
    | cons h t => exact .cons h (vals_each t)
theorem each_vals : ∀ {ps : List (V × PyData)} {its : List Value}, PySem.W.EachIs (fun v (b : V × PyData) => RelV b.1 v) its ps → Vals (ps.map (·.1)) its
  | [], _, h => by cases h; exact .nil
  | p :: ps, _, h => by
    cases h with
    | cons h t => exact .cons h (each_vals t)
def xSortD (K : PySem.W.Frag) : List V → Hp → VK → Prop := fun xs H Q => ∃ (a : Addr) (ps : List (V × PyData)), xs = [.ref a] ∧ SqL K H a (ps.map (·.1)) ∧ (∀ p ∈ ps, Dp K H p.1 p.2) ∧ PySem.W.AllAlike (ps.map (·.2)) ∧ PySem.W.Sortable (ps.map (·.2)) ∧ (∀ p ∈ ps, p.2.depth ≤ 60) ∧
  ∀ l, H l = none → Q (.ref l) (upd H l (.lst ((ps.mergeSort (PySem.W.dataLe false (·.2))).map (·.1))))
theorem call_sortD (hu : X.A.units + 65 < cLine) (e : X.K = K := by rfl) : CallR X (.builtin "sorted") (xSortD K) := by
  subst e
  intro pins s σ H vs us Q I r h
  obtain ⟨a, ps, rfl, hs, hd, hal, hk, hdep, q⟩ := h
  obtain ⟨its, rv, pl, hz⟩ := I.list hs
  obtain rfl := Vals.ref1 r
  rw [List.length_map] at hz
  have e := vals_each rv
  refine PySem.W.sorted_data (bs := ps) (enc := (·.2)) (R := fun v (b : V × PyData) => RelV b.1 v) pl.isList e ((PySem.W.each_mem e).mono fun v b hb => ?_) hal hk hz (fun b hb => ?_) fun out hl eo => ?_
  · exact Dp.reads I b.2 b.1 v (hd b hb.2) hb.1
  · have := hdep b hb
    show X.A.units + 2 + b.2.depth < cLine
    omega
  · obtain ⟨c, hc⟩ := sortedAll_at s.heap its (List.toArray out)
    refine ⟨.ref (s.heap.objs.size + 1), upd H (s.heap.objs.size + 1) (.lst ((ps.mergeSort (PySem.W.dataLe false (·.2))).map (·.1))), I.laid (t' := s.toks) (fun b o e => sortedAll_old e) (Nat.le_succ _) ⟨?_, out, c, each_vals eo, hc⟩, rfl, q _ (I.hok.fresh (Nat.le_succ _))⟩
    rw [List.length_map, List.length_mergeSort]
    exact hz
/-! ### d.items(), sorted(d.items()): keys texts, values ints -/
def rItemsK : V → List V → Hp → VK → Prop := fun x xs H Q => ∃ (a : Addr) (kvs : List (Key × V)), x = .ref a ∧ xs = [] ∧ H a = some (.dK kvs) ∧ ∀ p, H p = none → Q (.ref p) (upd H p (L2.DX.itemsO p a))
theorem mt_itemsK : MtR X "dict.items" rItemsK := by
  intro pins s σ H x xs v us Q I rx rxs h
  obtain ⟨a, kvs, rfl, rfl, ha, q⟩ := h
  cases rx
  cases rxs
  obtain ⟨z, hd, vs, rel, o, es, ep, ho, hx, hdat, _⟩ := dk_of I.hok ha
  refine DT.callItems (es := es) (ep := ep) hd ⟨o, ho, hx, hdat⟩ ?_
  have hf : H s.heap.objs.size = none := I.hok.fresh (Nat.le_refl _)
  exact ⟨.ref s.heap.objs.size, upd H s.heap.objs.size (L2.DX.itemsO s.heap.objs.size a), I.laid (t' := s.toks) (fun b u e => Heap.get?_push_of_some _ e) (Nat.le_refl _) (L2.DX.itemsO_ok (Heap.get?_push_size _ rfl)), rfl, q _ hf⟩
/-- an entry of such a dict -/
def kvI (e : Str × Int) : Key × V := (Sum.inr e.1, V.int e.2)
def entD (e : Str × Int) : PyData := .tuple [.str e.1, .int e.2]
theorem pairs_get {P : Program} {w : World} : ∀ {es : List DictEntry} {vs : List (Key × Value)} {j : Nat} {en : DictEntry}, Pairs (mixKind P w) es vs → es[j]? = some en → ∃ kv, vs[j]? = some kv ∧ keyIs kv.1 en.key = true ∧ en.val = kv.2
  | _, _, j, en, .nil, e => by simp at e
  | _, _, 0, en, .cons (kv := kv) h1 h2 h3, e => by
    have e' := Option.some.inj e
    subst e'
    exact ⟨kv, rfl, h1, h2⟩
  | _, _, j + 1, en, .cons (kv := kv) h1 h2 h3, e => by
    obtain ⟨kv', a, b, c⟩ := pairs_get (j := j) h3 (by simpa using e)
    exact ⟨kv', by simpa using a, b, c⟩
def xSortIt : List V → Hp → VK → Prop := fun vs H Q => ∃ (p a : Addr) (ks : List (Str × Int)), vs = [.ref p] ∧ H p = some (L2.DX.itemsO p a) ∧ H a = some (.dK (ks.map kvI)) ∧
  ∀ (H' : Hp) (l : Addr) (ps : List (Addr × Str × Int)), (∀ b o, H b = some o → H' b = some o) → H l = none → H' l = some (.lst (ps.map fun z => V.ref z.1)) → ps.map (·.2) = ks.mergeSort (PySem.W.dataLe false entD) →
    (∀ z ∈ ps, H' z.1 = some (.tup [.str z.2.1, .int z.2.2])) → Q (.ref l) H'
theorem call_sortIt (hc : X.calm = true) (hu : X.A.units + 65 < cLine) : CallR X (.builtin "sorted") xSortIt := by
  intro pins s σ H xs us Q I r h
  obtain ⟨p, a, ks, rfl, hp, ha, q⟩ := h
  obtain rfl := Vals.ref1 r
  have view : s.heap.IsItemsView p a := (show ObjOk X.prog X.w H s.heap p (L2.DX.itemsO p a) from I.hok p _ hp).1
  obtain ⟨z, hd, vs, rel, o, es, ep, ho, hx, hdat, hko, hpr, hn⟩ := dk_of I.hok ha
  have l1 : (ks.map kvI).length = vs.length := Paired.length rel
  rw [List.length_map] at l1 z
  have l2 : es.size = vs.length := by rw [← Array.length_toList]; exact hpr.length
  have hh : X.A.handled = none := I.ok.hd hc
  refine DT.sortedI (es := es) (ep := ep) hh view ⟨o, ho, hx, hdat⟩ (by omega) fun h' tk as hk hlt hl hG => ?_
  have lak : as.length = ks.length := by omega
  have nd : as.Nodup := List.Pairwise.imp (fun h => Nat.ne_of_lt h) hG.rise
  have pr : ∀ (j : Nat) (b : Addr), as[j]? = some b → ∃ (e : Str × Int) (t u : Nat), ks[j]? = some e ∧ h'.get? b = some { cls := .type "tuple", data := .seq #[Value.str e.1 t, Value.int e.2 u] } := by
    intro j b hj
    obtain ⟨en, he, hg⟩ := hG.pairs j b hj
    rw [← Array.getElem?_toList] at he
    obtain ⟨kv, e1, e2, e3⟩ := pairs_get hpr he
    obtain ⟨e0, he0, r1, r2⟩ := L2.DX.pget rel e1
    rw [List.getElem?_map] at he0
    cases hkj : ks[j]? with
    | none =>
      rw [hkj] at he0
      exact nomatch he0
    | some e =>
      rw [hkj] at he0
      have ee : kvI e = e0 := Option.some.inj he0
      subst ee
      have r1 : (Sum.inr e.1 : Key) = kv.1 := r1
      have r2 : RelV (V.int e.2) kv.2 := r2
      rw [← r1] at e2
      obtain ⟨u, r2⟩ := r2
      rcases keyIs_shape e2 with ⟨i, t, h1, h2⟩ | ⟨x, t, h1, h2⟩
      · cases h1
      · cases h1
        exact ⟨e, t, u, rfl, by rw [hg, h2, e3, r2]⟩
  have hob : (h'.push { cls := .type "list", data := .seq (as.map Value.ref).toArray }).get? h'.objs.size = some (seqObj "list" (as.map Value.ref).toArray 0) := Heap.get?_push_size _ rfl
  have ne0 : ∀ b o, h'.get? b = some o → b ≠ h'.objs.size := fun b o e => Nat.ne_of_lt (Heap.lt_size e)
  have kb : ∀ b o, h'.get? b = some o → (h'.push { cls := .type "list", data := .seq (as.map Value.ref).toArray }).get? b = some o := fun b o e => Heap.get?_push_of_some _ e
  generalize hh2 : h'.push { cls := .type "list", data := .seq (as.map Value.ref).toArray } = h2 at hob kb ⊢
  have eR : PySem.W.EachIs (fun v (b : Addr × Str × Int) => v = Value.ref b.1) (as.map Value.ref) (as.zip ks) := by
    refine PySem.W.EachIs.of_zip (by rw [List.length_map, List.length_zip]; omega) fun x hx => ?_
    obtain ⟨j, hj⟩ := List.mem_iff_getElem?.mp hx
    obtain ⟨h1, h2⟩ := List.getElem?_zip_eq_some.mp hj
    obtain ⟨h3, _⟩ := List.getElem?_zip_eq_some.mp h2
    rw [List.getElem?_map, h3] at h1
    exact (Option.some.inj h1).symm
  have mem : ∀ b ∈ as.zip ks, ∃ t u, h'.get? b.1 = some { cls := .type "tuple", data := .seq #[Value.str b.2.1 t, Value.int b.2.2 u] } := by
    intro b hb
    obtain ⟨j, hj⟩ := List.mem_iff_getElem?.mp hb
    obtain ⟨h1, h2⟩ := List.getElem?_zip_eq_some.mp hj
    obtain ⟨e, t, u, h3, h4⟩ := pr j _ h1
    rw [h2] at h3
    cases h3
    exact ⟨t, u, h4⟩
  refine PySem.W.list_sort_data (s := { s with heap := h2, toks := tk }) (bs := as.zip ks) (enc := fun b => entD b.2) (R := fun v (b : Addr × Str × Int) => v = Value.ref b.1) hob eR ((PySem.W.each_mem eR).mono fun v b hb => ?_) (PySem.W.AllAlike.of fun b b' => rfl) (PySem.W.Sortable.tuples fun b => ⟨_, _, rfl⟩) (by rw [List.length_zip]; omega) (fun b hb => ?_) fun out hl3 eo => ?_
  · obtain ⟨rfl, hb⟩ := hb
    obtain ⟨t, u, hg⟩ := mem b hb
    exact ⟨_, .tuple (kb _ _ hg) rfl rfl (.cons (.str _ _) (.cons (.int _ _) .nil)), fun e => nomatch e⟩
  · show X.A.units + 1 + 1 + 1 < cLine
    omega
  · -- behind the sort
    have kF : ∀ b o, b ≠ h'.objs.size → h2.get? b = some o → (sortedHeap h2 h'.objs.size (as.map Value.ref) out.toArray).get? b = some o := fun b o hb e => (PyProof.Rows.sortedHeap_old hb (Heap.lt_size e)).trans e
    have kS : ∀ b o, s.heap.get? b = some o → (sortedHeap h2 h'.objs.size (as.map Value.ref) out.toArray).get? b = some o := fun b o e => kF b o (ne0 _ _ (hk b o e)) (kb _ _ (hk b o e))
    obtain ⟨eF, heF⟩ := PyProof.Rows.sortedHeap_at (vs := as.map Value.ref) (out := out.toArray) hob
    have I1 : Inv X pins σ H { s with heap := sortedHeap h2 h'.objs.size (as.map Value.ref) out.toArray, toks := tk } := I.kept (t' := tk) kS
    have hn0 : H h'.objs.size = none := I.hok.fresh (Nat.le_of_lt hlt)
    have eo2 : out = ((as.zip ks).mergeSort (PySem.W.dataLe false fun b => entD b.2)).map fun z => Value.ref z.1 := by
      clear hl3 kF kS eF heF I1
      revert eo
      generalize (as.zip ks).mergeSort (PySem.W.dataLe false fun b => entD b.2) = zs
      intro eo
      induction eo with
      | nil => rfl
      | cons h _ ih => rw [h, ih]; rfl
    obtain ⟨zs, hzs⟩ : ∃ zs, zs = (as.zip ks).mergeSort (PySem.W.dataLe false fun b => entD b.2) := ⟨_, rfl⟩
    rw [← hzs] at eo2
    have pz : zs.Perm (as.zip ks) := by rw [hzs]; exact List.mergeSort_perm _ _
    have snd : zs.map (·.2) = ks.mergeSort (PySem.W.dataLe false entD) := by
      have e1 : PySem.W.EachIs (fun (x : Addr × Str × Int) (y : Str × Int) => x.2 = y) (as.zip ks) ks := by
        refine PySem.W.EachIs.of_zip (by rw [List.length_zip]; omega) fun x hx => ?_
        obtain ⟨j, hj⟩ := List.mem_iff_getElem?.mp hx
        obtain ⟨h1, h2⟩ := List.getElem?_zip_eq_some.mp hj
        obtain ⟨_, h3⟩ := List.getElem?_zip_eq_some.mp h1
        exact Option.some.inj (h3.symm.trans h2)
      have e2 := PySem.W.sort_each (r := PySem.W.dataLe false fun b : Addr × Str × Int => entD b.2) (s := PySem.W.dataLe false entD) e1 fun x hx y hy => by
        have a1 := e1.zip x hx
        have a2 := e1.zip y hy
        rw [PySem.W.dataLe_eq, PySem.W.dataLe_eq]
        show cond false _ _ = cond false _ _
        rw [a1, a2]
      rw [← hzs] at e2
      clear hzs pz eo2
      generalize ks.mergeSort (PySem.W.dataLe false entD) = ws at e2
      induction e2 with
      | nil => rfl
      | cons h _ ih => rw [List.map_cons, ih, h]
    have hlen : (zs.map fun z => V.ref z.1).length ≤ sizeLine := by
      have e := pz.length_eq
      rw [List.length_zip] at e
      rw [List.length_map]
      omega
    have rv : Vals (zs.map fun z => V.ref z.1) out := by
      rw [eo2]
      exact vals_maps (fun z : Addr × Str × Int => V.ref z.1) (fun z => Value.ref z.1) zs fun _ _ => rfl
    have I2 : Inv X pins σ (upd H h'.objs.size (.lst (zs.map fun z => V.ref z.1))) { s with heap := sortedHeap h2 h'.objs.size (as.map Value.ref) out.toArray, toks := tk } :=
      I1.take (h' := sortedHeap h2 h'.objs.size (as.map Value.ref) out.toArray) (t' := tk) (fun b ob _ e => e) (I.fpOk (Nat.le_of_lt hlt) hn0) ⟨hlen, out, eF, rv, heF⟩
    obtain ⟨H2, I3, g, qt⟩ := L2.DX.takeT (P := fun b vs => ∃ (j : Nat) (e : Str × Int), as[j]? = some b ∧ ks[j]? = some e ∧ vs = [.str e.1, .int e.2]) I as _ I2 nd fun b hb => by
      obtain ⟨j, hj⟩ := List.mem_iff_getElem?.mp hb
      obtain ⟨e, t, u, he, hg⟩ := pr j b hj
      have hbl : s.heap.objs.size ≤ b := Nat.le_of_lt (hG.above b hb)
      refine ⟨hbl, ?_, [.str e.1, .int e.2], ⟨j, e, hj, he, rfl⟩, fun H3 => ⟨(by rw [sizeLine_eq]; show 2 ≤ 16777216; omega), [Value.str e.1 t, Value.int e.2 u], .cons ⟨t, rfl⟩ (.cons ⟨u, rfl⟩ .nil), ⟨_, kF _ _ (ne0 _ _ hg) (kb _ _ hg), rfl, 0, rfl⟩⟩⟩
      rw [upd_ne (ne0 _ _ hg)]
      exact I.hok.fresh hbl
    have gr : ∀ b o, H b = some o → H2 b = some o := fun b o e => g b o (by rw [upd_ne (ne_of_none e hn0)]; exact e)
    refine ⟨.ref h'.objs.size, H2, I3, rfl, q H2 h'.objs.size zs gr hn0 (g _ _ upd_same) snd fun z' hz' => ?_⟩
    obtain ⟨i, hi⟩ := List.mem_iff_getElem?.mp (pz.mem_iff.mp hz')
    obtain ⟨i1, i2⟩ := List.getElem?_zip_eq_some.mp hi
    obtain ⟨vs, ⟨j, e, j1, j2, ev⟩, hH⟩ := qt z'.1 (List.mem_of_getElem? i1)
    have eij : i = j := (List.getElem?_inj (List.getElem?_eq_some_iff.mp i1).1 nd).mp (i1.trans j1.symm)
    subst eij
    have ee : e = z'.2 := Option.some.inj (j2.symm.trans i2)
    rw [ev, ee] at hH
    exact hH
/-! ### d.update(e) -/
def rUpdK : V → List V → Hp → VK → Prop := fun x xs H Q => ∃ (d e : Addr) (kvs more : List (Key × V)), x = .ref d ∧ xs = [.ref e] ∧ H d = some (.dK kvs) ∧ H e = some (.dK more) ∧ d ≠ e ∧ kvs.length + more.length ≤ sizeLine ∧ Q .non (upd H d (.dK (mergeK kvs more)))
theorem mt_updK : MtR X "dict.update" rUpdK := by
  intro pins s σ H x xs v us Q I rx rxs h
  obtain ⟨d, e, kvs, more, rfl, rfl, hd, he, ne, hz, q⟩ := h
  cases rx
  obtain rfl := Vals.ref1 rxs
  obtain ⟨z1, hs1, vs1, rel1, dd1⟩ := dk_of I.hok hd
  obtain ⟨z2, hs2, vs2, rel2, dd2⟩ := dk_of I.hok he
  refine call_meetsIn PySem.F.slot_dict_update dd1.typeIs PySem.F.entry_dict_update (PySem.F.args_dict_update_2 _ _) (meets_dict_update (mixKind X.prog X.w) d e ne hs2)
    ⟨vs1, vs2, dd1, dd2, by rw [← rel1.length, ← rel2.length]; exact hz, fun h' dd' _ hsb => ?_⟩
  have hlen : (mergeK kvs more).length ≤ sizeLine := Nat.le_trans (length_mergeK more kvs) (by omega)
  have dd'' := dd'
  obtain ⟨o, es, ep, ho, _⟩ := dd''
  exact ⟨.non, _, d_write (ob := .dK (mergeK kvs more)) (t' := s.toks) I (by rw [hd]; exact True.intro) hsb ⟨o, ho⟩ ⟨hlen, hs1, _, KV.merge rel2 rel1, dd'⟩, rfl, q⟩
end
end Mine

/-! ## Several except clauses, with names or without -/
namespace Mine
open PySem PySem.Spec PyProof.Rows
open L2 hiding CX XE Takes takes_of passes_call ps_raise ps_try_as ps_try_many ps_try_only pmk_own passAt MkP PMk mk_of Zc HdsOk takes_none5
open L2N hiding St
set_option linter.all false
abbrev Cls := Value × Option Nat × (Addr → Value → Option Addr → TS)
/-- the ends of a suite whose name goes behind it -/
def Ends.gone (D : Ends) (i : Nat) : Ends := { nx := fun σ' H' => D.nx (σ'.set i none) H', rt := D.rt, bk := fun σ' H' => D.bk (σ'.set i none) H', ct := fun σ' H' => D.ct (σ'.set i none) H' }
def wMA (K : PySem.W.Frag) (Wout : WX) (D : Ends) : List Cls → WX
  | [] => Wout
  | (c, none, ts) :: r => fun cls d σ H => ∃ b, PySem.W.exmOne K cls c = some b ∧ (b = true → ∀ a, H a = none → ts a cls d D σ H) ∧ (b = false → wMA K Wout D r cls d σ H)
  | (c, some i, ts) :: r => fun cls d σ H => ∃ b, PySem.W.exmOne K cls c = some b ∧ (b = true → ∀ a, H a = none → ts a cls d (Mine.Ends.gone D i) (σ.set i (some (.ref a))) H) ∧ (b = false → wMA K Wout D r cls d σ H)
inductive HdsA (X : Cx) : List ExceptHandler → List Cls → Prop
  | nil : HdsA X [] []
  | cons {x : Str} {c : Value} {ts : Addr → Value → Option Addr → TS} {b₀ : Stmt} {suite : List Stmt} {np pos' : Pos} {hds : List ExceptHandler} {l : List Cls} (hc : Names X x c)
      (hsu : ∀ (a : Addr) (oe : Obj) (cls : Value) (d : Option Addr) (pn : List (Addr × Obj)), Zn cls d oe → (∃ vs, oe.data = .fields vs) → PSs (X.suite a ((a, oe) :: pn)) (b₀ :: suite) (ts a cls d)) (r : HdsA X hds l) :
      HdsA X (.ExceptHandler (some (.Name x np)) none (b₀ :: suite) pos' :: hds) ((c, none, ts) :: l)
  | as {x n : Str} {i : Nat} {c : Value} {ts : Addr → Value → Option Addr → TS} {b₀ : Stmt} {suite : List Stmt} {np pos' : Pos} {hds : List ExceptHandler} {l : List Cls} (hN : X.N.Nodup) (hi : X.N[i]? = some n) (hln : X.env.kindOf n = some .local) (hc : Names X x c)
      (hsu : ∀ (a : Addr) (oe : Obj) (cls : Value) (d : Option Addr) (pn : List (Addr × Obj)), Zn cls d oe → (∃ vs, oe.data = .fields vs) → PSs (X.suite a ((a, oe) :: pn)) (b₀ :: suite) (ts a cls d)) (r : HdsA X hds l) :
      HdsA X (.ExceptHandler (some (.Name x np)) (some n) (b₀ :: suite) pos' :: hds) ((c, some i, ts) :: l)
section
variable {X : Cx} {K : PySem.W.Frag} {body : List Stmt} {h₀ : ExceptHandler} {hds : List ExceptHandler} {l : List Cls} {pos : Pos} {tb : WX → TS} {Wout : WX}
def tTryMA (K : PySem.W.Frag) (l : List Cls) (tb : WX → TS) (Wout : WX) : TS := fun D σ H => tb (wMA K Wout D l) D σ H
theorem ps_tryMA (stk : X.stack = X.env :: X.outer) (hf : X.env.frame = some X.env.locals) (tk : Takes X Wout) (ek : X.K = K)
    (hb : ∀ (W : WX) (pn : List (Addr × Obj)) (xe : Value → Shared → Prop), Takes (X.tr pn xe) W → PassesOwn (model X.prog X.w) X.A X.env xe → PSs (X.tr pn xe) body (tb W))
    (hh : HdsA X (h₀ :: hds) l) : PS X (.Try body (h₀ :: hds) [] [] pos) (tTryMA K l tb Wout) := by
  subst ek
  constructor
  intro pins s σ H D I begin_
  have ok := I.ok
  refine wpAny_Try_except ?_
  refine wpAny_mono ((hb (wMA X.K Wout D l) (X.pn ++ pins) (fun e s₁ => wpAny (model X.prog X.w) X.A (noteFrame e X.env) (fun _ s₂ => wpAny (model X.prog X.w) X.A (setFlight e none) (fun _ s₃ =>
    wpAny (model X.prog X.w) X.A (handleBy e X.env (h₀ :: hds)) (SP X pins D) X.xe s₃) X.xe s₂) X.xe s₁) (fun u s' caught => ?_) PassesOwn.looking).run [] s σ H D (I.toTry _) begin_) (fun f s1 ended => ?_) (fun e s1 he => he)
  · obtain ⟨a, B, sI, pins', τ, G, cls, d, rfl, J₁, nb, up, sky, na, os, ag, w⟩ := caught
    have J : Inv X pins τ G sI := J₁.ofTry ok
    have sky₁ : Sky B (X.env :: X.outer) a (Zn cls d) X.env.locals s'.heap := by rw [← stk]; exact sky
    show wpAny (model X.prog X.w) X.A (noteFrame (.ref a) X.env) _ _ _
    refine L2N.Sky.land Zn.steady (by rw [ok.frames, stk]) hf sky₁ fun h3 fl3 up3 => ?_
    have J3 : Inv X pins τ G { s' with heap := h3 } := J.landed nb fl3.1 (up.trans up3) os ag
    obtain ⟨oe3, vs3, he3, hz3, hd3⟩ := fl3.there
    have nfr : a ∉ frs (X.env :: X.outer) := fun hm => by
      obtain ⟨_, o', e', hnf⟩ := fl3.2.2.1.mem hm
      rw [he3] at e'
      cases e'
      exact hnf _ hd3
    have nL : a ≠ X.env.locals := fun z => nfr (List.mem_filterMap.mpr ⟨X.env, List.mem_cons_self, by rw [hf, z]⟩)
    have nF : a ∉ X.fs := fun hm => by
      obtain ⟨e, he, q⟩ := List.mem_filterMap.mp hm
      exact nfr (List.mem_filterMap.mpr ⟨e, List.mem_cons_of_mem _ he, q⟩)
    have S3 := J3.suite he3 hd3 na nL nF
    have asks : ∀ {x : Str} {c : Value} {np : Pos} {b : Bool}, Names X x c → PySem.W.exmOne X.K cls c = some b → ∀ {Q : Value → Shared → Prop} {E : Value → Shared → Prop}, Q c { s' with heap := h3 } → wpAny (model X.prog X.w) (X.A.mark (some (.ref a))) (eval (.Name x np) X.env) Q E { s' with heap := h3 } := fun {x c np b} hc _ {Q E} q => by
      obtain ⟨hg, hdbg, hm | ⟨hm, hv, hnn⟩⟩ := hc
      · exact ld_glob (X := X.suite a ((a, oe3) :: (X.pn ++ pins))) S3 hg hm q hdbg
      · exact ld_blt (X := X.suite a ((a, oe3) :: (X.pn ++ pins))) S3 hg hm hv q hnn hdbg
    have LT : PySem.W.Looks (model X.prog X.w) h3 (typeOf (.ref a)) cls := fun A Q E s k q => wpAny_typeOf_ref (k _ _ he3) (by rw [hz3.1]; exact q)
    have go : ∀ {hds' : List ExceptHandler} {l' : List Cls}, HdsA X hds' l' → wMA X.K Wout D l' cls d τ G → wpAny (model X.prog X.w) X.A (handleBy (.ref a) X.env hds') (SP X pins D) X.xe { s' with heap := h3 } := by
      intro hds' l' hk
      induction hk with
      | nil =>
        intro w
        refine wpAny_handleBy_nil ?_
        obtain ⟨k1, k2, k3, oe, vs, T, oT, ts', he, hz, hd, h1, hr⟩ := id fl3
        unfold PySem.passOn
        refine wpAny_bind (wpAny_field he hd h1 ?_)
        rw [if_neg (show ¬ ((Value.ref T == Value.none) = true) from by simp)]
        have fin : wpAny (model X.prog X.w) X.A (setFlight (.ref a) X.env.frame) (fun _ s4 => wpAny (model X.prog X.w) X.A (throw (.ref a) : Sem Flow) (SP X pins D) X.xe s4) X.xe { s' with heap := h3 } := by
          rw [hf]
          refine HandSPX.setFlight_upZ fl3 fun h4 hh4 up4 => wpAny_throw (tk _ _ ?_)
          exact ⟨a, B, sI, pins, τ, G, cls, d, rfl, J, nb, (up.trans up3).trans up4, .inr (.inr (by rw [stk]; exact hh4)), na, os, ag, w⟩
        first
          | exact wpAny_bind (wpAny_pure (wpAny_bind fin))
          | exact wpAny_bind fin
      | @cons x c ts b₀ suite np pos' hds2 l2 hc hsu r ih =>
        rintro ⟨b, hb1, hyes, hno⟩
        refine wpAny_handleBy_cons (codeAny_handlers_test ?_) (by intro q; cases q)
        refine asks hc hb1 ((PySem.W.exm_one (M := model X.prog X.w) (J3.kIn) LT hb1).here ?_)
        cases b with
        | true =>
          refine codeAny_handlers_suite ?_
          refine HandSPX.lands_againZ fl3 fun h4 fl4 up4 => ?_
          have J4 : Inv X pins τ G { s' with heap := h4 } := J.landed nb fl4.1 ((up.trans up3).trans up4) os ag
          obtain ⟨oe4, vs4, he4, hz4, hd4⟩ := fl4.there
          refine wpAny_mono ((hsu a oe4 cls d (X.pn ++ pins) hz4 ⟨_, hd4⟩).run [] _ _ G _ (J4.suite he4 hd4 na nL nF) (hyes rfl a na)) (fun f s6 q => ?_) (fun _ _ z => False.elim z)
          match f, q with
          | .next, ⟨_, _, S6, q6⟩ => exact ⟨_, _, S6.unsuite ok, q6⟩
          | .brk, ⟨_, _, S6, q6⟩ => exact ⟨_, _, S6.unsuite ok, q6⟩
          | .cont, ⟨_, _, S6, q6⟩ => exact ⟨_, _, S6.unsuite ok, q6⟩
          | .ret u, ⟨_, _, _, S6, r6, q6⟩ => exact ⟨_, _, _, S6.unsuite ok, r6, q6⟩
        | false =>
          show wpAny _ X.A (handleBy (.ref a) X.env hds2) _ _ _
          exact ih (hno rfl)
      | @as x n i c ts b₀ suite np pos' hds2 l2 hN hi hln hc hsu r ih =>
        rintro ⟨b, hb1, hyes, hno⟩
        refine wpAny_handleBy_cons (codeAny_handlers_test ?_) (by intro q; cases q)
        refine asks hc hb1 ((PySem.W.exm_one (M := model X.prog X.w) (J3.kIn) LT hb1).here ?_)
        cases b with
        | true =>
          refine codeAny_handlers_suite_as ?_
          refine HandSPX.lands_againZ fl3 fun h4 fl4 up4 => ?_
          have J4 : Inv X pins τ G { s' with heap := h4 } := J.landed nb fl4.1 ((up.trans up3).trans up4) os ag
          obtain ⟨oe4, vs4, he4, hz4, hd4⟩ := fl4.there
          refine store_ok (X := X.suite a ((a, oe4) :: (X.pn ++ pins))) (v := .ref a) (J4.suite he4 hd4 na nL nF) hN hi (.inl hln) rfl (fun s5 S5 => ?_) (.inr hln)
          refine wpAny_mono ((hsu a oe4 cls d (X.pn ++ pins) hz4 ⟨_, hd4⟩).run [] s5 _ G _ S5 (hyes rfl a na)) (fun f s6 q => ?_) (fun _ _ z => False.elim z)
          have end_ : ∀ {σ6 : St} {H6 : Hp} {Q : Shared → Prop}, Inv (X.suite a ((a, oe4) :: (X.pn ++ pins))) [] σ6 H6 s6 → (∀ s7, Inv X pins (σ6.set i none) H6 s7 → Q s7) →
              wpAny (model X.prog X.w) X.A (do bindName X.env n .none; unbindBehindTheSuite X.env n pos') (fun _ s7 => Q s7) X.xe s6 := fun {σ6 H6 Q} S6 hq => gone_ok (S6.unsuite ok) hN hi hln hq
          match f, q with
          | .next, ⟨_, _, S6, q6⟩ => exact end_ S6 fun s7 J7 => ⟨_, _, J7, q6⟩
          | .brk, ⟨_, _, S6, q6⟩ => exact end_ S6 fun s7 J7 => ⟨_, _, J7, q6⟩
          | .cont, ⟨_, _, S6, q6⟩ => exact end_ S6 fun s7 J7 => ⟨_, _, J7, q6⟩
          | .ret u, ⟨_, _, _, S6, r6, q6⟩ => exact end_ S6 fun s7 J7 => ⟨_, _, _, J7, r6, q6⟩
        | false =>
          show wpAny _ X.A (handleBy (.ref a) X.env hds2) _ _ _
          exact ih (hno rfl)
    exact go hh w
  · match f, ended with
    | .next, ⟨τ, G, J, q⟩ => exact wpAny_execs_nil ⟨τ, G, J.ofTry ok, q⟩
    | .brk, ⟨τ, G, J, q⟩ => exact ⟨τ, G, J.ofTry ok, q⟩
    | .cont, ⟨τ, G, J, q⟩ => exact ⟨τ, G, J.ofTry ok, q⟩
    | .ret u, ⟨v, τ, G, J, r, q⟩ => exact ⟨v, τ, G, J.ofTry ok, r, q⟩
end
section
variable {σ : St} {H : Hp} {D : Ends} {K : PySem.W.Frag} {Wout : WX} {tb : WX → TS} {ts : Addr → Value → Option Addr → TS} {cls c : Value} {d : Option Addr} {i : Nat} {l : List Cls}
theorem rd_tryMA (q : tb (wMA K Wout D l) D σ H) : tTryMA K l tb Wout D σ H := q
theorem rd_hitMA (e : PySem.W.exmOne K cls c = some true) (q : ∀ a, H a = none → ts a cls d D σ H) : wMA K Wout D ((c, none, ts) :: l) cls d σ H := ⟨true, e, fun _ => q, fun h => nomatch h⟩
theorem rd_missMA (e : PySem.W.exmOne K cls c = some false) (q : wMA K Wout D l cls d σ H) : wMA K Wout D ((c, none, ts) :: l) cls d σ H := ⟨false, e, (fun h => nomatch h), fun _ => q⟩
theorem rd_hitMN (e : PySem.W.exmOne K cls c = some true) (q : ∀ a, H a = none → ts a cls d (Mine.Ends.gone D i) (σ.set i (some (.ref a))) H) : wMA K Wout D ((c, some i, ts) :: l) cls d σ H := ⟨true, e, fun _ => q, fun h => nomatch h⟩
theorem rd_missMN (e : PySem.W.exmOne K cls c = some false) (q : wMA K Wout D l cls d σ H) : wMA K Wout D ((c, some i, ts) :: l) cls d σ H := ⟨false, e, (fun h => nomatch h), fun _ => q⟩
end
end Mine

/-! ## Defs with keyword-only parameters that have defaults -/
namespace Mine
open PySem PySem.Spec PyProof.Rows
open L2 hiding CX XE Takes takes_of passes_call ps_raise ps_try_as ps_try_many ps_try_only pmk_own passAt MkP PMk mk_of Zc HdsOk takes_none5
open L2N hiding St
set_option linter.all false
def DefAtD (K : PySem.W.Frag) (mg : Str → Option Value) (x : Str) (ps : List Str) (st : Stmt) (dvs : List V) : Prop :=
  ∃ (f : Addr) (fd : FuncData), Fun K x x st f fd ∧ mg x = some (.ref f) ∧ ∃ ds : List Value, Vals dvs ds ∧ Binds K fd ps ds
theorem DefAtD.mk {K : PySem.W.Frag} {mg : Str → Option Value} {x : Str} {ps : List Str} {st : Stmt} {f D : Addr} {oc : Value} {od an : Option Addr} {osl : Array (Option Value)} {doc pm cdv ct : Value} {kws : List (Str × V)}
    (l : K.lookup f = some ⟨oc, od, .func (PySem.W.fnOf x x (defArgs st) (defBody st) (defScope st) .none (.ref D) doc pm an cdv ct), osl⟩) (c : PySem.W.codeIn K cdv x = true) (k : PySem.W.keepIn K (.ref f) = true) (hm : mg x = some (.ref f))
    (n : Nat) (hk : kws ≠ []) (hn : n + kws.length = ps.length) (hq : ∀ q ∈ kws, ∃ u, PySem.W.nsIn K D q.1 = some (some u) ∧ RelV q.2 u)
    (b : ∀ (D : Addr) (doc pm : Value) (an : Option Addr) (cdv ct : Value) (us ks : List Value), us.length = n → ks.length = kws.length →
      KwChain D ((kws.map (·.1)).zip ks) (bindArgs (PySem.W.fnOf x x (defArgs st) (defBody st) (defScope st) .none (.ref D) doc pm an cdv ct) ⟨us, []⟩) (ps.zip (us ++ ks))) : DefAtD K mg x ps st (kws.map (·.2)) := by
  have F := fun_mk (st := st) l c k
  have FD : FunD K x x (defArgs st) (defBody st) (defScope st) [] kws f _ := ⟨⟨oc, od, .none, .ref D, doc, pm, an, cdv, ct, osl, rfl, l, c, .inl ⟨rfl, rfl⟩, .inr ⟨D, rfl, hq⟩⟩, k⟩
  exact ⟨f, _, F, hm, FD.binds0 (ps := ps) n hk hn b⟩
/-- a def with positional defaults -/
structure FunP (K : PySem.W.Frag) (x : Str) (st : Stmt) (f : Addr) (fd : FuncData) : Prop where
  ex : ∃ (oc : Value) (od : Option Addr) (dV kV doc pm : Value) (an : Option Addr) (cdv ct : Value) (osl : Array (Option Value)),
    fd = PySem.W.fnOf x x (defArgs st) (defBody st) (defScope st) dV kV doc pm an cdv ct ∧ K.lookup f = some ⟨oc, od, .func fd, osl⟩ ∧ PySem.W.codeIn K cdv x = true
  kp : PySem.W.keepIn K (.ref f) = true
theorem keepsP_of {CX : CXT} {P : Program} {w : World} {K : PySem.W.Frag} {mg : Str → Option Value} {base : Heap} {k : Nat} {x : Str} {st : Stmt} {f : Addr} {fd : FuncData} {N ps : List Str} {sp : Sp}
    (F : FunP K x st f fd) (S : FnScope N ps (defScope st)) (len : ∀ vs H Q E, sp vs H Q E → vs.length = ps.length)
    (body : ∀ (cdv : Value) (A : Around) (outer : List Env) (s : Shared) (H : Hp) (vs : List V) (Q : VK) (E : XK), Rm k (A.deeper (envOfC x (defScope st) s.heap.objs.size f cdv)) → sp vs H Q E →
      ∃ t, PSs (cxOf CX P w K mg base N x (defScope st) f cdv A outer s H E) (defBody st) t ∧ t { nx := fun _ H' => Q .non H', rt := Q } (start N vs) H) :
    Keeps P w K mg base CX (k + 1) f fd ps sp := by
  obtain ⟨_, _, dV, kV, doc, pm, an, cdv, ct, _, rfl, lk, hcd⟩ := F.ex
  exact keeps_core lk hcd S len body
def DefAtP (K : PySem.W.Frag) (mg : Str → Option Value) (x : Str) (ps : List Str) (st : Stmt) (dvs : List V) : Prop :=
  ∃ (f : Addr) (fd : FuncData), FunP K x st f fd ∧ mg x = some (.ref f) ∧ ∃ ds : List Value, Vals dvs ds ∧ Binds K fd ps ds
/-- one positional default -/
theorem DefAtP.mk {K : PySem.W.Frag} {mg : Str → Option Value} {x : Str} {ps : List Str} {st : Stmt} {f T : Addr} {oc : Value} {od an : Option Addr} {osl : Array (Option Value)} {kV doc pm cdv ct : Value} {dvs : List V} {its : List Value} {o : Obj} {n : Nat}
    (l : K.lookup f = some ⟨oc, od, .func (PySem.W.fnOf x x (defArgs st) (defBody st) (defScope st) (.ref T) kV doc pm an cdv ct), osl⟩) (c : PySem.W.codeIn K cdv x = true) (k : PySem.W.keepIn K (.ref f) = true) (hm : mg x = some (.ref f))
    (m : Nat) (hd : dvs ≠ []) (hn : m + dvs.length = ps.length) (lT : K.lookup T = some o) (oT : o.data = .seq its.toArray n) (rT : Vals dvs its)
    (b : ∀ (T : Addr) (kV doc pm : Value) (an : Option Addr) (cdv ct : Value) (us its : List Value), us.length = m → its.length = dvs.length →
      ∃ k, bindArgs (PySem.W.fnOf x x (defArgs st) (defBody st) (defScope st) (.ref T) kV doc pm an cdv ct) ⟨us, []⟩ = seqItems? (.ref T) >>= k ∧ k (some its.toArray) = pure (ps.zip (us ++ its.drop 0))) : DefAtP K mg x ps st dvs := by
  have FD : FunD K x x (defArgs st) (defBody st) (defScope st) dvs [] f (PySem.W.fnOf x x (defArgs st) (defBody st) (defScope st) (.ref T) kV doc pm an cdv ct) := ⟨⟨oc, od, .ref T, kV, doc, pm, an, cdv, ct, osl, rfl, l, c, .inr ⟨hd, T, o, its, n, rfl, lT, oT, rT⟩, .inl rfl⟩, k⟩
  exact ⟨f, _, ⟨⟨oc, od, .ref T, kV, doc, pm, an, cdv, ct, osl, rfl, l, c⟩, k⟩, hm, FD.binds1 (ps := ps) m 0 hd hn b⟩
def CalP (P : Program) (w : World) (K : PySem.W.Frag) (mg : Str → Option Value) (base : Heap) (CX : CXT) (k : Nat) (x : Str) (st : Stmt) (ps : List Str) (dvs : List V) (sp : Sp) : Prop :=
  ∃ (f : Addr) (fd : FuncData), FunP K x st f fd ∧ mg x = some (.ref f) ∧ (∃ ds : List Value, Vals dvs ds ∧ Binds K fd ps ds) ∧ Keeps P w K mg base CX k f fd ps sp
theorem calP {P : Program} {w : World} {K : PySem.W.Frag} {mg : Str → Option Value} {base : Heap} {CX : CXT} {k : Nat} {x : Str} {st : Stmt} {ps : List Str} {dvs : List V} {sp : Sp} (D : DefAtP K mg x ps st dvs)
    (h : ∀ {f : Addr} {fd : FuncData}, FunP K x st f fd → Keeps P w K mg base CX k f fd ps sp) : CalP P w K mg base CX k x st ps dvs sp := by
  obtain ⟨f, fd, F, hm, B⟩ := D
  exact ⟨f, fd, F, hm, B, h F⟩
/-- an empty tuple of the top -/
def EmpT (K : PySem.W.Frag) (A : Addr) : Prop := ∃ (o : Obj) (n : Nat), K.lookup A = some o ∧ o.cls = .type "tuple" ∧ o.data = .seq #[] n
theorem EmpT.sq {K : PySem.W.Frag} {H : Hp} {A : Addr} (h : EmpT K A) : SqT K H A [] := by
  obtain ⟨o, n, h1, h2, h3⟩ := h
  exact .inr ⟨o, #[], n, h1, h2, h3, Nat.zero_le _, .nil⟩
def CalD (P : Program) (w : World) (K : PySem.W.Frag) (mg : Str → Option Value) (base : Heap) (CX : CXT) (k : Nat) (x : Str) (st : Stmt) (ps : List Str) (dvs : List V) (sp : Sp) : Prop :=
  ∃ (f : Addr) (fd : FuncData), Fun K x x st f fd ∧ mg x = some (.ref f) ∧ (∃ ds : List Value, Vals dvs ds ∧ Binds K fd ps ds) ∧ Keeps P w K mg base CX k f fd ps sp
theorem calD {P : Program} {w : World} {K : PySem.W.Frag} {mg : Str → Option Value} {base : Heap} {CX : CXT} {k : Nat} {x : Str} {st : Stmt} {ps : List Str} {dvs : List V} {sp : Sp} (D : DefAtD K mg x ps st dvs)
    (h : ∀ {f : Addr} {fd : FuncData}, Fun K x x st f fd → Keeps P w K mg base CX k f fd ps sp) : CalD P w K mg base CX k x st ps dvs sp := by
  obtain ⟨f, fd, F, hm, B⟩ := D
  exact ⟨f, fd, F, hm, B, h F⟩
section
variable {X : Cx} {CX : CXT} {k : Nat} {ps : List Str} {dvs : List V} {sp : Sp} {E : St → XK} {x : Str} {st : Stmt} {p pos : Pos} {e : Expr} {es : List Expr} {t tk : TA} {kws : List Keyword}
def tCallSD (sp : Sp) (dvs : List V) (E : St → XK) (t : TA) : TE := fun σ H Q => t σ H fun vs H1 => sp (vs ++ dvs) H1 Q (E σ)
theorem pe_calSD (C : CalD X.prog X.w X.K X.mg X.base CX k x st ps dvs sp) (hr : Rm k X.A) (hg : Gl X x) (hx : ∀ σ, PassesAt CX X σ (E σ)) (ha : PA X (e :: es) t)
    (hdb : (x == ("__debug__" : Str)) = false := by decide) (he : starEach (e :: es) X.env = (false, eval e X.env) :: starEach es X.env := by rfl) (hpl : (backTo pos (starEach es X.env)).any (·.1) = false := by rfl) :
    PE X (.Call (.Name x p) (e :: es) [] pos) (tCallSD sp dvs E t) := by
  obtain ⟨f, fd, F, hm, ⟨ds, rd, B⟩, O⟩ := C
  constructor
  intro pins s σ H Q I h
  refine wpAny_Call_Name_kw (ld_glob I hg hm ?_ hdb)
  refine PySem.W.callWith_K (h₀ := X.base) I.ok.mod.kin F.kp (thn (ha.run pos pins s σ H _ I h) ?_) he hpl
  rintro us s1 ⟨vs, H1, I1, r, q⟩
  refine And.intro I1.kIn ?_
  have rv : Vals (vs ++ dvs) (us ++ ds) := r.append rd
  have hl : (us ++ ds).length = ps.length := by
    rw [← rv.length]
    exact O.1 _ _ _ _ q
  exact run_keepsS O hr (hx σ) I1 (B s1 us I1.kIn hl) rv q
theorem pe_calSP (C : CalP X.prog X.w X.K X.mg X.base CX k x st ps dvs sp) (hr : Rm k X.A) (hg : Gl X x) (hx : ∀ σ, PassesAt CX X σ (E σ)) (ha : PA X (e :: es) t)
    (hdb : (x == ("__debug__" : Str)) = false := by decide) (he : starEach (e :: es) X.env = (false, eval e X.env) :: starEach es X.env := by rfl) (hpl : (backTo pos (starEach es X.env)).any (·.1) = false := by rfl) :
    PE X (.Call (.Name x p) (e :: es) [] pos) (tCallSD sp dvs E t) := by
  obtain ⟨f, fd, F, hm, ⟨ds, rd, B⟩, O⟩ := C
  constructor
  intro pins s σ H Q I h
  refine wpAny_Call_Name_kw (ld_glob I hg hm ?_ hdb)
  refine PySem.W.callWith_K (h₀ := X.base) I.ok.mod.kin F.kp (thn (ha.run pos pins s σ H _ I h) ?_) he hpl
  rintro us s1 ⟨vs, H1, I1, r, q⟩
  refine And.intro I1.kIn ?_
  have rv : Vals (vs ++ dvs) (us ++ ds) := r.append rd
  have hl : (us ++ ds).length = ps.length := by
    rw [← rv.length]
    exact O.1 _ _ _ _ q
  exact run_keepsS O hr (hx σ) I1 (B s1 us I1.kIn hl) rv q
theorem pe_calKSD {n : Nat} {ks : List Str} {pm : List Nat} (C : CalD X.prog X.w X.K X.mg X.base CX k x st ps dvs sp) (hr : Rm k X.A) (hg : Gl X x) (hb : KwOk x st ps n ks pm) (hx : ∀ σ, PassesAt CX X σ (E σ))
    (ha : PA X (e :: es) t) (hkw : PK X kws tk) (hall : (backToKw pos (keywordEach kws X.env)).all (·.1.isSome) = true := by rfl) (hks : (backToKw pos (keywordEach kws X.env)).filterMap (·.1) = ks := by rfl)
    (hdb : (x == ("__debug__" : Str)) = false := by decide) (he : starEach (e :: es) X.env = (false, eval e X.env) :: starEach es X.env := by rfl)
    (hpl : ((backTo pos (starEach (e :: es) X.env)).any (·.1) || (backToKw pos (keywordEach kws X.env)).any (·.1.isNone)) = false := by rfl) :
    PE X (.Call (.Name x p) (e :: es) kws pos) (tCalKS n ks.length pm sp E t tk) := by
  obtain ⟨f, fd, F, hm, _, O⟩ := C
  constructor
  intro pins s σ H Q I h
  refine wpAny_Call_Name_kw (ld_glob I hg hm ?_ hdb)
  refine PySem.W.callWith_KW (h₀ := X.base) I.ok.mod.kin F.kp hall (thn (ha.run pos pins s σ H _ I h) ?_) hpl he
  rintro us s1 ⟨vs, H1, I1, r, q⟩
  refine thn (hkw.run pos pins s1 σ H1 _ I1 q) ?_
  rintro ws s2 ⟨zs, H2, I2, rz, l1, l2, q2⟩
  refine And.intro I2.kIn ?_
  rw [hks]
  exact run_keepsS O hr (hx σ) I2 (kw_binds F hb s2 (by have := Vals.length r; simpa [this] using l1) (by rw [← Vals.length rz]; exact l2)) (gK_rel r rz) q2
theorem pe_calK0SD {ks : List Str} {pm : List Nat} (C : CalD X.prog X.w X.K X.mg X.base CX k x st ps dvs sp) (hr : Rm k X.A) (hg : Gl X x) (hb : KwOk x st ps 0 ks pm) (hx : ∀ σ, PassesAt CX X σ (E σ))
    (hkw : PK X kws tk) (hall : (backToKw pos (keywordEach kws X.env)).all (·.1.isSome) = true := by rfl) (hks : (backToKw pos (keywordEach kws X.env)).filterMap (·.1) = ks := by rfl)
    (hdb : (x == ("__debug__" : Str)) = false := by decide)
    (hpl : ((backTo pos (starEach [] X.env)).any (·.1) || (backToKw pos (keywordEach kws X.env)).any (·.1.isNone)) = false := by rfl) :
    PE X (.Call (.Name x p) [] kws pos) (tCalKS 0 ks.length pm sp E tNil tk) := by
  obtain ⟨f, fd, F, hm, _, O⟩ := C
  constructor
  intro pins s σ H Q I h
  refine wpAny_Call_Name_kw (ld_glob I hg hm ?_ hdb)
  refine PySem.W.callWith_KW0 (h₀ := X.base) I.ok.mod.kin F.kp hall ?_ hpl
  have h' : tk σ H fun zs H2 => ([] : List V).length = 0 ∧ zs.length = ks.length ∧ sp (gK pm [] zs) H2 Q (E σ) := h
  refine thn (hkw.run pos pins s σ H _ I h') ?_
  rintro ws s2 ⟨zs, H2, I2, rz, l1, l2, q2⟩
  refine And.intro I2.kIn ?_
  rw [hks]
  exact run_keepsS (us := gK pm [] ws) O hr (hx σ) I2 (kw_binds F hb s2 (us := []) rfl (by rw [← Vals.length rz]; exact l2)) (gK_rel .nil rz) q2
theorem rd_callSD {σ : St} {H : Hp} {Q : VK} (q : t σ H fun vs H1 => sp (vs ++ dvs) H1 Q (E σ)) : tCallSD sp dvs E t σ H Q := q
end
end Mine

/-! ## Own classes: fields, methods, objects made -/
namespace Mine
open PySem PySem.Spec PyProof.Rows
open L2 hiding CX XE Takes takes_of passes_call ps_raise ps_try_as ps_try_many ps_try_only pmk_own passAt MkP PMk mk_of Zc HdsOk takes_none5
open L2N hiding St
set_option linter.all false
/-- an own class of the top -/
structure ClsF (K : PySem.W.Frag) (mg : Str → Option Value) (x : Str) (C : Addr) : Prop where
  g : mg x = some (.ref C)
  c : L2.Cls K C
  mks : PySem.W.makesIn K C = true
  kp : PySem.W.keepIn K (.ref C) = true
theorem ClsF.one {K : PySem.W.Frag} {mg : Str → Option Value} {x : Str} {C D : Addr} (e : ClsF K mg x C) (f : mg x = some (.ref D)) : D = C := by
  have := e.g.symm.trans f
  cases this
  rfl
/-- a method -/
def MetAt (K : PySem.W.Frag) (C : Addr) (m qual : Str) (ps : List Str) (st : Stmt) : Prop := ∃ (f : Addr) (fd : FuncData), Fun K m qual st f fd ∧ Meth K C m f ∧ Binds K fd ps []
theorem MetAt.mk {K : PySem.W.Frag} {C : Addr} {m qual : Str} {ps : List Str} {st : Stmt} {f : Addr} {oc : Value} {od an : Option Addr} {osl : Array (Option Value)} {kV doc pm cdv ct : Value}
    (a : PySem.W.findIn K (.ref C) m = some (some (.ref f))) (i : PySem.W.isFn K (.ref f) = true)
    (l : K.lookup f = some ⟨oc, od, .func (PySem.W.fnOf m qual (defArgs st) (defBody st) (defScope st) .none kV doc pm an cdv ct), osl⟩) (c : PySem.W.codeIn K cdv qual = true) (k : PySem.W.keepIn K (.ref f) = true)
    (b : ∀ (kV doc pm : Value) (an : Option Addr) (cdv ct : Value) (us : List Value), us.length = ps.length → bindArgs (PySem.W.fnOf m qual (defArgs st) (defBody st) (defScope st) .none kV doc pm an cdv ct) ⟨us, []⟩ = pure (ps.zip us)) : MetAt K C m qual ps st :=
  ⟨f, _, fun_mk (st := st) l c k, ⟨a, i, k⟩, (fun_mk (st := st) l c k).binds b⟩
/-- a method that keeps a promise -/
def Met (P : Program) (w : World) (K : PySem.W.Frag) (mg : Str → Option Value) (base : Heap) (CX : CXT) (k : Nat) (C : Addr) (m qual : Str) (st : Stmt) (ps : List Str) (sp : Sp) : Prop :=
  ∃ (f : Addr) (fd : FuncData), Fun K m qual st f fd ∧ Meth K C m f ∧ Binds K fd ps [] ∧ Keeps P w K mg base CX k f fd ps sp
theorem met {P : Program} {w : World} {K : PySem.W.Frag} {mg : Str → Option Value} {base : Heap} {CX : CXT} {k : Nat} {C : Addr} {m qual : Str} {st : Stmt} {ps : List Str} {sp : Sp} (D : MetAt K C m qual ps st)
    (h : ∀ {f : Addr} {fd : FuncData}, Fun K m qual st f fd → Keeps P w K mg base CX k f fd ps sp) : Met P w K mg base CX k C m qual st ps sp := by
  obtain ⟨f, fd, F, M, B⟩ := D
  exact ⟨f, fd, F, M, B, h F⟩
/-- nothing that is raised leaves the callee here -/
theorem passE0 {X : Cx} (σ : St) : PassesAt (L2N.CX X.prog X.w) X σ E0 := by
  rintro _ _ _ e s' I ⟨_, _, _, _, _, _, _, _, _, _, _, _, h⟩
  exact h.elim
theorem rm_make {k : Nat} {A : Around} (h : Rm (k + 1) A) (C : Addr) (us : List Value) (kw : List (Str × Value)) : Rm k (A.under (.builtin "type.__call__" ⟨.ref C :: us, kw⟩)) := ⟨h.r.make C us kw, by
  have e := h.g
  first | exact e | (simp [Around.under, Code.isGuard, guardIds] at e ⊢; exact e)⟩
def KwOkM (m qual : Str) (st : Stmt) (ps : List Str) (n : Nat) (ks : List Str) (pm : List Nat) : Prop :=
  ∀ (kV doc pmv : Value) (an : Option Addr) (cdv ct : Value) (us ws : List Value), us.length = n → ws.length = ks.length →
    bindArgs (PySem.W.fnOf m qual (defArgs st) (defBody st) (defScope st) .none kV doc pmv an cdv ct) ⟨us, ks.zip ws⟩ = pure (ps.zip (gK pm us ws))
/-- o.m(e, ..) -/
def tMetS (C : Addr) (m : Str) (sp : Sp) (E : St → XK) (ta : TE) (t : TA) : TE := fun σ H Q => ta σ H fun x H1 => ∃ (a dx : Addr) (fs : List (Str × V)), x = .ref a ∧ H1 a = some (.ins C dx fs) ∧ fs.lookup m = none ∧ t σ H1 fun vs H2 => sp (x :: vs) H2 Q (E σ)
/-- o.m(e, .., k = v, ..) -/
def tMetKS (C : Addr) (m : Str) (n k : Nat) (pm : List Nat) (sp : Sp) (E : St → XK) (ta : TE) (t tk : TA) : TE := fun σ H Q => ta σ H fun x H1 => ∃ (a dx : Addr) (fs : List (Str × V)), x = .ref a ∧ H1 a = some (.ins C dx fs) ∧ fs.lookup m = none ∧
  t σ H1 fun vs H2 => tk σ H2 fun zs H3 => vs.length = n ∧ zs.length = k ∧ sp (gK pm (x :: vs) zs) H3 Q (E σ)
/-- C(e, ..) -/
def tMkS (C : Addr) (sp : Sp) (E : St → XK) (t : TA) : TE := fun σ H Q => t σ H fun vs H1 => ∀ x dx, H1 x = none → H1 dx = none → dx ≠ x → sp (.ref x :: vs) (upd (upd H1 dx (.own x)) x (.ins C dx [])) (fun v H2 => v = .non ∧ Q (.ref x) H2) (E σ)
section
variable {X : Cx} {CX : CXT} {k : Nat} {ps : List Str} {sp : Sp} {E : St → XK} {m qual x : Str} {st : Stmt} {p pos apos : Pos} {o e : Expr} {es : List Expr} {ta : TE} {t tk : TA} {kws : List Keyword} {C : Addr}
theorem pe_metS {pl : Sem Bool} (he : PE X o ta) (c : L2.Cls X.K C) (M : Met X.prog X.w X.K X.mg X.base CX k C m qual st ps sp) (hr : Rm k X.A) (hx : ∀ σ, PassesAt CX X σ (E σ)) (ha : PA X (e :: es) t)
    (hst : starEach (e :: es) X.env = (false, eval e X.env) :: starEach es X.env := by rfl) (hpl : (backTo pos (starEach es X.env)).any (·.1) = false := by rfl)
    (ht : eval (.Call (.Attribute o m apos) (e :: es) [] pos) X.env = (do
      let ov ← eval o X.env
      standAt apos.atName
      let (f, first) ← holding [ov] (getMethod ov m pl)
      callWith pos f first (backTo pos (starEach (e :: es) X.env)) (backToKw pos (keywordEach [] X.env))) := by rfl) :
    PE X (.Call (.Attribute o m apos) (e :: es) [] pos) (tMetS C m sp E ta t) := by
  obtain ⟨f, fd, F, hm, B, O⟩ := M
  refine ⟨fun pins s σ H Q I h => ?_⟩
  refine PySem.W.methodCall_KW (pl := pl) (thn (he.run pins s σ H _ I h) fun u s1 ⟨x, H1, I1, rx, a, dx, fs, ex, ea, l, q⟩ => ?_) ht
  subst ex
  obtain rfl : u = Value.ref a := rx
  refine getmeth_ok I1 ea c hm l ?_
  refine PySem.W.callWith_K (first := [.ref a]) (h₀ := X.base) I1.ok.mod.kin hm.kp (thn (ha.run pos pins s1 σ H1 _ I1 q) fun us s2 ⟨vs, H2, I2, r, q2⟩ => ⟨I2.kIn, ?_⟩) hst hpl
  have rv : Vals (V.ref a :: vs) (Value.ref a :: us) := .cons rfl r
  have hl : ((Value.ref a :: us) ++ []).length = ps.length := by
    rw [List.append_nil, ← rv.length]
    exact O.1 _ _ _ _ q2
  have b := B s2 (Value.ref a :: us) I2.kIn hl
  rw [List.append_nil] at b
  exact run_keepsS O hr (hx σ) I2 b rv q2
theorem pe_metS0 {pl : Sem Bool} (he : PE X o ta) (c : L2.Cls X.K C) (M : Met X.prog X.w X.K X.mg X.base CX k C m qual st ps sp) (hr : Rm k X.A) (hx : ∀ σ, PassesAt CX X σ (E σ))
    (ht : eval (.Call (.Attribute o m apos) [] [] pos) X.env = (do
      let ov ← eval o X.env
      standAt apos.atName
      let (f, first) ← holding [ov] (getMethod ov m pl)
      callWith pos f first (backTo pos (starEach [] X.env)) (backToKw pos (keywordEach [] X.env))) := by rfl) :
    PE X (.Call (.Attribute o m apos) [] [] pos) (tMetS C m sp E ta tNil) := by
  obtain ⟨f, fd, F, hm, B, O⟩ := M
  refine ⟨fun pins s σ H Q I h => ?_⟩
  refine PySem.W.methodCall_KW (pl := pl) (thn (he.run pins s σ H _ I h) fun u s1 ⟨x, H1, I1, rx, a, dx, fs, ex, ea, l, q⟩ => ?_) ht
  subst ex
  obtain rfl : u = Value.ref a := rx
  refine getmeth_ok I1 ea c hm l ?_
  have rv : Vals [V.ref a] [Value.ref a] := .cons rfl .nil
  have hl : (([Value.ref a] : List Value) ++ []).length = ps.length := by
    rw [List.append_nil, ← rv.length]
    exact O.1 _ _ _ _ q
  have b := B s1 [Value.ref a] I1.kIn hl
  rw [List.append_nil] at b
  exact PySem.W.callWith_K0 (first := [.ref a]) I1.kIn hm.kp (run_keepsS O hr (hx σ) I1 b rv q)
theorem kw_bindsM {K : PySem.W.Frag} {f : Addr} {fd : FuncData} {n : Nat} {ks : List Str} {pm : List Nat} (F : Fun K m qual st f fd) (hb : KwOkM m qual st ps n ks pm) (s : Shared) {us ws : List Value} (h1 : us.length = n) (h2 : ws.length = ks.length) :
    BindsTo s fd ⟨us, ks.zip ws⟩ (ps.zip (gK pm us ws)) := by
  obtain ⟨_, _, kV, doc, pmv, an, cdv, ct, _, rfl, _, _⟩ := F.ex
  exact .of_eq (hb kV doc pmv an cdv ct us ws h1 h2)
theorem pe_metKS {pl : Sem Bool} {n : Nat} {ks : List Str} {pm : List Nat} (he : PE X o ta) (c : L2.Cls X.K C) (M : Met X.prog X.w X.K X.mg X.base CX k C m qual st ps sp) (hr : Rm k X.A) (hb : KwOkM m qual st ps (n + 1) ks pm) (hx : ∀ σ, PassesAt CX X σ (E σ)) (ha : PA X (e :: es) t) (hkw : PK X kws tk)
    (hall : (backToKw pos (keywordEach kws X.env)).all (·.1.isSome) = true := by rfl) (hks : (backToKw pos (keywordEach kws X.env)).filterMap (·.1) = ks := by rfl)
    (hst : starEach (e :: es) X.env = (false, eval e X.env) :: starEach es X.env := by rfl)
    (hpl : ((backTo pos (starEach (e :: es) X.env)).any (·.1) || (backToKw pos (keywordEach kws X.env)).any (·.1.isNone)) = false := by rfl)
    (ht : eval (.Call (.Attribute o m apos) (e :: es) kws pos) X.env = (do
      let ov ← eval o X.env
      standAt apos.atName
      let (f, first) ← holding [ov] (getMethod ov m pl)
      callWith pos f first (backTo pos (starEach (e :: es) X.env)) (backToKw pos (keywordEach kws X.env))) := by rfl) :
    PE X (.Call (.Attribute o m apos) (e :: es) kws pos) (tMetKS C m n ks.length pm sp E ta t tk) := by
  obtain ⟨f, fd, F, hm, B, O⟩ := M
  refine ⟨fun pins s σ H Q I h => ?_⟩
  refine PySem.W.methodCall_KW (pl := pl) (thn (he.run pins s σ H _ I h) fun u s1 ⟨x, H1, I1, rx, a, dx, fs, ex, ea, l, q⟩ => ?_) ht
  subst ex
  obtain rfl : u = Value.ref a := rx
  refine getmeth_ok I1 ea c hm l ?_
  refine PySem.W.callWith_KW (first := [.ref a]) (h₀ := X.base) I1.ok.mod.kin hm.kp hall (thn (ha.run pos pins s1 σ H1 _ I1 q) fun us s2 ⟨vs, H2, I2, r, q2⟩ => ?_) hpl hst
  refine thn (hkw.run pos pins s2 σ H2 _ I2 q2) ?_
  rintro ws s3 ⟨zs, H3, I3, rz, l1, l2, q3⟩
  refine And.intro I3.kIn ?_
  rw [hks]
  have rv : Vals (V.ref a :: vs) (Value.ref a :: us) := .cons rfl r
  exact run_keepsS O hr (hx σ) I3 (kw_bindsM F hb s3 (us := Value.ref a :: us) (by rw [← rv.length, List.length_cons, l1]) (by rw [← Vals.length rz]; exact l2)) (gK_rel rv rz) q3
theorem pe_metK0S {pl : Sem Bool} {ks : List Str} {pm : List Nat} (he : PE X o ta) (c : L2.Cls X.K C) (M : Met X.prog X.w X.K X.mg X.base CX k C m qual st ps sp) (hr : Rm k X.A) (hb : KwOkM m qual st ps 1 ks pm) (hx : ∀ σ, PassesAt CX X σ (E σ)) (hkw : PK X kws tk)
    (hall : (backToKw pos (keywordEach kws X.env)).all (·.1.isSome) = true := by rfl) (hks : (backToKw pos (keywordEach kws X.env)).filterMap (·.1) = ks := by rfl)
    (hpl : ((backTo pos (starEach [] X.env)).any (·.1) || (backToKw pos (keywordEach kws X.env)).any (·.1.isNone)) = false := by rfl)
    (ht : eval (.Call (.Attribute o m apos) [] kws pos) X.env = (do
      let ov ← eval o X.env
      standAt apos.atName
      let (f, first) ← holding [ov] (getMethod ov m pl)
      callWith pos f first (backTo pos (starEach [] X.env)) (backToKw pos (keywordEach kws X.env))) := by rfl) :
    PE X (.Call (.Attribute o m apos) [] kws pos) (tMetKS C m 0 ks.length pm sp E ta tNil tk) := by
  obtain ⟨f, fd, F, hm, B, O⟩ := M
  refine ⟨fun pins s σ H Q I h => ?_⟩
  refine PySem.W.methodCall_KW (pl := pl) (thn (he.run pins s σ H _ I h) fun u s1 ⟨x, H1, I1, rx, a, dx, fs, ex, ea, l, q⟩ => ?_) ht
  subst ex
  obtain rfl : u = Value.ref a := rx
  refine getmeth_ok I1 ea c hm l ?_
  refine PySem.W.callWith_KW0 (first := [.ref a]) (h₀ := X.base) I1.ok.mod.kin hm.kp hall ?_ hpl
  have q' : tk σ H1 fun zs H3 => ([] : List V).length = 0 ∧ zs.length = ks.length ∧ sp (gK pm [V.ref a] zs) H3 Q (E σ) := q
  refine thn (hkw.run pos pins s1 σ H1 _ I1 q') ?_
  rintro ws s3 ⟨zs, H3, I3, rz, l1, l2, q3⟩
  refine And.intro I3.kIn ?_
  rw [hks]
  have rv : Vals [V.ref a] [Value.ref a] := .cons rfl .nil
  exact run_keepsS O hr (hx σ) I3 (kw_bindsM F hb s3 (us := [Value.ref a]) rfl (by rw [← Vals.length rz]; exact l2)) (gK_rel rv rz) q3
theorem run_mkS {pins : List (Addr × Obj)} {σ : St} {H : Hp} {s : Shared} {Q : VK} {us : List Value} {vs : List V} (c : ClsF X.K X.mg x C) (M : Met X.prog X.w X.K X.mg X.base CX k C "__init__" qual st ps sp) (hr : Rm (k + 1) X.A) (hx : ∀ σ, PassesAt CX X σ (E σ)) (I : Inv X pins σ H s) (r : Vals vs us)
    (h : ∀ x dx, H x = none → H dx = none → dx ≠ x → sp (.ref x :: vs) (upd (upd H dx (.own x)) x (.ins C dx [])) (fun v H2 => v = .non ∧ Q (.ref x) H2) (E σ)) :
    wpAny (model X.prog X.w) X.A (call (.ref C) us) (EP X pins σ Q) X.xe s := by
  obtain ⟨f, fd, F, hm, B, O⟩ := M
  have hq := h (s.heap.objs.size + 1) s.heap.objs.size (I.hok.fresh (Nat.le_succ _)) (I.hok.fresh (Nat.le_refl _)) (Nat.ne_of_lt (Nat.lt_succ_self _))
  have I2 := Inv.made (C := C) I
  have r2 : Vals (V.ref (s.heap.objs.size + 1) :: vs) (Value.ref (s.heap.objs.size + 1) :: us) := .cons rfl r
  have hl : ((Value.ref (s.heap.objs.size + 1) :: us) ++ []).length = ps.length := by
    rw [List.append_nil, ← r2.length]
    exact O.1 _ _ _ _ hq
  have b := B { s with heap := (s.heap.push PySem.W.emptyDict).push (PySem.W.instObj C s.heap.objs.size) } (Value.ref (s.heap.objs.size + 1) :: us) I2.kIn hl
  rw [List.append_nil] at b
  refine wpAny_call (make_map (f := f) I.kIn c.mks hm.at_ (beq_iff_eq.mp hm.fn) (codeAny_mono (O.2 _ X.stack _ _ ⟨Value.ref (s.heap.objs.size + 1) :: us, []⟩ (Value.ref (s.heap.objs.size + 1) :: us) _ _ (E σ) (rm_make hr C us [])
    (I2.env0.make C us []) b r2 hq) fun r s' hq' => ?_))
  cases r with
  | error e => exact hx σ pins _ _ e s' I2 hq'
  | ok fl =>
    cases fl with
    | ret u =>
      obtain ⟨v, H', I3, rv, ev, q3⟩ := I2.after hq'
      subst ev
      exact ⟨rv, ⟨V.ref (s.heap.objs.size + 1), H', I3, rfl, q3⟩⟩
    | next => exact False.elim hq'
    | brk => exact False.elim hq'
    | cont => exact False.elim hq'
/-- C(k = v, ..) -/
theorem run_mkKS {pins : List (Addr × Obj)} {σ : St} {H : Hp} {s : Shared} {Q : VK} {ws : List Value} {zs : List V} {ks : List Str} {pm : List Nat} (c : ClsF X.K X.mg x C) (M : Met X.prog X.w X.K X.mg X.base CX k C "__init__" qual st ps sp) (hr : Rm (k + 1) X.A) (hb : KwOkM "__init__" qual st ps 1 ks pm) (hx : ∀ σ, PassesAt CX X σ (E σ)) (I : Inv X pins σ H s) (r : Vals zs ws) (l : ws.length = ks.length)
    (h : ∀ x dx, H x = none → H dx = none → dx ≠ x → sp (gK pm [.ref x] zs) (upd (upd H dx (.own x)) x (.ins C dx [])) (fun v H2 => v = .non ∧ Q (.ref x) H2) (E σ)) :
    wpAny (model X.prog X.w) X.A (call (.ref C) [] (ks.zip ws)) (EP X pins σ Q) X.xe s := by
  obtain ⟨f, fd, F, hm, B, O⟩ := M
  have hq := h (s.heap.objs.size + 1) s.heap.objs.size (I.hok.fresh (Nat.le_succ _)) (I.hok.fresh (Nat.le_refl _)) (Nat.ne_of_lt (Nat.lt_succ_self _))
  have I2 := Inv.made (C := C) I
  have rv : Vals [V.ref (s.heap.objs.size + 1)] [Value.ref (s.heap.objs.size + 1)] := .cons rfl .nil
  refine wpAny_call (make_map (f := f) I.kIn c.mks hm.at_ (beq_iff_eq.mp hm.fn) (codeAny_mono (O.2 _ X.stack _ _ ⟨[Value.ref (s.heap.objs.size + 1)], ks.zip ws⟩ (gK pm [Value.ref (s.heap.objs.size + 1)] ws) _ _ (E σ) (rm_make hr C [] (ks.zip ws))
    (I2.env0.make C [] (ks.zip ws)) (kw_bindsM F hb _ (us := [Value.ref (s.heap.objs.size + 1)]) rfl l) (gK_rel rv r) hq) fun r s' hq' => ?_))
  cases r with
  | error e => exact hx σ pins _ _ e s' I2 hq'
  | ok fl =>
    cases fl with
    | ret u =>
      obtain ⟨v, H', I3, rv, ev, q3⟩ := I2.after hq'
      subst ev
      exact ⟨rv, ⟨V.ref (s.heap.objs.size + 1), H', I3, rfl, q3⟩⟩
    | next => exact False.elim hq'
    | brk => exact False.elim hq'
    | cont => exact False.elim hq'
def tMkKS (C : Addr) (k : Nat) (pm : List Nat) (sp : Sp) (E : St → XK) (tk : TA) : TE := fun σ H Q => tk σ H fun zs H1 => zs.length = k ∧ ∀ x dx, H1 x = none → H1 dx = none → dx ≠ x → sp (gK pm [.ref x] zs) (upd (upd H1 dx (.own x)) x (.ins C dx [])) (fun v H2 => v = .non ∧ Q (.ref x) H2) (E σ)
theorem pe_mkKS {ks : List Str} {pm : List Nat} (c : ClsF X.K X.mg x C) (M : Met X.prog X.w X.K X.mg X.base CX k C "__init__" qual st ps sp) (hr : Rm (k + 1) X.A) (hb : KwOkM "__init__" qual st ps 1 ks pm) (hg : Gl X x) (hx : ∀ σ, PassesAt CX X σ (E σ)) (hkw : PK X kws tk)
    (hdb : (x == ("__debug__" : Str)) = false := by decide)
    (hall : (backToKw pos (keywordEach kws X.env)).all (·.1.isSome) = true := by rfl) (hks : (backToKw pos (keywordEach kws X.env)).filterMap (·.1) = ks := by rfl)
    (hpl : ((backTo pos (starEach [] X.env)).any (·.1) || (backToKw pos (keywordEach kws X.env)).any (·.1.isNone)) = false := by rfl) :
    PE X (.Call (.Name x p) [] kws pos) (tMkKS C ks.length pm sp E tk) := by
  refine ⟨fun pins s σ H Q I h => ?_⟩
  refine wpAny_Call_Name_kw (ld_glob I hg c.g ?_ hdb)
  refine PySem.W.callWith_KW0 (first := []) (h₀ := X.base) I.ok.mod.kin c.kp hall ?_ hpl
  refine thn (hkw.run pos pins s σ H _ I h) ?_
  rintro ws s3 ⟨zs, H3, I3, rz, l2, q3⟩
  refine And.intro I3.kIn ?_
  rw [hks]
  exact run_mkKS c M hr hb hx I3 rz (by rw [← Vals.length rz]; exact l2) q3
theorem passesE0 {X : Cx} : Passes (L2N.CX X.prog X.w) X E0 := by
  rintro _ _ _ _ e s' I ⟨_, _, _, _, _, _, _, _, _, _, _, _, h⟩
  exact h.elim
theorem pe_mkS0 (c : ClsF X.K X.mg x C) (M : Met X.prog X.w X.K X.mg X.base CX k C "__init__" qual st ps sp) (hr : Rm (k + 1) X.A) (hg : Gl X x) (hx : ∀ σ, PassesAt CX X σ (E σ))
    (hdb : (x == ("__debug__" : Str)) = false := by decide) : PE X (.Call (.Name x p) [] [] pos) (tMkS C sp E tNil) := by
  refine ⟨fun pins s σ H Q I h => ?_⟩
  refine wpAny_Call_Name_kw (ld_glob I hg c.g ?_ hdb)
  exact PySem.W.callWith_K0 I.kIn c.kp (run_mkS (us := []) c M hr hx I .nil h)
theorem pe_mkS (c : ClsF X.K X.mg x C) (M : Met X.prog X.w X.K X.mg X.base CX k C "__init__" qual st ps sp) (hr : Rm (k + 1) X.A) (hg : Gl X x) (hx : ∀ σ, PassesAt CX X σ (E σ)) (ha : PA X (e :: es) t)
    (hdb : (x == ("__debug__" : Str)) = false := by decide) (he : starEach (e :: es) X.env = (false, eval e X.env) :: starEach es X.env := by rfl) (hpl : (backTo pos (starEach es X.env)).any (·.1) = false := by rfl) :
    PE X (.Call (.Name x p) (e :: es) [] pos) (tMkS C sp E t) := by
  refine ⟨fun pins s σ H Q I h => ?_⟩
  refine wpAny_Call_Name_kw (ld_glob I hg c.g ?_ hdb)
  refine PySem.W.callWith_K (h₀ := X.base) I.ok.mod.kin c.kp (thn (ha.run pos pins s σ H _ I h) fun us s1 ⟨vs, H1, I1, r, q⟩ => ⟨I1.kIn, ?_⟩) he hpl
  exact run_mkS c M hr hx I1 r q
end
theorem pe_fldK {X : Cx} {K : PySem.W.Frag} {e : Expr} {f : Str} {pos : Pos} {ta : TE} (he : PE X e ta) (ek : X.K = K := by rfl) (hb : attributeBase e f X.env (eval e X.env) = eval e X.env := by rfl) : PE X (.Attribute e f pos) (tFld K ta f) := by
  subst ek
  exact pe_fld he hb
/-! readings -/
section
variable {σ : St} {H : Hp} {Q : VK} {D : Ends} {K : PySem.W.Frag} {C a dx : Addr} {fs fs' : List (Str × V)} {f m : Str} {v : V} {ta tv : TE} {sp : Sp} {E : St → XK} {t tk : TA}
theorem rd_sp5x {Φ : V → V → V → V → V → Hp → VK → XK → Prop} {E : XK} {a b c d e : V} (q : Φ a b c d e H Q E) : sp5x Φ [a, b, c, d, e] H Q E := ⟨a, b, c, d, e, rfl, q⟩
theorem rd_fld (q : ta σ H fun x H1 => ∃ a C dx fs v, x = .ref a ∧ H1 a = some (.ins C dx fs) ∧ L2.Cls K C ∧ NoAttr K C f ∧ fs.lookup f = some v ∧ Q v H1) : tFld K ta f σ H Q := q
theorem rd_fld2 (h : H a = some (.ins C dx fs)) (c : L2.Cls K C) (n : NoAttr K C f) (l : fs.lookup f = some v) (q : Q v H) : ∃ a' C dx fs v, V.ref a = .ref a' ∧ H a' = some (.ins C dx fs) ∧ L2.Cls K C ∧ NoAttr K C f ∧ fs.lookup f = some v ∧ Q v H := ⟨a, C, dx, fs, v, rfl, h, c, n, l, q⟩
theorem rd_sfld (q : tv σ H fun y H1 => ta σ H1 fun x H2 => ∃ a C dx fs, x = .ref a ∧ H2 a = some (.ins C dx fs) ∧ L2.Cls K C ∧ NoAttr K C f ∧ fs.length < 1000 ∧ D.nx σ (upd H2 a (.ins C dx (putF f y fs)))) : sFld K ta tv f D σ H := q
theorem rd_sfld2 {y : V} {N : Hp → Prop} (h : H a = some (.ins C dx fs)) (c : L2.Cls K C) (n : NoAttr K C f) (l : fs.length < 1000) (e : putF f y fs = fs') (q : N (upd H a (.ins C dx fs'))) : ∃ a' C dx fs, V.ref a = .ref a' ∧ H a' = some (.ins C dx fs) ∧ L2.Cls K C ∧ NoAttr K C f ∧ fs.length < 1000 ∧ N (upd H a' (.ins C dx (putF f y fs))) :=
  ⟨a, C, dx, fs, rfl, h, c, n, l, by rw [e]; exact q⟩
theorem rd_metS (q : ta σ H fun x H1 => ∃ (a dx : Addr) (fs : List (Str × V)), x = .ref a ∧ H1 a = some (.ins C dx fs) ∧ fs.lookup m = none ∧ t σ H1 fun vs H2 => sp (x :: vs) H2 Q (E σ)) : tMetS C m sp E ta t σ H Q := q
theorem rd_metKS {n k : Nat} {pm : List Nat} (q : ta σ H fun x H1 => ∃ (a dx : Addr) (fs : List (Str × V)), x = .ref a ∧ H1 a = some (.ins C dx fs) ∧ fs.lookup m = none ∧ t σ H1 fun vs H2 => tk σ H2 fun zs H3 => vs.length = n ∧ zs.length = k ∧ sp (gK pm (x :: vs) zs) H3 Q (E σ)) : tMetKS C m n k pm sp E ta t tk σ H Q := q
theorem rd_met2 {N : Hp → Prop} (h : H a = some (.ins C dx fs)) (l : fs.lookup m = none) (q : N H) : ∃ (a' dx : Addr) (fs : List (Str × V)), V.ref a = .ref a' ∧ H a' = some (.ins C dx fs) ∧ fs.lookup m = none ∧ N H := ⟨a, dx, fs, rfl, h, l, q⟩
theorem rd_mkKS {k : Nat} {pm : List Nat} (q : tk σ H fun zs H1 => zs.length = k ∧ ∀ x dx, H1 x = none → H1 dx = none → dx ≠ x → sp (gK pm [.ref x] zs) (upd (upd H1 dx (.own x)) x (.ins C dx [])) (fun v H2 => v = .non ∧ Q (.ref x) H2) (E σ)) : tMkKS C k pm sp E tk σ H Q := q
theorem rd_mkS (q : t σ H fun vs H1 => ∀ x dx, H1 x = none → H1 dx = none → dx ≠ x → sp (.ref x :: vs) (upd (upd H1 dx (.own x)) x (.ins C dx [])) (fun v H2 => v = .non ∧ Q (.ref x) H2) (E σ)) : tMkS C sp E t σ H Q := q
end
theorem rd_remX {K : PySem.W.Frag} {W : WX} {to te : TE} {σ : St} {H : Hp} {Q : VK} (q : to σ H fun x H1 => tyV K "list" x H1 ∧ te σ H1 fun y H2 => ∃ (l : Addr) (ns : List Int) (k : Int), x = .ref l ∧ y = .int k ∧ H2 l = some (.lst (ns.map V.int)) ∧
  (k ∈ ns → Q .non (upd H2 l (.lst ((ns.erase k).map V.int)))) ∧ (k ∉ ns → ∀ d, W (.type "ValueError") d σ H2)) : tRemX K W to te σ H Q := q
/-! lists of fields -/
theorem lk_hit {f : Str} {v : V} {l : List (Str × V)} : ((f, v) :: l).lookup f = some v := by
  rw [List.lookup_cons, beq_self_eq_true]
theorem lk_miss {f g : Str} {v : V} {l : List (Str × V)} {o : Option V} (h : ¬ g = f) (e : l.lookup f = o) : ((g, v) :: l).lookup f = o := by
  rw [List.lookup_cons, show (f == g) = false from beq_eq_false_iff_ne.mpr fun q => h q.symm]
  exact e
theorem lk_nil {f : Str} : ([] : List (Str × V)).lookup f = none := rfl
theorem pf_nil {f : Str} {v : V} : putF f v [] = [(f, v)] := rfl
theorem pf_hit {f : Str} {v x : V} {l : List (Str × V)} : putF f v ((f, x) :: l) = (f, v) :: l := by
  show (if f = f then (f, v) :: l else _) = _
  rw [if_pos rfl]
theorem pf_miss {f g : Str} {v x : V} {l l' : List (Str × V)} (h : ¬ g = f) (e : putF f v l = l') : putF f v ((g, x) :: l) = (g, x) :: l' := by
  show (if g = f then (g, v) :: l else (g, x) :: putF f v l) = _
  rw [if_neg h, e]
end Mine
/-! ## Tuples of the top -/
namespace Mine
abbrev _root_.Mine.sp0 (Φ : L2.Hp → L2.VK → Prop) : L2.Sp := fun vs H Q _ => vs = [] ∧ Φ H Q
abbrev _root_.Mine.sp0x (Φ : L2.Hp → L2.VK → L2.XK → Prop) : L2.Sp := fun vs H Q E => vs = [] ∧ Φ H Q E
theorem rd_sp0 {Φ : L2.Hp → L2.VK → Prop} {H : L2.Hp} {Q : L2.VK} {E : L2.XK} (q : Φ H Q) : sp0 Φ ([] ++ []) H Q E := ⟨rfl, q⟩
open PySem PySem.Spec PyProof.Rows
open L2 hiding CX XE Takes takes_of passes_call ps_raise ps_try_as ps_try_many ps_try_only pmk_own passAt MkP PMk mk_of Zc HdsOk takes_none5
open L2N hiding St
set_option linter.all false
/-- a tuple that the top has made -/
def KTup (K : PySem.W.Frag) (A : Addr) (xs : List V) : Prop := ∃ (o : Obj) (its : Array Value) (n : Nat), K.lookup A = some o ∧ o.cls = .type "tuple" ∧ o.data = .seq its n ∧ its.size ≤ sizeLine ∧ Vals xs its.toList
theorem KTup.mk {K : PySem.W.Frag} {A : Addr} {xs : List V} {od : Option Addr} {its : List Value} {n : Nat} {sl : Array (Option Value)} (l : K.lookup A = some ⟨.type "tuple", od, .seq its.toArray n, sl⟩) (r : Vals xs its) (h : xs.length ≤ 1000) : KTup K A xs :=
  ⟨_, its.toArray, n, l, rfl, rfl, by rw [List.size_toArray, ← r.length]; exact Nat.le_trans h (by decide), r⟩
theorem KTup.sq {K : PySem.W.Frag} {H : Hp} {A : Addr} {xs : List V} (h : KTup K A xs) : SqT K H A xs := .inr h
/-- a name of the top for a tuple -/
def GT (K : PySem.W.Frag) (mg : Str → Option Value) (x : Str) (A : Addr) (xs : List V) : Prop := KTup K A xs ∧ GK mg x (.ref A)
end Mine
/-! ## isinstance of a caught error -/
namespace Mine
open PySem PySem.Spec PyProof.Rows
open L2 hiding CX XE Takes takes_of passes_call ps_raise ps_try_as ps_try_many ps_try_only pmk_own passAt MkP PMk mk_of Zc HdsOk takes_none5
open L2N hiding St
set_option linter.all false
theorem kit_to {K : PySem.W.Frag} {C D : Addr} {b : Bool} (h2 : PySem.W.isClsIn K C = true) (h3 : PySem.W.typeIn K (.ref C) = some (.type "type")) (h4 : PySem.W.subIn K (.ref D) (.ref C) = some b) (h5 : PySem.W.subIn K (.ref C) (.ref C) = some true) :
    PySem.W.kitOne K (.ref D) (.ref C) = some b := by
  unfold PySem.W.kitOne
  split
  · rename_i h
    have e : (Value.ref D) = .ref C := beq_iff_eq.mp h
    cases e
    exact h5.symm.trans h4
  · have e2 : ((PySem.W.clsIn K C).isSome && PySem.W.typeIn K (.ref C) == some (.type "type")) = true := by
      have h2' : (PySem.W.clsIn K C).isSome = true := h2
      rw [h2', h3] <;> rfl
    show (if ((PySem.W.clsIn K C).isSome && PySem.W.typeIn K (.ref C) == some (.type "type")) = true then PySem.W.subIn K (.ref D) (.ref C) else none) = some b
    rw [if_pos e2]
    exact h4
theorem ExcF.kit {K : PySem.W.Frag} {mg : Str → Option Value} {y : Str} {C D : Addr} {b : Bool} (e : ExcF K mg y C) (h : PySem.W.subIn K (.ref D) (.ref C) = some b) (h5 : PySem.W.subIn K (.ref C) (.ref C) = some true) : PySem.W.kitOne K (.ref D) (.ref C) = some b := kit_to e.i e.t h h5
def rIsE2 (K : PySem.W.Frag) (cls : Value) (d : Option Addr) (a : Addr) : List V → Hp → VK → Prop := fun xs H Q => ∃ (D C : Addr) (b : Bool), cls = .ref D ∧ d = none ∧ ExcC K D ∧ xs = [.ref a, .ref C] ∧ PySem.W.kitOne K (.ref D) (.ref C) = some b ∧ Q (.bl b) H
theorem call_isE2 {X : Cx} {a : Addr} {cls : Value} {d : Option Addr} {oe : Obj} {pn : List (Addr × Obj)} (hz : Zn cls d oe) (hf : ∃ vs, oe.data = .fields vs) : CallR (X.suite a ((a, oe) :: pn)) (.builtin "isinstance") (rIsE2 X.K cls d a) := by
  intro pins s σ H xs us Q I r h
  obtain ⟨D, C, b, rfl, rfl, ex, rfl, e, q⟩ := h
  exact call_isE ex hz.zc hf pins s σ H _ us Q I r ⟨.ref C, .ref C, b, rfl, fun u hu => hu, e, q⟩
end Mine

/-! ## Data of tuples, whether tracked, known or of the top -/
namespace Mine
open PySem PySem.Spec PyProof.Rows
open L2 hiding CX XE Takes takes_of passes_call ps_raise ps_try_as ps_try_many ps_try_only pmk_own passAt MkP PMk mk_of Zc HdsOk takes_none5
open L2N hiding St
set_option linter.all false
theorem _root_.L2.SqT.up {K : PySem.W.Frag} {H H' : Hp} {a : Addr} {xs : List V} (h : SqT K H a xs) (k : Ty H H') : SqT K H' a xs := by
  rcases h with h | h
  · exact .inl (Rt.up h k)
  · exact .inr h
/-- what is changed at p is no tuple -/
theorem Ty.ch {A B : Hp} {p : Addr} {o u : HO} (h : Ty A B) (n : B p = some u) (d : (∀ xs, u ≠ .tup xs) ∧ ∀ ob xs, u ≠ .frz ob (.tup xs)) : Ty A (upd B p o) :=
  h.trans ⟨fun a xs q => by rw [upd_ne (fun e => by rw [e, n] at q; exact d.1 _ (Option.some.inj q))]; exact q, fun a ob xs q => by rw [upd_ne (fun e => by rw [e, n] at q; exact d.2 ob xs (Option.some.inj q))]; exact q⟩
theorem Ty.ins {A B : Hp} {p C dx : Addr} {o : HO} {fs : List (Str × V)} (h : Ty A B) (n : B p = some (.ins C dx fs)) : Ty A (upd B p o) := h.ch n ⟨(fun _ z => nomatch z), fun _ _ z => nomatch z⟩
mutual
/-- data, held by a value -/
inductive Ip (K : PySem.W.Frag) (H : Hp) : V → PyData → Prop
  | non : Ip K H .non .none
  | bl (b : Bool) : Ip K H (.bl b) (.bool b)
  | int (i : Int) : Ip K H (.int i) (.int i)
  | str (x : Str) : Ip K H (.str x) (.str x)
  | tup {a : Addr} {xs : List V} {ds : List PyData} : SqT K H a xs → IpAll K H xs ds → Ip K H (.ref a) (.tuple ds)
inductive IpAll (K : PySem.W.Frag) (H : Hp) : List V → List PyData → Prop
  | nil : IpAll K H [] []
  | cons {v : V} {vs : List V} {d : PyData} {ds : List PyData} : Ip K H v d → IpAll K H vs ds → IpAll K H (v :: vs) (d :: ds)
end
section
variable {H H' : Hp} {K : PySem.W.Frag}
mutual
theorem Ip.mono (e : Ty H H') : ∀ (d : PyData) (v : V), Ip K H v d → Ip K H' v d
  | .none, _, h => by cases h; exact .non
  | .bool b, _, h => by cases h; exact .bl b
  | .int i, _, h => by cases h; exact .int i
  | .str x, _, h => by cases h; exact .str x
  | .tuple ds, _, h => by
    cases h with
    | tup h1 h2 => exact .tup (h1.up e) (IpAll.mono e ds _ h2)
  | .list ds, _, h => by cases h
  | .dict ds, _, h => by cases h
theorem IpAll.mono (e : Ty H H') : ∀ (ds : List PyData) (vs : List V), IpAll K H vs ds → IpAll K H' vs ds
  | [], _, h => by cases h; exact .nil
  | d :: ds, _, h => by
    cases h with
    | cons h1 h2 => exact .cons (Ip.mono e d _ h1) (IpAll.mono e ds _ h2)
end
mutual
theorem Ip.dp : ∀ (d : PyData) (v : V), Ip K H v d → Dp K H v d
  | .none, _, h => by cases h; exact .non
  | .bool b, _, h => by cases h; exact .bl b
  | .int i, _, h => by cases h; exact .int i
  | .str x, _, h => by cases h; exact .str x
  | .tuple ds, _, h => by
    cases h with
    | tup h1 h2 => exact .tup h1 (IpAll.dp ds _ h2)
  | .list ds, _, h => by cases h
  | .dict ds, _, h => by cases h
theorem IpAll.dp : ∀ (ds : List PyData) (vs : List V), IpAll K H vs ds → DpAll K H vs ds
  | [], _, h => by cases h; exact .nil
  | d :: ds, _, h => by
    cases h with
    | cons h1 h2 => exact .cons (Ip.dp d _ h1) (IpAll.dp ds _ h2)
end
theorem Ip.up {v : V} {d : PyData} (h : Ip K H v d) (e : Ty H H') : Ip K H' v d := Ip.mono e d v h
theorem IpAll.up {vs : List V} {ds : List PyData} (h : IpAll K H vs ds) (e : Ty H H') : IpAll K H' vs ds := IpAll.mono e ds vs h
theorem Ip.to {v : V} {d : PyData} (h : Ip K H v d) : Dp K H v d := Ip.dp d v h
theorem IpAll.to {vs : List V} {ds : List PyData} (h : IpAll K H vs ds) : DpAll K H vs ds := IpAll.dp ds vs h
theorem IpAll.length : ∀ {vs : List V} {ds : List PyData}, IpAll K H vs ds → vs.length = ds.length
  | _, [], h => by cases h; rfl
  | _, d :: ds, h => by
    cases h with
    | cons _ h2 => rw [List.length_cons, List.length_cons, IpAll.length h2]
theorem IpAll.get : ∀ {vs : List V} {ds : List PyData} {i : Nat} {d : PyData}, IpAll K H vs ds → ds[i]? = some d → ∃ v, vs[i]? = some v ∧ Ip K H v d
  | _, [], i, _, h, e => by simp at e
  | _, d :: ds, 0, _, h, e => by
    cases h with
    | cons h1 h2 => cases e; exact ⟨_, rfl, h1⟩
  | _, d :: ds, i + 1, _, h, e => by
    cases h with
    | cons h1 h2 => exact IpAll.get (i := i) h2 e
theorem IpAll.getV : ∀ {vs : List V} {ds : List PyData} {i : Nat} {v : V}, IpAll K H vs ds → vs[i]? = some v → ∃ d, ds[i]? = some d ∧ Ip K H v d := fun {vs ds i v} h e => by
  have l := (List.getElem?_eq_some_iff.mp e).1
  rw [h.length] at l
  obtain ⟨w, h1, h2⟩ := h.get (List.getElem?_eq_getElem l)
  rw [e] at h1
  cases h1
  exact ⟨_, List.getElem?_eq_getElem l, h2⟩
theorem IpAll.append : ∀ {vs ws : List V} {ds es : List PyData}, IpAll K H vs ds → IpAll K H ws es → IpAll K H (vs ++ ws) (ds ++ es)
  | _, _, [], _, h, k => by cases h; exact k
  | _, _, d :: ds, _, h, k => by
    cases h with
    | cons h1 h2 => exact .cons h1 (IpAll.append h2 k)
theorem IpAll.snoc {vs : List V} {v : V} {ds : List PyData} {d : PyData} (h : IpAll K H vs ds) (k : Ip K H v d) : IpAll K H (vs ++ [v]) (ds ++ [d]) := h.append (.cons k .nil)
theorem IpAll.set : ∀ {vs : List V} {ds : List PyData} {v : V} {d : PyData} (i : Nat), IpAll K H vs ds → Ip K H v d → IpAll K H (vs.set i v) (ds.set i d)
  | _, [], _, _, i, h, _ => by cases h; exact .nil
  | _, d :: ds, _, _, 0, h, k => by
    cases h with
    | cons h1 h2 => exact .cons k h2
  | _, d :: ds, _, _, i + 1, h, k => by
    cases h with
    | cons h1 h2 => exact .cons h1 (IpAll.set i h2 k)
theorem IpAll.take : ∀ {vs : List V} {ds : List PyData} (i : Nat), IpAll K H vs ds → IpAll K H (vs.take i) (ds.take i)
  | _, [], i, h => by cases h; rw [List.take_nil, List.take_nil]; exact .nil
  | _, d :: ds, 0, h => .nil
  | _, d :: ds, i + 1, h => by
    cases h with
    | cons h1 h2 => exact .cons h1 (IpAll.take i h2)
theorem IpAll.drop : ∀ {vs : List V} {ds : List PyData} (i : Nat), IpAll K H vs ds → IpAll K H (vs.drop i) (ds.drop i)
  | _, [], i, h => by cases h; rw [List.drop_nil, List.drop_nil]; exact .nil
  | _, d :: ds, 0, h => h
  | _, d :: ds, i + 1, h => by
    cases h with
    | cons h1 h2 => exact IpAll.drop i h2
theorem ip_strs : ∀ ws : List Str, IpAll K H (ws.map V.str) (ws.map PyData.str)
  | [] => .nil
  | w :: ws => .cons (.str w) (ip_strs ws)
theorem ip_ints : ∀ ws : List Int, IpAll K H (ws.map V.int) (ws.map PyData.int)
  | [] => .nil
  | w :: ws => .cons (.int w) (ip_ints ws)
/-- a tuple of one, two, three, four -/
theorem Ip.t1 {v : V} {d : PyData} (h : Ip K H v (.tuple [d])) : ∃ a x, v = .ref a ∧ SqT K H a [x] ∧ Ip K H x d := by
  cases h with
  | tup h1 h2 =>
    cases h2 with
    | cons k1 r1 => cases r1; exact ⟨_, _, rfl, h1, k1⟩
theorem Ip.t2 {v : V} {d e : PyData} (h : Ip K H v (.tuple [d, e])) : ∃ a x y, v = .ref a ∧ SqT K H a [x, y] ∧ Ip K H x d ∧ Ip K H y e := by
  cases h with
  | tup h1 h2 =>
    cases h2 with
    | cons k1 r1 =>
      cases r1 with
      | cons k2 r2 => cases r2; exact ⟨_, _, _, rfl, h1, k1, k2⟩
theorem Ip.t3 {v : V} {d e f : PyData} (h : Ip K H v (.tuple [d, e, f])) : ∃ a x y z, v = .ref a ∧ SqT K H a [x, y, z] ∧ Ip K H x d ∧ Ip K H y e ∧ Ip K H z f := by
  cases h with
  | tup h1 h2 =>
    cases h2 with
    | cons k1 r1 =>
      cases r1 with
      | cons k2 r2 =>
        cases r2 with
        | cons k3 r3 => cases r3; exact ⟨_, _, _, _, rfl, h1, k1, k2, k3⟩
theorem Ip.t4 {v : V} {d e f g : PyData} (h : Ip K H v (.tuple [d, e, f, g])) : ∃ a x y z u, v = .ref a ∧ SqT K H a [x, y, z, u] ∧ Ip K H x d ∧ Ip K H y e ∧ Ip K H z f ∧ Ip K H u g := by
  cases h with
  | tup h1 h2 =>
    cases h2 with
    | cons k1 r1 =>
      cases r1 with
      | cons k2 r2 =>
        cases r2 with
        | cons k3 r3 =>
          cases r3 with
          | cons k4 r4 => cases r4; exact ⟨_, _, _, _, _, rfl, h1, k1, k2, k3, k4⟩
theorem Ip.tn {v : V} {ds : List PyData} (h : Ip K H v (.tuple ds)) : ∃ a xs, v = .ref a ∧ SqT K H a xs ∧ IpAll K H xs ds := by
  cases h with
  | tup h1 h2 => exact ⟨_, _, rfl, h1, h2⟩
theorem Ip.i {v : V} {i : Int} (h : Ip K H v (.int i)) : v = .int i := by cases h; rfl
theorem Ip.s {v : V} {x : Str} (h : Ip K H v (.str x)) : v = .str x := by cases h; rfl
theorem Ip.n {v : V} (h : Ip K H v .none) : v = .non := by cases h; rfl
theorem Ip.b {v : V} {b : Bool} (h : Ip K H v (.bool b)) : v = .bl b := by cases h; rfl
theorem Ip.mk1 {a : Addr} {x : V} {d : PyData} (h : SqT K H a [x]) (h1 : Ip K H x d) : Ip K H (.ref a) (.tuple [d]) := .tup h (.cons h1 .nil)
theorem Ip.mk2 {a : Addr} {x y : V} {d e : PyData} (h : SqT K H a [x, y]) (h1 : Ip K H x d) (h2 : Ip K H y e) : Ip K H (.ref a) (.tuple [d, e]) := .tup h (.cons h1 (.cons h2 .nil))
theorem Ip.mk3 {a : Addr} {x y z : V} {d e f : PyData} (h : SqT K H a [x, y, z]) (h1 : Ip K H x d) (h2 : Ip K H y e) (h3 : Ip K H z f) : Ip K H (.ref a) (.tuple [d, e, f]) := .tup h (.cons h1 (.cons h2 (.cons h3 .nil)))
theorem Ip.mk4 {a : Addr} {x y z u : V} {d e f g : PyData} (h : SqT K H a [x, y, z, u]) (h1 : Ip K H x d) (h2 : Ip K H y e) (h3 : Ip K H z f) (h4 : Ip K H u g) : Ip K H (.ref a) (.tuple [d, e, f, g]) := .tup h (.cons h1 (.cons h2 (.cons h3 (.cons h4 .nil))))
end

section
variable {K : PySem.W.Frag} {H : Hp} {σ : St} {vs : List Nat} {g : TG} {tt : TT} {te tk tv : TE} {Q : VK} {a : Addr} {xs : List V} {α : Type} {as : List α} {enc out : α → PyData} {p : α → Bool}
/-- what one turn asks: x is a's; the test tells p a, the new value is out a's -/
def IpT (K : PySem.W.Frag) (enc out : α → PyData) (p : α → Bool) (as : List α) (g : TG) (tt : TT) (te : TE) (vs : List Nat) (σ : St) (H : Hp) : Prop := ∀ (D : Addr) (x : V) (y : α) (H1 : Hp) (N : Hp → Prop), H D = none → y ∈ as → Same H H1 → Ip K H1 x (enc y) →
  (p y = false → ∀ H2, Same H1 H2 → N H2) → (p y = true → ∀ v H2, Same H1 H2 → Ip K H2 v (out y) → ∃ acc, H2 D = some (.lst acc) ∧ acc.length < sizeLine ∧ N (upd H2 D (.lst (acc ++ [v])))) → LcT g tt te vs σ D N x H1
def IpP (K : PySem.W.Frag) (enc out : α → PyData) (p : α → Bool) (as : List α) (H : Hp) (D : Addr) (i : Nat) (H' : Hp) : Prop := Same H H' ∧ ∃ ys, H' D = some (.lst ys) ∧ IpAll K H' ys (((as.take i).filter p).map out)
theorem IpP.zero {D : Addr} (hD : H D = none) : IpP K enc out p as H D 0 (upd H D (.lst [])) := ⟨(Same.refl H).new (o := .lst []) hD, [], upd_same, .nil⟩
theorem IpP.step {D : Addr} {i : Nat} {x : V} {y : α} {H1 : Hp} (hl : as.length ≤ 1000000) (h : IpT K enc out p as g tt te vs σ H) (hD : H D = none) (hy : as[i]? = some y) (ix : Ip K H1 x (enc y)) (hP : IpP K enc out p as H D i H1) : LcT g tt te vs σ D (IpP K enc out p as H D (i + 1)) x H1 := by
  obtain ⟨k, ys, hys, im⟩ := hP
  have grow : as.take (i + 1) = as.take i ++ [y] := by rw [List.take_add_one, hy]; rfl
  refine h D x y H1 _ hD (List.mem_of_getElem? hy) k ix (fun hp H2 k2 => ⟨k.trans k2, ys, k2 _ _ hys, ?_⟩) (fun hp v H2 k2 iv => ⟨ys, k2 _ _ hys, ?_, (k.trans k2).put hD, ys ++ [v], upd_same, ?_⟩)
  · rw [grow, List.filter_append, List.map_append]
    simp only [List.filter_cons, hp, List.filter_nil, Bool.false_eq_true, if_false, List.map_nil, List.append_nil]
    exact im.up (Ty.of k2)
  · refine szLt ?_
    rw [im.length, List.length_map]
    have h1 := List.length_filter_le p (as.take i)
    rw [List.length_take] at h1
    omega
  · rw [grow, List.filter_append, List.map_append]
    simp only [List.filter_cons, hp, List.filter_nil, if_true, List.map_cons, List.map_nil]
    exact ((im.up (Ty.of k2)).snoc iv).up ((Ty.refl H2).lst (k2 _ _ hys))
/-- [.. for target in a list of data if ..] -/
theorem rd_ipL (h : SqL K H a xs) (im : IpAll K H xs (as.map enc)) (hl : as.length ≤ 1000000) (t : IpT K enc out p as g tt te vs σ H)
    (hd : ∀ D H' ys, H D = none → Same H H' → H' D = some (.lst ys) → IpAll K H' ys ((as.filter p).map out) → Q (.ref D) H') : ∃ b, V.ref a = .ref b ∧ (∃ xs, SqL K H b xs) ∧ LcW (Itl K b) g tt te vs σ H Q := by
  refine rd_clL h (fun D i H' => IpP K enc out p as H D i H') (fun D hD => IpP.zero hD) (fun D i H' _ _ h' => h'.1.seq h) (fun D i x H' hD hx hP => ?_) (fun D H' hD hP => ?_)
  · obtain ⟨d, hd, ix⟩ := im.getV hx
    rw [List.getElem?_map] at hd
    obtain ⟨y, hy, rfl⟩ := Option.map_eq_some_iff.mp hd
    exact IpP.step hl t hD hy (ix.up (Ty.of hP.1)) hP
  · obtain ⟨k, ys, hys, im'⟩ := hP
    have l : xs.length = as.length := by rw [im.length, List.length_map]
    rw [l, List.take_length] at im'
    exact hd D H' ys hD k hys im'
theorem rd_ipT (h : SqT K H a xs) (im : IpAll K H xs (as.map enc)) (hl : as.length ≤ 1000000) (t : IpT K enc out p as g tt te vs σ H)
    (hd : ∀ D H' ys, H D = none → Same H H' → H' D = some (.lst ys) → IpAll K H' ys ((as.filter p).map out) → Q (.ref D) H') : ∃ b, V.ref a = .ref b ∧ (∃ xs, SqT K H b xs) ∧ LcW (Itt K b) g tt te vs σ H Q := by
  refine rd_clT h (fun D i H' => IpP K enc out p as H D i H') (fun D hD => IpP.zero hD) (fun D i H' _ _ h' => sm_tup h'.1 h) (fun D i x H' hD hx hP => ?_) (fun D H' hD hP => ?_)
  · obtain ⟨d, hd, ix⟩ := im.getV hx
    rw [List.getElem?_map] at hd
    obtain ⟨y, hy, rfl⟩ := Option.map_eq_some_iff.mp hd
    exact IpP.step hl t hD hy (ix.up (Ty.of hP.1)) hP
  · obtain ⟨k, ys, hys, im'⟩ := hP
    have l : xs.length = as.length := by rw [im.length, List.length_map]
    rw [l, List.take_length] at im'
    exact hd D H' ys hD k hys im'
/-- [.. for i in range(n)] -/
theorem rd_ipR {H : Hp} {σ : St} {vs : List Nat} {g : TG} {tt : TT} {te : TE} {Q : VK} {n : Int} {p : Nat → Bool} {out : Nat → PyData} (b0 : 0 ≤ n) (b1 : n ≤ 1000000) (t : IpT K (fun i : Nat => .int (i : Int)) out p (List.range n.toNat) g tt te vs σ H)
    (hd : ∀ D H' ys, H D = none → Same H H' → H' D = some (.lst ys) → IpAll K H' ys (((List.range n.toNat).filter p).map out) → Q (.ref D) H') : ∃ j : Int, [V.int n] = [.int j] ∧ -(2 ^ 62) ≤ j ∧ j < 2 ^ 62 ∧ LcW (Itr 0 j.toNat) g tt te vs σ H Q := by
  refine rd_clR (by omega) (by omega) (fun D i H' => IpP K (fun i : Nat => .int (i : Int)) out p (List.range n.toNat) H D i H') (fun D hD => IpP.zero hD) (fun D i H' hD hi hP => ?_) (fun D H' hD hP => ?_)
  · exact IpP.step (y := i) (by rw [List.length_range]; omega) t hD (by rw [List.getElem?_range (by omega)]) (.int _) hP
  · obtain ⟨k, ys, hys, im'⟩ := hP
    rw [List.take_of_length_le (by rw [List.length_range]; exact Nat.le_refl _)] at im'
    exact hd D H' ys hD k hys im'
variable {β : Type} {bs : List β} {encB : β → PyData} {b : Addr} {ys : List V}
/-- [.. for i, x in enumerate(a tuple of data)] -/
theorem rd_ipET {p : α × Nat → Bool} {out : α × Nat → PyData} (h : SqT K H a xs) (im : IpAll K H xs (as.map enc)) (hl : as.length ≤ 1000000) (t : IpT K (fun q : α × Nat => .tuple [.int (q.2 : Int), enc q.1]) out p as.zipIdx g tt te vs σ H)
    (hd : ∀ D H' ys, H D = none → Same H H' → H' D = some (.lst ys) → IpAll K H' ys ((as.zipIdx.filter p).map out) → Q (.ref D) H') : ∃ c ys, [V.ref a] = [.ref c] ∧ SqT K H c ys ∧ LcW (ItE fun H xs => SqT K H c xs) g tt te vs σ H Q := by
  refine rd_clET h (fun D i H' => IpP K (fun q : α × Nat => .tuple [.int (q.2 : Int), enc q.1]) out p as.zipIdx H D i H') (fun D hD => IpP.zero hD) (fun D i H' _ _ h' => sm_tup h'.1 h) (fun D i x T H' hD hx hP hT => ?_) (fun D H' hD hP => ?_)
  · obtain ⟨d, hd, ix⟩ := im.getV hx
    rw [List.getElem?_map] at hd
    obtain ⟨y, hy, rfl⟩ := Option.map_eq_some_iff.mp hd
    have hne : D ≠ T := fun e => by
      obtain ⟨_, ws, hws, _⟩ := hP
      rw [e, hT] at hws
      cases hws
    have k := (Same.refl H').new (o := .tup [.int (i : Int), x]) hT
    obtain ⟨k0, ws, hws, iw⟩ := hP
    have hP' : IpP K (fun q : α × Nat => .tuple [.int (q.2 : Int), enc q.1]) out p as.zipIdx H D i (upd H' T (.tup [.int (i : Int), x])) := ⟨k0.trans k, ws, k _ _ hws, iw.up (Ty.of k)⟩
    refine IpP.step (y := (y, i)) (by rw [List.length_zipIdx]; exact hl) t hD (by rw [List.getElem?_zipIdx, hy]; simp) ?_ hP'
    exact   .tup (SqT.of upd_same) (.cons (.int _) (.cons (ix.up (Ty.of (k0.trans k))) .nil))
  · obtain ⟨k, ys, hys, im'⟩ := hP
    have l : xs.length = as.zipIdx.length := by rw [im.length, List.length_map, List.length_zipIdx]
    rw [l, List.take_length] at im'
    exact hd D H' ys hD k hys im'
/-- [.. for x, y in zip(two tuples of data)] -/
theorem rd_ipZT {p : α × β → Bool} {out : α × β → PyData} (h : SqT K H a xs) (im : IpAll K H xs (as.map enc)) (h2 : SqT K H b ys) (im2 : IpAll K H ys (bs.map encB)) (hl : as.length ≤ 1000000)
    (t : IpT K (fun q : α × β => .tuple [enc q.1, encB q.2]) out p (as.zip bs) g tt te vs σ H)
    (hd : ∀ D H' ys, H D = none → Same H H' → H' D = some (.lst ys) → IpAll K H' ys (((as.zip bs).filter p).map out) → Q (.ref D) H') :
    ∃ c d us ws, [V.ref a, V.ref b] = [.ref c, .ref d] ∧ ((SqL K H c us ∧ SqL K H d ws ∧ LcW (Itz K c d) g tt te vs σ H Q) ∨ (SqT K H c us ∧ SqT K H d ws ∧ LcW (RZ.ItzT K c d) g tt te vs σ H Q)) := by
  have lz : (as.zip bs).length = min xs.length ys.length := by rw [List.length_zip, im.length, im2.length, List.length_map, List.length_map]
  refine rd_clZT h h2 lz (fun D i H' => IpP K (fun q : α × β => .tuple [enc q.1, encB q.2]) out p (as.zip bs) H D i H') (fun D hD => IpP.zero hD) (fun D i H' _ _ h' => ⟨sm_tup h'.1 h, sm_tup h'.1 h2⟩) (fun D i x y T H' hD hx hy hP hT => ?_) (fun D H' hD hP => ?_)
  · obtain ⟨d, hd, ix⟩ := im.getV hx
    rw [List.getElem?_map] at hd
    obtain ⟨u, hu, rfl⟩ := Option.map_eq_some_iff.mp hd
    obtain ⟨d, hd, iy⟩ := im2.getV hy
    rw [List.getElem?_map] at hd
    obtain ⟨u', hu', rfl⟩ := Option.map_eq_some_iff.mp hd
    have k := (Same.refl H').new (o := .tup [x, y]) hT
    obtain ⟨k0, ws, hws, iw⟩ := hP
    have hP' : IpP K (fun q : α × β => .tuple [enc q.1, encB q.2]) out p (as.zip bs) H D i (upd H' T (.tup [x, y])) := ⟨k0.trans k, ws, k _ _ hws, iw.up (Ty.of k)⟩
    refine IpP.step (y := (u, u')) (by rw [List.length_zip]; omega) t hD ?_ ?_ hP'
    · rw [List.getElem?_zip_eq_some]
      exact ⟨hu, hu'⟩
    · exact   .tup (SqT.of upd_same) (.cons (ix.up (Ty.of (k0.trans k))) (.cons (iy.up (Ty.of (k0.trans k))) .nil))
  · obtain ⟨k, ys, hys, im'⟩ := hP
    rw [List.take_length] at im'
    exact hd D H' ys hD k hys im'
end
end Mine

/-! ### what ends by StopIteration while an error is handled: lists, tuples that are taken apart, comprehensions -/
namespace Mine
open PySem PySem.Spec PyProof.Rows
open L2 hiding CX XE Takes takes_of passes_call ps_raise ps_try_as ps_try_many ps_try_only pmk_own passAt MkP PMk mk_of Zc HdsOk takes_none5
open L2N hiding St
section
variable {prog : Program} {w : World} {A : Around} {E : Value → Shared → Prop} {s : Shared}
/-- the end of a list's iterator -/
theorem hot_list_end {it l x1 : Addr} {i : Nat} {its : Array Value} {Q : Option Value → Shared → Prop} (hot : HotX.HotAt A x1 s.heap) (st : s.heap.IsListIter it l i) (li : s.heap.IsList l its) (nx : its[i]? = none) (ne : x1 ≠ it)
    (q : ∀ h', (∀ b o, b ≠ it → s.heap.get? b = some o → h'.get? b = some o) → Q none { s with heap := h' }) : wpAny (model prog w) A (pyNext (.ref it)) Q E s := by
  obtain ⟨hA, ox, vx, gx, dx, cx⟩ := hot
  obtain ⟨oi, gi, ci, di⟩ := id st
  obtain ⟨oL, gL, _, nL, dL⟩ := li
  unfold pyNext
  refine wpAny_bind (wpAny_attempt (wpAny_callSpecial?_slot (name := Str.ofString "__next__") st.typeIs slot_listiter_next (wpAny_call_entry slot_listiter_next st.typeIs entry_listiter_next ?_ (args_listiter_next _))))
  show wpAny _ _ (field (.ref it) 0 >>= _) _ _ s
  refine wpAny_bind (wpAny_field gi di (x := .ref l) rfl ?_)
  show wpAny _ _ (if (Value.ref l == Value.none) = true then _ else _) _ _ s
  rw [if_neg (show ¬ ((Value.ref l == Value.none) = true) from Bool.false_ne_true)]
  show wpAny _ _ (field (.ref it) 1 >>= _) _ _ s
  refine wpAny_bind (wpAny_field gi di (x := .int i 0) rfl ?_)
  show wpAny _ _ (seqItems? (.ref l) >>= _) _ _ s
  refine wpAny_bind (wpAny_seqItems gL dL ?_)
  simp only [Int.toNat_natCast, nx]
  refine wpAny_bind (wpAny_rule (wpAny_bind (wpAny_setField gi di (by simp) ?_)))
  generalize hs1 : s.heap.update it _ = h1
  have k1 : ∀ b o, b ≠ it → s.heap.get? b = some o → h1.get? b = some o := fun b o n e => by
    rw [← hs1, Heap.get?_update_other _ _ (fun z => n z.symm)]
    exact e
  clear hs1
  show wpAny _ _ (newExc (.type "StopIteration") [] >>= _) _ _ { s with heap := h1 }
  refine wpAny_bind ?_
  simp only [newExc, newTuple]
  refine wpAny_bind (wpAny_newObj_type ?_ (by size_fits))
  refine wpAny_bind (m := firstArgMember _ _) (wpAny_of_eq (a := Value.none) (by first | rfl | (simp only [firstArgMember]; rfl)) ?_)
  refine wpAny_newObj_type ?_ (by size_fits)
  have gx1 := k1 _ _ ne gx
  refine HotX.raiseNew_hot ⟨hA, ox, vx, Heap.get?_push_of_some _ (Heap.get?_push_of_some _ gx1), dx, cx⟩ (Nat.ne_of_lt (Heap.lt_size (Heap.get?_push_of_some _ gx1))) (Heap.get?_push_size _ rfl) rfl (by first | (simp; done) | (simp; omega) | (simp only [Array.size_append]; simp; omega)) ?_
  refine wpAny_bind (wpAny_isInstance (T := "StopIteration") (b := true) ⟨_, Heap.get?_update_self _ (Heap.get?_push_size _ rfl) rfl, rfl⟩ isSubtype_stop ?_)
  refine wpAny_pure (q _ fun b o n e => ?_)
  have e1 := k1 b o n e
  rw [Heap.get?_update_other _ _ (Nat.ne_of_gt (Heap.lt_size (Heap.get?_push_of_some _ e1)))]
  exact Heap.get?_push_of_some _ (Heap.get?_push_of_some _ e1)
/-- the end of a tuple's iterator -/
theorem hot_tup_end {it t x1 : Addr} {i : Nat} {its : Array Value} {Q : Option Value → Shared → Prop} (hot : HotX.HotAt A x1 s.heap) (st : IsTupIter s.heap it t i) (li : IsTup s.heap t its) (nx : its[i]? = none) (ne : x1 ≠ it)
    (q : ∀ h', (∀ b o, b ≠ it → s.heap.get? b = some o → h'.get? b = some o) → Q none { s with heap := h' }) : wpAny (model prog w) A (pyNext (.ref it)) Q E s := by
  obtain ⟨hA, ox, vx, gx, dx, cx⟩ := hot
  obtain ⟨oi, gi, ci, di⟩ := id st
  obtain ⟨oL, gL, _, nL, dL⟩ := li
  unfold pyNext
  refine wpAny_bind (wpAny_attempt (wpAny_callSpecial?_slot (name := Str.ofString "__next__") st.typeIs slot_tupleiter_next (wpAny_call_entry slot_tupleiter_next st.typeIs entry_tupleiter_next ?_ (args_tupleiter_next _))))
  show wpAny _ _ (field (.ref it) 0 >>= _) _ _ s
  refine wpAny_bind (wpAny_field gi di (x := .ref t) rfl ?_)
  show wpAny _ _ (if (Value.ref t == Value.none) = true then _ else _) _ _ s
  rw [if_neg (show ¬ ((Value.ref t == Value.none) = true) from Bool.false_ne_true)]
  show wpAny _ _ (field (.ref it) 1 >>= _) _ _ s
  refine wpAny_bind (wpAny_field gi di (x := .int i 0) rfl ?_)
  show wpAny _ _ (seqItems? (.ref t) >>= _) _ _ s
  refine wpAny_bind (wpAny_seqItems gL dL ?_)
  simp only [Int.toNat_natCast, nx]
  refine wpAny_bind (wpAny_rule (wpAny_bind (wpAny_setField gi di (by simp) ?_)))
  generalize hs1 : s.heap.update it _ = h1
  have k1 : ∀ b o, b ≠ it → s.heap.get? b = some o → h1.get? b = some o := fun b o n e => by
    rw [← hs1, Heap.get?_update_other _ _ (fun z => n z.symm)]
    exact e
  clear hs1
  show wpAny _ _ (newExc (.type "StopIteration") [] >>= _) _ _ { s with heap := h1 }
  refine wpAny_bind ?_
  simp only [newExc, newTuple]
  refine wpAny_bind (wpAny_newObj_type ?_ (by size_fits))
  refine wpAny_bind (m := firstArgMember _ _) (wpAny_of_eq (a := Value.none) (by first | rfl | (simp only [firstArgMember]; rfl)) ?_)
  refine wpAny_newObj_type ?_ (by size_fits)
  have gx1 := k1 _ _ ne gx
  refine HotX.raiseNew_hot ⟨hA, ox, vx, Heap.get?_push_of_some _ (Heap.get?_push_of_some _ gx1), dx, cx⟩ (Nat.ne_of_lt (Heap.lt_size (Heap.get?_push_of_some _ gx1))) (Heap.get?_push_size _ rfl) rfl (by first | (simp; done) | (simp; omega) | (simp only [Array.size_append]; simp; omega)) ?_
  refine wpAny_bind (wpAny_isInstance (T := "StopIteration") (b := true) ⟨_, Heap.get?_update_self _ (Heap.get?_push_size _ rfl) rfl, rfl⟩ isSubtype_stop ?_)
  refine wpAny_pure (q _ fun b o n e => ?_)
  have e1 := k1 b o n e
  rw [Heap.get?_update_other _ _ (Nat.ne_of_gt (Heap.lt_size (Heap.get?_push_of_some _ e1)))]
  exact Heap.get?_push_of_some _ (Heap.get?_push_of_some _ e1)
/-- a tuple is taken apart -/
theorem hot_parts {t x1 : Addr} {its : Array Value} {Q : List Value → Shared → Prop} (hot : HotX.HotAt A x1 s.heap) (ht : IsTup s.heap t its)
    (q : ∀ h', (∀ b o, s.heap.get? b = some o → h'.get? b = some o) → Q its.toList { s with heap := h' }) : wpAny (model prog w) A (unpackItems (.ref t) its.size none) Q E s := by
  have tne : t ≠ s.heap.objs.size := let ⟨_, g, _⟩ := ht; Nat.ne_of_lt (Heap.lt_size g)
  have xne : x1 ≠ s.heap.objs.size := let ⟨_, _, _, g, _⟩ := hot; Nat.ne_of_lt (Heap.lt_size g)
  unfold unpackItems notIterableAtAll
  refine wpAny_bind (wpAny_bind (wpAny_specialOf ht.typeIs slot_tuple_iter.lookup (wpAny_pure ?_)))
  simp only [Bool.false_eq_true, if_false]
  refine wpAny_bind (wpAny_holding (iter_tuple ht (wpAny_bind (wpAny_holding (draw_tuple tne its.size 0 _ _ ⟨_, Heap.get?_push_size _ rfl, rfl, rfl⟩ (ht.push _) (by omega) fun h1 st1 sb1 => ?_)))))
  rw [List.drop_zero, List.take_of_length_le (by simp), if_neg (by simp)]
  have ht1 : IsTup h1 t its := (ht.push _).extBut sb1.extBut tne
  have k1 : ∀ b o, s.heap.get? b = some o → h1.get? b = some o := fun b o e => sb1.extBut b o (Nat.ne_of_lt (Heap.lt_size e)) (Heap.get?_push_of_some _ e)
  have hot1 : HotX.HotAt A x1 h1 := let ⟨hA, ox, vx, gx, r⟩ := hot; ⟨hA, ox, vx, k1 _ _ gx, r⟩
  refine wpAny_bind (wpAny_holding (hot_tup_end (s := { s with heap := h1 }) hot1 st1 ht1 (by simp) xne fun h2 k2 => ?_))
  simp only [Option.isSome_none, Bool.false_eq_true, if_false]
  exact wpAny_pure (q h2 fun b o e => k2 b o (Nat.ne_of_lt (Heap.lt_size e)) (k1 b o e))
end
/-- what is handled in a context, as it stands at every state -/
def HotB (x1 : Addr) (X : Cx) : Prop := ∀ (pins : List (Addr × Obj)) (σ : St) (H : Hp) (s : Shared), Inv X pins σ H s → HotX.HotAt X.A x1 s.heap ∧ H x1 = none ∧ x1 ≠ X.env.locals ∧ x1 ∉ X.fs
def Hot (X : Cx) : Prop := ∃ x1, HotB x1 X
theorem pg_tup_hot {X : Cx} {K : PySem.W.Frag} {pos : Pos} {es : List Expr} {k : Nat} {t : TGs} {n : Nat} (hot : Hot X) (h : PGs X es t) (ek : X.K = K := by rfl)
    (hn : (assignEach es X.env).length = n := by rfl) (hst : (assignEach es X.env).findIdx? (·.1) = none := by rfl) : PG X (.Tuple es k pos) (gTup K n t) := by
  subst ek
  obtain ⟨x1, hot⟩ := hot
  refine ⟨fun pins s σ H v u Q I r hw => ?_⟩
  obtain ⟨a, xs, rfl, hq, hl, hw⟩ := hw
  cases r
  obtain ⟨its, rv, ht, hz⟩ := I.tuple hq
  have sz : (assignEach es X.env).length = its.toArray.size := by simp [hn, ← hl, rv.length]
  rw [assign_Tuple]
  refine wpAny_bind (wpAny_standAt ?_)
  unfold unpack
  rw [sz, hst]
  refine wpAny_bind (wpAny_holding (hot_parts (hot _ _ _ _ I).1 ht fun h' k' => ?_))
  have I1 : Inv X pins σ H { s with heap := h' } := I.kept (t' := s.toks) k'
  exact h.run pins _ σ H xs _ Q I1 (by simpa using rv) hw
section
variable {X : Cx}
/-- the block of a comprehension is as hot -/
theorem HotB.blk {x1 : Addr} {pins : List (Addr × Obj)} {σ : St} {H : Hp} {s : Shared} {scope : Scope} {ce : Env} {fp : List Addr} (hot : HotB x1 X) (I : Inv X pins σ H s) (hL : s.heap.objs.size ≤ ce.locals) (nfp : x1 ∉ fp) : HotB x1 (X.blk s H scope ce fp) := by
  obtain ⟨⟨hA, ox, vx, gx, dx, cx⟩, fr, nl, nf⟩ := hot _ _ _ _ I
  have lx := Heap.lt_size gx
  have nst : x1 ∉ frs X.stack := fun z => (List.mem_cons.mp (I.stkSub x1 z)).elim nl nf
  refine fun pins' σ' H' s' J => ⟨⟨hA, ox, vx, J.base.keep x1 ox gx fr nst nfp, dx, cx⟩, J.base.free x1 ox gx fr nfp, fun z => ?_, nst⟩
  have z : x1 = ce.locals := z
  rw [z] at lx
  exact absurd lx (Nat.not_lt.mpr hL)
/-- [elt for target in iter if ..], iter a list, while an error is handled: read as tLc -/
theorem pe_lc_hot {K : PySem.W.Frag} {elt tg iter : Expr} {ifs : List Expr} {scope : Scope} {own : List (Str × Nat)} {pos : Pos} {tl : TE} {g : TG} {tt : TT} {te : TE} (hot : Hot X) (hN : X.N.Nodup) (hl : PE X iter tl) (ok : BlkOk X.N X.env.scope scope own)
    (hg : ∀ (s : Shared) (H : Hp) (C : Addr) (cl : List (Str × Addr)) (fp : List Addr), Hot (X.blk s H scope (compEnvC scope cl C X.env) fp) → PG (X.blk s H scope (compEnvC scope cl C X.env) fp) tg g)
    (ht : ∀ (s : Shared) (H : Hp) (C : Addr) (cl : List (Str × Addr)) (fp : List Addr), PTs (X.blk s H scope (compEnvC scope cl C X.env) fp) ifs tt)
    (he : ∀ (s : Shared) (H : Hp) (C : Addr) (cl : List (Str × Addr)) (fp : List Addr), PE (X.blk s H scope (compEnvC scope cl C X.env) fp) elt te) (hs : ∀ x, foldedSetIterable iter X.env x = pure x := by intro _; rfl) (ek : X.K = K := by rfl) :
    PE X (.ListComp elt [⟨tg, iter, ifs, 0⟩] scope pos) (tLc (iList K tl) g tt te (own.map (·.2))) := by
  subst ek
  obtain ⟨x1, hot⟩ := hot
  refine ⟨fun pins s σ H Q I h => ?_⟩
  rw [eval_ListComp]
  have cap : ∀ y ∈ scope.names, y.2 = .free → ∃ c, X.env.cells.lookup y.1 = some c := fun y hy e => I.ok.has _ (ok.free y hy e)
  refine wpAny_comprehension_free (use := none) rfl hs (closure_ok cap) ok.kind (fun y hy e => (ok.uniq y hy).trans (congrArg some e)) (thn (hl.run pins s σ H _ I h) fun v sa hv => ?_)
  obtain ⟨x, Ha, Ia, ra, a, rfl, ⟨xs, qs⟩, turns⟩ := hv
  cases ra
  obtain ⟨its, rv, pl, _⟩ := Ia.list qs
  refine wpAny_pyIter_list pl.isList ?_
  -- the iterator
  have hxa := hot _ _ _ _ Ia
  have x1a : x1 ≠ sa.heap.objs.size := let ⟨⟨_, _, _, gx, _⟩, _⟩ := hxa; Nat.ne_of_lt (Heap.lt_size gx)
  have f0 : FpOk X pins Ha sa.heap.objs.size := Ia.fpOk (Nat.le_refl _) (Ia.hok.fresh (Nat.le_refl _))
  generalize hsb : ({ sa with heap := sa.heap.push _ } : Shared) = sb
  have Ib : Inv X pins σ Ha sb := by rw [← hsb]; exact Ia.kept (t' := sa.toks) fun b o e => Heap.get?_push_of_some _ e
  have tb : sb.heap.IsListIter sa.heap.objs.size a 0 := by rw [← hsb]; exact ⟨_, Heap.get?_push_size _ rfl, rfl, rfl⟩
  generalize sa.heap.objs.size = it at x1a f0 tb
  clear hsb
  refine wpAny_newObj_type (newEnv_comp ?_) (by show 0 ≤ sizeLine; decide)
  have itl : it < sb.heap.objs.size := let ⟨_, g, _⟩ := tb; Heap.lt_size g
  -- the new list
  have freeD : Ha sb.heap.objs.size = none := Ib.hok.fresh (Nat.le_refl _)
  have itD : it ≠ sb.heap.objs.size := Nat.ne_of_lt itl
  generalize hsc : ({ sb with heap := sb.heap.push _ } : Shared) = sc
  have Ic : Inv X pins σ (upd Ha sb.heap.objs.size (.lst [])) sc := by
    rw [← hsc]
    exact Ib.laid (t' := sb.toks) (fun b o e => Heap.get?_push_of_some _ e) (Nat.le_refl _) ⟨Nat.zero_le _, [], 0, .nil, Heap.get?_push_size _ rfl⟩
  have tc : sc.heap.IsListIter it a 0 := by rw [← hsc]; exact tb.at fun o e => Heap.get?_push_of_some _ e
  have itc : it < sc.heap.objs.size := let ⟨_, g, _⟩ := tc; Heap.lt_size g
  have fc : FpOk X pins (upd Ha sb.heap.objs.size (.lst [])) it := ⟨by rw [upd_ne itD]; exact f0.1, f0.2⟩
  obtain ⟨W, ⟨m0, w0⟩, turn⟩ := turns _ freeD
  generalize hD : sb.heap.objs.size = D at *
  generalize upd Ha D (.lst []) = Hc at *
  clear hsc turns
  -- the block
  have Ie := block_start (fp := [it]) Ic ok hN fun b hb => by rw [List.mem_singleton.mp hb]; exact ⟨fc, itc⟩
  have hotE := hot.blk (scope := scope) (ce := compEnvC scope (cellsFrom (sc.heap.objs.size + 1) scope.names (cloFrom X.env.cells scope.names [])) sc.heap.objs.size X.env) (fp := [it]) Ic (Nat.le_refl _) (by simpa using x1a)
  have pg := hg sc Hc sc.heap.objs.size (cellsFrom (sc.heap.objs.size + 1) scope.names (cloFrom X.env.cells scope.names [])) [it] ⟨x1, hotE⟩
  have pt := ht sc Hc sc.heap.objs.size (cellsFrom (sc.heap.objs.size + 1) scope.names (cloFrom X.env.cells scope.names [])) [it]
  have pe := he sc Hc sc.heap.objs.size (cellsFrom (sc.heap.objs.size + 1) scope.names (cloFrom X.env.cells scope.names [])) [it]
  show codeAny _ _ (.compStart (.ListComp elt [⟨tg, iter, ifs, 0⟩] scope pos) 0 (.ref it) (.ref D) (compEnvC scope (cellsFrom (sc.heap.objs.size + 1) scope.names (cloFrom X.env.cells scope.names [])) sc.heap.objs.size X.env)) (compPost (model X.prog X.w) X.A X.xe none (EP X pins σ Q) (.ref D) sc.heap.objs.size) { sc with heap := pushCells (sc.heap.push { cls := .type "dict", data := .dict #[] }) scope.names }
  generalize hce : compEnvC scope (cellsFrom (sc.heap.objs.size + 1) scope.names (cloFrom X.env.cells scope.names [])) sc.heap.objs.size X.env = ce at Ie hotE pg pt pe ⊢
  have cL : ce.locals = sc.heap.objs.size := by rw [← hce]; rfl
  generalize hsd : ({ sc with heap := pushCells (sc.heap.push { cls := .type "dict", data := .dict #[] }) scope.names } : Shared) = sd at Ie ⊢
  have td : sd.heap.IsListIter it a 0 := tc.at fun o e => by rw [← hsd]; exact pushCells_keeps _ _ _ _ (Heap.get?_push_of_some _ e)
  have own1 : ∀ {σ' : St} {H' : Hp} {s' : Shared}, Inv (X.blk sc Hc scope ce [it]) [] σ' H' s' → H' it = none → FpOk (X.blk sc Hc scope ce [it]) [] H' it := fun {σ' H' s'} J n =>
    ⟨n, (J.ok.exf it List.mem_cons_self).1, J.ok.exfs it List.mem_cons_self, .inl List.mem_cons_self, fun x c e => (J.ok.exf it List.mem_cons_self).2 x c e, fun p hp => nomatch (show p ∈ ([] : List (Addr × Obj)) from hp)⟩
  have loop : codeAny (model X.prog X.w) X.A (.compLoop (.ListComp elt [⟨tg, iter, ifs, 0⟩] scope pos) 0 (.ref it) (.ref D) ce) (compPost (model X.prog X.w) X.A X.xe none (EP X pins σ Q) (.ref D) sc.heap.objs.size) sd := by
    refine compLoop_any (fun n s' => ∃ i H', Inv (X.blk sc Hc scope ce [it]) [] (wipe σ (own.map (·.2))) H' s' ∧ s'.heap.IsListIter it a i ∧ H' it = none ∧ W i n H') ?_ m0 ⟨0, Hc, Ie, td, fc.1, w0⟩
    rintro n se ⟨i, He, Je, te', ne', we⟩
    obtain ⟨g0, g1, g2, g3, g4, g5⟩ := own1 Je ne'
    rcases turn i n He we with ⟨⟨ys, qy, ly⟩, fin⟩ | ⟨⟨ys, y, qy, gy⟩, Nx, go, step⟩
    · obtain ⟨jts, rj, pj, _⟩ := Je.list qy
      have lj := rj.length
      have last : wpAny (model X.prog X.w) X.A (pyNext (.ref it)) (fun r sf => r = none ∧ Inv (X.blk sc Hc scope ce [it]) [] (wipe σ (own.map (·.2))) He sf) (fun _ _ => False) se :=
        hot_list_end (hotE _ _ _ _ Je).1 te' pj.isList (by simp; omega) x1a fun h' kh => ⟨rfl, Je.turned (t' := se.toks) kh g0 g1 g3 g4 g5⟩
      refine thnF last fun r sf ⟨er, Jf⟩ => ?_
      subst er
      have If : Inv X pins σ He sf := Ic.call' (ch := [it]) Jf.os Jf.base Jf.hok Jf.bare fun b hb => by
        rw [List.mem_singleton.mp hb]
        exact ⟨fc.2.2.2.1, fc.2.1, fc.2.2.2.2.1, fc.2.2.2.2.2⟩
      have nC : He sc.heap.objs.size = none := by
        rw [← cL]
        exact Jf.free
      obtain ⟨m, hm, _⟩ := Jf.loc
      have hm : sf.heap.Ns ce.locals m := hm
      rw [cL] at hm
      obtain ⟨p0, p1, p2, p3, p4, p5⟩ := Ic.fpOk (Nat.le_refl _) nC
      exact ⟨m, hm, fun h' sb => ⟨.ref D, He, If.turned (t' := sf.toks) (fun b o hb e => (sb.2 b hb).trans e) p0 p1 p3 p4 p5, rfl, fin⟩⟩
    · obtain ⟨jts, rj, pj, _⟩ := Je.list qy
      obtain ⟨u, hu, ru⟩ := rj.get gy
      refine wpAny_pyNext_list_item te' pj.isList (x := u) (by simpa using hu) fun h' tf sb => ?_
      have Jf : Inv (X.blk sc Hc scope ce [it]) [] (wipe σ (own.map (·.2))) He { se with heap := h' } := Je.turned (t' := se.toks) (fun b o hb e => (sb.2 b hb).trans e) g0 g1 g3 g4 g5
      obtain ⟨ob, eob, cob, dob⟩ := id tf
      have Jp := Jf.pinned (fp := [it]) (fun b hb => by rw [List.mem_singleton.mp hb]; exact own1 Jf ne') fun b hb => by
        rw [List.mem_singleton.mp hb]
        exact ⟨ob, eob, fun v z => by rw [dob] at z; cases z⟩
      have pin : ∀ {σ' : St} {H' : Hp} {s' : Shared}, Inv (X.blk sc Hc scope ce [it]) ([] ++ pinsAt [it] h') σ' H' s' → s'.heap.get? it = some ob ∧ H' it = none := fun {σ' H' s'} J =>
        let z := J.pin (it, ob) (List.mem_append_right _ (List.mem_append_right _ (mem_pinsAt List.mem_cons_self eob)))
        ⟨z.1, z.2.1⟩
      refine go_of (s := { se with heap := h' }) eob cob dob (by decide) ?_
      refine thnF (pg.run _ _ _ He y u _ Jp ru (step y He ⟨rfl, fun zs hz => by rw [Je.list_inj hz qy]; exact gy⟩)) fun _ sg ⟨σg, Hg, Jg, wg, qg⟩ => ?_
      refine thnF (pt.run _ sg σg Hg _ Jg qg) fun b sh ⟨Hh, Jh, qh⟩ => ?_
      have next : ∀ {s' : Shared} {H' : Hp}, Inv (X.blk sc Hc scope ce [it]) ([] ++ pinsAt [it] h') σg H' s' → Nx H' → ∃ m, m < n ∧ ∃ i H', Inv (X.blk sc Hc scope ce [it]) [] (wipe σ (own.map (·.2))) H' s' ∧ s'.heap.IsListIter it a i ∧ H' it = none ∧ W i m H' := fun {s' H'} J nx => by
        obtain ⟨m', hm, w'⟩ := go H' nx
        obtain ⟨eo, no⟩ := pin J
        refine ⟨m', hm, i + 1, H', (J.unpinned (pins := [])).weak (by rw [← wg, wipe_length]) (fun j v e => ?_), tf.at fun o e => by rw [eob] at e; cases e; exact eo, no, w'⟩
        rw [← wg] at e
        exact (wipe_some e).1
      cases b with
      | false =>
        simp only [Bool.false_eq_true, if_false] at qh ⊢
        exact next Jh qh
      | true =>
        simp only [if_true] at qh ⊢
        refine thnF (pe.run _ sh σg Hh _ Jh qh) fun z si ⟨yv, Hi, Ji, ri, acc, eD, lz, nx⟩ => ?_
        exact app_ok (X := X.blk sc Hc scope ce [it]) Ji eD lz ri fun sj Jj => next Jj nx
  exact codeAny_compStart_list loop (wpAny_pyIter_listiter td loop)
end
theorem rd_lcH {σ : St} {H : Hp} {Q : VK} {K : PySem.W.Frag} {ta : TE} {g : TG} {tt : TT} {te : TE} {vs : List Nat} (q : ta σ H fun x H1 => ∃ a, x = .ref a ∧ (∃ xs, SqL K H1 a xs) ∧ LcW (Itl K a) g tt te vs σ H1 Q) : tLc (iList K ta) g tt te vs σ H Q := q
theorem rd_gtupH {K : PySem.W.Frag} {σ : St} {H : Hp} {n : Nat} {t : TGs} {a : Addr} {xs : List V} {k : St → Hp → Prop} (h : SqT K H a xs) (e : xs.length = n) (q : t xs σ H k) : gTup K n t (.ref a) σ H k := ⟨a, xs, rfl, h, e, q⟩
end Mine

namespace Mine
open PySem PySem.Spec PyProof.Rows
open L2 hiding CX XE Takes takes_of passes_call ps_raise ps_try_as ps_try_many ps_try_only pmk_own passAt MkP PMk mk_of Zc HdsOk takes_none5
open L2N hiding St
/-- an except suite is hot: the error's context is None -/
theorem hot_suite {X : Cx} {a : Addr} {oe : Obj} {cls : Value} {d : Option Addr} {pn : List (Addr × Obj)} (hz : Zn cls d oe) (hf : ∃ vs, oe.data = .fields vs) : Hot (X.suite a ((a, oe) :: pn)) := by
  obtain ⟨vs, hd⟩ := hf
  refine ⟨a, fun pins σ H s I => ?_⟩
  obtain ⟨p1, p2, p3, p4, _⟩ := I.pin (a, oe) (List.mem_append_left _ List.mem_cons_self)
  exact ⟨⟨rfl, oe, vs, p1, hd, hz.2.2 vs hd⟩, p2, p3, p4⟩
theorem takes_none5 {X : Cx} : Takes X (fun _ _ _ _ => False) := fun u s' h => by
  obtain ⟨_, _, _, _, _, _, _, _, _, _, _, _, _, _, _, _, w⟩ := h
  exact w.elim
end Mine

local macro_rules | `(tactic| walk_at "len") => `(tactic| first | assumption | (refine Mine.szOk ?_; first | decide +kernel | ((try simp only [Mine.len_app]); omega)))
local macro_rules | `(tactic| walk_at "sd") => `(tactic| first | assumption | rfl | exact L2.SqL.of (by assumption) | exact L2.SqT.of (by assumption) | exact L2.SqL.of L2.upd_same | exact L2.SqT.of L2.upd_same | exact L2.upd_same | decide | omega)
local macro_rules | `(tactic| walk_at "lk") => `(tactic| with_reducible repeat (first | exact Mine.lk_hit | exact Mine.lk_nil | exact Mine.pf_hit | exact Mine.pf_nil | refine Mine.lk_miss (by decide +kernel) ?_ | refine Mine.pf_miss (by decide +kernel) ?_))
local macro_rules | `(tactic| walk_at "rd1") => `(tactic| with_reducible first
  | refine Mine.rd_var (by with_unfolding_all rfl) ?_ | refine Mine.rd_c ?_ | refine Mine.rd_op ?_ | refine Mine.rd_seq ?_ | refine Mine.rd_asg ?_ | refine Mine.rd_gname (by (simp only [L2.wipe, List.map, List.set]); first | done | exact rfl) ?_ | refine Mine.rd_wipe (by with_unfolding_all rfl) ?_ | refine Mine.rd_lcT1 ?_ | refine Mine.rd_dcT1 ?_ | refine Mine.rd_dctT1 ?_ | refine Mine.rd_lcET ?_ | refine Mine.rd_forET ?_ | refine Mine.rd_lcZT ?_ | refine Mine.rd_forES ?_ | refine Mine.rd_lcES ?_ | refine Mine.rd_lenSet ?_
  | refine Mine.rd_test ?_ | refine Mine.rd_tB ?_ | refine Mine.rd_bl ?_ | refine Mine.rd_ifS ?_ | refine Mine.rd_ifE ?_ | refine Mine.rd_and ?_ | refine Mine.rd_or ?_ | refine Mine.rd_not ?_
  | refine Mine.rd_andV ?_ | refine Mine.rd_orV ?_ | refine Mine.rd_notV ?_ | refine Mine.rd_cons ?_ | refine Mine.rd_nil ?_ | refine Mine.rd_call ?_ | refine Mine.rd_callK ?_ | refine Mine.rd_callS ?_ | refine Mine.rd_callSD ?_ | refine Mine.rd_callKS ?_ | refine Mine.rd_raise ?_ | refine Mine.rd_raiseS ?_ | refine Mine.rd_raised ?_ | refine Mine.rd_byS ?_ | refine Mine.rd_tryO ?_ | refine Mine.rd_tryM ?_ | refine Mine.rd_tryMA ?_ | refine Mine.rd_tryA ?_ | refine Mine.rd_sp1x ?_ | refine Mine.rd_sp2x ?_ | refine Mine.rd_sp3x ?_ | refine Mine.rd_sp4x ?_ | refine Mine.rd_sp5x ?_ | refine Mine.rd_sp0 ?_ | refine Mine.rd_remX ?_ | refine Mine.rd_fld ?_ | refine Mine.rd_sfld ?_ | refine Mine.rd_metS ?_ | refine Mine.rd_metKS ?_ | refine Mine.rd_mkS ?_ | refine Mine.rd_mkKS ?_
  | refine Mine.rd_sp1 ?_ | refine Mine.rd_sp2 ?_ | refine Mine.rd_sp3 ?_ | refine Mine.rd_sp4 ?_ | refine Mine.rd_cb ?_ | refine Mine.rd_bm ?_ | refine Mine.rd_bm0 ?_ | refine Mine.rd_m1 ?_ | refine Mine.rd_m0 ?_
  | refine Mine.rd_sl ?_ | refine Mine.rd_noPart ?_ | refine Mine.rd_part ?_ | refine Mine.rd_int ?_ | refine Mine.rd_chain ?_ | refine Mine.rd_un ?_ | refine Mine.rd_yes ?_ | refine Mine.rd_revL ?_ | refine Mine.rd_star ?_ | refine Mine.rd_isB ?_ | refine Mine.rd_notB ?_ | refine Mine.rd_dput ?_ | refine Mine.rd_dnew ?_ | refine Mine.rd_forE ?_ | refine Mine.rd_forZ ?_ | refine Mine.rd_lcE ?_ | refine Mine.rd_lcZ ?_ | refine Mine.rd_forR ?_ | refine Mine.rd_forR2 ?_ | refine Mine.rd_lcR ?_ | refine Mine.rd_lcR2 ?_
  | refine Mine.rd_new (by with_unfolding_all rfl) ?_ | refine Mine.rd_lst ?_ | refine Mine.rd_tup ?_ | refine Mine.rd_next ?_ | refine Mine.rd_brk ?_ | refine Mine.rd_cont ?_ | refine Mine.rd_drop ?_ | refine Mine.rd_ret ?_ | refine Mine.rd_retN ?_
  | refine Mine.rd_par ?_ | refine Mine.rd_par2 (by (simp only [List.set]); first | done | exact rfl) ?_ | refine Mine.rd_gsub ?_ | refine Mine.rd_gcons ?_ | refine Mine.rd_gnil ?_ | refine Mine.rd_aug (by with_unfolding_all rfl) ?_ | refine Mine.rd_ipI ?_
  | refine Mine.rd_addI ?_ | refine Mine.rd_subI ?_ | refine Mine.rd_ltI ?_ | refine Mine.rd_leI ?_ | refine Mine.rd_gtI ?_ | refine Mine.rd_geI ?_ | refine Mine.rd_eqI ?_ | refine Mine.rd_eqS ?_ | refine Mine.rd_neI ?_ | refine Mine.rd_neS ?_
  | refine Mine.rd_ltS ?_ | refine Mine.rd_leS ?_ | refine Mine.rd_gtS ?_ | refine Mine.rd_geS ?_ | refine Mine.rd_eqB ?_ | refine Mine.rd_neB ?_
  | refine Mine.rd_ixLU (by with_unfolding_all rfl) ?_ | refine Mine.rd_ixTU (by with_unfolding_all rfl) ?_ | refine Mine.rd_ixL (L2.SqL.of (by assumption)) (by with_unfolding_all rfl) ?_ | refine Mine.rd_ixT (L2.SqT.of (by assumption)) (by with_unfolding_all rfl) ?_ | refine Mine.rd_setLU (by with_unfolding_all rfl) ?_ | refine Mine.rd_setL (by assumption) (by with_unfolding_all rfl) ?_
  | refine Mine.rd_yT ?_ | refine Mine.rd_nF ?_ | refine Mine.rd_nT ?_ | refine Mine.rd_yF ?_ | refine Mine.rd_isiS ?_ | refine Mine.rd_isiSN ?_ | refine Mine.rd_isiSI ?_ | refine Mine.rd_isiSB ?_ | refine Mine.rd_isiI ?_ | refine Mine.rd_isiIB ?_ | refine Mine.rd_isiIN ?_ | refine Mine.rd_isiIS ?_ | refine Mine.rd_isiB ?_ | refine Mine.rd_isiBI ?_
  | refine Mine.rd_mulS (by first | decide +kernel | omega) (by first | decide | omega) (by first | decide | omega) ?_ | refine Mine.rd_slS (by walk_at "len") ?_ | refine Mine.rd_addS (by walk_at "len") ?_ | refine Mine.rd_lenS (by walk_at "len") ?_
  | refine Mine.rd_inS ?_ | refine Mine.rd_notInS ?_ | refine Mine.rd_is ?_ | refine Mine.rd_isNot ?_ | refine Mine.rd_intI ?_ | refine Mine.rd_intB ?_ | refine Mine.rd_max ?_ | refine Mine.rd_min ?_ | refine Mine.rd_tyS ?_ | refine Mine.rd_isS ?_)
local macro_rules | `(tactic| walk_at "rd") => `(tactic| repeat walk_at "rd1")

namespace Mine
open PySem PySem.Spec PyProof.Rows
open L2 hiding CX XE Takes takes_of passes_call ps_raise ps_try_as ps_try_many ps_try_only pmk_own passAt MkP PMk mk_of Zc HdsOk takes_none5
open L2N hiding St
open TL (tl)
def top (i : Nat) : Stmt := PySem.Challenge.pw_wireshell_k35_families_refuse.main.body.getD i (.Pass ⟨0, 0, 0, 0⟩)
abbrev s_TooLarge___init__ : Stmt := inClass (top 4) 0
abbrev s_NotAlive___init__ : Stmt := inClass (top 6) 0
abbrev s_is_integer : Stmt := top 8
abbrev s_Family___init__ : Stmt := inClass (top 15) 0
abbrev s_Family_check : Stmt := inClass (top 15) 1
abbrev s_Family_check_alive : Stmt := inClass (top 15) 2
abbrev s_Family_go_to : Stmt := inClass (top 15) 3
abbrev s_Family_fork : Stmt := inClass (top 15) 4
abbrev s_Family_end : Stmt := inClass (top 15) 5
abbrev s_Family_told_of : Stmt := inClass (top 15) 6
abbrev s_Family_wait : Stmt := inClass (top 15) 7
abbrev s_Family_wait_for : Stmt := inClass (top 15) 8
abbrev s_Family_offspring : Stmt := inClass (top 15) 9
abbrev s_Family_children : Stmt := inClass (top 15) 10
abbrev s_Family_parent : Stmt := inClass (top 15) 11
abbrev s_Family_status : Stmt := inClass (top 15) 12
abbrev s_Family_ended : Stmt := inClass (top 15) 13
abbrev s_Family_undo : Stmt := inClass (top 15) 14
abbrev s_law_deck : Stmt := top 17
abbrev s_law_draw : Stmt := top 18
abbrev s_law_one_of : Stmt := top 19
abbrev s_law_family_seen : Stmt := top 20
abbrev s_law_call : Stmt := top 21
abbrev s_law_word : Stmt := top 22
abbrev s_law_right : Stmt := top 23
abbrev s_law : Stmt := top 24
theorem sc_is_integer : FnScope ["value", "least", "most"] ["value", "least", "most"] (defScope s_is_integer) := ⟨rfl, rfl, rfl, by decide +kernel, rfl, by decide +kernel, by decide +kernel⟩
theorem sc_Family___init__ : FnScope ["self"] ["self"] (defScope s_Family___init__) := ⟨rfl, rfl, rfl, by decide +kernel, rfl, by decide +kernel, by decide +kernel⟩
theorem sc_Family_check : FnScope ["self", "process"] ["self", "process"] (defScope s_Family_check) := ⟨rfl, rfl, rfl, by decide +kernel, rfl, by decide +kernel, by decide +kernel⟩
theorem sc_Family_check_alive : FnScope ["self", "process"] ["self", "process"] (defScope s_Family_check_alive) := ⟨rfl, rfl, rfl, by decide +kernel, rfl, by decide +kernel, by decide +kernel⟩
theorem sc_Family_go_to : FnScope ["self", "rows", "ended"] ["self", "rows", "ended"] (defScope s_Family_go_to) := ⟨rfl, rfl, rfl, by decide +kernel, rfl, by decide +kernel, by decide +kernel⟩
theorem sc_Family_fork : FnScope ["self", "process", "rows", "ended"] ["self", "process"] (defScope s_Family_fork) := ⟨rfl, rfl, rfl, by decide +kernel, rfl, by decide +kernel, by decide +kernel⟩
theorem sc_Family_end : FnScope ["self", "process", "number", "rows", "ended", "found", "parent", "status"] ["self", "process", "number"] (defScope s_Family_end) := ⟨rfl, rfl, rfl, by decide +kernel, rfl, by decide +kernel, by decide +kernel⟩
theorem sc_Family_told_of : FnScope ["self", "child", "rows", "ended", "found", "process"] ["self", "child"] (defScope s_Family_told_of) := ⟨rfl, rfl, rfl, by decide +kernel, rfl, by decide +kernel, by decide +kernel⟩
theorem sc_Family_wait : FnScope ["self", "process", "rows", "ended", "own", "child"] ["self", "process"] (defScope s_Family_wait) := ⟨rfl, rfl, rfl, by decide +kernel, rfl, by decide +kernel, by decide +kernel⟩
theorem sc_Family_wait_for : FnScope ["self", "process", "child", "parent", "status"] ["self", "process", "child"] (defScope s_Family_wait_for) := ⟨rfl, rfl, rfl, by decide +kernel, rfl, by decide +kernel, by decide +kernel⟩
theorem sc_Family_offspring : FnScope ["self", "process", "child", "parent", "status"] ["self", "process"] (defScope s_Family_offspring) := ⟨rfl, rfl, rfl, by decide +kernel, rfl, by decide +kernel, by decide +kernel⟩
theorem sc_Family_children : FnScope ["self", "process"] ["self", "process"] (defScope s_Family_children) := ⟨rfl, rfl, rfl, by decide +kernel, rfl, by decide +kernel, by decide +kernel⟩
theorem sc_Family_parent : FnScope ["self", "process"] ["self", "process"] (defScope s_Family_parent) := ⟨rfl, rfl, rfl, by decide +kernel, rfl, by decide +kernel, by decide +kernel⟩
theorem sc_Family_status : FnScope ["self", "process"] ["self", "process"] (defScope s_Family_status) := ⟨rfl, rfl, rfl, by decide +kernel, rfl, by decide +kernel, by decide +kernel⟩
theorem sc_Family_ended : FnScope ["self"] ["self"] (defScope s_Family_ended) := ⟨rfl, rfl, rfl, by decide +kernel, rfl, by decide +kernel, by decide +kernel⟩
theorem sc_Family_undo : FnScope ["self"] ["self"] (defScope s_Family_undo) := ⟨rfl, rfl, rfl, by decide +kernel, rfl, by decide +kernel, by decide +kernel⟩
theorem sc_law_deck : FnScope ["script", "k", "cell", "mixed", "number"] ["script", "k"] (defScope s_law_deck) := ⟨rfl, rfl, rfl, by decide +kernel, rfl, by decide +kernel, by decide +kernel⟩
theorem sc_law_draw : FnScope ["deck", "many", "found", "mixed"] ["deck", "many"] (defScope s_law_draw) := ⟨rfl, rfl, rfl, by decide +kernel, rfl, by decide +kernel, by decide +kernel⟩
theorem sc_law_one_of : FnScope ["deck", "items"] ["deck", "items"] (defScope s_law_one_of) := ⟨rfl, rfl, rfl, by decide +kernel, rfl, by decide +kernel, by decide +kernel⟩
theorem sc_law_family_seen : FnScope ["family", "many", "rows", "p"] ["family", "many"] (defScope s_law_family_seen) := ⟨rfl, rfl, rfl, by decide +kernel, rfl, by decide +kernel, by decide +kernel⟩
theorem sc_law_call : FnScope ["family", "way", "one", "two"] ["family", "way", "one", "two"] (defScope s_law_call) := ⟨rfl, rfl, rfl, by decide +kernel, rfl, by decide +kernel, by decide +kernel⟩
theorem sc_law_word : FnScope ["family", "way", "one", "two", "e", "kinds", "name", "holds"] ["family", "way", "one", "two"] (defScope s_law_word) := ⟨rfl, rfl, rfl, by decide +kernel, rfl, by decide +kernel, by decide +kernel⟩
theorem sc_law_right : FnScope ["deck", "family", "many", "turn", "seen", "process", "number", "dead", "rows", "way", "one", "two", "due"] ["deck"] (defScope s_law_right) := ⟨rfl, rfl, rfl, by decide +kernel, rfl, by decide +kernel, by decide +kernel⟩
theorem sc_law : FnScope ["script", "k"] ["script"] (defScope s_law) := ⟨rfl, rfl, rfl, by decide +kernel, rfl, by decide +kernel, by decide +kernel⟩
/-- what the top has left -/
structure Txt (P : Program) (K : PySem.W.Frag) (mg : Str → Option Value) : Prop where
  c_MOST_PROCESS : GK mg "MOST_PROCESS" (.int 40)
  c_MOST_NUMBER : GK mg "MOST_NUMBER" (.int 255)
  c_FIRST : GK mg "FIRST" (.int 0)
  c_ALIVE : ∃ A, GT K mg "ALIVE" A [(V.str "alive")]
  c_GONE : ∃ A, GT K mg "GONE" A [(V.str "gone")]
  k_Family : ∃ C, ClsF K mg "Family" C
  n_Family_present : ∀ C, mg "Family" = some (.ref C) → NoAttr K C "present"
  n_Family_past : ∀ C, mg "Family" = some (.ref C) → NoAttr K C "past"
  d_Family___init__ : ∀ C, mg "Family" = some (.ref C) → MetAt K C "__init__" "Family.__init__" ["self"] s_Family___init__
  d_Family_check : ∀ C, mg "Family" = some (.ref C) → MetAt K C "check" "Family.check" ["self", "process"] s_Family_check
  d_Family_check_alive : ∀ C, mg "Family" = some (.ref C) → MetAt K C "check_alive" "Family.check_alive" ["self", "process"] s_Family_check_alive
  d_Family_go_to : ∀ C, mg "Family" = some (.ref C) → MetAt K C "go_to" "Family.go_to" ["self", "rows", "ended"] s_Family_go_to
  d_Family_fork : ∀ C, mg "Family" = some (.ref C) → MetAt K C "fork" "Family.fork" ["self", "process"] s_Family_fork
  d_Family_end : ∀ C, mg "Family" = some (.ref C) → MetAt K C "end" "Family.end" ["self", "process", "number"] s_Family_end
  d_Family_told_of : ∀ C, mg "Family" = some (.ref C) → MetAt K C "told_of" "Family.told_of" ["self", "child"] s_Family_told_of
  d_Family_wait : ∀ C, mg "Family" = some (.ref C) → MetAt K C "wait" "Family.wait" ["self", "process"] s_Family_wait
  d_Family_wait_for : ∀ C, mg "Family" = some (.ref C) → MetAt K C "wait_for" "Family.wait_for" ["self", "process", "child"] s_Family_wait_for
  d_Family_offspring : ∀ C, mg "Family" = some (.ref C) → MetAt K C "offspring" "Family.offspring" ["self", "process"] s_Family_offspring
  d_Family_children : ∀ C, mg "Family" = some (.ref C) → MetAt K C "children" "Family.children" ["self", "process"] s_Family_children
  d_Family_parent : ∀ C, mg "Family" = some (.ref C) → MetAt K C "parent" "Family.parent" ["self", "process"] s_Family_parent
  d_Family_status : ∀ C, mg "Family" = some (.ref C) → MetAt K C "status" "Family.status" ["self", "process"] s_Family_status
  d_Family_ended : ∀ C, mg "Family" = some (.ref C) → MetAt K C "ended" "Family.ended" ["self"] s_Family_ended
  d_Family_undo : ∀ C, mg "Family" = some (.ref C) → MetAt K C "undo" "Family.undo" ["self"] s_Family_undo
  d_is_integer : DefAt K mg "is_integer" ["value", "least", "most"] s_is_integer
  d_law_deck : DefAt K mg "_law_deck" ["script", "k"] s_law_deck
  d_law_draw : DefAt K mg "_law_draw" ["deck", "many"] s_law_draw
  d_law_one_of : DefAt K mg "_law_one_of" ["deck", "items"] s_law_one_of
  d_law_family_seen : DefAt K mg "_law_family_seen" ["family", "many"] s_law_family_seen
  d_law_call : DefAt K mg "_law_call" ["family", "way", "one", "two"] s_law_call
  d_law_word : DefAt K mg "_law_word" ["family", "way", "one", "two"] s_law_word
  d_law_right : DefAt K mg "_law_right" ["deck"] s_law_right
  d_law : DefAt K mg "law" ["script"] s_law
  b_bool : mg "bool" = none
  b_enumerate : mg "enumerate" = none
  b_int : mg "int" = none
  b_isinstance : mg "isinstance" = none
  b_len : mg "len" = none
  b_list : mg "list" = none
  b_max : mg "max" = none
  b_min : mg "min" = none
  b_range : mg "range" = none
  b_repr : mg "repr" = none
  b_tuple : mg "tuple" = none
  e_InvalidProcess : ∃ C, ExcF K mg "InvalidProcess" C
  e_NotAlive : ∃ C F, PySem.SupX.SupTxt P K mg "NotAlive" "process" C F
  e_TooLarge : ∃ C F, PySem.SupX.SupTxt P K mg "TooLarge" "limit" C F
  e_InvalidCount : ∃ C, ExcF K mg "InvalidCount" C
  e_EmptyHistory : ∃ C, ExcF K mg "EmptyHistory" C
  e_WireError : ∃ C, ExcF K mg "WireError" C
  x_InvalidProcess : ∀ C, mg "InvalidProcess" = some (.ref C) → ExcC K C
  x_InvalidCount : ∀ C, mg "InvalidCount" = some (.ref C) → ExcC K C
  x_EmptyHistory : ∀ C, mg "EmptyHistory" = some (.ref C) → ExcC K C
  x_WireError : ∀ C, mg "WireError" = some (.ref C) → ExcC K C
  m_InvalidProcess_NotAlive : ∀ C D, mg "InvalidProcess" = some (.ref C) → mg "NotAlive" = some (.ref D) → PySem.W.subIn K (.ref C) (.ref D) = some false
  m_InvalidProcess_WireError : ∀ C D, mg "InvalidProcess" = some (.ref C) → mg "WireError" = some (.ref D) → PySem.W.subIn K (.ref C) (.ref D) = some true
  m_InvalidProcess_InvalidProcess : ∀ C D, mg "InvalidProcess" = some (.ref C) → mg "InvalidProcess" = some (.ref D) → PySem.W.subIn K (.ref C) (.ref D) = some true
  m_InvalidProcess_InvalidCount : ∀ C D, mg "InvalidProcess" = some (.ref C) → mg "InvalidCount" = some (.ref D) → PySem.W.subIn K (.ref C) (.ref D) = some false
  m_InvalidProcess_EmptyHistory : ∀ C D, mg "InvalidProcess" = some (.ref C) → mg "EmptyHistory" = some (.ref D) → PySem.W.subIn K (.ref C) (.ref D) = some false
  m_NotAlive_NotAlive : ∀ C D, mg "NotAlive" = some (.ref C) → mg "NotAlive" = some (.ref D) → PySem.W.subIn K (.ref C) (.ref D) = some true
  m_NotAlive_WireError : ∀ C D, mg "NotAlive" = some (.ref C) → mg "WireError" = some (.ref D) → PySem.W.subIn K (.ref C) (.ref D) = some true
  m_NotAlive_InvalidProcess : ∀ C D, mg "NotAlive" = some (.ref C) → mg "InvalidProcess" = some (.ref D) → PySem.W.subIn K (.ref C) (.ref D) = some false
  m_NotAlive_InvalidCount : ∀ C D, mg "NotAlive" = some (.ref C) → mg "InvalidCount" = some (.ref D) → PySem.W.subIn K (.ref C) (.ref D) = some false
  m_NotAlive_EmptyHistory : ∀ C D, mg "NotAlive" = some (.ref C) → mg "EmptyHistory" = some (.ref D) → PySem.W.subIn K (.ref C) (.ref D) = some false
  m_TooLarge_NotAlive : ∀ C D, mg "TooLarge" = some (.ref C) → mg "NotAlive" = some (.ref D) → PySem.W.subIn K (.ref C) (.ref D) = some false
  m_TooLarge_WireError : ∀ C D, mg "TooLarge" = some (.ref C) → mg "WireError" = some (.ref D) → PySem.W.subIn K (.ref C) (.ref D) = some true
  m_TooLarge_InvalidProcess : ∀ C D, mg "TooLarge" = some (.ref C) → mg "InvalidProcess" = some (.ref D) → PySem.W.subIn K (.ref C) (.ref D) = some false
  m_TooLarge_InvalidCount : ∀ C D, mg "TooLarge" = some (.ref C) → mg "InvalidCount" = some (.ref D) → PySem.W.subIn K (.ref C) (.ref D) = some false
  m_TooLarge_EmptyHistory : ∀ C D, mg "TooLarge" = some (.ref C) → mg "EmptyHistory" = some (.ref D) → PySem.W.subIn K (.ref C) (.ref D) = some false
  m_InvalidCount_NotAlive : ∀ C D, mg "InvalidCount" = some (.ref C) → mg "NotAlive" = some (.ref D) → PySem.W.subIn K (.ref C) (.ref D) = some false
  m_InvalidCount_WireError : ∀ C D, mg "InvalidCount" = some (.ref C) → mg "WireError" = some (.ref D) → PySem.W.subIn K (.ref C) (.ref D) = some true
  m_InvalidCount_InvalidProcess : ∀ C D, mg "InvalidCount" = some (.ref C) → mg "InvalidProcess" = some (.ref D) → PySem.W.subIn K (.ref C) (.ref D) = some false
  m_InvalidCount_InvalidCount : ∀ C D, mg "InvalidCount" = some (.ref C) → mg "InvalidCount" = some (.ref D) → PySem.W.subIn K (.ref C) (.ref D) = some true
  m_InvalidCount_EmptyHistory : ∀ C D, mg "InvalidCount" = some (.ref C) → mg "EmptyHistory" = some (.ref D) → PySem.W.subIn K (.ref C) (.ref D) = some false
  m_EmptyHistory_NotAlive : ∀ C D, mg "EmptyHistory" = some (.ref C) → mg "NotAlive" = some (.ref D) → PySem.W.subIn K (.ref C) (.ref D) = some false
  m_EmptyHistory_WireError : ∀ C D, mg "EmptyHistory" = some (.ref C) → mg "WireError" = some (.ref D) → PySem.W.subIn K (.ref C) (.ref D) = some true
  m_EmptyHistory_InvalidProcess : ∀ C D, mg "EmptyHistory" = some (.ref C) → mg "InvalidProcess" = some (.ref D) → PySem.W.subIn K (.ref C) (.ref D) = some false
  m_EmptyHistory_InvalidCount : ∀ C D, mg "EmptyHistory" = some (.ref C) → mg "InvalidCount" = some (.ref D) → PySem.W.subIn K (.ref C) (.ref D) = some false
  m_EmptyHistory_EmptyHistory : ∀ C D, mg "EmptyHistory" = some (.ref C) → mg "EmptyHistory" = some (.ref D) → PySem.W.subIn K (.ref C) (.ref D) = some true
  m_WireError_NotAlive : ∀ C D, mg "WireError" = some (.ref C) → mg "NotAlive" = some (.ref D) → PySem.W.subIn K (.ref C) (.ref D) = some false
  m_WireError_WireError : ∀ C D, mg "WireError" = some (.ref C) → mg "WireError" = some (.ref D) → PySem.W.subIn K (.ref C) (.ref D) = some true
  m_WireError_InvalidProcess : ∀ C D, mg "WireError" = some (.ref C) → mg "InvalidProcess" = some (.ref D) → PySem.W.subIn K (.ref C) (.ref D) = some false
  m_WireError_InvalidCount : ∀ C D, mg "WireError" = some (.ref C) → mg "InvalidCount" = some (.ref D) → PySem.W.subIn K (.ref C) (.ref D) = some false
  m_WireError_EmptyHistory : ∀ C D, mg "WireError" = some (.ref C) → mg "EmptyHistory" = some (.ref D) → PySem.W.subIn K (.ref C) (.ref D) = some false
section
variable {P : Program} {w : World} {K : PySem.W.Frag} {mg : Str → Option Value} {base : Heap}
/-! ## The deck: [digits left, a number mixed of all, draws made], and draws from it -/
/-- all that is tracked stays, but for d -/
def Kp (d : Addr) (H H' : Hp) : Prop := ∀ a o, a ≠ d → H a = some o → H' a = some o
theorem Kp.refl (d : Addr) (H : Hp) : Kp d H H := fun _ _ _ h => h
theorem Kp.trans {d : Addr} {H H1 H2 : Hp} (a : Kp d H H1) (b : Kp d H1 H2) : Kp d H H2 := fun c o n h => b c o n (a c o n h)
theorem Kp.new {d p : Addr} {H H' : Hp} {o : HO} (a : Kp d H H') (h : H' p = none) : Kp d H (upd H' p o) := fun c u n e => by
  have e1 := a c u n e
  rw [upd_ne (ne_of_none e1 h)]
  exact e1
theorem Kp.seq {K : PySem.W.Frag} {d a : Addr} {H H' : Hp} {xs : List V} (k : Kp d H H') (n : a ≠ d) (h : SqL K H a xs) : SqL K H' a xs := by
  rcases h with (h | ⟨o, h⟩) | h
  · exact .inl (.inl (k _ _ n h))
  · exact .inl (.inr ⟨o, k _ _ n h⟩)
  · exact .inr h
theorem Kp.free {d a : Addr} {H H' : Hp} (k : Kp d H H') (n : a ≠ d) (h : H' a = none) : H a = none := by
  cases q : H a with
  | none => rfl
  | some o => rw [k a o n q] at h; cases h
theorem Kp.put {d p : Addr} {H H' : Hp} {o : HO} (a : Kp d H H') (h : H p = none) : Kp d H (upd H' p o) := fun c u n e => by
  rw [upd_ne (ne_of_none e h)]
  exact a c u n e
theorem Kp.at {d p : Addr} {H H' : Hp} {o : HO} (k : Kp d (upd H p o) H') (n : d ≠ p) : H' p = some o := k p _ n.symm upd_same
/-- a deck from which at most m draws were made -/
def Dk (d : Addr) (m : Nat) (H : Hp) : Prop := ∃ x y c : Int, H d = some (.lst [.int x, .int y, .int c]) ∧ 0 ≤ x ∧ 0 ≤ y ∧ y < 10 ^ 70 ∧ 0 ≤ c ∧ c ≤ m
theorem Dk.mono {d : Addr} {m n : Nat} {H : Hp} (h : Dk d m H) (l : m ≤ n) : Dk d n H := by
  obtain ⟨x, y, c, h1, h2, h3, h4, h5, h6⟩ := h
  exact ⟨x, y, c, h1, h2, h3, h4, h5, by omega⟩
theorem Dk.new {d p : Addr} {m : Nat} {H : Hp} {o : HO} (h : Dk d m H) (n : H p = none) : Dk d m (upd H p o) := by
  obtain ⟨x, y, c, h1, h2⟩ := h
  refine ⟨x, y, c, ?_, h2⟩
  rw [upd_ne (ne_of_none h1 n)]
  exact h1
theorem Dk.put {d p : Addr} {m : Nat} {H : Hp} {o : HO} (h : Dk d m H) (n : d ≠ p) : Dk d m (upd H p o) := by
  obtain ⟨x, y, c, h1, h2⟩ := h
  exact ⟨x, y, c, by rw [upd_ne n]; exact h1, h2⟩
theorem Dk.ne {d p : Addr} {m : Nat} {H : Hp} (h : Dk d m H) (n : H p = none) : d ≠ p := by
  obtain ⟨x, y, c, h1, h2⟩ := h
  exact ne_of_none h1 n
theorem Kp.of {d : Addr} {H H' : Hp} (h : Same H H') : Kp d H H' := fun a o _ e => h a o e
theorem Dk.same {d : Addr} {m : Nat} {H H' : Hp} (h : Dk d m H) (k : Same H H') : Dk d m H' := by
  obtain ⟨x, y, c, h1, h2⟩ := h
  exact ⟨x, y, c, k _ _ h1, h2⟩
theorem Dk.ne' {d p : Addr} {m : Nat} {H H' : Hp} (h : Dk d m H) (k : Kp d H H') (n : H p = none) : p ≠ d := (h.ne n).symm
/-- draws that may be made at all -/
def LIM : Nat := 1000000000
def Φ_law_draw (K : PySem.W.Frag) (vd vm : V) (H : Hp) (Q : VK) : Prop := ∃ (d : Addr) (n : Int) (m : Nat), vd = .ref d ∧ vm = .int n ∧ 0 < n ∧ n < 1073741824 ∧ Dk d m H ∧ m < LIM ∧
  ∀ (v : Int) (H' : Hp), 0 ≤ v → v < n → Dk d (m + 1) H' → Kp d H H' → Q (.int v) H'
theorem use_draw {K : PySem.W.Frag} {d : Addr} {n : Int} {m : Nat} {H : Hp} {Q : VK} (hd : Dk d m H) (h0 : 0 < n) (h1 : n < 1073741824) (hm : m < LIM)
    (q : ∀ (v : Int) (H' : Hp), 0 ≤ v → v < n → Dk d (m + 1) H' → Kp d H H' → Q (.int v) H') : Φ_law_draw K (.ref d) (.int n) H Q := ⟨d, n, m, rfl, rfl, h0, h1, hd, hm, q⟩
theorem divOk {i j : Int} (h0 : 0 < j) (h1 : j < 1073741824) : CDivW i j := wide_div (b := 64) h0 (by omega) (by decide) (by decide)
theorem bits_lt {i : Int} {n : Nat} (h0 : 0 ≤ i) (h1 : i < 2 ^ n) (hn : 0 < n) : Builtin.Int.intBits i ≤ n := by
  unfold Builtin.Int.intBits
  split
  · omega
  · have : i.natAbs < 2 ^ n := by
      have e : ((2 ^ n : Nat) : Int) = 2 ^ n := by norm_cast
      omega
    have := PySem.Flt.log2_lt_of hn this
    omega
def Φ_law_deck (K : PySem.W.Frag) (vs vk : V) (H : Hp) (Q : VK) : Prop := ∃ (a : Addr) (ns : List Int) (k : Int), vs = .ref a ∧ vk = .int k ∧ SqL K H a (ns.map V.int) ∧ ns.length ≤ 63 ∧ 0 ≤ k ∧ k < 64 ∧
  ∀ (d : Addr) (H' : Hp), H d = none → Dk d 0 H' → Same H H' → Q (.ref d) H'
theorem atI_int {ns : List Int} {k : Int} (h0 : 0 ≤ k) (h1 : k < ns.length) : ∃ z, atI (ns.map V.int) k = some (V.int z) := by
  obtain ⟨j, rfl⟩ : ∃ j : Nat, k = (j : Int) := ⟨k.toNat, by omega⟩
  have hj : j < ns.length := by omega
  exact ⟨ns[j], atI_nat (by rw [List.getElem?_map, List.getElem?_eq_getElem hj]; rfl)⟩
/-- a promise: draws at most c, a text of at most L signs -/
def TxtOf (L c : Nat) (vd : V) (H : Hp) (Q : VK) : Prop := ∃ (d : Addr) (m : Nat), vd = .ref d ∧ Dk d m H ∧ m + c ≤ LIM ∧ ∀ (z : Str) (H' : Hp), z.length ≤ L → Dk d (m + c) H' → Kp d H H' → Q (.str z) H'
/-- a promise: draws at most 10, a text of at most two signs more -/
def BentOf (K : PySem.W.Frag) (vd vp : V) (H : Hp) (Q : VK) : Prop := ∃ (d : Addr) (z : Str) (m : Nat), vd = .ref d ∧ vp = .str z ∧ z.length ≤ 500 ∧ Dk d m H ∧ m + 10 ≤ LIM ∧
  ∀ (y : Str) (H' : Hp), y.length ≤ z.length + 2 → Dk d (m + 10) H' → Kp d H H' → Q (.str y) H'

theorem ok_law_draw (T : Txt P K mg) {f : Addr} {fd : FuncData} (F : Fun K "_law_draw" "_law_draw" s_law_draw f fd) : Keeps P w K mg base CX0 1 f fd ["deck", "many"] (sp2 (Φ_law_draw K)) := by
  refine keeps0_of F sc_law_draw (fun vs H Q E h => ?_) (fun cdv A outer s H vs Q E hr h => ?_)
  · obtain ⟨_, _, rfl, _⟩ := h
    rfl
  obtain ⟨v_deck, v_many, rfl, h⟩ := h
  have hu := hr.hu
  refine ⟨_, (pss_cons (ps_if (pt_cmpR oGt (pe_ix (ixX (K := K)) (pv 0) pe_int (fun _ _ => rfl)) pe_int (nomark _)) (pss_cons (ps_set (i := 2) sc_law_draw.nd rfl (by first | exact Or.inl rfl | exact Or.inr rfl) (pe_op oMod (pe_callTy call_intX (by rfl) T.b_int (by decide +kernel) (pa_cons (pe_ix (ixX (K := K)) (pv 0) pe_int (fun _ _ => rfl)) pa_nil)) (pv 1)))
      (pss_cons (ps_asg (pe_op oDiv (pe_ix (ixX (K := K)) (pv 0) pe_int (fun _ _ => rfl)) (pv 1)) (pg_sub (pv 0) pe_int set_list))
      (pss_one (ps_ret (pv 2))))) pss_nil)
      (pss_cons (ps_asg (pe_op (oAdd (K := K)) (pe_ix (ixX (K := K)) (pv 0) pe_int (fun _ _ => rfl)) pe_int) (pg_sub (pv 0) pe_int set_list))
      (pss_cons (ps_set (i := 3) sc_law_draw.nd rfl (by first | exact Or.inl rfl | exact Or.inr rfl) (pe_op oMod (pe_callTy call_intX (by rfl) T.b_int (by decide +kernel) (pa_cons (pe_op (oAdd (K := K)) (pe_op oPow (pe_op (oAdd (K := K)) (pe_ix (ixX (K := K)) (pv 0) pe_int (fun _ _ => rfl)) (pe_op (oMul (K := K)) pe_int (pe_ix (ixX (K := K)) (pv 0) pe_int (fun _ _ => rfl)))) pe_int) (pe_op (oMul (K := K)) pe_int (pe_ix (ixX (K := K)) (pv 0) pe_int (fun _ _ => rfl)))) pa_nil)) (pe_op (oAdd (K := K)) (pe_op oPow pe_int pe_int) pe_int)))
      (pss_cons (ps_set (i := 3) sc_law_draw.nd rfl (by first | exact Or.inl rfl | exact Or.inr rfl) (pe_op oMod (pe_callTy call_intX (by rfl) T.b_int (by decide +kernel) (pa_cons (pe_op (oAdd (K := K)) (pe_op (oAdd (K := K)) (pe_op (oMul (K := K)) (pv 3) (pv 3)) (pe_ix (ixX (K := K)) (pv 0) pe_int (fun _ _ => rfl))) (pe_op (oMul (K := K)) pe_int (pe_ix (ixX (K := K)) (pv 0) pe_int (fun _ _ => rfl)))) pa_nil)) (pe_op (oAdd (K := K)) (pe_op oPow pe_int pe_int) pe_int)))
      (pss_one (ps_ret (pe_op oMod (pe_callTy call_intX (by rfl) T.b_int (by decide +kernel) (pa_cons (pe_op oDiv (pv 3) pe_int) pa_nil)) (pv 1)))))))), ?_⟩
  rw [show start ["deck", "many", "found", "mixed"] [v_deck, v_many] = [some v_deck, some v_many, none, none] from rfl]
  try dsimp only [cxOf, Cx.nox, Cx.wish]
  obtain ⟨d, n, m, rfl, rfl, hn0, hn1, ⟨x, y, c, hd, hx, hy0, hy1, hc0, hc1⟩, hm, q⟩ := h
  walk_at "rd"
  refine rd_ite (fun hp => ?_) (fun hp => ?_)
  · walk_at "rd"
    refine rd_modI hn0 ?_
    walk_at "rd"
    refine rd_divI (divOk hn0 hn1) ?_
    walk_at "rd"
    refine q _ _ (Int.emod_nonneg _ (by omega)) (Int.emod_lt_of_pos _ hn0) ⟨x / n, y, c, upd_same, Int.ediv_nonneg hx (by omega), hy0, hy1, hc0, by omega⟩ fun a o ne e => ?_
    rw [upd_ne ne]
    exact e
  · walk_at "rd"
    refine rd_mulI (IntMulOk.of_left (by decide)) ?_
    walk_at "rd"
    have b0 : y + 7368787 * (c + 1) < 2 ^ 240 := by
      have : m < 1000000000 := hm
      omega
    refine rd_powI ⟨by decide, ?_⟩ ?_
    · have := bits_lt (n := 240) (by omega) b0 (by decide)
      omega
    walk_at "rd"
    refine rd_mulI (IntMulOk.of_left (by decide)) ?_
    walk_at "rd"
    refine rd_powI ⟨by decide, by decide⟩ ?_
    walk_at "rd"
    refine rd_modL (by decide) fun z hz0 hz1 => ?_
    walk_at "rd"
    have hz2 : z < 2 ^ 200 := Int.lt_trans hz1 (by decide)
    refine rd_mulI (CMulW.ok (wide_mul (a := 200) (b := 200) (by omega) (by omega) (by decide) (by decide) (by decide))) ?_
    walk_at "rd"
    refine rd_mulI (IntMulOk.of_left (by decide)) ?_
    walk_at "rd"
    refine rd_powI ⟨by decide, by decide⟩ ?_
    walk_at "rd"
    refine rd_modL (by decide) fun z2 _ _ => ?_
    walk_at "rd"
    refine rd_divI (divOk (by decide) (by decide)) ?_
    walk_at "rd"
    refine rd_modL hn0 fun z3 h30 h31 => ?_
    refine q _ _ h30 h31 ⟨x, y, c + 1, upd_same, hx, hy0, hy1, by omega, by omega⟩ fun a o ne e => ?_
    rw [upd_ne ne]
    exact e
theorem ok_law_deck (T : Txt P K mg) {f : Addr} {fd : FuncData} (F : Fun K "_law_deck" "_law_deck" s_law_deck f fd) : Keeps P w K mg base CX0 1 f fd ["script", "k"] (sp2 (Φ_law_deck K)) := by
  refine keeps0_of F sc_law_deck (fun vs H Q E h => ?_) (fun cdv A outer s H vs Q E hr h => ?_)
  · obtain ⟨_, _, rfl, _⟩ := h
    rfl
  obtain ⟨v_script, v_k, rfl, h⟩ := h
  have hu := hr.hu
  refine ⟨_, (pss_cons (ps_set (i := 2) sc_law_deck.nd rfl (by first | exact Or.inl rfl | exact Or.inr rfl) (pe_op (oAdd (K := K)) (pe_op (oMul (K := K)) pe_int (pv 1)) pe_int))
      (pss_cons (ps_set (i := 3) sc_law_deck.nd rfl (by first | exact Or.inl rfl | exact Or.inr rfl) (pe_op (oAdd (K := K)) pe_int (pv 1)))
      (pss_meet (ps_if (pt_cmpR oLt (pv 1) (pe_callB (call_lenX (K := K)) (by rfl) T.b_len (by decide +kernel) (pa_cons (pv 0) pa_nil)) (nomark _)) (pss_one (ps_set (i := 2) sc_law_deck.nd rfl (by first | exact Or.inl rfl | exact Or.inr rfl) (pe_op oMod (pe_callTy call_intX (by rfl) T.b_int (by decide +kernel) (pa_cons (pe_ix (ixX (K := K)) (pv 0) (pv 1) (fun _ _ => rfl)) pa_nil)) (pe_op (oAdd (K := K)) (pe_op oPow pe_int pe_int) pe_int)))) pss_nil)
      (pss_cons (ps_for PassesOwn.never rfl (pi_any (K := K) (pv 0)) (pg_name (i := 4) sc_law_deck.nd rfl (by first | exact Or.inl rfl | exact Or.inr rfl)) (pss_one (ps_set (i := 3) sc_law_deck.nd rfl (by first | exact Or.inl rfl | exact Or.inr rfl) (pe_op oMod (pe_callTy call_intX (by rfl) T.b_int (by decide +kernel) (pa_cons (pe_op (oAdd (K := K)) (pe_op (oAdd (K := K)) (pe_op (oMul (K := K)) (pv 3) pe_int) (pe_op oMod (pe_callTy call_intX (by rfl) T.b_int (by decide +kernel) (pa_cons (pv 4) pa_nil)) (pe_op (oAdd (K := K)) (pe_op oPow pe_int pe_int) pe_int))) pe_int) pa_nil)) (pe_op (oAdd (K := K)) (pe_op oPow pe_int pe_int) pe_int)))))
      (pss_one (ps_ret (pe_lst (pa_cons (pe_callB (call_maxX rfl) (by rfl) T.b_max (by decide +kernel) (pa_cons pe_int (pa_cons (pe_op oSub (pv 2) (pe_op oPow pe_int pe_int)) pa_nil))) (pa_cons (pe_op (oAdd (K := K)) (pe_op (oMul (K := K)) (pv 3) pe_int) (pe_op oMod (pe_callTy call_intX (by rfl) T.b_int (by decide +kernel) (pa_cons (pv 2) pa_nil)) (pe_op (oAdd (K := K)) (pe_op oPow pe_int pe_int) pe_int))) (pa_cons pe_int pa_nil)))))))))), ?_⟩
  rw [show start ["script", "k", "cell", "mixed", "number"] [v_script, v_k] = [some v_script, some v_k, none, none, none] from rfl]
  try dsimp only [cxOf, Cx.nox, Cx.wish]
  obtain ⟨a, ns, k, rfl, rfl, hS, hl, h0, h1, q⟩ := h
  walk_at "rd"
  refine rd_mulI (IntMulOk.of_left (by decide)) ?_
  walk_at "rd"
  refine rd_meet (fun σ' H' => H = H' ∧ ∃ c : Int, 0 ≤ c ∧ σ' = [some (.ref a), some (.int k), some (.int c), some (.int (7 + k)), none]) ?_ ?_
  · walk_at "rd"
    refine rd_lenL hS ?_
    walk_at "rd"
    refine rd_ite (fun hp => ?_) (fun hp => ?_)
    · have hk : k < ns.length := by simpa using hp
      obtain ⟨z, hz⟩ := atI_int h0 hk
      walk_at "rd"
      refine rd_ixL hS hz ?_
      walk_at "rd"
      refine rd_powI ⟨by decide, by decide⟩ ?_
      walk_at "rd"
      refine rd_modL (by decide) fun c c0 _ => ?_
      walk_at "rd"
      exact ⟨rfl, c, c0, rfl⟩
    · walk_at "rd"
      exact ⟨rfl, 17 * k + 3, by omega, rfl⟩
  rintro _ _ ⟨rfl, c, hc, rfl⟩
  walk_at "rd"
  refine rd_forL ?_
  walk_at "rd"
  refine rd_itL hS (fun _ σ H1 => H = H1 ∧ ∃ (z : Int) (v : Option V), 0 ≤ z ∧ z < 10 ^ 30 ∧ σ = [some (.ref a), some (.int k), some (.int c), some (.int z), v]) ⟨rfl, 7 + k, none, by omega, by omega, rfl⟩ ?_ ?_ ?_
  · rintro i σ H1 _ ⟨rfl, _⟩
    exact hS
  · rintro i x σ H1 hi ⟨rfl, z, v, z0, z1, rfl⟩
    obtain ⟨y, rfl⟩ : ∃ y, x = V.int y := by
      rw [List.getElem?_map] at hi
      cases e : ns[i]? with
      | none => rw [e] at hi; cases hi
      | some y => rw [e] at hi; exact ⟨y, (Option.some.inj hi).symm⟩
    walk_at "rd"
    refine rd_mulI (IntMulOk.of_right (by decide)) ?_
    walk_at "rd"
    refine rd_powI ⟨by decide, by decide⟩ ?_
    walk_at "rd"
    refine rd_modL (by decide) fun u _ _ => ?_
    walk_at "rd"
    refine rd_powI ⟨by decide, by decide⟩ ?_
    walk_at "rd"
    refine rd_modL (by decide) fun t t0 t1 => ?_
    walk_at "rd"
    exact ⟨rfl, t, _, t0, Int.lt_trans t1 (by decide), rfl⟩
  · rintro σ H1 ⟨rfl, z, v, z0, z1, rfl⟩
    walk_at "rd"
    refine rd_powI ⟨by decide, by decide⟩ ?_
    walk_at "rd"
    refine rd_mulI (IntMulOk.of_right (by decide)) ?_
    walk_at "rd"
    refine rd_powI ⟨by decide, by decide⟩ ?_
    walk_at "rd"
    refine rd_modL (by decide) fun t t0 t1 => ?_
    walk_at "rd"
    intro d hd
    walk_at "rd"
    have t2 : t < 10 ^ 22 := Int.lt_trans t1 (by decide)
    refine q d _ hd ⟨_, _, 0, upd_same, by omega, by omega, by omega, by omega, by omega⟩ fun b o e => ?_
    rw [upd_ne (ne_of_none e hd)]
    exact e

/-! ### objects that change: all else stays -/
theorem Kp.ins {a : Addr} {H : Hp} {o : HO} : Kp a H (upd H a o) := fun b u n e => by rw [upd_ne n]; exact e
theorem Kp.tyI {a C dx : Addr} {fs : List (Str × V)} {H H' : Hp} (k : Kp a H H') (h : H a = some (.ins C dx fs)) : Ty H H' :=
  ⟨fun b xs e => k b _ (fun z => by rw [z, h] at e; cases e) e, fun b o xs e => k b _ (fun z => by rw [z, h] at e; cases e) e⟩
theorem Kp.seqI {K : PySem.W.Frag} {a r C dx : Addr} {fs : List (Str × V)} {H H' : Hp} {xs : List V} (k : Kp a H H') (h : H a = some (.ins C dx fs)) (s : SqL K H r xs) : SqL K H' r xs := by
  rcases s with (e | ⟨o, e⟩) | e
  · exact .inl (.inl (k _ _ (fun z => by rw [z, h] at e; cases e) e))
  · exact .inl (.inr ⟨o, k _ _ (fun z => by rw [z, h] at e; cases e) e⟩)
  · exact .inr e
theorem Kp.dkI {a d C dx : Addr} {fs : List (Str × V)} {H H' : Hp} {m : Nat} (k : Kp a H H') (h : H a = some (.ins C dx fs)) (hd : Dk d m H) : Dk d m H' := by
  obtain ⟨x, y, c, e, r⟩ := hd
  exact ⟨x, y, c, k _ _ (fun z => by rw [z, h] at e; cases e) e, r⟩
theorem Kp.tyD {d : Addr} {m : Nat} {H H' : Hp} (k : Kp d H H') (h : Dk d m H) : Ty H H' := by
  obtain ⟨x, y, c, e, _⟩ := h
  exact ⟨fun b xs q => k b _ (fun z => by rw [z, e] at q; cases q) q, fun b o xs q => k b _ (fun z => by rw [z, e] at q; cases q) q⟩
/-- a list or a tuple -/
def LTq (K : PySem.W.Frag) (H : Hp) (r : Addr) (xs : List V) : Prop := SqL K H r xs ∨ SqT K H r xs
theorem LTq.kp {K : PySem.W.Frag} {a r C dx : Addr} {fs : List (Str × V)} {H H' : Hp} {xs : List V} (s : LTq K H r xs) (k : Kp a H H') (h : H a = some (.ins C dx fs)) : LTq K H' r xs := s.elim (fun s => .inl (k.seqI h s)) fun s => .inr (s.up (k.tyI h))
theorem LTq.same {K : PySem.W.Frag} {r : Addr} {H H' : Hp} {xs : List V} (s : LTq K H r xs) (k : Same H H') : LTq K H' r xs := s.elim (fun s => .inl (k.seq s)) fun s => .inr (s.up (Ty.of k))
/-- tuple(x) -/
theorem rd_tupQ {K : PySem.W.Frag} {H : Hp} {Q : VK} {r : Addr} {xs : List V} (s : LTq K H r xs) (q : ∀ l H', Same H H' → SqT K H' l xs → Q (.ref l) H') : xTup K [V.ref r] H Q := by
  rcases s with s | s
  · exact rd_tupL s fun l hl => q l _ ((Same.refl H).new (o := .tup xs) hl) (SqT.of upd_same)
  · exact rd_tupT s (q r H (Same.refl H) s)
theorem rd_eqC {K : PySem.W.Frag} {x y : V} {H : Hp} {Q : VK} (s : scal x y = true) (q : Q (.bl (decide (x = y))) H) : xEq K x y H Q := .inl ⟨s, q⟩
theorem rd_neC {K : PySem.W.Frag} {x y : V} {H : Hp} {Q : VK} (s : scal x y = true) (q : Q (.bl (!decide (x = y))) H) : xNe K x y H Q := .inl ⟨s, q⟩

/-! ### families, plainly -/
/-- how a process stands -/
inductive Sta where
  | alive
  | gone
  | ended (n : Nat)
deriving DecidableEq
abbrev Pro := Option Nat × Sta
/-- a present: the rows, and those that ended -/
abbrev Prs := List Pro × List Nat
def staD : Sta → PyData
  | .alive => .tuple [.str "alive"]
  | .gone => .tuple [.str "gone"]
  | .ended n => .tuple [.str "ended", .int (n : Int)]
def parD : Option Nat → PyData
  | none => .none
  | some p => .int (p : Int)
def proD (r : Pro) : PyData := .tuple [parD r.1, staD r.2]
def endD (k : Nat) : PyData := .int (k : Int)
/-- a number as a value -/
def eV (k : Nat) : V := .int (k : Int)
def prsD (p : Prs) : PyData := .tuple [.tuple (p.1.map proD), .tuple (p.2.map endD)]
def parV : Option Nat → V
  | none => .non
  | some p => .int (p : Int)
theorem ip_par {K : PySem.W.Frag} {H : Hp} {v : V} {o : Option Nat} (h : Ip K H v (parD o)) : v = parV o := by
  cases o with
  | none => exact h.n
  | some p => exact h.i
theorem ip_parV {K : PySem.W.Frag} {H : Hp} {o : Option Nat} : Ip K H (parV o) (parD o) := by
  cases o with
  | none => exact .non
  | some p => exact .int _
theorem ip_end {K : PySem.W.Frag} {H : Hp} {v : V} {k : Nat} (h : Ip K H v (endD k)) : v = .int (k : Int) := h.i
/-- an object of the class Family at a, its present, its past -/
def FamAt (K : PySem.W.Frag) (mg : Str → Option Value) (H : Hp) (a : Addr) (p : Prs) (past : List Prs) : Prop :=
  ∃ (C dx : Addr) (v u : V), mg "Family" = some (.ref C) ∧ H a = some (.ins C dx [("present", v), ("past", u)]) ∧ Ip K H v (prsD p) ∧ Ip K H u (.tuple (past.map prsD))
theorem FamAt.same {K : PySem.W.Frag} {mg : Str → Option Value} {H H' : Hp} {a : Addr} {p : Prs} {past : List Prs} (h : FamAt K mg H a p past) (k : Same H H') : FamAt K mg H' a p past := by
  obtain ⟨C, dx, v, u, h1, h2, h3, h4⟩ := h
  exact ⟨C, dx, v, u, h1, k _ _ h2, h3.up (Ty.of k), h4.up (Ty.of k)⟩
/-- errors of families -/
inductive FEr where
  | process
  | count
  | dead (p : Nat)
  | large
  | empty
def FEr.nm : FEr → Str
  | .process => "InvalidProcess"
  | .count => "InvalidCount"
  | .dead _ => "NotAlive"
  | .large => "TooLarge"
  | .empty => "EmptyHistory"
def FEr.At (H : Hp) (d : Option Addr) : FEr → Prop
  | .dead p => ∃ a, d = some a ∧ H a = some (.xd [("process", .int (p : Nat))])
  | .large => ∃ a, d = some a ∧ H a = some (.xd [("limit", .int 40)])
  | _ => d = none
/-- plain values -/
def Fl (v : V) : Prop := v = .non ∨ (∃ b, v = .bl b) ∨ (∃ i, v = .int i) ∨ ∃ s, v = .str s
def isInt (v : V) (lo hi : Int) : Bool := match v with
  | .int i => decide (lo ≤ i) && decide (i ≤ hi)
  | _ => false
theorem isInt_true {v : V} {lo hi : Int} (h : isInt v lo hi = true) : ∃ i, v = .int i ∧ lo ≤ i ∧ i ≤ hi := by
  cases v with
  | int i =>
    have h : (decide (lo ≤ i) && decide (i ≤ hi)) = true := h
    rw [Bool.and_eq_true, decide_eq_true_eq, decide_eq_true_eq] at h
    exact ⟨i, rfl, h.1, h.2⟩
  | _ => cases h
/-- the process that a value is -/
def prOf (p : Prs) (v : V) : Option Nat := if isInt v 0 ((p.1.length : Int) - 1) = true then (match v with | .int i => some i.toNat | _ => none) else none
theorem prOf_some {p : Prs} {v : V} {r : Nat} (h : prOf p v = some r) : v = .int (r : Int) ∧ r < p.1.length ∧ isInt v 0 ((p.1.length : Int) - 1) = true := by
  unfold prOf at h
  split at h
  · rename_i hi
    obtain ⟨i, rfl, h0, h1⟩ := isInt_true hi
    have h : some i.toNat = some r := h
    obtain rfl := Option.some.inj h
    exact ⟨by rw [Int.toNat_of_nonneg h0], by omega, hi⟩
  · cases h
theorem prOf_none {p : Prs} {v : V} (h : prOf p v = none) : isInt v 0 ((p.1.length : Int) - 1) = false := by
  unfold prOf at h
  split at h
  · rename_i hi
    obtain ⟨i, rfl, h0, h1⟩ := isInt_true hi
    cases h
  · rename_i hi
    exact Bool.eq_false_iff.mpr hi
theorem prOf_nat {p : Prs} {r : Nat} (h : r < p.1.length) : prOf p (.int (r : Int)) = some r := by
  unfold prOf
  rw [if_pos]
  · rfl
  · show (decide (0 ≤ (r : Int)) && decide ((r : Int) ≤ (p.1.length : Int) - 1)) = true
    rw [decide_eq_true (by omega), decide_eq_true (by omega)]
    rfl
/-- a present that can be -/
structure Wp (n : Nat) (p : Prs) : Prop where
  l0 : 1 ≤ p.1.length
  l1 : p.1.length ≤ 41
  le : p.2.length ≤ n
  en : ∀ k ∈ p.2, ∃ par m, p.1[k]? = some (par, .ended m)
  par : ∀ r ∈ p.1, ∀ q, r.1 = some q → q < p.1.length
  num : ∀ r ∈ p.1, ∀ k, r.2 = .ended k → k ≤ 255
  go : ∀ r ∈ p.1, r.2 = .gone → r.1 = none
theorem Wp.mono {n m : Nat} {p : Prs} (h : Wp n p) (l : n ≤ m) : Wp m p := ⟨h.l0, h.l1, Nat.le_trans h.le l, h.en, h.par, h.num, h.go⟩
def staOf (p : Prs) (r : Nat) : Sta := (p.1.getD r (none, .gone)).2
def parOf (p : Prs) (r : Nat) : Option Nat := (p.1.getD r (none, .gone)).1
theorem at_row {p : Prs} {r : Nat} (h : r < p.1.length) : p.1[r]? = some (parOf p r, staOf p r) := by
  rw [List.getElem?_eq_getElem h]
  unfold parOf staOf
  rw [List.getD_eq_getElem?_getD, List.getElem?_eq_getElem h]
  rfl
/-- the presents behind the deeds -/
def forkP (p : Prs) (r : Nat) : Prs := (p.1 ++ [(some r, .alive)], p.2)
def endRow (r : Nat) (x : Pro) : Pro := (if x.1 = some r then some 0 else x.1, x.2)
def endP (p : Prs) (r n : Nat) : Prs := ((p.1.map (endRow r)).set r ((endRow r (p.1.getD r (none, .gone))).1, .ended n), p.2 ++ [r])
def toldP (p : Prs) (c : Nat) : Prs := (p.1.set c (none, .gone), p.2.filter fun k => decide (k ≠ c))
def numOf (s : Sta) : Nat := match s with
  | .ended n => n
  | _ => 0
def toldD (p : Prs) (c : Nat) : PyData := .tuple [.str "told", .int (c : Int), .int (numOf (staOf p c) : Int)]
def kidsOf (p : Prs) (r : Nat) : List Nat := (List.range p.1.length).filter fun k => decide (parOf p k = some r)
def ownOf (p : Prs) (r : Nat) : List Nat := p.2.filter fun k => decide (parOf p k = some r)
/-- outcomes -/
abbrev FOut := FEr ⊕ Option Prs × PyData
def needPr (p : Prs) (v : V) (f : Nat → FOut) : FOut := match prOf p v with
  | none => .inl .process
  | some r => f r
def needAl (p : Prs) (r : Nat) (o : FOut) : FOut := if staOf p r = .alive then o else .inl (.dead r)
def forkR (p : Prs) (v : V) : FOut := needPr p v fun r => needAl p r (if p.1.length > 40 then .inl .large else .inr (some (forkP p r), .int (p.1.length : Int)))
def endR (p : Prs) (v u : V) : FOut := needPr p v fun r => if isInt u 0 255 = true then needAl p r (if r = 0 then .inl (.dead 0) else .inr (some (endP p r (match u with | .int i => i.toNat | _ => 0)), .none)) else .inl .count
def waitsD : PyData := .tuple [.str "waits"]
def noneD : PyData := .tuple [.str "none"]
def waitR (p : Prs) (v : V) : FOut := needPr p v fun r => needAl p r (match ownOf p r with
  | c :: _ => .inr (some (toldP p c), toldD p c)
  | [] => .inr (none, if kidsOf p r = [] then noneD else waitsD))
def waitForR (p : Prs) (v u : V) : FOut := needPr p v fun r => needPr p u fun c => needAl p r (if parOf p c = some r then (if staOf p c = .alive then .inr (none, waitsD) else .inr (some (toldP p c), toldD p c)) else .inr (none, noneD))
theorem ip_ends {K : PySem.W.Frag} {H : Hp} : ∀ {ks : List Nat} {ys : List V}, IpAll K H ys (ks.map endD) → ys = ks.map eV
  | [], _, h => by cases h; rfl
  | k :: ks, _, h => by
    cases h with
    | cons h1 h2 => rw [ip_end h1, ip_ends h2]; rfl
theorem ends_ip {K : PySem.W.Frag} {H : Hp} : ∀ ks : List Nat, IpAll K H (ks.map eV) (ks.map endD)
  | [] => .nil
  | k :: ks => .cons (.int _) (ends_ip ks)
/-- a family, taken apart -/
structure FamOp (K : PySem.W.Frag) (mg : Str → Option Value) (H : Hp) (a : Addr) (p : Prs) (past : List Prs) (C dx t u tr te : Addr) (xs us : List V) : Prop where
  g : mg "Family" = some (.ref C)
  o : H a = some (.ins C dx [("present", .ref t), ("past", .ref u)])
  st : SqT K H t [.ref tr, .ref te]
  sr : SqT K H tr xs
  ir : IpAll K H xs (p.1.map proD)
  se : SqT K H te (p.2.map eV)
  su : SqT K H u us
  iu : IpAll K H us (past.map prsD)
theorem FamAt.op {K : PySem.W.Frag} {mg : Str → Option Value} {H : Hp} {a : Addr} {p : Prs} {past : List Prs} (h : FamAt K mg H a p past) : ∃ C dx t u tr te xs us, FamOp K mg H a p past C dx t u tr te xs us := by
  obtain ⟨C, dx, v, w, h1, h2, h3, h4⟩ := h
  obtain ⟨t, x, y, rfl, st, ix, iy⟩ := h3.t2
  obtain ⟨tr, xs, rfl, sr, ir⟩ := ix.tn
  obtain ⟨te, ys, rfl, se, ie⟩ := iy.tn
  obtain ⟨u, us, rfl, su, iu⟩ := h4.tn
  obtain rfl := ip_ends ie
  exact ⟨C, dx, t, u, tr, te, xs, us, h1, h2, st, sr, ir, se, su, iu⟩
theorem FamOp.at {K : PySem.W.Frag} {mg : Str → Option Value} {H : Hp} {a : Addr} {p : Prs} {past : List Prs} {C dx t u tr te : Addr} {xs us : List V} (h : FamOp K mg H a p past C dx t u tr te xs us) : FamAt K mg H a p past :=
  ⟨C, dx, _, _, h.g, h.o, .mk2 h.st (.tup h.sr h.ir) (.tup h.se (ends_ip _)), .tup h.su h.iu⟩
theorem FamOp.same {K : PySem.W.Frag} {mg : Str → Option Value} {H H' : Hp} {a : Addr} {p : Prs} {past : List Prs} {C dx t u tr te : Addr} {xs us : List V} (h : FamOp K mg H a p past C dx t u tr te xs us) (k : Same H H') : FamOp K mg H' a p past C dx t u tr te xs us :=
  ⟨h.g, k _ _ h.o, h.st.up (Ty.of k), h.sr.up (Ty.of k), h.ir.up (Ty.of k), h.se.up (Ty.of k), h.su.up (Ty.of k), h.iu.up (Ty.of k)⟩
theorem FamOp.len {K : PySem.W.Frag} {mg : Str → Option Value} {H : Hp} {a : Addr} {p : Prs} {past : List Prs} {C dx t u tr te : Addr} {xs us : List V} (h : FamOp K mg H a p past C dx t u tr te xs us) : xs.length = p.1.length := by rw [h.ir.length, List.length_map]
/-- a row, taken apart -/
theorem FamOp.row {K : PySem.W.Frag} {mg : Str → Option Value} {H : Hp} {a : Addr} {p : Prs} {past : List Prs} {C dx t u tr te : Addr} {xs us : List V} (h : FamOp K mg H a p past C dx t u tr te xs us) {r : Nat} (hr : r < p.1.length) :
    ∃ b sv, xs[r]? = some (.ref b) ∧ SqT K H b [parV (parOf p r), sv] ∧ Ip K H sv (staD (staOf p r)) := by
  obtain ⟨v, hv, iv⟩ := h.ir.get (i := r) (d := proD (parOf p r, staOf p r)) (by rw [List.getElem?_map, at_row hr]; rfl)
  obtain ⟨b, x, y, rfl, sb, ix, iy⟩ := iv.t2
  obtain rfl := ip_par ix
  exact ⟨b, y, hv, sb, iy⟩
theorem sta_eqv (s : Sta) : PyData.eqv (staD s) (.tuple [.str "alive"]) = decide (s = .alive) := by
  rw [Bool.eq_iff_iff, eqv_iff _ _ (by cases s <;> rfl) rfl, decide_eq_true_eq]
  cases s with
  | alive => exact ⟨fun _ => rfl, fun _ => rfl⟩
  | gone => exact ⟨(fun h => absurd (PyData.str.inj (List.cons.inj (PyData.tuple.inj h)).1) (by decide +kernel)), fun h => nomatch h⟩
  | ended n => exact ⟨(fun h => nomatch (List.cons.inj (PyData.tuple.inj h)).2), fun h => nomatch h⟩
theorem sta_shaped (s : Sta) : SeqAt.shaped (staD s) = true := by
  cases s with
  | alive => decide +kernel
  | gone => decide +kernel
  | ended n =>
    show (PyData.canLay0 (.tuple [.str "ended", .int (n : Int)]) && decide (PyData.depth (.tuple [.str "ended", .int (n : Int)]) ≤ 64)) = true
    rw [Bool.and_eq_true]
    exact ⟨by rw [show PyData.canLay0 (.tuple [.str "ended", .int (n : Int)]) = PyData.canLay0 (.tuple [.str "ended", .int 0]) from rfl]; decide +kernel, decide_eq_true (show Nat.succ (max 0 (max 0 0)) ≤ 64 by decide)⟩
theorem par_scal (o : Option Nat) (r : Nat) : scal (parV o) (.int (r : Int)) = true := by cases o <;> rfl
theorem par_dec (o : Option Nat) (r : Nat) : decide (parV o = .int (r : Int)) = decide (o = some r) := by
  refine decide_eq_decide.mpr ?_
  cases o with
  | none => exact ⟨(fun h => nomatch h), (fun h => nomatch h)⟩
  | some p =>
    constructor
    · intro h
      have h : (V.int (p : Int)) = .int (r : Int) := h
      have := V.int.inj h
      rw [show p = r by omega]
    · intro h
      cases h
      rfl
theorem ev_get {ks : List Nat} {i : Nat} {x : V} (h : (ks.map eV)[i]? = some x) : ∃ k, ks[i]? = some k ∧ x = .int (k : Int) := by
  rw [List.getElem?_map] at h
  obtain ⟨k, h1, h2⟩ := Option.map_eq_some_iff.mp h
  exact ⟨k, h1, h2.symm⟩
theorem needPr_some {p : Prs} {v : V} {r : Nat} {f : Nat → FOut} (h : prOf p v = some r) : needPr p v f = f r := by
  unfold needPr
  rw [h]
theorem needPr_none {p : Prs} {v : V} {f : Nat → FOut} (h : prOf p v = none) : needPr p v f = .inl .process := by
  unfold needPr
  rw [h]
theorem needAl_yes {p : Prs} {r : Nat} {o : FOut} (h : staOf p r = .alive) : needAl p r o = o := if_pos h
theorem needAl_no {p : Prs} {r : Nat} {o : FOut} (h : ¬ staOf p r = .alive) : needAl p r o = .inl (.dead r) := if_neg h
theorem numOf_eq {s : Sta} {m : Nat} (h : s = .ended m) : numOf s = m := by rw [h]; rfl
theorem ended_at {n : Nat} {p : Prs} (w : Wp n p) {k : Nat} (h : k ∈ p.2) : k < p.1.length ∧ ∃ m, staOf p k = .ended m := by
  obtain ⟨par, m, e⟩ := w.en k h
  have hl := (List.getElem?_eq_some_iff.mp e).1
  refine ⟨hl, m, ?_⟩
  have := at_row hl
  rw [e] at this
  exact (Prod.mk.inj (Option.some.inj this)).2.symm
theorem getD_row {p : Prs} {r : Nat} (h : r < p.1.length) : p.1.getD r (none, .gone) = (parOf p r, staOf p r) := rfl
theorem ixN_lt {n r : Nat} (h : r < n) : ixN n (r : Int) = some r := ixN_nat h
theorem IpAll.setR {K : PySem.W.Frag} {H : Hp} {ys : List V} {rows : List Pro} {v : V} {x : Pro} {r : Nat} (h : IpAll K H ys (rows.map proD)) (k : Ip K H v (proD x)) : IpAll K H (ys.set r v) ((rows.set r x).map proD) := by
  rw [List.map_set]
  exact h.set r k
theorem filt_ev (ks : List Nat) (q : Nat → Bool) {K : PySem.W.Frag} {H : Hp} {ys : List V} (h : IpAll K H ys ((ks.filter q).map endD)) : ys = (ks.filter q).map eV := ip_ends h
/-- x == r, x a value for a number -/
theorem ev_dec (k r : Nat) : decide ((k : Int) = (r : Int)) = decide (k = r) := decide_eq_decide.mpr (by omega)
theorem kids_len (p : Prs) (r : Nat) : (kidsOf p r).length ≤ p.1.length := by
  unfold kidsOf
  have := List.length_filter_le (fun k => decide (parOf p k = some r)) (List.range p.1.length)
  rwa [List.length_range] at this
theorem kids_zip (p : Prs) (r : Nat) : ((p.1.zipIdx.filter fun q => decide (q.1.1 = some r)).map fun q => endD q.2) = (kidsOf p r).map endD := by
  have e : p.1.zipIdx = (List.range p.1.length).map fun k => (p.1.getD k (none, .gone), k) := by
    refine List.ext_getElem? fun i => ?_
    rw [List.getElem?_zipIdx, List.getElem?_map]
    by_cases h : i < p.1.length
    · rw [List.getElem?_range h, at_row h]
      simp [parOf, staOf]
    · rw [List.getElem?_eq_none (by omega), List.getElem?_eq_none (by rw [List.length_range]; omega)]
      rfl
  rw [e, List.filter_map, List.map_map]
  rfl

def Φ_is_integer (K : PySem.W.Frag) (v l m : V) (H : Hp) (Q : VK) : Prop := ∃ lo hi : Int, Fl v ∧ l = .int lo ∧ m = .int hi ∧ Q (.bl (isInt v lo hi)) H
theorem ok_is_integer (T : Txt P K mg) {f : Addr} {fd : FuncData} (F : Fun K "is_integer" "is_integer" s_is_integer f fd) : Keeps P w K mg base CX0 1 f fd ["value", "least", "most"] (sp3 (Φ_is_integer K)) := by
  refine keeps0_of F sc_is_integer (fun vs H Q E h => ?_) (fun cdv A outer s H vs Q E hr h => ?_)
  · obtain ⟨_, _, _, rfl, _⟩ := h
    rfl
  obtain ⟨v_value, v_least, v_most, rfl, h⟩ := h
  have hu := hr.hu
  refine ⟨_, (pss_cons (ps_if (PW.pt (pw_or (pt_not (pt_val (pe_callB (isiX (K := K)) (by rfl) T.b_isinstance (by decide +kernel) (pa_cons (pv 0) (pa_cons (pe_bltn (v := .ty "int") (by rfl) T.b_int (by decide +kernel) rfl) pa_nil))))) (pw_or1 (pt_val (pe_callB (isiX (K := K)) (by rfl) T.b_isinstance (by decide +kernel) (pa_cons (pv 0) (pa_cons (pe_bltn (v := .ty "bool") (by rfl) T.b_bool (by decide +kernel) rfl) pa_nil))))))) (pss_one (ps_ret pe_bl)) pss_nil)
      (pss_one (ps_ret (pe_and (pe_or (pe_cmpR oIs (pv 1) pe_non (nomark _)) (pe_one (pe_cmpR oLe (pv 1) (pv 0) (nomark _)))) (pe_one (pe_or (pe_cmpR oIs (pv 2) pe_non (nomark _)) (pe_one (pe_cmpR oLe (pv 0) (pv 2) (nomark _))))))))), ?_⟩
  rw [show start ["value", "least", "most"] [v_value, v_least, v_most] = [some v_value, some v_least, some v_most] from rfl]
  try dsimp only [cxOf, Cx.nox, Cx.wish]
  obtain ⟨lo, hi, hf, rfl, rfl, q⟩ := h
  walk_at "rd"
  rcases hf with rfl | ⟨b, rfl⟩ | ⟨i, rfl⟩ | ⟨s, rfl⟩
  · walk_at "rd"
    exact q
  · walk_at "rd"
    exact q
  · walk_at "rd"
    refine rd_noI rfl ?_
    walk_at "rd"
    refine rd_ite (fun h1 => ?_) (fun h1 => ?_)
    · walk_at "rd"
      refine rd_noI rfl ?_
      walk_at "rd"
      have e : isInt (.int i) lo hi = decide (i ≤ hi) := by
        show (decide (lo ≤ i) && _) = _
        rw [h1]
        rfl
      rw [← e]
      exact q
    · have e : isInt (.int i) lo hi = false := by
        show (decide (lo ≤ i) && _) = _
        rw [h1]
        rfl
      rw [← e]
      exact q
  · walk_at "rd"
    exact q
/-- what a method asks and tells -/
def fQ (K : PySem.W.Frag) (mg : Str → Option Value) (a : Addr) (p : Prs) (past : List Prs) (R : FOut) (H : Hp) (Q : VK) (E : XK) : Prop :=
  (∀ d, R = .inr (none, d) → ∀ v H', Same H H' → Ip K H' v d → Q v H') ∧
  (∀ p' d, R = .inr (some p', d) → ∀ v H', Kp a H H' → FamAt K mg H' a p' (past ++ [p]) → Ip K H' v d → Q v H') ∧
  ∀ e, R = .inl e → ∀ C dd H', Same H H' → mg e.nm = some (.ref C) → e.At H' dd → E (.ref C) dd H'
def Φ_Family_check (K : PySem.W.Frag) (mg : Str → Option Value) (vs vp : V) (H : Hp) (Q : VK) (E : XK) : Prop := ∃ (a : Addr) (p : Prs) (past : List Prs), vs = .ref a ∧ FamAt K mg H a p past ∧ Fl vp ∧ p.1.length ≤ 41 ∧
  ((∃ r, prOf p vp = some r) → ∀ H', Same H H' → Q .non H') ∧ (prOf p vp = none → ∀ C H', Same H H' → mg "InvalidProcess" = some (.ref C) → E (.ref C) none H')
theorem ok_Family_check (T : Txt P K mg) {f : Addr} {fd : FuncData} (F : Fun K "check" "Family.check" s_Family_check f fd) : Keeps P w K mg base (L2N.CX P w) 2 f fd ["self", "process"] (sp2x (Φ_Family_check K mg)) := by
  obtain ⟨C_InvalidProcess, e_InvalidProcess⟩ := T.e_InvalidProcess
  obtain ⟨C_Family, k_Family⟩ := T.k_Family
  have n_Family_present := T.n_Family_present C_Family k_Family.g
  have n_Family_past := T.n_Family_past C_Family k_Family.g
  have c_is_integer := cal (P := P) (w := w) (base := base) T.d_is_integer fun F => ok_is_integer T F
  refine keeps_of F sc_Family_check (fun vs H Q E h => ?_) (fun cdv A outer s H vs Q E hr h => ?_)
  · obtain ⟨_, _, rfl, _⟩ := h
    rfl
  obtain ⟨v_self, v_process, rfl, h⟩ := h
  have hu := hr.hu
  refine ⟨_, (pss_one (ps_if (pt_not (pt_val (pe_cal c_is_integer (hr.mono (by decide)) (by rfl) pass0 (pa_cons (pv 1) (pa_cons pe_int (pa_cons (pe_op oSub (pe_callB (call_lenX (K := K)) (by rfl) T.b_len (by decide +kernel) (pa_cons (pe_ix (ixX (K := K)) (pe_fldK (K := K) (pv 0)) pe_int (fun _ _ => rfl)) pa_nil)) pe_int) pa_nil)))))) (pss_one (ps_raiseX rfl (takes_of rfl rfl rfl rfl) e_InvalidProcess (by rfl))) pss_nil)), ?_⟩
  rw [show start ["self", "process"] [v_self, v_process] = [some v_self, some v_process] from rfl]
  try dsimp only [cxOf, Cx.nox, Cx.wish]
  obtain ⟨a, p, past, rfl, fa, hf, hl, q1, q2⟩ := h
  obtain ⟨C, dx, t, u, tr, te, xs, us, o⟩ := fa.op
  have hlen := o.len
  cases k_Family.one o.g
  walk_at "rd"
  refine ⟨_, _, _, _, _, rfl, o.o, k_Family.c, n_Family_present, (by walk_at "lk"), ?_⟩
  walk_at "rd"
  refine rd_ixT o.st rfl ?_
  walk_at "rd"
  refine rd_lenT o.sr ?_
  walk_at "rd"
  refine ⟨_, _, hf, rfl, rfl, ?_⟩
  rw [hlen]
  cases e : prOf p v_process with
  | some r =>
    obtain ⟨rfl, hr, hi⟩ := prOf_some e
    rw [hi]
    walk_at "rd"
    exact q1 ⟨r, e⟩ H (Same.refl H)
  | none =>
    rw [prOf_none e]
    walk_at "rd"
    exact q2 e _ H (Same.refl H) e_InvalidProcess.g
def Φ_Family_check_alive (K : PySem.W.Frag) (mg : Str → Option Value) (vs vp : V) (H : Hp) (Q : VK) (E : XK) : Prop := ∃ (a : Addr) (p : Prs) (past : List Prs) (r : Nat), vs = .ref a ∧ FamAt K mg H a p past ∧ vp = .int (r : Int) ∧ r < p.1.length ∧
  (staOf p r = .alive → ∀ H', Same H H' → Q .non H') ∧ (staOf p r ≠ .alive → ∀ C d H', Same H H' → mg "NotAlive" = some (.ref C) → H' d = some (.xd [("process", .int (r : Int))]) → E (.ref C) (some d) H')
theorem ok_Family_check_alive (T : Txt P K mg) {f : Addr} {fd : FuncData} (F : Fun K "check_alive" "Family.check_alive" s_Family_check_alive f fd) : Keeps P w K mg base (L2N.CX P w) 2 f fd ["self", "process"] (sp2x (Φ_Family_check_alive K mg)) := by
  obtain ⟨C_NotAlive, F_NotAlive, e_NotAlive⟩ := T.e_NotAlive
  obtain ⟨C_Family, k_Family⟩ := T.k_Family
  have n_Family_present := T.n_Family_present C_Family k_Family.g
  have n_Family_past := T.n_Family_past C_Family k_Family.g
  obtain ⟨A_ALIVE, t_ALIVE⟩ := T.c_ALIVE
  refine keeps_of F sc_Family_check_alive (fun vs H Q E h => ?_) (fun cdv A outer s H vs Q E hr h => ?_)
  · obtain ⟨_, _, rfl, _⟩ := h
    rfl
  obtain ⟨v_self, v_process, rfl, h⟩ := h
  have hu := hr.hu
  refine ⟨_, (pss_one (ps_if (pt_cmpR (oNe (K := K) hr.u65) (pe_ix (ixX (K := K)) (pe_ix (ixX (K := K)) (pe_ix (ixX (K := K)) (pe_fldK (K := K) (pv 0)) pe_int (fun _ _ => rfl)) (pv 1) (fun _ _ => rfl)) pe_int (fun _ _ => rfl)) (pe_gk (by rfl) t_ALIVE.2) (nomark _)) (pss_one (ps_raiseS rfl e_NotAlive hr (by decide) (takes_of rfl rfl rfl rfl) (pa_cons (pv 1) pa_nil) (by rfl))) pss_nil)), ?_⟩
  rw [show start ["self", "process"] [v_self, v_process] = [some v_self, some v_process] from rfl]
  try dsimp only [cxOf, Cx.nox, Cx.wish]
  obtain ⟨a, p, past, r, rfl, fa, rfl, hr, q1, q2⟩ := h
  obtain ⟨C, dx, t, u, tr, te, xs, us, o⟩ := fa.op
  obtain ⟨b, sv, hb, sb, is⟩ := o.row hr
  cases k_Family.one o.g
  walk_at "rd"
  refine ⟨_, _, _, _, _, rfl, o.o, k_Family.c, n_Family_present, (by walk_at "lk"), ?_⟩
  walk_at "rd"
  refine rd_ixT o.st rfl ?_
  walk_at "rd"
  refine rd_ixT o.sr (atI_nat hb) ?_
  walk_at "rd"
  refine rd_ixT sb rfl ?_
  walk_at "rd"
  refine rd_neD is.to (.tup t_ALIVE.1.sq (.cons (.str _) .nil)) (sta_shaped _) (by decide +kernel) ?_
  rw [sta_eqv]
  by_cases e : staOf p r = .alive
  · rw [decide_eq_true e]
    walk_at "rd"
    exact q1 e H (Same.refl H)
  · rw [decide_eq_false e]
    walk_at "rd"
    intro d hd
    exact q2 e _ d _ ((Same.refl H).new (o := .xd [("process", .int (r : Int))]) hd) e_NotAlive.gC upd_same
/-- what most methods ask -/
def fPre (K : PySem.W.Frag) (mg : Str → Option Value) (vs : V) (a : Addr) (p : Prs) (past : List Prs) (n : Nat) (H : Hp) : Prop := vs = .ref a ∧ FamAt K mg H a p past ∧ Wp n p ∧ n ≤ 500 ∧ past.length ≤ 500
def Φ_Family_go_to (K : PySem.W.Frag) (mg : Str → Option Value) (vs vr ve : V) (H : Hp) (Q : VK) (E : XK) : Prop := ∃ (a : Addr) (p p' : Prs) (past : List Prs) (ra ea : Addr) (xs : List V), vs = .ref a ∧ FamAt K mg H a p past ∧ past.length ≤ 500 ∧ vr = .ref ra ∧ LTq K H ra xs ∧ IpAll K H xs (p'.1.map proD) ∧
  ve = .ref ea ∧ LTq K H ea (p'.2.map eV) ∧ ∀ H', Kp a H H' → FamAt K mg H' a p' (past ++ [p]) → Q .non H'
theorem ok_Family_go_to (T : Txt P K mg) {f : Addr} {fd : FuncData} (F : Fun K "go_to" "Family.go_to" s_Family_go_to f fd) : Keeps P w K mg base (L2N.CX P w) 1 f fd ["self", "rows", "ended"] (sp3x (Φ_Family_go_to K mg)) := by
  obtain ⟨C_Family, k_Family⟩ := T.k_Family
  have n_Family_present := T.n_Family_present C_Family k_Family.g
  have n_Family_past := T.n_Family_past C_Family k_Family.g
  refine keeps_of F sc_Family_go_to (fun vs H Q E h => ?_) (fun cdv A outer s H vs Q E hr h => ?_)
  · obtain ⟨_, _, _, rfl, _⟩ := h
    rfl
  obtain ⟨v_self, v_rows, v_ended, rfl, h⟩ := h
  have hu := hr.hu
  refine ⟨_, (pss_cons (ps_fld (pv 0) (pe_tup (pa_starX (K := K) (pe_fldK (K := K) (pv 0)) (pa_cons (pe_fldK (K := K) (pv 0)) pa_nil))) rfl)
      (pss_one (ps_fld (pv 0) (pe_tup (pa_cons (pe_callTy (callTupX (K := K)) (by rfl) T.b_tuple (by decide +kernel) (pa_cons (pv 1) pa_nil)) (pa_cons (pe_callTy (callTupX (K := K)) (by rfl) T.b_tuple (by decide +kernel) (pa_cons (pv 2) pa_nil)) pa_nil))) rfl))), ?_⟩
  rw [show start ["self", "rows", "ended"] [v_self, v_rows, v_ended] = [some v_self, some v_rows, some v_ended] from rfl]
  try dsimp only [cxOf, Cx.nox, Cx.wish]
  obtain ⟨a, p, p', past, ra, ea, xs, rfl, fa, hl, rfl, sr, ir, rfl, se, q⟩ := h
  obtain ⟨C, dx, t, u, tr, te, ys, us, o⟩ := fa.op
  cases k_Family.one o.g
  walk_at "rd"
  refine ⟨_, _, _, _, _, rfl, o.o, k_Family.c, n_Family_past, (by walk_at "lk"), ?_⟩
  refine rd_starT o.su ?_
  walk_at "rd"
  refine ⟨_, _, _, _, _, rfl, o.o, k_Family.c, n_Family_present, (by walk_at "lk"), ?_⟩
  walk_at "rd"
  have lu : us.length = past.length := by rw [o.iu.length, List.length_map]
  refine ⟨szOk (by rw [List.length_append]; show _ + 1 ≤ _; omega), fun l hl => ?_⟩
  have k1 := (Same.refl H).new (o := .tup (us ++ [V.ref t])) hl
  have o1 := o.same k1
  have sl : SqT K (upd H l (.tup (us ++ [V.ref t]))) l (us ++ [V.ref t]) := SqT.of upd_same
  have sr1 := sr.same k1
  have se1 := se.same k1
  have ir1 := ir.up (Ty.of k1)
  generalize upd H l (.tup (us ++ [V.ref t])) = H1 at k1 o1 sl sr1 se1 ir1 ⊢
  walk_at "rd"
  refine rd_sfld2 (fs' := [("present", .ref t), ("past", .ref l)]) o1.o k_Family.c n_Family_past (by show 2 < 1000; decide) (by walk_at "lk") ?_
  have k2 : Kp a H1 _ := Kp.ins (o := .ins C_Family dx [("present", .ref t), ("past", .ref l)])
  have t2 := k2.tyI o1.o
  have o2 : upd H1 a (.ins C_Family dx [("present", .ref t), ("past", .ref l)]) a = some (.ins C_Family dx [("present", .ref t), ("past", .ref l)]) := upd_same
  have sr2 := sr1.kp k2 o1.o
  have se2 := se1.kp k2 o1.o
  generalize upd H1 a (.ins C_Family dx [("present", .ref t), ("past", .ref l)]) = H2 at k2 t2 o2 sr2 se2 ⊢
  walk_at "rd"
  refine rd_tupQ sr2 fun lr H3 k3 s3 => ?_
  walk_at "rd"
  refine rd_tupQ (se2.same k3) fun le H4 k4 s4 => ?_
  walk_at "rd"
  intro lt hlt
  have k5 := (Same.refl H4).new (o := .tup [.ref lr, .ref le]) hlt
  have sp : SqT K (upd H4 lt (.tup [.ref lr, .ref le])) lt [.ref lr, .ref le] := SqT.of upd_same
  generalize upd H4 lt (.tup [.ref lr, .ref le]) = H5 at k5 sp ⊢
  have k25 : Same H2 H5 := (k3.trans k4).trans k5
  have o5 := k25 _ _ o2
  walk_at "rd"
  refine rd_sfld2 (fs' := [("present", .ref lt), ("past", .ref l)]) o5 k_Family.c n_Family_present (by show 2 < 1000; decide) (by walk_at "lk") ?_
  have k6 : Kp a H5 _ := Kp.ins (o := .ins C_Family dx [("present", .ref lt), ("past", .ref l)])
  have t6 := k6.tyI o5
  have t26 := (Ty.of k25).trans t6
  have t16 := t2.trans t26
  walk_at "rd"
  refine q _ ?_ ⟨C_Family, dx, .ref lt, .ref l, o.g, upd_same, .mk2 (sp.up t6) (.tup (s3.up (((Ty.of k4).trans (Ty.of k5)).trans t6)) (ir1.up t16)) (.tup (s4.up ((Ty.of k5).trans t6)) (ends_ip _)), ?_⟩
  · exact (((Kp.of k1).trans k2).trans (Kp.of k25)).trans k6
  · rw [List.map_append]
    exact .tup (sl.up t16) (((o1.iu.up t16)).append (.cons (.mk2 (o1.st.up t16) (.tup (o1.sr.up t16) (o1.ir.up t16)) (.tup (o1.se.up t16) (ends_ip _))) .nil))
def fM1 (R : Prs → V → FOut) (K : PySem.W.Frag) (mg : Str → Option Value) (vs vp : V) (H : Hp) (Q : VK) (E : XK) : Prop := ∃ (a : Addr) (p : Prs) (past : List Prs) (n : Nat), fPre K mg vs a p past n H ∧ Fl vp ∧ fQ K mg a p past (R p vp) H Q E
def fM2 (R : Prs → V → V → FOut) (K : PySem.W.Frag) (mg : Str → Option Value) (vs vp vu : V) (H : Hp) (Q : VK) (E : XK) : Prop := ∃ (a : Addr) (p : Prs) (past : List Prs) (n : Nat), fPre K mg vs a p past n H ∧ Fl vp ∧ Fl vu ∧ fQ K mg a p past (R p vp vu) H Q E
def Φ_Family_fork := fM1 forkR
theorem ok_Family_fork (T : Txt P K mg) {f : Addr} {fd : FuncData} (F : Fun K "fork" "Family.fork" s_Family_fork f fd) : Keeps P w K mg base (L2N.CX P w) 3 f fd ["self", "process"] (sp2x (Φ_Family_fork K mg)) := by
  obtain ⟨C_TooLarge, F_TooLarge, e_TooLarge⟩ := T.e_TooLarge
  obtain ⟨C_Family, k_Family⟩ := T.k_Family
  have n_Family_present := T.n_Family_present C_Family k_Family.g
  have n_Family_past := T.n_Family_past C_Family k_Family.g
  obtain ⟨A_ALIVE, t_ALIVE⟩ := T.c_ALIVE
  have c_Family_check := met (P := P) (w := w) (base := base) (T.d_Family_check C_Family k_Family.g) fun F => ok_Family_check T F
  have c_Family_check_alive := met (P := P) (w := w) (base := base) (T.d_Family_check_alive C_Family k_Family.g) fun F => ok_Family_check_alive T F
  have c_Family_go_to := met (P := P) (w := w) (base := base) (T.d_Family_go_to C_Family k_Family.g) fun F => ok_Family_go_to T F
  refine keeps_of F sc_Family_fork (fun vs H Q E h => ?_) (fun cdv A outer s H vs Q E hr h => ?_)
  · obtain ⟨_, _, rfl, _⟩ := h
    rfl
  obtain ⟨v_self, v_process, rfl, h⟩ := h
  have hu := hr.hu
  refine ⟨_, (pss_cons (ps_expr (pe_metS (pv 0) k_Family.c c_Family_check (hr.mono (by decide)) (fun σ => passAt (takes_of rfl rfl rfl rfl) σ) (pa_cons (pv 1) pa_nil)))
      (pss_cons (ps_expr (pe_metS (pv 0) k_Family.c c_Family_check_alive (hr.mono (by decide)) (fun σ => passAt (takes_of rfl rfl rfl rfl) σ) (pa_cons (pv 1) pa_nil)))
      (pss_cons (ps_asg (pe_fldK (K := K) (pv 0)) (pg_seqX (K := K) (n := 2) rfl (pgs_cons (pg_name (i := 2) sc_Family_fork.nd rfl (by first | exact Or.inl rfl | exact Or.inr rfl)) (pgs_cons (pg_name (i := 3) sc_Family_fork.nd rfl (by first | exact Or.inl rfl | exact Or.inr rfl)) pgs_nil))))
      (pss_cons (ps_if (pt_cmpR oGt (pe_callB (call_lenX (K := K)) (by rfl) T.b_len (by decide +kernel) (pa_cons (pv 2) pa_nil)) (pe_gk (by rfl) T.c_MOST_PROCESS) (nomark _)) (pss_one (ps_raiseS rfl e_TooLarge hr (by decide) (takes_of rfl rfl rfl rfl) (pa_cons (pe_gk (by rfl) T.c_MOST_PROCESS) pa_nil) (by rfl))) pss_nil)
      (pss_cons (ps_expr (pe_metS (pv 0) k_Family.c c_Family_go_to (hr.mono (by decide)) (fun σ => passAt (takes_of rfl rfl rfl rfl) σ) (pa_cons (pe_tup (pa_starX (K := K) (pv 2) (pa_cons (pe_tup (pa_cons (pv 1) (pa_cons (pe_gk (by rfl) t_ALIVE.2) pa_nil))) pa_nil))) (pa_cons (pv 3) pa_nil))))
      (pss_one (ps_ret (pe_callB (call_lenX (K := K)) (by rfl) T.b_len (by decide +kernel) (pa_cons (pv 2) pa_nil))))))))), ?_⟩
  rw [show start ["self", "process", "rows", "ended"] [v_self, v_process] = [some v_self, some v_process, none, none] from rfl]
  try dsimp only [cxOf, Cx.nox, Cx.wish]
  obtain ⟨a, p, past, n, ⟨rfl, fa, wp, hn, hp⟩, hf, q1, q2, q3⟩ := h
  have l1 := wp.l1
  obtain ⟨C, dx, t, u, tr, te, xs, us, o⟩ := fa.op
  cases k_Family.one o.g
  walk_at "rd"
  refine ⟨_, _, _, rfl, o.o, (by walk_at "lk"), ?_⟩
  walk_at "rd"
  refine ⟨a, p, past, rfl, fa, hf, wp.l1, fun hr H1 k1 => ?_, fun e C H1 k1 g => q3 .process (needPr_none e) C none H1 k1 g rfl⟩
  obtain ⟨r, e⟩ := hr
  obtain ⟨rfl, hr, _⟩ := prOf_some e
  have o1 := o.same k1
  walk_at "rd"
  refine ⟨_, _, _, rfl, o1.o, (by walk_at "lk"), ?_⟩
  walk_at "rd"
  refine ⟨a, p, past, r, rfl, o1.at, rfl, hr, fun ha H2 k2 => ?_, fun hd C d H2 k2 g x => q3 (.dead r) ((needPr_some e).trans (needAl_no hd)) C _ H2 (k1.trans k2) g ⟨d, rfl, x⟩⟩
  have o2 := o1.same k2
  have lx := o2.len
  walk_at "rd"
  refine ⟨_, _, _, _, _, rfl, o2.o, k_Family.c, n_Family_present, (by walk_at "lk"), ?_⟩
  refine rd_gtup o2.st rfl ?_
  walk_at "rd"
  refine rd_lenT o2.sr ?_
  walk_at "rd"
  rw [lx]
  refine rd_ite (fun h => ?_) (fun h => ?_)
  · have h := of_decide_eq_true h
    walk_at "rd"
    intro d hd
    refine q3 .large ?_ _ _ _ ((k1.trans k2).new (o := .xd [("limit", .int 40)]) hd) e_TooLarge.gC ⟨d, rfl, upd_same⟩
    exact (needPr_some e).trans ((needAl_yes ha).trans (if_pos (by omega)))
  · have h := of_decide_eq_false h
    have eR : forkR p (.int (r : Int)) = .inr (some (forkP p r), .int (p.1.length : Int)) := (needPr_some e).trans ((needAl_yes ha).trans (if_neg (by omega)))
    walk_at "rd"
    refine ⟨_, _, _, rfl, o2.o, (by walk_at "lk"), ?_⟩
    walk_at "rd"
    refine rd_starT o2.sr ?_
    walk_at "rd"
    intro l1' hl1
    have k3 := (Same.refl H2).new (o := .tup [.int (r : Int), .ref A_ALIVE]) hl1
    have s3 : SqT K (upd H2 l1' (.tup [.int (r : Int), .ref A_ALIVE])) l1' [.int (r : Int), .ref A_ALIVE] := SqT.of upd_same
    generalize upd H2 l1' (.tup [.int (r : Int), .ref A_ALIVE]) = H3 at k3 s3 ⊢
    walk_at "rd"
    refine ⟨szOk (by rw [List.length_append]; show _ + 1 ≤ _; omega), fun l2 hl2 => ?_⟩
    have k4 := (Same.refl H3).new (o := .tup (xs ++ [V.ref l1'])) hl2
    have s4 : SqT K (upd H3 l2 (.tup (xs ++ [V.ref l1']))) l2 (xs ++ [V.ref l1']) := SqT.of upd_same
    generalize upd H3 l2 (.tup (xs ++ [V.ref l1'])) = H4 at k4 s4 ⊢
    have k24 := k3.trans k4
    have o4 := o2.same k24
    walk_at "rd"
    refine ⟨a, p, forkP p r, past, l2, te, xs ++ [V.ref l1'], rfl, o4.at, hp, rfl, .inr s4, ?_, rfl, .inr o4.se, fun H5 k5 f5 => ?_⟩
    · show IpAll K H4 _ ((p.1 ++ [(some r, Sta.alive)]).map proD)
      rw [List.map_append]
      exact o4.ir.append (.cons (.mk2 (s3.up (Ty.of k4)) (.int _) (.tup t_ALIVE.1.sq (.cons (.str _) .nil))) .nil)
    · walk_at "rd"
      refine rd_lenT (o4.sr.up (k5.tyI o4.o)) ?_
      rw [lx]
      exact q2 _ _ eR _ H5 ((Kp.of ((k1.trans k2).trans k24)).trans k5) f5 (.int _)
def Φ_Family_end := fM2 endR
theorem ok_Family_end (T : Txt P K mg) {f : Addr} {fd : FuncData} (F : Fun K "end" "Family.end" s_Family_end f fd) : Keeps P w K mg base (L2N.CX P w) 3 f fd ["self", "process", "number"] (sp3x (Φ_Family_end K mg)) := by
  obtain ⟨C_InvalidCount, e_InvalidCount⟩ := T.e_InvalidCount
  obtain ⟨C_NotAlive, F_NotAlive, e_NotAlive⟩ := T.e_NotAlive
  obtain ⟨C_Family, k_Family⟩ := T.k_Family
  have n_Family_present := T.n_Family_present C_Family k_Family.g
  have n_Family_past := T.n_Family_past C_Family k_Family.g
  have c_Family_check := met (P := P) (w := w) (base := base) (T.d_Family_check C_Family k_Family.g) fun F => ok_Family_check T F
  have c_Family_check_alive := met (P := P) (w := w) (base := base) (T.d_Family_check_alive C_Family k_Family.g) fun F => ok_Family_check_alive T F
  have c_Family_go_to := met (P := P) (w := w) (base := base) (T.d_Family_go_to C_Family k_Family.g) fun F => ok_Family_go_to T F
  have c_is_integer := cal (P := P) (w := w) (base := base) T.d_is_integer fun F => ok_is_integer T F
  refine keeps_of F sc_Family_end (fun vs H Q E h => ?_) (fun cdv A outer s H vs Q E hr h => ?_)
  · obtain ⟨_, _, _, rfl, _⟩ := h
    rfl
  obtain ⟨v_self, v_process, v_number, rfl, h⟩ := h
  have hu := hr.hu
  refine ⟨_, (pss_cons (ps_expr (pe_metS (pv 0) k_Family.c c_Family_check (hr.mono (by decide)) (fun σ => passAt (takes_of rfl rfl rfl rfl) σ) (pa_cons (pv 1) pa_nil)))
      (pss_cons (ps_if (pt_not (pt_val (pe_cal c_is_integer (hr.mono (by decide)) (by rfl) pass0 (pa_cons (pv 2) (pa_cons pe_int (pa_cons (pe_gk (by rfl) T.c_MOST_NUMBER) pa_nil)))))) (pss_one (ps_raiseX rfl (takes_of rfl rfl rfl rfl) e_InvalidCount (by rfl))) pss_nil)
      (pss_cons (ps_expr (pe_metS (pv 0) k_Family.c c_Family_check_alive (hr.mono (by decide)) (fun σ => passAt (takes_of rfl rfl rfl rfl) σ) (pa_cons (pv 1) pa_nil)))
      (pss_cons (ps_if (pt_cmpR (oEq (K := K) hr.u65) (pv 1) (pe_gk (by rfl) T.c_FIRST) (nomark _)) (pss_one (ps_raiseS rfl e_NotAlive hr (by decide) (takes_of rfl rfl rfl rfl) (pa_cons (pv 1) pa_nil) (by rfl))) pss_nil)
      (pss_cons (ps_asg (pe_fldK (K := K) (pv 0)) (pg_seqX (K := K) (n := 2) rfl (pgs_cons (pg_name (i := 3) sc_Family_end.nd rfl (by first | exact Or.inl rfl | exact Or.inr rfl)) (pgs_cons (pg_name (i := 4) sc_Family_end.nd rfl (by first | exact Or.inl rfl | exact Or.inr rfl)) pgs_nil))))
      (pss_cons (ps_setLc (i := 5) (own := [("parent", 6), ("status", 7)]) rfl sc_Family_end.nd rfl rfl (sw_true rfl rfl rfl (by decide +kernel)) (pi_any (K := K) (pv 3)) (blkOk_by (own := [("parent", 6), ("status", 7)]) (N := ["self", "process", "number", "rows", "ended", "found", "parent", "status"]) (sc := defScope s_Family_end) (by decide +kernel)) (fun _ _ _ _ _ => pg_seqX (K := K) (n := 2) rfl (pgs_cons (pg_name (i := 6) sc_Family_end.nd rfl (by first | exact Or.inl rfl | exact Or.inr rfl)) (pgs_cons (pg_name (i := 7) sc_Family_end.nd rfl (by first | exact Or.inl rfl | exact Or.inr rfl)) pgs_nil))) (fun _ _ _ _ _ => pts_nil) (fun _ _ _ _ _ => (pe_tup (pa_cons (pe_ifExp (pt_cmpR (oEq (K := K) hr.u65) (pv 6) (pv 1) (nomark _)) (pe_gk (by rfl) T.c_FIRST) (pv 6)) (pa_cons (pv 7) pa_nil)))))
      (pss_cons (ps_asg (pe_tup (pa_cons (pe_ix (ixX (K := K)) (pe_ix (ixX (K := K)) (pv 5) (pv 1) (fun _ _ => rfl)) pe_int (fun _ _ => rfl)) (pa_cons (pe_tup (pa_cons pe_str (pa_cons (pv 2) pa_nil))) pa_nil))) (pg_sub (pv 5) (pv 1) set_list))
      (pss_one (ps_expr (pe_metS (pv 0) k_Family.c c_Family_go_to (hr.mono (by decide)) (fun σ => passAt (takes_of rfl rfl rfl rfl) σ) (pa_cons (pv 5) (pa_cons (pe_tup (pa_starX (K := K) (pv 4) (pa_cons (pv 1) pa_nil))) pa_nil)))))))))))), ?_⟩
  rw [show start ["self", "process", "number", "rows", "ended", "found", "parent", "status"] [v_self, v_process, v_number] = [some v_self, some v_process, some v_number, none, none, none, none, none] from rfl]
  try dsimp only [cxOf, Cx.nox, Cx.wish]
  obtain ⟨a, p, past, n, ⟨rfl, fa, wp, hn, hp⟩, hf, hu', q1, q2, q3⟩ := h
  have l1 := wp.l1
  have le := wp.le
  obtain ⟨C, dx, t, u, tr, te, xs, us, o⟩ := fa.op
  cases k_Family.one o.g
  walk_at "rd"
  refine ⟨_, _, _, rfl, o.o, (by walk_at "lk"), ?_⟩
  walk_at "rd"
  refine ⟨a, p, past, rfl, fa, hf, wp.l1, fun hr H1 k1 => ?_, fun e C H1 k1 g => q3 .process (needPr_none e) C none H1 k1 g rfl⟩
  obtain ⟨r, e⟩ := hr
  obtain ⟨rfl, hr, _⟩ := prOf_some e
  have o1 := o.same k1
  walk_at "rd"
  refine ⟨_, _, hu', rfl, rfl, ?_⟩
  cases hi : isInt v_number 0 255 with
  | false =>
    walk_at "rd"
    exact q3 .count ((needPr_some e).trans (if_neg (by rw [hi]; decide))) _ _ H1 k1 e_InvalidCount.g rfl
  | true =>
    obtain ⟨i, rfl, i0, i1⟩ := isInt_true hi
    have hi' := hi
    walk_at "rd"
    refine ⟨_, _, _, rfl, o1.o, (by walk_at "lk"), ?_⟩
    walk_at "rd"
    refine ⟨a, p, past, r, rfl, o1.at, rfl, hr, fun ha H2 k2 => ?_, fun hd C d H2 k2 g x => q3 (.dead r) ((needPr_some e).trans ((if_pos hi').trans (needAl_no hd))) C _ H2 (k1.trans k2) g ⟨d, rfl, x⟩⟩
    have o2 := o1.same k2
    have lx := o2.len
    walk_at "rd"
    refine rd_ite (fun h => ?_) (fun h => ?_)
    · have h := of_decide_eq_true h
      have hr0 : r = 0 := by omega
      subst hr0
      walk_at "rd"
      intro d hd
      refine q3 (.dead 0) ?_ _ _ _ ((k1.trans k2).new (o := .xd [("process", .int 0)]) hd) e_NotAlive.gC ⟨d, rfl, upd_same⟩
      exact (needPr_some e).trans ((if_pos hi').trans ((needAl_yes ha).trans (if_pos rfl)))
    · have h := of_decide_eq_false h
      obtain ⟨m, rfl⟩ : ∃ m : Nat, i = (m : Int) := ⟨i.toNat, by omega⟩
      have eR : endR p (.int (r : Int)) (.int (m : Int)) = .inr (some (endP p r m), .none) := (needPr_some e).trans ((if_pos hi').trans ((needAl_yes ha).trans (if_neg (by omega))))
      walk_at "rd"
      refine ⟨_, _, _, _, _, rfl, o2.o, k_Family.c, n_Family_present, (by walk_at "lk"), ?_⟩
      refine rd_gtup o2.st rfl ?_
      walk_at "rd"
      refine rd_lcT ?_
      walk_at "rd"
      refine rd_ipT (enc := proD) (out := fun x => proD (endRow r x)) (p := fun _ => true) o2.sr o2.ir (by omega) ?_ ?_
      · intro D x y H3 N hD hy k3 ix hno hyes
        obtain ⟨par, st⟩ := y
        obtain ⟨b, v1, v2, rfl, sb, i1, i2⟩ := ix.t2
        obtain rfl := ip_par i1
        walk_at "rd"
        refine rd_gtup sb rfl ?_
        walk_at "rd"
        refine rd_eqC (par_scal _ _) ?_
        rw [par_dec]
        have fin : ∀ par', endRow r (par, st) = (par', st) → ∀ l, H3 l = none → ∃ acc, upd H3 l (.tup [parV par', v2]) D = some (.lst acc) ∧ acc.length < sizeLine ∧ N (upd (upd H3 l (.tup [parV par', v2])) D (.lst (acc ++ [V.ref l]))) := fun par' er l hl => by
          have k4 := (Same.refl H3).new (o := .tup [parV par', v2]) hl
          refine hyes rfl _ _ k4 ?_
          show Ip K _ _ (proD (endRow r (par, st)))
          rw [er]
          exact .mk2 (SqT.of upd_same) ip_parV (i2.up (Ty.of k4))
        by_cases hpr : par = some r
        · rw [decide_eq_true hpr]
          walk_at "rd"
          exact fun l hl => fin (some 0) (by unfold endRow; rw [if_pos hpr]) l hl
        · rw [decide_eq_false hpr]
          walk_at "rd"
          exact fun l hl => fin par (by unfold endRow; rw [if_neg hpr]) l hl
      · intro D H3 ys hD k3 hys iys
        rw [List.filter_eq_self.mpr (fun _ _ => rfl)] at iys
        have iys' : IpAll K H3 ys ((p.1.map (endRow r)).map proD) := by rw [List.map_map]; exact iys
        have o3 := o2.same k3
        have ly : ys.length = p.1.length := by rw [iys'.length, List.length_map, List.length_map]
        obtain ⟨v, hv, iv⟩ := iys'.get (i := r) (d := proD (endRow r (parOf p r, staOf p r))) (by rw [List.getElem?_map, List.getElem?_map, at_row hr]; rfl)
        obtain ⟨b, x1, x2, rfl, sb, i1, i2⟩ := iv.t2
        have hD' : H2 D = none := hD
        walk_at "rd"
        refine rd_ixL (SqL.of hys) (atI_nat hv) ?_
        walk_at "rd"
        refine rd_ixT sb rfl ?_
        walk_at "rd"
        intro l1' hl1
        have k4 := (Same.refl H3).new (o := .tup [.str "ended", .int (m : Int)]) hl1
        have s4 : SqT K (upd H3 l1' (.tup [.str "ended", .int (m : Int)])) l1' [.str "ended", .int (m : Int)] := SqT.of upd_same
        generalize upd H3 l1' (.tup [.str "ended", .int (m : Int)]) = H4 at k4 s4 ⊢
        walk_at "rd"
        intro l2 hl2
        have k5 := (Same.refl H4).new (o := .tup [x1, .ref l1']) hl2
        have s5 : SqT K (upd H4 l2 (.tup [x1, .ref l1'])) l2 [x1, .ref l1'] := SqT.of upd_same
        generalize upd H4 l2 (.tup [x1, .ref l1']) = H5 at k5 s5 ⊢
        have k35 := k4.trans k5
        have hys5 := k35 _ _ hys
        walk_at "rd"
        refine rd_setL hys5 (ixN_nat (by omega)) ?_
        have t6 : Ty H5 (upd H5 D (.lst (ys.set r (.ref l2)))) := (Ty.refl H5).lst hys5
        have k6 : Same H2 (upd H5 D (.lst (ys.set r (.ref l2)))) := ((k3.trans k35)).put hD'
        have hl6 : upd H5 D (.lst (ys.set r (.ref l2))) D = some (.lst (ys.set r (.ref l2))) := upd_same
        have il6 : IpAll K (upd H5 D (.lst (ys.set r (.ref l2)))) (ys.set r (.ref l2)) ((endP p r m).1.map proD) := by
          refine IpAll.setR (iys'.up ((Ty.of k35).trans t6)) ?_
          refine .mk2 (s5.up t6) ((ip_par i1) ▸ ip_parV) (.mk2 (s4.up ((Ty.of k5).trans t6)) (.str _) (.int _))
        generalize upd H5 D (.lst (ys.set r (.ref l2))) = H6 at k6 hl6 il6 t6 ⊢
        have o6 := o2.same k6
        walk_at "rd"
        refine ⟨_, _, _, rfl, o6.o, (by walk_at "lk"), ?_⟩
        walk_at "rd"
        refine rd_starT o6.se ?_
        walk_at "rd"
        refine ⟨szOk (by rw [List.length_append, List.length_map]; show _ + 1 ≤ _; omega), fun l7 hl7 => ?_⟩
        have k7 := (Same.refl H6).new (o := .tup (p.2.map eV ++ [V.int (r : Int)])) hl7
        have s7 : SqT K (upd H6 l7 (.tup (p.2.map eV ++ [V.int (r : Int)]))) l7 (p.2.map eV ++ [V.int (r : Int)]) := SqT.of upd_same
        generalize upd H6 l7 (.tup (p.2.map eV ++ [V.int (r : Int)])) = H7 at k7 s7 ⊢
        have o7 := o6.same k7
        walk_at "rd"
        refine ⟨a, p, endP p r m, past, D, l7, _, rfl, o7.at, hp, rfl, .inl (SqL.of (k7 _ _ hl6)), il6.up (Ty.of k7), rfl, .inr ?_, fun H8 k8 f8 => ?_⟩
        · show SqT K H7 l7 ((p.2 ++ [r]).map eV)
          rw [List.map_append]
          exact s7
        · walk_at "rd"
          exact q2 _ _ eR _ H8 ((Kp.of (((k1.trans k2).trans k6).trans k7)).trans k8) f8 .non
def Φ_Family_told_of (K : PySem.W.Frag) (mg : Str → Option Value) (vs vc : V) (H : Hp) (Q : VK) (E : XK) : Prop := ∃ (a : Addr) (p : Prs) (past : List Prs) (n c m : Nat), fPre K mg vs a p past n H ∧ vc = .int (c : Int) ∧ c < p.1.length ∧ staOf p c = .ended m ∧
  ∀ v H', Kp a H H' → FamAt K mg H' a (toldP p c) (past ++ [p]) → Ip K H' v (toldD p c) → Q v H'
theorem ok_Family_told_of (T : Txt P K mg) {f : Addr} {fd : FuncData} (F : Fun K "told_of" "Family.told_of" s_Family_told_of f fd) : Keeps P w K mg base (L2N.CX P w) 2 f fd ["self", "child"] (sp2x (Φ_Family_told_of K mg)) := by
  obtain ⟨C_Family, k_Family⟩ := T.k_Family
  have n_Family_present := T.n_Family_present C_Family k_Family.g
  have n_Family_past := T.n_Family_past C_Family k_Family.g
  obtain ⟨A_GONE, t_GONE⟩ := T.c_GONE
  have c_Family_go_to := met (P := P) (w := w) (base := base) (T.d_Family_go_to C_Family k_Family.g) fun F => ok_Family_go_to T F
  refine keeps_of F sc_Family_told_of (fun vs H Q E h => ?_) (fun cdv A outer s H vs Q E hr h => ?_)
  · obtain ⟨_, _, rfl, _⟩ := h
    rfl
  obtain ⟨v_self, v_child, rfl, h⟩ := h
  have hu := hr.hu
  refine ⟨_, (pss_cons (ps_asg (pe_fldK (K := K) (pv 0)) (pg_seqX (K := K) (n := 2) rfl (pgs_cons (pg_name (i := 2) sc_Family_told_of.nd rfl (by first | exact Or.inl rfl | exact Or.inr rfl)) (pgs_cons (pg_name (i := 3) sc_Family_told_of.nd rfl (by first | exact Or.inl rfl | exact Or.inr rfl)) pgs_nil))))
      (pss_cons (ps_set (i := 4) sc_Family_told_of.nd rfl (by first | exact Or.inl rfl | exact Or.inr rfl) (pe_callTy (callListX (K := K)) (by rfl) T.b_list (by decide +kernel) (pa_cons (pv 2) pa_nil)))
      (pss_cons (ps_asg (pe_tup (pa_cons pe_non (pa_cons (pe_gk (by rfl) t_GONE.2) pa_nil))) (pg_sub (pv 4) (pv 1) set_list))
      (pss_cons (ps_expr (pe_metS (pv 0) k_Family.c c_Family_go_to (hr.mono (by decide)) (fun σ => passAt (takes_of rfl rfl rfl rfl) σ) (pa_cons (pv 4) (pa_cons (pe_lc (own := [("process", 5)]) rfl sc_Family_told_of.nd (pi_any (K := K) (pv 3)) (blkOk_by (own := [("process", 5)]) (N := ["self", "child", "rows", "ended", "found", "process"]) (sc := defScope s_Family_told_of) (by decide +kernel)) (fun _ _ _ _ _ => pg_name (i := 5) sc_Family_told_of.nd rfl (by first | exact Or.inl rfl | exact Or.inr rfl)) (fun _ _ _ _ _ => pts_one (pt_cmpR (oNe (K := K) hr.u65) (pv 5) (pv 1) (nomark _))) (fun _ _ _ _ _ => (pv 5))) pa_nil))))
      (pss_one (ps_ret (pe_tup (pa_cons pe_str (pa_cons (pv 1) (pa_cons (pe_ix (ixX (K := K)) (pe_ix (ixX (K := K)) (pe_ix (ixX (K := K)) (pv 2) (pv 1) (fun _ _ => rfl)) pe_int (fun _ _ => rfl)) pe_int (fun _ _ => rfl)) pa_nil)))))))))), ?_⟩
  rw [show start ["self", "child", "rows", "ended", "found", "process"] [v_self, v_child] = [some v_self, some v_child, none, none, none, none] from rfl]
  try dsimp only [cxOf, Cx.nox, Cx.wish]
  obtain ⟨a, p, past, n, c, m, ⟨rfl, fa, wp, hn, hp⟩, rfl, hc, hm, q⟩ := h
  have l1 := wp.l1
  have le := wp.le
  obtain ⟨C, dx, t, u, tr, te, xs, us, o⟩ := fa.op
  have lx := o.len
  cases k_Family.one o.g
  walk_at "rd"
  refine ⟨_, _, _, _, _, rfl, o.o, k_Family.c, n_Family_present, (by walk_at "lk"), ?_⟩
  refine rd_gtup o.st rfl ?_
  walk_at "rd"
  refine rd_lstT o.sr fun D hD => ?_
  have k1 := (Same.refl H).new (o := .lst xs) hD
  have hys : upd H D (.lst xs) D = some (.lst xs) := upd_same
  generalize upd H D (.lst xs) = H1 at k1 hys ⊢
  have o1 := o.same k1
  walk_at "rd"
  intro l2 hl2
  have k2 := (Same.refl H1).new (o := .tup [.non, .ref A_GONE]) hl2
  have s2 : SqT K (upd H1 l2 (.tup [.non, .ref A_GONE])) l2 [.non, .ref A_GONE] := SqT.of upd_same
  generalize upd H1 l2 (.tup [.non, .ref A_GONE]) = H2 at k2 s2 ⊢
  have hys2 := k2 _ _ hys
  walk_at "rd"
  refine rd_setL hys2 (ixN_nat (by omega)) ?_
  have t3 : Ty H2 (upd H2 D (.lst (xs.set c (.ref l2)))) := (Ty.refl H2).lst hys2
  have k3 : Same H (upd H2 D (.lst (xs.set c (.ref l2)))) := (k1.trans k2).put hD
  have hl3 : upd H2 D (.lst (xs.set c (.ref l2))) D = some (.lst (xs.set c (.ref l2))) := upd_same
  have il3 : IpAll K (upd H2 D (.lst (xs.set c (.ref l2)))) (xs.set c (.ref l2)) ((toldP p c).1.map proD) := by
    refine IpAll.setR (o.ir.up (Ty.of k3)) ?_
    exact .mk2 (s2.up t3) .non (.tup t_GONE.1.sq (.cons (.str _) .nil))
  generalize upd H2 D (.lst (xs.set c (.ref l2))) = H3 at k3 hl3 il3 t3 ⊢
  have o3 := o.same k3
  walk_at "rd"
  refine ⟨_, _, _, rfl, o3.o, (by walk_at "lk"), ?_⟩
  walk_at "rd"
  refine rd_lcT ?_
  walk_at "rd"
  refine rd_ipT (enc := endD) (out := endD) (p := fun k => decide (k ≠ c)) o3.se (ends_ip _) (by omega) ?_ ?_
  · intro D2 x y H4 N hD2 hy k4 ix hno hyes
    obtain rfl := ip_end ix
    walk_at "rd"
    rw [ev_dec]
    by_cases e : y = c
    · rw [decide_eq_true e]
      walk_at "rd"
      exact hno (by simp [e]) H4 (Same.refl H4)
    · rw [decide_eq_false e]
      walk_at "rd"
      exact hyes (by simp [e]) _ H4 (Same.refl H4) (.int _)
  · intro D2 H4 ys hD2 k4 hys4 iys
    obtain rfl := ip_ends iys
    have o4 := o3.same k4
    walk_at "rd"
    refine ⟨a, p, toldP p c, past, D, D2, _, rfl, o4.at, hp, rfl, .inl (SqL.of (k4 _ _ hl3)), il3.up (Ty.of k4), rfl, .inl (SqL.of hys4), fun H5 k5 f5 => ?_⟩
    have t5 := k5.tyI o4.o
    obtain ⟨b, sv, hb, sb, is⟩ := o4.row hc
    rw [hm] at is
    obtain ⟨b2, y1, y2, rfl, sb2, i1, i2⟩ := Ip.t2 (show Ip K H4 sv (.tuple [.str "ended", .int (m : Int)]) from is)
    obtain rfl := i2.i
    walk_at "rd"
    refine rd_ixT (o4.sr.up t5) (atI_nat hb) ?_
    walk_at "rd"
    refine rd_ixT (sb.up t5) rfl ?_
    walk_at "rd"
    refine rd_ixT (sb2.up t5) rfl ?_
    walk_at "rd"
    intro l6 hl6
    have k6 := (Same.refl H5).new (o := .tup [.str "told", .int (c : Int), .int (m : Int)]) hl6
    refine q _ _ ((((Kp.of (k3.trans k4))).trans k5).trans (Kp.of k6)) (f5.same k6) ?_
    unfold toldD
    rw [numOf_eq hm]
    exact .mk3 (SqT.of upd_same) (.str _) (.int _) (.int _)
/-- [child for ..]: the children -/
def Φ_Family_offspring (K : PySem.W.Frag) (mg : Str → Option Value) (vs vp : V) (H : Hp) (Q : VK) (E : XK) : Prop := ∃ (a : Addr) (p : Prs) (past : List Prs) (r : Nat), vs = .ref a ∧ FamAt K mg H a p past ∧ p.1.length ≤ 41 ∧ vp = .int (r : Int) ∧
  ∀ l H', Same H H' → H l = none → H' l = some (.lst ((kidsOf p r).map eV)) → Q (.ref l) H'
theorem ok_Family_offspring (T : Txt P K mg) {f : Addr} {fd : FuncData} (F : Fun K "offspring" "Family.offspring" s_Family_offspring f fd) : Keeps P w K mg base (L2N.CX P w) 1 f fd ["self", "process"] (sp2x (Φ_Family_offspring K mg)) := by
  obtain ⟨C_Family, k_Family⟩ := T.k_Family
  have n_Family_present := T.n_Family_present C_Family k_Family.g
  have n_Family_past := T.n_Family_past C_Family k_Family.g
  refine keeps_of F sc_Family_offspring (fun vs H Q E h => ?_) (fun cdv A outer s H vs Q E hr h => ?_)
  · obtain ⟨_, _, rfl, _⟩ := h
    rfl
  obtain ⟨v_self, v_process, rfl, h⟩ := h
  have hu := hr.hu
  refine ⟨_, (pss_one (ps_ret (pe_lc (own := [("child", 2), ("parent", 3), ("status", 4)]) rfl sc_Family_offspring.nd (pi_enumT (K := K) (by rfl) T.b_enumerate (pa_cons (pe_ix (ixX (K := K)) (pe_fldK (K := K) (pv 0)) pe_int (fun _ _ => rfl)) pa_nil)) (blkOk_by (own := [("child", 2), ("parent", 3), ("status", 4)]) (N := ["self", "process", "child", "parent", "status"]) (sc := defScope s_Family_offspring) (by decide +kernel)) (fun _ _ _ _ _ => pg_seqX (K := K) (n := 2) rfl (pgs_cons (pg_name (i := 2) sc_Family_offspring.nd rfl (by first | exact Or.inl rfl | exact Or.inr rfl)) (pgs_cons (pg_seqX (K := K) (n := 2) rfl (pgs_cons (pg_name (i := 3) sc_Family_offspring.nd rfl (by first | exact Or.inl rfl | exact Or.inr rfl)) (pgs_cons (pg_name (i := 4) sc_Family_offspring.nd rfl (by first | exact Or.inl rfl | exact Or.inr rfl)) pgs_nil))) pgs_nil))) (fun _ _ _ _ _ => pts_one (pt_cmpR (oEq (K := K) hr.u65) (pv 3) (pv 1) (nomark _))) (fun _ _ _ _ _ => (pv 2))))), ?_⟩
  rw [show start ["self", "process", "child", "parent", "status"] [v_self, v_process] = [some v_self, some v_process, none, none, none] from rfl]
  try dsimp only [cxOf, Cx.nox, Cx.wish]
  obtain ⟨a, p, past, r, rfl, fa, l1, rfl, q⟩ := h
  obtain ⟨C, dx, t, u, tr, te, xs, us, o⟩ := fa.op
  have lx := o.len
  cases k_Family.one o.g
  walk_at "rd"
  refine ⟨_, _, _, _, _, rfl, o.o, k_Family.c, n_Family_present, (by walk_at "lk"), ?_⟩
  walk_at "rd"
  refine rd_ixT o.st rfl ?_
  walk_at "rd"
  refine rd_ipET (enc := proD) (out := fun q => endD q.2) (p := fun q => decide (q.1.1 = some r)) o.sr o.ir (by omega) ?_ ?_
  · intro D x y H1 N hD hy k1 ix hno hyes
    obtain ⟨⟨par, st⟩, k⟩ := y
    obtain ⟨b, v1, v2, rfl, sb, i1, i2⟩ := ix.t2
    obtain rfl := i1.i
    obtain ⟨b2, w1, w2, rfl, sb2, j1, j2⟩ := i2.t2
    obtain rfl := ip_par j1
    walk_at "rd"
    refine rd_gtup sb rfl ?_
    walk_at "rd"
    refine rd_gtup sb2 rfl ?_
    walk_at "rd"
    refine rd_eqC (par_scal _ _) ?_
    rw [par_dec]
    by_cases e : par = some r
    · rw [decide_eq_true e]
      walk_at "rd"
      exact hyes (decide_eq_true e) _ H1 (Same.refl H1) (.int _)
    · rw [decide_eq_false e]
      walk_at "rd"
      exact hno (decide_eq_false e) H1 (Same.refl H1)
  · intro D H1 ys hD k1 hys iys
    rw [kids_zip] at iys
    obtain rfl := ip_ends iys
    exact q D H1 k1 hD hys
def Φ_Family_wait := fM1 waitR
theorem ok_Family_wait (T : Txt P K mg) {f : Addr} {fd : FuncData} (F : Fun K "wait" "Family.wait" s_Family_wait f fd) : Keeps P w K mg base (L2N.CX P w) 3 f fd ["self", "process"] (sp2x (Φ_Family_wait K mg)) := by
  obtain ⟨C_Family, k_Family⟩ := T.k_Family
  have n_Family_present := T.n_Family_present C_Family k_Family.g
  have n_Family_past := T.n_Family_past C_Family k_Family.g
  have c_Family_check := met (P := P) (w := w) (base := base) (T.d_Family_check C_Family k_Family.g) fun F => ok_Family_check T F
  have c_Family_check_alive := met (P := P) (w := w) (base := base) (T.d_Family_check_alive C_Family k_Family.g) fun F => ok_Family_check_alive T F
  have c_Family_told_of := met (P := P) (w := w) (base := base) (T.d_Family_told_of C_Family k_Family.g) fun F => ok_Family_told_of T F
  have c_Family_offspring := met (P := P) (w := w) (base := base) (T.d_Family_offspring C_Family k_Family.g) fun F => ok_Family_offspring T F
  refine keeps_of F sc_Family_wait (fun vs H Q E h => ?_) (fun cdv A outer s H vs Q E hr h => ?_)
  · obtain ⟨_, _, rfl, _⟩ := h
    rfl
  obtain ⟨v_self, v_process, rfl, h⟩ := h
  have hu := hr.hu
  refine ⟨_, (pss_cons (ps_expr (pe_metS (pv 0) k_Family.c c_Family_check (hr.mono (by decide)) (fun σ => passAt (takes_of rfl rfl rfl rfl) σ) (pa_cons (pv 1) pa_nil)))
      (pss_cons (ps_expr (pe_metS (pv 0) k_Family.c c_Family_check_alive (hr.mono (by decide)) (fun σ => passAt (takes_of rfl rfl rfl rfl) σ) (pa_cons (pv 1) pa_nil)))
      (pss_cons (ps_asg (pe_fldK (K := K) (pv 0)) (pg_seqX (K := K) (n := 2) rfl (pgs_cons (pg_name (i := 2) sc_Family_wait.nd rfl (by first | exact Or.inl rfl | exact Or.inr rfl)) (pgs_cons (pg_name (i := 3) sc_Family_wait.nd rfl (by first | exact Or.inl rfl | exact Or.inr rfl)) pgs_nil))))
      (pss_cons (ps_setLc (i := 4) (own := [("child", 5)]) rfl sc_Family_wait.nd rfl rfl (sw_true rfl rfl rfl (by decide +kernel)) (pi_any (K := K) (pv 3)) (blkOk_by (own := [("child", 5)]) (N := ["self", "process", "rows", "ended", "own", "child"]) (sc := defScope s_Family_wait) (by decide +kernel)) (fun _ _ _ _ _ => pg_name (i := 5) sc_Family_wait.nd rfl (by first | exact Or.inl rfl | exact Or.inr rfl)) (fun _ _ _ _ _ => pts_one (pt_cmpR (oEq (K := K) hr.u65) (pe_ix (ixX (K := K)) (pe_ix (ixX (K := K)) (pv 2) (pv 5) (fun _ _ => rfl)) pe_int (fun _ _ => rfl)) (pv 1) (nomark _))) (fun _ _ _ _ _ => (pv 5)))
      (pss_cons (ps_if (pt_cmpR (oNe (K := K) hr.u65) (pv 4) (pe_lst pa_nil) (nomark _)) (pss_one (ps_ret (pe_metS (pv 0) k_Family.c c_Family_told_of (hr.mono (by decide)) (fun σ => passAt (takes_of rfl rfl rfl rfl) σ) (pa_cons (pe_ix (ixX (K := K)) (pv 4) pe_int (fun _ _ => rfl)) pa_nil)))) pss_nil)
      (pss_one (ps_ret (pe_ifExp (pt_cmpR (oNe (K := K) hr.u65) (pe_metS (pv 0) k_Family.c c_Family_offspring (hr.mono (by decide)) (fun σ => passAt (takes_of rfl rfl rfl rfl) σ) (pa_cons (pv 1) pa_nil)) (pe_lst pa_nil) (nomark _)) (pe_tup (pa_cons pe_str pa_nil)) (pe_tup (pa_cons pe_str pa_nil)))))))))), ?_⟩
  rw [show start ["self", "process", "rows", "ended", "own", "child"] [v_self, v_process] = [some v_self, some v_process, none, none, none, none] from rfl]
  try dsimp only [cxOf, Cx.nox, Cx.wish]
  obtain ⟨a, p, past, n, ⟨rfl, fa, wp, hn, hp⟩, hf, q1, q2, q3⟩ := h
  have l1 := wp.l1
  have le := wp.le
  obtain ⟨C, dx, t, u, tr, te, xs, us, o⟩ := fa.op
  cases k_Family.one o.g
  walk_at "rd"
  refine ⟨_, _, _, rfl, o.o, (by walk_at "lk"), ?_⟩
  walk_at "rd"
  refine ⟨a, p, past, rfl, fa, hf, wp.l1, fun hr H1 k1 => ?_, fun e C H1 k1 g => q3 .process (needPr_none e) C none H1 k1 g rfl⟩
  obtain ⟨r, e⟩ := hr
  obtain ⟨rfl, hr, _⟩ := prOf_some e
  have o1 := o.same k1
  walk_at "rd"
  refine ⟨_, _, _, rfl, o1.o, (by walk_at "lk"), ?_⟩
  walk_at "rd"
  refine ⟨a, p, past, r, rfl, o1.at, rfl, hr, fun ha H2 k2 => ?_, fun hd C d H2 k2 g x => q3 (.dead r) ((needPr_some e).trans (needAl_no hd)) C _ H2 (k1.trans k2) g ⟨d, rfl, x⟩⟩
  have o2 := o1.same k2
  have lx := o2.len
  walk_at "rd"
  refine ⟨_, _, _, _, _, rfl, o2.o, k_Family.c, n_Family_present, (by walk_at "lk"), ?_⟩
  refine rd_gtup o2.st rfl ?_
  walk_at "rd"
  refine rd_lcT ?_
  walk_at "rd"
  refine rd_ipT (enc := endD) (out := endD) (p := fun k => decide (parOf p k = some r)) o2.se (ends_ip _) (by omega) ?_ ?_
  · intro D2 x y H4 N hD2 hy k4 ix hno hyes
    obtain rfl := ip_end ix
    have o4 := o2.same k4
    obtain ⟨b, sv, hb, sb, is⟩ := o4.row (ended_at wp hy).1
    walk_at "rd"
    refine rd_ixT o4.sr (atI_nat hb) ?_
    walk_at "rd"
    refine rd_ixT sb rfl ?_
    walk_at "rd"
    refine rd_eqC (par_scal _ _) ?_
    rw [par_dec]
    by_cases e : parOf p y = some r
    · rw [decide_eq_true e]
      walk_at "rd"
      exact hyes (decide_eq_true e) _ H4 (Same.refl H4) (.int _)
    · rw [decide_eq_false e]
      walk_at "rd"
      exact hno (decide_eq_false e) H4 (Same.refl H4)
  · intro D H3 ys hD k3 hys iys
    obtain rfl := ip_ends iys
    have o3 := o2.same k3
    have k03 := (k1.trans k2).trans k3
    walk_at "rd"
    intro l4 hl4
    have k4 := (Same.refl H3).new (o := .lst []) hl4
    refine rd_neNil (SqL.of (k4 _ _ hys)) (SqL.of upd_same) ?_
    generalize upd H3 l4 (.lst []) = H4 at k4 ⊢
    have o4 := o3.same k4
    have hys4 := k4 _ _ hys
    have eW : waitR p (.int (r : Int)) = match ownOf p r with
      | c :: _ => .inr (some (toldP p c), toldD p c)
      | [] => .inr (none, if kidsOf p r = [] then noneD else waitsD) := (needPr_some e).trans (needAl_yes ha)
    have hown : ∀ c ∈ ownOf p r, c < p.1.length ∧ ∃ m, staOf p c = .ended m := fun c hc => ended_at wp (List.mem_filter.mp hc).1
    change H4 D = some (.lst ((ownOf p r).map eV)) at hys4
    walk_at "rd"
    rw [show (List.filter (fun k => decide (parOf p k = some r)) p.2) = ownOf p r from rfl]
    revert eW hys4 hown
    generalize ownOf p r = own
    intro eW hown hys4
    cases own with
    | cons c rest =>
      obtain ⟨hc, m, hm⟩ := hown c List.mem_cons_self
      refine rd_yesI rfl ?_
      walk_at "rd"
      refine ⟨_, _, _, rfl, o4.o, (by walk_at "lk"), ?_⟩
      walk_at "rd"
      refine rd_ixL (SqL.of hys4) (show atI (eV c :: rest.map eV) ((0 : Nat) : Int) = some (eV c) from atI_nat rfl) ?_
      walk_at "rd"
      exact ⟨a, p, past, n, c, m, ⟨rfl, o4.at, wp, hn, hp⟩, rfl, hc, hm, fun v H5 k5 f5 i5 => q2 _ _ eW v H5 ((Kp.of (k03.trans k4)).trans k5) f5 i5⟩
    | nil =>
      refine rd_noI rfl ?_
      walk_at "rd"
      refine ⟨_, _, _, rfl, o4.o, (by walk_at "lk"), ?_⟩
      walk_at "rd"
      refine ⟨a, p, past, r, rfl, o4.at, l1, rfl, fun l5 H5 k5 hl5 hk5 => ?_⟩
      walk_at "rd"
      intro l6 hl6
      have k6 := (Same.refl H5).new (o := .lst []) hl6
      refine rd_neNil (SqL.of (k6 _ _ hk5)) (SqL.of upd_same) ?_
      generalize upd H5 l6 (.lst []) = H6 at k6 ⊢
      have k06 := ((k03.trans k4).trans k5).trans k6
      walk_at "rd"
      have eW : waitR p (.int (r : Int)) = .inr (none, if kidsOf p r = [] then noneD else waitsD) := eW
      revert eW
      generalize kidsOf p r = kids
      intro eW
      cases kids with
      | nil =>
        rw [if_pos rfl] at eW
        refine rd_noI rfl ?_
        walk_at "rd"
        intro l7 hl7
        exact q1 _ eW _ _ (k06.new (o := .tup [.str "none"]) hl7) (.mk1 (SqT.of upd_same) (.str _))
      | cons c rest =>
        rw [if_neg (List.cons_ne_nil _ _)] at eW
        refine rd_yesI rfl ?_
        walk_at "rd"
        intro l7 hl7
        exact q1 _ eW _ _ (k06.new (o := .tup [.str "waits"]) hl7) (.mk1 (SqT.of upd_same) (.str _))
def Φ_Family_wait_for := fM2 waitForR
theorem ok_Family_wait_for (T : Txt P K mg) {f : Addr} {fd : FuncData} (F : Fun K "wait_for" "Family.wait_for" s_Family_wait_for f fd) : Keeps P w K mg base (L2N.CX P w) 3 f fd ["self", "process", "child"] (sp3x (Φ_Family_wait_for K mg)) := by
  obtain ⟨C_Family, k_Family⟩ := T.k_Family
  have n_Family_present := T.n_Family_present C_Family k_Family.g
  have n_Family_past := T.n_Family_past C_Family k_Family.g
  obtain ⟨A_ALIVE, t_ALIVE⟩ := T.c_ALIVE
  have c_Family_check := met (P := P) (w := w) (base := base) (T.d_Family_check C_Family k_Family.g) fun F => ok_Family_check T F
  have c_Family_check_alive := met (P := P) (w := w) (base := base) (T.d_Family_check_alive C_Family k_Family.g) fun F => ok_Family_check_alive T F
  have c_Family_told_of := met (P := P) (w := w) (base := base) (T.d_Family_told_of C_Family k_Family.g) fun F => ok_Family_told_of T F
  refine keeps_of F sc_Family_wait_for (fun vs H Q E h => ?_) (fun cdv A outer s H vs Q E hr h => ?_)
  · obtain ⟨_, _, _, rfl, _⟩ := h
    rfl
  obtain ⟨v_self, v_process, v_child, rfl, h⟩ := h
  have hu := hr.hu
  refine ⟨_, (pss_cons (ps_expr (pe_metS (pv 0) k_Family.c c_Family_check (hr.mono (by decide)) (fun σ => passAt (takes_of rfl rfl rfl rfl) σ) (pa_cons (pv 1) pa_nil)))
      (pss_cons (ps_expr (pe_metS (pv 0) k_Family.c c_Family_check (hr.mono (by decide)) (fun σ => passAt (takes_of rfl rfl rfl rfl) σ) (pa_cons (pv 2) pa_nil)))
      (pss_cons (ps_expr (pe_metS (pv 0) k_Family.c c_Family_check_alive (hr.mono (by decide)) (fun σ => passAt (takes_of rfl rfl rfl rfl) σ) (pa_cons (pv 1) pa_nil)))
      (pss_cons (ps_asg (pe_ix (ixX (K := K)) (pe_ix (ixX (K := K)) (pe_fldK (K := K) (pv 0)) pe_int (fun _ _ => rfl)) (pv 2) (fun _ _ => rfl)) (pg_seqX (K := K) (n := 2) rfl (pgs_cons (pg_name (i := 3) sc_Family_wait_for.nd rfl (by first | exact Or.inl rfl | exact Or.inr rfl)) (pgs_cons (pg_name (i := 4) sc_Family_wait_for.nd rfl (by first | exact Or.inl rfl | exact Or.inr rfl)) pgs_nil))))
      (pss_cons (ps_if (pt_cmpR (oNe (K := K) hr.u65) (pv 3) (pv 1) (nomark _)) (pss_one (ps_ret (pe_tup (pa_cons pe_str pa_nil)))) pss_nil)
      (pss_one (ps_ret (pe_ifExp (pt_cmpR (oEq (K := K) hr.u65) (pv 4) (pe_gk (by rfl) t_ALIVE.2) (nomark _)) (pe_tup (pa_cons pe_str pa_nil)) (pe_metS (pv 0) k_Family.c c_Family_told_of (hr.mono (by decide)) (fun σ => passAt (takes_of rfl rfl rfl rfl) σ) (pa_cons (pv 2) pa_nil)))))))))), ?_⟩
  rw [show start ["self", "process", "child", "parent", "status"] [v_self, v_process, v_child] = [some v_self, some v_process, some v_child, none, none] from rfl]
  try dsimp only [cxOf, Cx.nox, Cx.wish]
  obtain ⟨a, p, past, n, ⟨rfl, fa, wp, hn, hp⟩, hf, hu', q1, q2, q3⟩ := h
  have l1 := wp.l1
  obtain ⟨C, dx, t, u, tr, te, xs, us, o⟩ := fa.op
  cases k_Family.one o.g
  walk_at "rd"
  refine ⟨_, _, _, rfl, o.o, (by walk_at "lk"), ?_⟩
  walk_at "rd"
  refine ⟨a, p, past, rfl, fa, hf, wp.l1, fun hr H1 k1 => ?_, fun e C H1 k1 g => q3 .process (needPr_none e) C none H1 k1 g rfl⟩
  obtain ⟨r, e⟩ := hr
  obtain ⟨rfl, hr, _⟩ := prOf_some e
  have o1 := o.same k1
  walk_at "rd"
  refine ⟨_, _, _, rfl, o1.o, (by walk_at "lk"), ?_⟩
  walk_at "rd"
  refine ⟨a, p, past, rfl, o1.at, hu', wp.l1, fun hc H1' k1' => ?_, fun e' C H1' k1' g => q3 .process ((needPr_some e).trans (needPr_none e')) C none H1' (k1.trans k1') g rfl⟩
  obtain ⟨c, e'⟩ := hc
  obtain ⟨rfl, hc, _⟩ := prOf_some e'
  have o1' := o1.same k1'
  walk_at "rd"
  refine ⟨_, _, _, rfl, o1'.o, (by walk_at "lk"), ?_⟩
  walk_at "rd"
  refine ⟨a, p, past, r, rfl, o1'.at, rfl, hr, fun ha H2 k2 => ?_, fun hd C d H2 k2 g x => q3 (.dead r) ((needPr_some e).trans ((needPr_some e').trans (needAl_no hd))) C _ H2 ((k1.trans k1').trans k2) g ⟨d, rfl, x⟩⟩
  have o2 := o1'.same k2
  have k02 := (k1.trans k1').trans k2
  obtain ⟨b, sv, hb, sb, is⟩ := o2.row hc
  have eW : waitForR p (.int (r : Int)) (.int (c : Int)) = (if parOf p c = some r then (if staOf p c = .alive then .inr (none, waitsD) else .inr (some (toldP p c), toldD p c)) else .inr (none, noneD)) := (needPr_some e).trans ((needPr_some e').trans (needAl_yes ha))
  walk_at "rd"
  refine ⟨_, _, _, _, _, rfl, o2.o, k_Family.c, n_Family_present, (by walk_at "lk"), ?_⟩
  walk_at "rd"
  refine rd_ixT o2.st rfl ?_
  walk_at "rd"
  refine rd_ixT o2.sr (atI_nat hb) ?_
  refine rd_gtup sb rfl ?_
  walk_at "rd"
  refine rd_neC (par_scal _ _) ?_
  rw [par_dec]
  walk_at "rd"
  by_cases hpar : parOf p c = some r
  · rw [if_pos hpar] at eW
    refine rd_noI (by rw [decide_eq_true hpar]; rfl) ?_
    walk_at "rd"
    refine rd_eqD is.to (.tup t_ALIVE.1.sq (.cons (.str _) .nil)) (sta_shaped _) (by decide +kernel) ?_
    rw [sta_eqv]
    walk_at "rd"
    by_cases hs : staOf p c = .alive
    · rw [if_pos hs] at eW
      refine rd_yesI (decide_eq_true hs) ?_
      walk_at "rd"
      intro l7 hl7
      exact q1 _ eW _ _ (k02.new (o := .tup [.str "waits"]) hl7) (.mk1 (SqT.of upd_same) (.str _))
    · rw [if_neg hs] at eW
      refine rd_noI (decide_eq_false hs) ?_
      obtain ⟨m, hm⟩ : ∃ m, staOf p c = .ended m := by
        cases h : staOf p c with
        | alive => exact absurd h hs
        | gone =>
          have := wp.go _ (List.mem_of_getElem? (at_row hc)) h
          rw [hpar] at this
          cases this
        | ended m => exact ⟨m, rfl⟩
      walk_at "rd"
      refine ⟨_, _, _, rfl, o2.o, (by walk_at "lk"), ?_⟩
      walk_at "rd"
      exact ⟨a, p, past, n, c, m, ⟨rfl, o2.at, wp, hn, hp⟩, rfl, hc, hm, fun v H5 k5 f5 i5 => q2 _ _ eW v H5 ((Kp.of k02).trans k5) f5 i5⟩
  · rw [if_neg hpar] at eW
    refine rd_yesI (by rw [decide_eq_false hpar]; rfl) ?_
    walk_at "rd"
    intro l7 hl7
    exact q1 _ eW _ _ (k02.new (o := .tup [.str "none"]) hl7) (.mk1 (SqT.of upd_same) (.str _))
/-- what is asked of a process: F of its number, or InvalidProcess -/
def fAsk (K : PySem.W.Frag) (mg : Str → Option Value) (vs vp : V) (H : Hp) (E : XK) (F : Prs → Nat → Prop) : Prop := ∃ (a : Addr) (p : Prs) (past : List Prs), vs = .ref a ∧ FamAt K mg H a p past ∧ Fl vp ∧ p.1.length ≤ 41 ∧
  (∀ r, prOf p vp = some r → F p r) ∧ (prOf p vp = none → ∀ C H', Same H H' → mg "InvalidProcess" = some (.ref C) → E (.ref C) none H')
def Φ_Family_children (K : PySem.W.Frag) (mg : Str → Option Value) (vs vp : V) (H : Hp) (Q : VK) (E : XK) : Prop := fAsk K mg vs vp H E fun p r => ∀ l H', Same H H' → H l = none → H' l = some (.lst ((kidsOf p r).map eV)) → Q (.ref l) H'
theorem ok_Family_children (T : Txt P K mg) {f : Addr} {fd : FuncData} (F : Fun K "children" "Family.children" s_Family_children f fd) : Keeps P w K mg base (L2N.CX P w) 3 f fd ["self", "process"] (sp2x (Φ_Family_children K mg)) := by
  obtain ⟨C_Family, k_Family⟩ := T.k_Family
  have n_Family_present := T.n_Family_present C_Family k_Family.g
  have n_Family_past := T.n_Family_past C_Family k_Family.g
  have c_Family_check := met (P := P) (w := w) (base := base) (T.d_Family_check C_Family k_Family.g) fun F => ok_Family_check T F
  have c_Family_offspring := met (P := P) (w := w) (base := base) (T.d_Family_offspring C_Family k_Family.g) fun F => ok_Family_offspring T F
  refine keeps_of F sc_Family_children (fun vs H Q E h => ?_) (fun cdv A outer s H vs Q E hr h => ?_)
  · obtain ⟨_, _, rfl, _⟩ := h
    rfl
  obtain ⟨v_self, v_process, rfl, h⟩ := h
  have hu := hr.hu
  refine ⟨_, (pss_cons (ps_expr (pe_metS (pv 0) k_Family.c c_Family_check (hr.mono (by decide)) (fun σ => passAt (takes_of rfl rfl rfl rfl) σ) (pa_cons (pv 1) pa_nil)))
      (pss_one (ps_ret (pe_metS (pv 0) k_Family.c c_Family_offspring (hr.mono (by decide)) (fun σ => passAt (takes_of rfl rfl rfl rfl) σ) (pa_cons (pv 1) pa_nil))))), ?_⟩
  rw [show start ["self", "process"] [v_self, v_process] = [some v_self, some v_process] from rfl]
  try dsimp only [cxOf, Cx.nox, Cx.wish]
  obtain ⟨a, p, past, rfl, fa, hf, l1, q1, q2⟩ := h
  obtain ⟨C, dx, t, u, tr, te, xs, us, o⟩ := fa.op
  cases k_Family.one o.g
  walk_at "rd"
  refine ⟨_, _, _, rfl, o.o, (by walk_at "lk"), ?_⟩
  walk_at "rd"
  refine ⟨a, p, past, rfl, fa, hf, l1, fun hr H1 k1 => ?_, fun e C H1 k1 g => q2 e C H1 k1 g⟩
  obtain ⟨r, e⟩ := hr
  have z1 := q1 r e
  obtain ⟨rfl, hr, _⟩ := prOf_some e
  have o1 := o.same k1
  walk_at "rd"
  refine ⟨_, _, _, rfl, o1.o, (by walk_at "lk"), ?_⟩
  walk_at "rd"
  exact ⟨a, p, past, r, rfl, o1.at, l1, rfl, fun l H' k h1 h2 => z1 l H' (k1.trans k) (k1.free h1) h2⟩
def Φ_Family_parent (K : PySem.W.Frag) (mg : Str → Option Value) (vs vp : V) (H : Hp) (Q : VK) (E : XK) : Prop := fAsk K mg vs vp H E fun p r => ∀ H', Same H H' → Q (parV (parOf p r)) H'
theorem ok_Family_parent (T : Txt P K mg) {f : Addr} {fd : FuncData} (F : Fun K "parent" "Family.parent" s_Family_parent f fd) : Keeps P w K mg base (L2N.CX P w) 3 f fd ["self", "process"] (sp2x (Φ_Family_parent K mg)) := by
  obtain ⟨C_Family, k_Family⟩ := T.k_Family
  have n_Family_present := T.n_Family_present C_Family k_Family.g
  have n_Family_past := T.n_Family_past C_Family k_Family.g
  have c_Family_check := met (P := P) (w := w) (base := base) (T.d_Family_check C_Family k_Family.g) fun F => ok_Family_check T F
  refine keeps_of F sc_Family_parent (fun vs H Q E h => ?_) (fun cdv A outer s H vs Q E hr h => ?_)
  · obtain ⟨_, _, rfl, _⟩ := h
    rfl
  obtain ⟨v_self, v_process, rfl, h⟩ := h
  have hu := hr.hu
  refine ⟨_, (pss_cons (ps_expr (pe_metS (pv 0) k_Family.c c_Family_check (hr.mono (by decide)) (fun σ => passAt (takes_of rfl rfl rfl rfl) σ) (pa_cons (pv 1) pa_nil)))
      (pss_one (ps_ret (pe_ix (ixX (K := K)) (pe_ix (ixX (K := K)) (pe_ix (ixX (K := K)) (pe_fldK (K := K) (pv 0)) pe_int (fun _ _ => rfl)) (pv 1) (fun _ _ => rfl)) pe_int (fun _ _ => rfl))))), ?_⟩
  rw [show start ["self", "process"] [v_self, v_process] = [some v_self, some v_process] from rfl]
  try dsimp only [cxOf, Cx.nox, Cx.wish]
  obtain ⟨a, p, past, rfl, fa, hf, l1, q1, q2⟩ := h
  obtain ⟨C, dx, t, u, tr, te, xs, us, o⟩ := fa.op
  cases k_Family.one o.g
  walk_at "rd"
  refine ⟨_, _, _, rfl, o.o, (by walk_at "lk"), ?_⟩
  walk_at "rd"
  refine ⟨a, p, past, rfl, fa, hf, l1, fun hr H1 k1 => ?_, fun e C H1 k1 g => q2 e C H1 k1 g⟩
  obtain ⟨r, e⟩ := hr
  have z1 := q1 r e
  obtain ⟨rfl, hr, _⟩ := prOf_some e
  have o1 := o.same k1
  obtain ⟨b, sv, hb, sb, is⟩ := o1.row hr
  walk_at "rd"
  refine ⟨_, _, _, _, _, rfl, o1.o, k_Family.c, n_Family_present, (by walk_at "lk"), ?_⟩
  walk_at "rd"
  refine rd_ixT o1.st rfl ?_
  walk_at "rd"
  refine rd_ixT o1.sr (atI_nat hb) ?_
  walk_at "rd"
  refine rd_ixT sb rfl ?_
  exact z1 H1 k1
def Φ_Family_status (K : PySem.W.Frag) (mg : Str → Option Value) (vs vp : V) (H : Hp) (Q : VK) (E : XK) : Prop := fAsk K mg vs vp H E fun p r => ∀ v H', Same H H' → Ip K H' v (staD (staOf p r)) → Q v H'
theorem ok_Family_status (T : Txt P K mg) {f : Addr} {fd : FuncData} (F : Fun K "status" "Family.status" s_Family_status f fd) : Keeps P w K mg base (L2N.CX P w) 3 f fd ["self", "process"] (sp2x (Φ_Family_status K mg)) := by
  obtain ⟨C_Family, k_Family⟩ := T.k_Family
  have n_Family_present := T.n_Family_present C_Family k_Family.g
  have n_Family_past := T.n_Family_past C_Family k_Family.g
  have c_Family_check := met (P := P) (w := w) (base := base) (T.d_Family_check C_Family k_Family.g) fun F => ok_Family_check T F
  refine keeps_of F sc_Family_status (fun vs H Q E h => ?_) (fun cdv A outer s H vs Q E hr h => ?_)
  · obtain ⟨_, _, rfl, _⟩ := h
    rfl
  obtain ⟨v_self, v_process, rfl, h⟩ := h
  have hu := hr.hu
  refine ⟨_, (pss_cons (ps_expr (pe_metS (pv 0) k_Family.c c_Family_check (hr.mono (by decide)) (fun σ => passAt (takes_of rfl rfl rfl rfl) σ) (pa_cons (pv 1) pa_nil)))
      (pss_one (ps_ret (pe_ix (ixX (K := K)) (pe_ix (ixX (K := K)) (pe_ix (ixX (K := K)) (pe_fldK (K := K) (pv 0)) pe_int (fun _ _ => rfl)) (pv 1) (fun _ _ => rfl)) pe_int (fun _ _ => rfl))))), ?_⟩
  rw [show start ["self", "process"] [v_self, v_process] = [some v_self, some v_process] from rfl]
  try dsimp only [cxOf, Cx.nox, Cx.wish]
  obtain ⟨a, p, past, rfl, fa, hf, l1, q1, q2⟩ := h
  obtain ⟨C, dx, t, u, tr, te, xs, us, o⟩ := fa.op
  cases k_Family.one o.g
  walk_at "rd"
  refine ⟨_, _, _, rfl, o.o, (by walk_at "lk"), ?_⟩
  walk_at "rd"
  refine ⟨a, p, past, rfl, fa, hf, l1, fun hr H1 k1 => ?_, fun e C H1 k1 g => q2 e C H1 k1 g⟩
  obtain ⟨r, e⟩ := hr
  have z1 := q1 r e
  obtain ⟨rfl, hr, _⟩ := prOf_some e
  have o1 := o.same k1
  obtain ⟨b, sv, hb, sb, is⟩ := o1.row hr
  walk_at "rd"
  refine ⟨_, _, _, _, _, rfl, o1.o, k_Family.c, n_Family_present, (by walk_at "lk"), ?_⟩
  walk_at "rd"
  refine rd_ixT o1.st rfl ?_
  walk_at "rd"
  refine rd_ixT o1.sr (atI_nat hb) ?_
  walk_at "rd"
  refine rd_ixT sb rfl ?_
  exact z1 sv H1 k1 is
def Φ_Family_ended (K : PySem.W.Frag) (mg : Str → Option Value) (vs : V) (H : Hp) (Q : VK) (E : XK) : Prop := ∃ (a : Addr) (p : Prs) (past : List Prs), vs = .ref a ∧ FamAt K mg H a p past ∧ ∀ l H', Same H H' → H l = none → H' l = some (.lst (p.2.map eV)) → Q (.ref l) H'
theorem ok_Family_ended (T : Txt P K mg) {f : Addr} {fd : FuncData} (F : Fun K "ended" "Family.ended" s_Family_ended f fd) : Keeps P w K mg base (L2N.CX P w) 1 f fd ["self"] (sp1x (Φ_Family_ended K mg)) := by
  obtain ⟨C_Family, k_Family⟩ := T.k_Family
  have n_Family_present := T.n_Family_present C_Family k_Family.g
  have n_Family_past := T.n_Family_past C_Family k_Family.g
  refine keeps_of F sc_Family_ended (fun vs H Q E h => ?_) (fun cdv A outer s H vs Q E hr h => ?_)
  · obtain ⟨_, rfl, _⟩ := h
    rfl
  obtain ⟨v_self, rfl, h⟩ := h
  have hu := hr.hu
  refine ⟨_, (pss_one (ps_ret (pe_callTy (callListX (K := K)) (by rfl) T.b_list (by decide +kernel) (pa_cons (pe_ix (ixX (K := K)) (pe_fldK (K := K) (pv 0)) pe_int (fun _ _ => rfl)) pa_nil)))), ?_⟩
  rw [show start ["self"] [v_self] = [some v_self] from rfl]
  try dsimp only [cxOf, Cx.nox, Cx.wish]
  obtain ⟨a, p, past, rfl, fa, q⟩ := h
  obtain ⟨C, dx, t, u, tr, te, xs, us, o⟩ := fa.op
  cases k_Family.one o.g
  walk_at "rd"
  refine ⟨_, _, _, _, _, rfl, o.o, k_Family.c, n_Family_present, (by walk_at "lk"), ?_⟩
  walk_at "rd"
  refine rd_ixT o.st rfl ?_
  walk_at "rd"
  refine rd_lstT o.se fun l hl => ?_
  exact q l _ ((Same.refl H).new (o := .lst (p.2.map eV)) hl) hl upd_same
def Φ_Family_undo (K : PySem.W.Frag) (mg : Str → Option Value) (vs : V) (H : Hp) (Q : VK) (E : XK) : Prop := ∃ (a : Addr) (p : Prs) (past : List Prs), vs = .ref a ∧ FamAt K mg H a p past ∧ (∀ x ∈ past, ∃ n, Wp n x ∧ n ≤ 500) ∧ past.length ≤ 500 ∧
  (∀ p' past', past = past' ++ [p'] → ∀ H', Kp a H H' → FamAt K mg H' a p' past' → Q .non H') ∧ (past = [] → ∀ C H', Same H H' → mg "EmptyHistory" = some (.ref C) → E (.ref C) none H')
theorem pr_bd {r : Pro} (h1 : ∀ q, r.1 = some q → q ≤ 1000) (h2 : ∀ k, r.2 = .ended k → k ≤ 255) : Bd 2 100 (proD r) := by
  obtain ⟨par, st⟩ := r
  have b1 : Bd 1 48 (parD par) := by
    cases par with
    | none => exact Bd.non.mono (by decide) (by decide)
    | some q => exact (Bd.int (i := (q : Int)) (by have := h1 q rfl; omega)).mono (by decide) (by decide)
  have b2 : Bd 1 48 (staD st) := by
    cases st with
    | alive => exact ⟨by decide +kernel, by decide +kernel, by decide +kernel⟩
    | gone => exact ⟨by decide +kernel, by decide +kernel, by decide +kernel⟩
    | ended k =>
      refine (Bd.tup (k := 0) (w := 20) (ds := [.str "ended", .int (k : Int)]) ?_).mono (by decide) (by show 2 * 21 ≤ 48; decide)
      intro d hd
      simp only [List.mem_cons, List.not_mem_nil, or_false] at hd
      rcases hd with rfl | rfl
      · exact (Bd.str (x := "ended") (by decide +kernel)).mono (by decide) (by decide +kernel)
      · exact Bd.int (by have := h2 k rfl; omega)
  refine (Bd.tup (k := 1) (w := 48) (ds := [parD par, staD st]) ?_).mono (by decide) (by show 2 * 49 ≤ 100; decide)
  intro d hd
  simp only [List.mem_cons, List.not_mem_nil, or_false] at hd
  rcases hd with rfl | rfl
  · exact b1
  · exact b2
theorem end_bd {k : Nat} (h : k ≤ 1000) : Bd 0 20 (endD k) := Bd.int (by omega)
theorem prs_bd {n : Nat} {p : Prs} (w : Wp n p) (hn : n ≤ 500) : Bd 4 21002 (prsD p) := by
  have l1 := w.l1
  have b1 : Bd 3 10500 (.tuple (p.1.map proD)) := by
    refine (Bd.tup (k := 2) (w := 100) ?_).mono (by decide) ?_
    · intro d hd
      obtain ⟨r, hr, rfl⟩ := List.mem_map.mp hd
      exact pr_bd (fun q hq => by have := w.par r hr q hq; omega) (w.num r hr)
    · rw [List.length_map]
      omega
  have b2 : Bd 3 10500 (.tuple (p.2.map endD)) := by
    refine (Bd.tup (k := 0) (w := 20) ?_).mono (by decide) ?_
    · intro d hd
      obtain ⟨k, hk, rfl⟩ := List.mem_map.mp hd
      have := (ended_at w hk).1
      exact end_bd (by omega)
    · rw [List.length_map]
      have := w.le
      omega
  refine (Bd.tup (k := 3) (w := 10500) (ds := [.tuple (p.1.map proD), .tuple (p.2.map endD)]) ?_).mono (by decide) (by show 2 * 10501 ≤ 21002; decide)
  intro d hd
  simp only [List.mem_cons, List.not_mem_nil, or_false] at hd
  rcases hd with rfl | rfl
  · exact b1
  · exact b2
theorem IpAll.snocI {K : PySem.W.Frag} {H : Hp} : ∀ {us : List V} {ds : List PyData} {d : PyData}, IpAll K H us (ds ++ [d]) → ∃ us' v, us = us' ++ [v] ∧ IpAll K H us' ds ∧ Ip K H v d
  | _, [], d, h => by
    cases h with
    | cons h1 h2 => cases h2; exact ⟨[], _, rfl, .nil, h1⟩
  | _, e :: ds, d, h => by
    cases h with
    | cons h1 h2 =>
      obtain ⟨us', v, rfl, h3, h4⟩ := IpAll.snocI h2
      exact ⟨_ :: us', v, rfl, .cons h1 h3, h4⟩
theorem cutV_but (xs : List V) (v : V) : cutV (xs ++ [v]) none (some (-1)) = xs ∧ HT.sIx (xs ++ [v]).length (xs ++ [v]).length (some (-1)) = xs.length := by
  have e : HT.sIx (xs ++ [v]).length (xs ++ [v]).length (some (-1)) = xs.length := by
    show (if (-1 : Int) < 0 then ((-1 : Int) + ((xs ++ [v]).length : Int)).toNat else min (-1 : Int).toNat (xs ++ [v]).length) = _
    rw [if_pos (by decide), List.length_append]
    show ((-1 : Int) + ((xs.length + 1 : Nat) : Int)).toNat = _
    omega
  refine ⟨?_, e⟩
  unfold cutV
  rw [e, HT.sIx_none, List.drop_zero, Nat.sub_zero, List.take_left' rfl]
theorem nil_eqv (ds : List PyData) : PyData.eqv (.tuple ds) (.tuple []) = ds.isEmpty := by
  cases ds <;> rfl
theorem ok_Family_undo (T : Txt P K mg) {f : Addr} {fd : FuncData} (F : Fun K "undo" "Family.undo" s_Family_undo f fd) : Keeps P w K mg base (L2N.CX P w) 1 f fd ["self"] (sp1x (Φ_Family_undo K mg)) := by
  obtain ⟨C_EmptyHistory, e_EmptyHistory⟩ := T.e_EmptyHistory
  obtain ⟨C_Family, k_Family⟩ := T.k_Family
  have n_Family_present := T.n_Family_present C_Family k_Family.g
  have n_Family_past := T.n_Family_past C_Family k_Family.g
  refine keeps_of F sc_Family_undo (fun vs H Q E h => ?_) (fun cdv A outer s H vs Q E hr h => ?_)
  · obtain ⟨_, rfl, _⟩ := h
    rfl
  obtain ⟨v_self, rfl, h⟩ := h
  have hu := hr.hu
  refine ⟨_, (pss_cons (ps_if (pt_cmpR (oEq (K := K) hr.u65) (pe_fldK (K := K) (pv 0)) (pe_tup pa_nil) (nomark _)) (pss_one (ps_raiseX rfl (takes_of rfl rfl rfl rfl) e_EmptyHistory (by rfl))) pss_nil)
      (pss_cons (ps_fld (pv 0) (pe_ix (ixX (K := K)) (pe_fldK (K := K) (pv 0)) (pe_un un_neg pe_int) (fun _ _ => rfl)) rfl)
      (pss_one (ps_fld (pv 0) (pe_slice (sX (K := K)) (pe_fldK (K := K) (pv 0)) po_none (po_some (pe_un un_neg pe_int))) rfl)))), ?_⟩
  rw [show start ["self"] [v_self] = [some v_self] from rfl]
  try dsimp only [cxOf, Cx.nox, Cx.wish]
  obtain ⟨a, p, past, rfl, fa, hw, hp, q1, q2⟩ := h
  obtain ⟨C, dx, t, u, tr, te, xs, us, o⟩ := fa.op
  cases k_Family.one o.g
  walk_at "rd"
  refine ⟨_, _, _, _, _, rfl, o.o, k_Family.c, n_Family_past, (by walk_at "lk"), ?_⟩
  walk_at "rd"
  intro l hl
  have k1 := (Same.refl H).new (o := .tup []) hl
  have hsh : SeqAt.shaped (.tuple (past.map prsD)) = true := by
    refine (Bd.tup (k := 4) (w := 21002) ?_).shaped (by decide)
    intro d hd
    obtain ⟨x, hx, rfl⟩ := List.mem_map.mp hd
    obtain ⟨n, w, hn⟩ := hw x hx
    exact prs_bd w hn
  refine rd_eqD (.tup (o.su.up (Ty.of k1)) (o.iu.up (Ty.of k1)).to) (.tup (SqT.of upd_same) .nil) hsh (by decide +kernel) ?_
  rw [nil_eqv]
  generalize upd H l (.tup []) = H1 at k1 ⊢
  have o1 := o.same k1
  walk_at "rd"
  rcases List.eq_nil_or_concat past with rfl | ⟨past', p', rfl⟩
  · refine rd_yesI rfl ?_
    walk_at "rd"
    exact q2 rfl _ H1 k1 e_EmptyHistory.g
  · rw [List.concat_eq_append] at q1 hp o1 ⊢
    obtain ⟨us', v, rfl, iu1, iv⟩ := IpAll.snocI (by have := o1.iu; rwa [List.map_append] at this : IpAll K H1 us (past'.map prsD ++ [prsD p']))
    refine rd_noI (by rw [List.map_append]; cases past' <;> rfl) ?_
    walk_at "rd"
    refine ⟨_, _, _, _, _, rfl, o1.o, k_Family.c, n_Family_past, (by walk_at "lk"), ?_⟩
    walk_at "rd"
    refine ⟨1, rfl, ?_⟩
    refine rd_ixT o1.su (atI_last _ _) ?_
    walk_at "rd"
    refine rd_sfld2 (fs' := [("present", v), ("past", .ref u)]) o1.o k_Family.c n_Family_present (by show 2 < 1000; decide) (by walk_at "lk") ?_
    have k2 : Kp a H1 _ := Kp.ins (o := .ins C_Family dx [("present", v), ("past", .ref u)])
    have t2 := k2.tyI o1.o
    have o2 : upd H1 a (.ins C_Family dx [("present", v), ("past", .ref u)]) a = some (.ins C_Family dx [("present", v), ("past", .ref u)]) := upd_same
    generalize upd H1 a (.ins C_Family dx [("present", v), ("past", .ref u)]) = H2 at k2 t2 o2 ⊢
    walk_at "rd"
    refine ⟨_, _, _, _, _, rfl, o2, k_Family.c, n_Family_past, (by walk_at "lk"), ?_⟩
    walk_at "rd"
    refine ⟨1, rfl, ?_⟩
    walk_at "rd"
    refine rd_slT (o1.su.up t2) (fun z => by
      have e := (cutV_but us' v).2
      have := z.2
      rw [e, List.length_append] at this
      simp at this) fun l3 hl3 => ?_
    rw [(cutV_but us' v).1]
    have k3 := (Same.refl H2).new (o := .tup us') hl3
    have s3 : SqT K (upd H2 l3 (.tup us')) l3 us' := SqT.of upd_same
    generalize upd H2 l3 (.tup us') = H3 at k3 s3 ⊢
    have o3 := k3 _ _ o2
    walk_at "rd"
    refine rd_sfld2 (fs' := [("present", v), ("past", .ref l3)]) o3 k_Family.c n_Family_past (by show 2 < 1000; decide) (by walk_at "lk") ?_
    have k4 : Kp a H3 _ := Kp.ins (o := .ins C_Family dx [("present", v), ("past", .ref l3)])
    have t4 := k4.tyI o3
    have t24 := (t2.trans (Ty.of k3)).trans t4
    walk_at "rd"
    exact q1 p' past' rfl _ (((((Kp.of k1).trans k2).trans (Kp.of k3))).trans k4) ⟨C_Family, dx, v, .ref l3, o.g, upd_same, iv.up t24, .tup (s3.up t4) (iu1.up t24)⟩
/-- a new family -/
def newP : Prs := ([(none, .alive)], [])
def Φ_Family___init__ (K : PySem.W.Frag) (mg : Str → Option Value) (vs : V) (H : Hp) (Q : VK) (E : XK) : Prop := ∃ (a C dx : Addr), vs = .ref a ∧ mg "Family" = some (.ref C) ∧ H a = some (.ins C dx []) ∧ ∀ H', Kp a H H' → FamAt K mg H' a newP [] → Q .non H'
theorem ok_Family___init__ (T : Txt P K mg) {f : Addr} {fd : FuncData} (F : Fun K "__init__" "Family.__init__" s_Family___init__ f fd) : Keeps P w K mg base (L2N.CX P w) 1 f fd ["self"] (sp1x (Φ_Family___init__ K mg)) := by
  obtain ⟨C_Family, k_Family⟩ := T.k_Family
  have n_Family_present := T.n_Family_present C_Family k_Family.g
  have n_Family_past := T.n_Family_past C_Family k_Family.g
  obtain ⟨A_ALIVE, t_ALIVE⟩ := T.c_ALIVE
  refine keeps_of F sc_Family___init__ (fun vs H Q E h => ?_) (fun cdv A outer s H vs Q E hr h => ?_)
  · obtain ⟨_, rfl, _⟩ := h
    rfl
  obtain ⟨v_self, rfl, h⟩ := h
  have hu := hr.hu
  refine ⟨_, (pss_cons (ps_fld (pv 0) (pe_tup (pa_cons (pe_tup (pa_cons (pe_tup (pa_cons pe_non (pa_cons (pe_gk (by rfl) t_ALIVE.2) pa_nil))) pa_nil)) (pa_cons (pe_tup pa_nil) pa_nil))) rfl)
      (pss_one (ps_fld (pv 0) (pe_tup pa_nil) rfl))), ?_⟩
  rw [show start ["self"] [v_self] = [some v_self] from rfl]
  try dsimp only [cxOf, Cx.nox, Cx.wish]
  obtain ⟨a, C, dx, rfl, hg, ha, q⟩ := h
  cases k_Family.one hg
  walk_at "rd"
  intro l1 hl1
  have k1 := (Same.refl H).new (o := .tup [.non, .ref A_ALIVE]) hl1
  have s1 : SqT K (upd H l1 (.tup [.non, .ref A_ALIVE])) l1 [.non, .ref A_ALIVE] := SqT.of upd_same
  generalize upd H l1 (.tup [.non, .ref A_ALIVE]) = H1 at k1 s1 ⊢
  walk_at "rd"
  intro l2 hl2
  have k2 := (Same.refl H1).new (o := .tup [.ref l1]) hl2
  have s2 : SqT K (upd H1 l2 (.tup [.ref l1])) l2 [.ref l1] := SqT.of upd_same
  generalize upd H1 l2 (.tup [.ref l1]) = H2 at k2 s2 ⊢
  walk_at "rd"
  intro l3 hl3
  have k3 := (Same.refl H2).new (o := .tup []) hl3
  have s3 : SqT K (upd H2 l3 (.tup [])) l3 [] := SqT.of upd_same
  generalize upd H2 l3 (.tup []) = H3 at k3 s3 ⊢
  walk_at "rd"
  intro l4 hl4
  have k4 := (Same.refl H3).new (o := .tup [.ref l2, .ref l3]) hl4
  have s4 : SqT K (upd H3 l4 (.tup [.ref l2, .ref l3])) l4 [.ref l2, .ref l3] := SqT.of upd_same
  generalize upd H3 l4 (.tup [.ref l2, .ref l3]) = H4 at k4 s4 ⊢
  have k04 := ((k1.trans k2).trans k3).trans k4
  have a4 := k04 _ _ ha
  walk_at "rd"
  refine rd_sfld2 (fs' := [("present", .ref l4)]) a4 k_Family.c n_Family_present (by show 0 < 1000; decide) (by walk_at "lk") ?_
  have k5 : Kp a H4 _ := Kp.ins (o := .ins C_Family dx [("present", .ref l4)])
  have t5 := k5.tyI a4
  have a5 : upd H4 a (.ins C_Family dx [("present", .ref l4)]) a = some (.ins C_Family dx [("present", .ref l4)]) := upd_same
  generalize upd H4 a (.ins C_Family dx [("present", .ref l4)]) = H5 at k5 t5 a5 ⊢
  walk_at "rd"
  intro l6 hl6
  have k6 := (Same.refl H5).new (o := .tup []) hl6
  have s6 : SqT K (upd H5 l6 (.tup [])) l6 [] := SqT.of upd_same
  generalize upd H5 l6 (.tup []) = H6 at k6 s6 ⊢
  have a6 := k6 _ _ a5
  walk_at "rd"
  refine rd_sfld2 (fs' := [("present", .ref l4), ("past", .ref l6)]) a6 k_Family.c n_Family_past (by show 1 < 1000; decide) (by walk_at "lk") ?_
  have k7 : Kp a H6 _ := Kp.ins (o := .ins C_Family dx [("present", .ref l4), ("past", .ref l6)])
  have t7 := k7.tyI a6
  have t47 := (t5.trans (Ty.of k6)).trans t7
  have t37 := (Ty.of k4).trans t47
  have t27 := (Ty.of k3).trans t37
  have t17 := (Ty.of k2).trans t27
  walk_at "rd"
  exact q _ ((((Kp.of k04).trans k5).trans (Kp.of k6)).trans k7) ⟨C_Family, dx, _, _, hg, upd_same,
    .mk2 (s4.up t47) (.mk1 (s2.up t27) (.mk2 (s1.up t17) .non (.tup t_ALIVE.1.sq (.cons (.str _) .nil)))) (.tup (s3.up t37) .nil), .tup (s6.up t7) .nil⟩



/-! ### all stays but what stands at some addresses -/
def KpS (S : List Addr) (H H' : Hp) : Prop := ∀ b o, b ∉ S → H b = some o → H' b = some o
theorem KpS.refl (S : List Addr) (H : Hp) : KpS S H H := fun _ _ _ h => h
theorem KpS.trans {S : List Addr} {A B C : Hp} (h : KpS S A B) (k : KpS S B C) : KpS S A C := fun b o n e => k b o n (h b o n e)
theorem KpS.of {S : List Addr} {A B : Hp} (h : Same A B) : KpS S A B := fun b o _ e => h b o e
theorem KpS.up {S : List Addr} {A : Hp} {p : Addr} {o : HO} (h : p ∈ S) : KpS S A (upd A p o) := fun b u n e => by rw [upd_ne (fun z : b = p => n (by rw [z]; exact h))]; exact e
theorem KpS.mono {S T : List Addr} {A B : Hp} (h : KpS S A B) (l : ∀ x ∈ S, x ∈ T) : KpS T A B := fun b o n e => h b o (fun z => n (l b z)) e
theorem KpS.kp {d : Addr} {A B : Hp} (h : Kp d A B) {S : List Addr} (m : d ∈ S) : KpS S A B := fun b o n e => h b o (fun z => n (z ▸ m)) e
theorem KpS.same {S : List Addr} {A B : Hp} (h : KpS S A B) (f : ∀ x ∈ S, A x = none) : Same A B := fun b o e => h b o (fun z => by rw [f b z] at e; cases e) e
theorem KpS.ty {S : List Addr} {A B : Hp} (h : KpS S A B) (f : ∀ x ∈ S, ∀ u, A x = some u → (∀ xs, u ≠ .tup xs) ∧ ∀ ob xs, u ≠ .frz ob (.tup xs)) : Ty A B :=
  ⟨fun b xs e => h b _ (fun z => (f b z _ e).1 xs rfl) e, fun b o xs e => h b _ (fun z => (f b z _ e).2 o xs rfl) e⟩
/-- lists are no tuples -/
theorem lst_noT {u : HO} {ys : List V} (h : u = .lst ys) : (∀ xs, u ≠ .tup xs) ∧ ∀ ob xs, u ≠ .frz ob (.tup xs) := by
  subst h
  exact ⟨(fun _ z => nomatch z), fun _ _ z => nomatch z⟩
/-! ### data with lists, apart from one address -/
mutual
theorem dp_same {K : PySem.W.Frag} {H H' : Hp} (e : Same H H') : ∀ (d : PyData) (v : V), Dp K H v d → Dp K H' v d
  | .none, _, h => by cases h; exact .non
  | .bool b, _, h => by cases h; exact .bl b
  | .int i, _, h => by cases h; exact .int i
  | .str x, _, h => by cases h; exact .str x
  | .tuple ds, _, h => by
    cases h with
    | tup h1 h2 => exact .tup (sm_tup e h1) (dpAll_same e ds _ h2)
  | .list ds, _, h => by
    cases h with
    | lst h1 h2 => exact .lst (e.seq h1) (dpAll_same e ds _ h2)
  | .dict ds, _, h => by cases h
theorem dpAll_same {K : PySem.W.Frag} {H H' : Hp} (e : Same H H') : ∀ (ds : List PyData) (vs : List V), DpAll K H vs ds → DpAll K H' vs ds
  | [], _, h => by cases h; exact .nil
  | d :: ds, _, h => by
    cases h with
    | cons h1 h2 => exact .cons (dp_same e d _ h1) (dpAll_same e ds _ h2)
end
theorem dpAll_snoc {K : PySem.W.Frag} {H : Hp} : ∀ {vs : List V} {v : V} {ds : List PyData} {d : PyData}, DpAll K H vs ds → Dp K H v d → DpAll K H (vs ++ [v]) (ds ++ [d])
  | _, _, [], _, h, k => by cases h; exact .cons k .nil
  | _, _, _ :: _, _, h, k => by
    cases h with
    | cons h1 h2 => exact .cons h1 (dpAll_snoc h2 k)
theorem dpAll_len {K : PySem.W.Frag} {H : Hp} : ∀ {vs : List V} {ds : List PyData}, DpAll K H vs ds → vs.length = ds.length
  | _, [], h => by cases h; rfl
  | _, d :: ds, h => by
    cases h with
    | cons _ h2 => rw [List.length_cons, List.length_cons, dpAll_len h2]
theorem dpAll_get {K : PySem.W.Frag} {H : Hp} : ∀ {vs : List V} {ds : List PyData} {i : Nat} {d : PyData}, DpAll K H vs ds → ds[i]? = some d → ∃ v, vs[i]? = some v ∧ Dp K H v d
  | _, [], i, _, h, e => by simp at e
  | _, d :: ds, 0, _, h, e => by
    cases h with
    | cons h1 h2 => cases e; exact ⟨_, rfl, h1⟩
  | _, d :: ds, i + 1, _, h, e => by
    cases h with
    | cons h1 h2 => exact dpAll_get (i := i) h2 e
def era (D : Addr) (H : Hp) : Hp := fun b => if b = D then none else H b
theorem era_sub (D : Addr) (H : Hp) : Same (era D H) H := fun b o e => by
  unfold era at e
  split at e
  · cases e
  · exact e
theorem era_ne {D b : Addr} {H : Hp} (h : b ≠ D) : era D H b = H b := if_neg h
theorem era_up {D : Addr} {H : Hp} {o : HO} : era D (upd H D o) = era D H := by
  funext b
  unfold era
  split
  · rfl
  · rename_i h
    rw [upd_ne h]
theorem era_same {D : Addr} {H H' : Hp} (h : Same H H') : Same (era D H) (era D H') := fun b o e => by
  unfold era at e ⊢
  split at e
  · cases e
  · rename_i n
    rw [if_neg n]
    exact h b o e
theorem era_from {D : Addr} {H H' : Hp} (h : Same H H') (n : H D = none) : Same H (era D H') := fun b o e => by
  rw [era_ne (fun z => by rw [z, n] at e; cases e)]
  exact h b o e
section
variable {K : PySem.W.Frag} {H : Hp} {σ : St} {vs : List Nat} {g : TG} {tt : TT} {te : TE} {Q : VK} {a : Addr} {xs : List V}
/-- [.. for i in range(n)], the items data -/
theorem rd_dpR {n : Int} {out : Nat → PyData} (b0 : 0 ≤ n) (b1 : n ≤ 1000000)
    (t : ∀ (D : Addr) (i : Nat) (H1 : Hp) (N : Hp → Prop), H D = none → (i : Int) < n → Same H H1 → (∃ ws, H1 D = some (.lst ws)) → (∀ v H2, Same H1 H2 → Dp K (era D H2) v (out i) → ∃ acc, H2 D = some (.lst acc) ∧ acc.length < sizeLine ∧ N (upd H2 D (.lst (acc ++ [v])))) → LcT g tt te vs σ D N (.int (i : Int)) H1)
    (hd : ∀ D H' ys, H D = none → Same H H' → H' D = some (.lst ys) → DpAll K H' ys ((List.range n.toNat).map out) → Q (.ref D) H') : ∃ j : Int, [V.int n] = [.int j] ∧ -(2 ^ 62) ≤ j ∧ j < 2 ^ 62 ∧ LcW (Itr 0 j.toNat) g tt te vs σ H Q := by
  refine rd_clR (by omega) (by omega) (fun D i H' => Same H H' ∧ i ≤ n.toNat ∧ ∃ ys, H' D = some (.lst ys) ∧ DpAll K (era D H') ys ((List.range i).map out)) (fun D hD => ⟨(Same.refl H).new (o := .lst []) hD, Nat.zero_le _, [], upd_same, .nil⟩) (fun D i H' hD hi hP => ?_) (fun D H' hD hP => ?_)
  · obtain ⟨k, hl, ys, hys, dp⟩ := hP
    refine t D i H' _ hD hi k ⟨_, hys⟩ fun v H2 k2 dv => ⟨ys, k2 _ _ hys, szLt (by rw [dpAll_len dp, List.length_map, List.length_range]; omega), (k.trans k2).put hD, by omega, ys ++ [v], upd_same, ?_⟩
    rw [era_up, List.range_succ, List.map_append]
    exact dpAll_snoc (dpAll_same (era_same k2) _ _ dp) dv
  · obtain ⟨k, hl, ys, hys, dp⟩ := hP
    exact hd D H' ys hD k hys (dpAll_same (era_sub D H') _ _ dp)
end
theorem rd_popL {H : Hp} {Q : VK} {l : Addr} {xs : List V} {y : V} (h : H l = some (.lst (xs ++ [y]))) (q : Q y (upd H l (.lst xs))) : rPop (.ref l) [] H Q :=
  ⟨l, xs ++ [y], y, rfl, rfl, h, by rw [List.length_append, List.getElem?_append_right (by show xs.length ≤ xs.length + 1 - 1; omega)]; simp, by rw [List.dropLast_concat]; exact q⟩
theorem dp_list {K : PySem.W.Frag} {H : Hp} {v : V} {ds : List PyData} (h : Dp K H v (.list ds)) : ∃ a xs, v = .ref a ∧ SqL K H a xs ∧ DpAll K H xs ds := by
  cases h with
  | lst h1 h2 => exact ⟨_, _, rfl, h1, h2⟩

def seenRow (p : Prs) (k : Nat) : PyData := .list [staD (staOf p k), parD (parOf p k), .list ((kidsOf p k).map endD)]
def seenD (p : Prs) (many : Nat) : PyData := .list [.list ((List.range many).map (seenRow p)), .list (p.2.map endD)]
theorem dp_ends {K : PySem.W.Frag} {H : Hp} : ∀ ks : List Nat, DpAll K H (ks.map eV) (ks.map endD)
  | [] => .nil
  | k :: ks => .cons (.int _) (dp_ends ks)
theorem dp_parV {K : PySem.W.Frag} {H : Hp} {o : Option Nat} : Dp K H (parV o) (parD o) := by
  cases o with
  | none => exact .non
  | some p => exact .int _
theorem era_ty {D : Addr} {H : Hp} {xs : List V} (h : H D = some (.lst xs)) : Ty H (era D H) :=
  ⟨fun b ys e => by rw [era_ne (fun z => by rw [z, h] at e; cases e)]; exact e, fun b o ys e => by rw [era_ne (fun z => by rw [z, h] at e; cases e)]; exact e⟩
def Φ_law_family_seen (K : PySem.W.Frag) (mg : Str → Option Value) (vf vm : V) (H : Hp) (Q : VK) : Prop := ∃ (a : Addr) (p : Prs) (past : List Prs) (many : Nat), vf = .ref a ∧ FamAt K mg H a p past ∧ p.1.length ≤ 41 ∧ vm = .int (many : Int) ∧ many ≤ p.1.length ∧
  ∀ v H', Same H H' → Dp K H' v (seenD p many) → Q v H'
theorem ok_law_family_seen (T : Txt P K mg) {f : Addr} {fd : FuncData} (F : Fun K "_law_family_seen" "_law_family_seen" s_law_family_seen f fd) : Keeps P w K mg base CX0 4 f fd ["family", "many"] (sp2 (Φ_law_family_seen K mg)) := by
  obtain ⟨C_Family, k_Family⟩ := T.k_Family
  have n_Family_present := T.n_Family_present C_Family k_Family.g
  have n_Family_past := T.n_Family_past C_Family k_Family.g
  have c_Family_ended := met (P := P) (w := w) (base := base) (T.d_Family_ended C_Family k_Family.g) fun F => ok_Family_ended T F
  have c_Family_status := met (P := P) (w := w) (base := base) (T.d_Family_status C_Family k_Family.g) fun F => ok_Family_status T F
  have c_Family_parent := met (P := P) (w := w) (base := base) (T.d_Family_parent C_Family k_Family.g) fun F => ok_Family_parent T F
  have c_Family_children := met (P := P) (w := w) (base := base) (T.d_Family_children C_Family k_Family.g) fun F => ok_Family_children T F
  refine keeps0_of F sc_law_family_seen (fun vs H Q E h => ?_) (fun cdv A outer s H vs Q E hr h => ?_)
  · obtain ⟨_, _, rfl, _⟩ := h
    rfl
  obtain ⟨v_family, v_many, rfl, h⟩ := h
  have hu := hr.hu
  refine ⟨_, (pss_cons (ps_setLc (i := 2) (own := [("p", 3)]) rfl sc_law_family_seen.nd rfl rfl (sw_true rfl rfl rfl (by decide +kernel)) (pi_range1 (by rfl) T.b_range (pa_cons (pv 1) pa_nil)) (blkOk_by (own := [("p", 3)]) (N := ["family", "many", "rows", "p"]) (sc := defScope s_law_family_seen) (by decide +kernel)) (fun _ _ _ _ _ => pg_name (i := 3) sc_law_family_seen.nd rfl (by first | exact Or.inl rfl | exact Or.inr rfl)) (fun _ _ _ _ _ => pts_nil) (fun _ _ _ _ _ => (pe_lst (pa_cons (pe_metS (pv 0) k_Family.c c_Family_status (hr.mono (by decide)) (fun σ => passE0 σ) (pa_cons (pv 3) pa_nil)) (pa_cons (pe_metS (pv 0) k_Family.c c_Family_parent (hr.mono (by decide)) (fun σ => passE0 σ) (pa_cons (pv 3) pa_nil)) (pa_cons (pe_metS (pv 0) k_Family.c c_Family_children (hr.mono (by decide)) (fun σ => passE0 σ) (pa_cons (pv 3) pa_nil)) pa_nil))))))
      (pss_one (ps_ret (pe_lst (pa_cons (pv 2) (pa_cons (pe_metS0 (pv 0) k_Family.c c_Family_ended (hr.mono (by decide)) (fun σ => passAt takes_none5 σ)) pa_nil)))))), ?_⟩
  rw [show start ["family", "many", "rows", "p"] [v_family, v_many] = [some v_family, some v_many, none, none] from rfl]
  try dsimp only [cxOf, Cx.nox, Cx.wish]
  obtain ⟨a, p, past, many, rfl, fa, l1, rfl, hm, q⟩ := h
  obtain ⟨C, dx, t, u, tr, te, xs, us, o⟩ := fa.op
  cases k_Family.one o.g
  walk_at "rd"
  refine rd_dpR (K := K) (out := seenRow p) (by omega) (by omega) ?_ ?_
  · rintro D i H1 N hD hi k1 ⟨oD, hoD⟩ hyes
    have hip : prOf p (.int (i : Int)) = some i := prOf_nat (by omega)
    have fl : Fl (.int (i : Int)) := .inr (.inr (.inl ⟨_, rfl⟩))
    have o1 := o.same k1
    walk_at "rd"
    refine ⟨_, _, _, rfl, o1.o, (by walk_at "lk"), ?_⟩
    walk_at "rd"
    refine ⟨a, p, past, rfl, o1.at, fl, l1, fun r hr v H2 k2 iv => ?_, fun e => absurd (hip.symm.trans e) (fun z => nomatch z)⟩
    obtain rfl := Option.some.inj (hip.symm.trans hr)
    have o2 := o1.same k2
    walk_at "rd"
    refine ⟨_, _, _, rfl, o2.o, (by walk_at "lk"), ?_⟩
    walk_at "rd"
    refine ⟨a, p, past, rfl, o2.at, fl, l1, fun r hr H3 k3 => ?_, fun e => absurd (hip.symm.trans e) (fun z => nomatch z)⟩
    obtain rfl := Option.some.inj (hip.symm.trans hr)
    have o3 := o2.same k3
    walk_at "rd"
    refine ⟨_, _, _, rfl, o3.o, (by walk_at "lk"), ?_⟩
    walk_at "rd"
    refine ⟨a, p, past, rfl, o3.at, fl, l1, fun r hr c H4 k4 hc hc4 => ?_, fun e => absurd (hip.symm.trans e) (fun z => nomatch z)⟩
    obtain rfl := Option.some.inj (hip.symm.trans hr)
    walk_at "rd"
    intro b hb
    have k5 := (Same.refl H4).new (o := .lst [v, parV (parOf p i), .ref c]) hb
    have k14 := (k2.trans k3).trans k4
    refine hyes _ _ (k14.trans k5) ?_
    have hD4 := k14 _ _ hoD
    have nbD : b ≠ D := fun z => by rw [z, hD4] at hb; cases hb
    have ncD : c ≠ D := fun z => by rw [z, (k2.trans k3) _ _ hoD] at hc; cases hc
    have tyE : Ty (upd H4 b (.lst [v, parV (parOf p i), .ref c])) (era D (upd H4 b (.lst [v, parV (parOf p i), .ref c]))) := era_ty (k5 _ _ (k14 _ _ hoD))
    refine .lst (SqL.of (by rw [era_ne nbD]; exact upd_same)) (.cons ((iv.up (Ty.of ((k3.trans k4).trans k5))).up tyE).to (.cons dp_parV (.cons (.lst (SqL.of (by rw [era_ne ncD]; exact k5 _ _ hc4)) (dp_ends _)) .nil)))
  · intro D H1 ys hD k1 hys dys
    have o1 := o.same k1
    rw [Int.toNat_natCast] at dys
    walk_at "rd"
    refine ⟨_, _, _, rfl, o1.o, (by walk_at "lk"), ?_⟩
    walk_at "rd"
    refine ⟨a, p, past, rfl, o1.at, fun c H2 k2 hc hc2 => ?_⟩
    walk_at "rd"
    intro b hb
    have k3 := (Same.refl H2).new (o := .lst [.ref D, .ref c]) hb
    refine q _ _ ((k1.trans k2).trans k3) (.lst (SqL.of upd_same) (.cons (.lst (SqL.of (k3 _ _ (k2 _ _ hys))) (dpAll_same (k2.trans k3) _ _ dys)) (.cons (.lst (SqL.of (k3 _ _ hc2)) (dp_ends _)) .nil)))

/-! ### bounds of what is shown -/
theorem num_bd {o : Option Nat} (h : ∀ k, o = some k → k ≤ 1000) : Bd 0 20 (parD o) := by
  cases o with
  | none => exact Bd.non.mono (by decide) (by decide)
  | some k => exact Bd.int (by have := h k rfl; omega)
theorem str_bd {x : Str} (h : (x.cps.all (· < 0x110000)) = true) (l : x.length ≤ 20) : Bd 0 20 (.str x) := ⟨h, Nat.le_refl _, l⟩
theorem one_bd {x : Str} (h : (x.cps.all (· < 0x110000)) = true) (l : x.length ≤ 20) : Bd 1 63 (.tuple [.str x]) := by
  refine (Bd.tup (k := 0) (w := 20) (ds := [.str x]) ?_).mono (by decide) (by show 1 * 21 ≤ 63; decide)
  intro d hd
  rw [List.mem_singleton.mp hd]
  exact str_bd h l
theorem sta_bd {st : Sta} (h : ∀ k, st = .ended k → k ≤ 255) : Bd 1 63 (staD st) := by
  cases st with
  | alive => exact one_bd (by decide +kernel) (by decide +kernel)
  | gone => exact one_bd (by decide +kernel) (by decide +kernel)
  | ended k =>
    refine (Bd.tup (k := 0) (w := 20) (ds := [.str "ended", .int (k : Int)]) ?_).mono (by decide) (by show 2 * 21 ≤ 63; decide)
    intro d hd
    simp only [List.mem_cons, List.not_mem_nil, or_false] at hd
    rcases hd with rfl | rfl
    · exact str_bd (by decide +kernel) (by decide +kernel)
    · exact Bd.int (by have := h k rfl; omega)
theorem ends_bd {ks : List Nat} {n : Nat} (h : ∀ k ∈ ks, k ≤ 1000) (l : ks.length ≤ n) : Bd 1 (n * 21) (.list (ks.map endD)) := by
  refine (Bd.lst (k := 0) (w := 20) ?_).mono (by decide) ?_
  · intro d hd
    obtain ⟨k, hk, rfl⟩ := List.mem_map.mp hd
    exact Bd.int (by have := h k hk; omega)
  · rw [List.length_map]
    exact Nat.mul_le_mul_right _ l
theorem row_bd {n : Nat} {p : Prs} (w : Wp n p) {k : Nat} (hk : k < p.1.length) : Bd 2 2586 (seenRow p k) := by
  have l1 := w.l1
  have mem : (parOf p k, staOf p k) ∈ p.1 := List.mem_of_getElem? (at_row hk)
  refine (Bd.lst (k := 1) (w := 861) (ds := [staD (staOf p k), parD (parOf p k), .list ((kidsOf p k).map endD)]) ?_).mono (by decide) (by show 3 * 862 ≤ 2586; decide)
  intro d hd
  simp only [List.mem_cons, List.not_mem_nil, or_false] at hd
  rcases hd with rfl | rfl | rfl
  · exact (sta_bd fun m hm => w.num _ mem m hm).mono (by decide) (by decide)
  · exact (num_bd fun m hm => by have := w.par _ mem m hm; omega).mono (by decide) (by decide)
  · refine ends_bd (n := 41) (fun m hm => ?_) ?_
    · have := List.mem_range.mp (List.mem_filter.mp hm).1
      omega
    · exact Nat.le_trans (kids_len p k) l1
theorem seen_shows {n many : Nat} {p : Prs} (w : Wp n p) (hn : n ≤ 500) (hm : many ≤ p.1.length) : Shows (seenD p many) := by
  have l1 := w.l1
  refine Bd.shows (k := 4) (w := 400000) ((Bd.lst (k := 3) (w := 106067) (ds := [.list ((List.range many).map (seenRow p)), .list (p.2.map endD)]) ?_).mono (by decide) (by show 2 * 106068 ≤ 400000; decide)) (by decide) (by decide)
  intro d hd
  simp only [List.mem_cons, List.not_mem_nil, or_false] at hd
  rcases hd with rfl | rfl
  · refine (Bd.lst (k := 2) (w := 2586) ?_).mono (by decide) ?_
    · intro d hd
      obtain ⟨k, hk, rfl⟩ := List.mem_map.mp hd
      exact row_bd w (by have := List.mem_range.mp hk; omega)
    · rw [List.length_map, List.length_range]
      have : many * (2586 + 1) ≤ 41 * (2586 + 1) := Nat.mul_le_mul_right _ (by omega)
      omega
  · refine (ends_bd (n := 500) (fun m hm => ?_) (Nat.le_trans w.le hn)).mono (by decide) (by decide)
    have := (ended_at w hm).1
    omega

/-- the error of a call, or what it comes to -/
def callF (way : Nat) (p : Prs) (v u : V) : FOut := match way with
  | 0 => forkR p v
  | 1 => endR p v u
  | 2 => waitR p v
  | 3 => waitForR p v u
  | 7 => .inl .empty
  | _ => needPr p v fun _ => .inr (none, .none)
def Φ_law_call (K : PySem.W.Frag) (mg : Str → Option Value) (vf vw v1 v2 : V) (H : Hp) (Q : VK) (E : XK) : Prop := ∃ (a : Addr) (p : Prs) (past : List Prs) (n way : Nat), fPre K mg vf a p past n H ∧ vw = .int (way : Int) ∧ way ≤ 7 ∧ (way = 7 → past = []) ∧ Fl v1 ∧ Fl v2 ∧
  (∀ d, callF way p v1 v2 = .inr (none, d) → ∀ H', Same H H' → Q .non H') ∧
  (∀ p' d, callF way p v1 v2 = .inr (some p', d) → ∀ H', Kp a H H' → FamAt K mg H' a p' (past ++ [p]) → Q .non H') ∧
  ∀ e, callF way p v1 v2 = .inl e → ∀ C dd H', Same H H' → mg e.nm = some (.ref C) → e.At H' dd → E (.ref C) dd H'
theorem ok_law_call (T : Txt P K mg) {f : Addr} {fd : FuncData} (F : Fun K "_law_call" "_law_call" s_law_call f fd) : Keeps P w K mg base (L2N.CX P w) 4 f fd ["family", "way", "one", "two"] (sp4x (Φ_law_call K mg)) := by
  obtain ⟨C_Family, k_Family⟩ := T.k_Family
  have n_Family_present := T.n_Family_present C_Family k_Family.g
  have n_Family_past := T.n_Family_past C_Family k_Family.g
  have c_Family_fork := met (P := P) (w := w) (base := base) (T.d_Family_fork C_Family k_Family.g) fun F => ok_Family_fork T F
  have c_Family_end := met (P := P) (w := w) (base := base) (T.d_Family_end C_Family k_Family.g) fun F => ok_Family_end T F
  have c_Family_wait := met (P := P) (w := w) (base := base) (T.d_Family_wait C_Family k_Family.g) fun F => ok_Family_wait T F
  have c_Family_wait_for := met (P := P) (w := w) (base := base) (T.d_Family_wait_for C_Family k_Family.g) fun F => ok_Family_wait_for T F
  have c_Family_children := met (P := P) (w := w) (base := base) (T.d_Family_children C_Family k_Family.g) fun F => ok_Family_children T F
  have c_Family_parent := met (P := P) (w := w) (base := base) (T.d_Family_parent C_Family k_Family.g) fun F => ok_Family_parent T F
  have c_Family_status := met (P := P) (w := w) (base := base) (T.d_Family_status C_Family k_Family.g) fun F => ok_Family_status T F
  have c_Family_undo := met (P := P) (w := w) (base := base) (T.d_Family_undo C_Family k_Family.g) fun F => ok_Family_undo T F
  refine keeps_of F sc_law_call (fun vs H Q E h => ?_) (fun cdv A outer s H vs Q E hr h => ?_)
  · obtain ⟨_, _, _, _, rfl, _⟩ := h
    rfl
  obtain ⟨v_family, v_way, v_one, v_two, rfl, h⟩ := h
  have hu := hr.hu
  refine ⟨_, (pss_one (ps_if (pt_cmpR (oEq (K := K) hr.u65) (pv 1) pe_int (nomark _)) (pss_one (ps_expr (pe_metS (pv 0) k_Family.c c_Family_fork (hr.mono (by decide)) (fun σ => passAt (takes_of rfl rfl rfl rfl) σ) (pa_cons (pv 2) pa_nil)))) (pss_one (ps_if (pt_cmpR (oEq (K := K) hr.u65) (pv 1) pe_int (nomark _)) (pss_one (ps_expr (pe_metS (pv 0) k_Family.c c_Family_end (hr.mono (by decide)) (fun σ => passAt (takes_of rfl rfl rfl rfl) σ) (pa_cons (pv 2) (pa_cons (pv 3) pa_nil))))) (pss_one (ps_if (pt_cmpR (oEq (K := K) hr.u65) (pv 1) pe_int (nomark _)) (pss_one (ps_expr (pe_metK0S (ks := ["process"]) (pm := [0]) (pv 0) k_Family.c c_Family_wait (hr.mono (by decide)) (fun _ _ _ _ _ _ us ws h1 h2 => match us, ws, h1, h2 with | [_], [_], _, _ => rfl) (fun σ => passAt (takes_of rfl rfl rfl rfl) σ) (pk_cons (pv 2) pk_nil)))) (pss_one (ps_if (pt_cmpR (oEq (K := K) hr.u65) (pv 1) pe_int (nomark _)) (pss_one (ps_expr (pe_metK0S (ks := ["child", "process"]) (pm := [1, 0]) (pv 0) k_Family.c c_Family_wait_for (hr.mono (by decide)) (fun _ _ _ _ _ _ us ws h1 h2 => match us, ws, h1, h2 with | [_], [_, _], _, _ => rfl) (fun σ => passAt (takes_of rfl rfl rfl rfl) σ) (pk_cons (pv 3) (pk_cons (pv 2) pk_nil))))) (pss_one (ps_if (pt_cmpR (oEq (K := K) hr.u65) (pv 1) pe_int (nomark _)) (pss_one (ps_expr (pe_metS (pv 0) k_Family.c c_Family_children (hr.mono (by decide)) (fun σ => passAt (takes_of rfl rfl rfl rfl) σ) (pa_cons (pv 2) pa_nil)))) (pss_one (ps_if (pt_cmpR (oEq (K := K) hr.u65) (pv 1) pe_int (nomark _)) (pss_one (ps_expr (pe_metS (pv 0) k_Family.c c_Family_parent (hr.mono (by decide)) (fun σ => passAt (takes_of rfl rfl rfl rfl) σ) (pa_cons (pv 2) pa_nil)))) (pss_one (ps_if (pt_cmpR (oEq (K := K) hr.u65) (pv 1) pe_int (nomark _)) (pss_one (ps_expr (pe_metS (pv 0) k_Family.c c_Family_status (hr.mono (by decide)) (fun σ => passAt (takes_of rfl rfl rfl rfl) σ) (pa_cons (pv 2) pa_nil)))) (pss_one (ps_expr (pe_metS0 (pv 0) k_Family.c c_Family_undo (hr.mono (by decide)) (fun σ => passAt (takes_of rfl rfl rfl rfl) σ)))))))))))))))))), ?_⟩
  rw [show start ["family", "way", "one", "two"] [v_family, v_way, v_one, v_two] = [some v_family, some v_way, some v_one, some v_two] from rfl]
  try dsimp only [cxOf, Cx.nox, Cx.wish]
  obtain ⟨a, p, past, n, way, ⟨rfl, fa, wp, hn, hp⟩, rfl, hw, h7, f1, f2, q1, q2, q3⟩ := h
  have l1 := wp.l1
  obtain ⟨C, dx, t, u, tr, te, xs, us, o⟩ := fa.op
  cases k_Family.one o.g
  have pre : fPre K mg (.ref a) a p past n H := ⟨rfl, fa, wp, hn, hp⟩
  walk_at "rd"
  rcases (show way = 0 ∨ way = 1 ∨ way = 2 ∨ way = 3 ∨ way = 4 ∨ way = 5 ∨ way = 6 ∨ way = 7 by omega) with rfl | rfl | rfl | rfl | rfl | rfl | rfl | rfl
  · refine rd_yesI (by decide) ?_
    walk_at "rd"
    refine ⟨_, _, _, rfl, o.o, (by walk_at "lk"), ?_⟩
    walk_at "rd"
    exact ⟨a, p, past, n, pre, f1, ⟨fun d e v H' k i => q1 d e H' k, fun p' d e v H' k f i => q2 p' d e H' k f, fun e h C dd H' k g x => q3 e h C dd H' k g x⟩⟩
  · refine rd_noI (by decide) ?_
    walk_at "rd"
    refine rd_yesI (by decide) ?_
    walk_at "rd"
    refine ⟨_, _, _, rfl, o.o, (by walk_at "lk"), ?_⟩
    walk_at "rd"
    exact ⟨a, p, past, n, pre, f1, f2, ⟨fun d e v H' k i => q1 d e H' k, fun p' d e v H' k f i => q2 p' d e H' k f, fun e h C dd H' k g x => q3 e h C dd H' k g x⟩⟩
  · refine rd_noI (by decide) ?_
    walk_at "rd"
    refine rd_noI (by decide) ?_
    walk_at "rd"
    refine rd_yesI (by decide) ?_
    walk_at "rd"
    refine ⟨_, _, _, rfl, o.o, (by walk_at "lk"), ?_⟩
    walk_at "rd"
    exact ⟨rfl, rfl, _, _, rfl, a, p, past, n, pre, f1, ⟨fun d e v H' k i => q1 d e H' k, fun p' d e v H' k f i => q2 p' d e H' k f, fun e h C dd H' k g x => q3 e h C dd H' k g x⟩⟩
  · refine rd_noI (by decide) ?_
    walk_at "rd"
    refine rd_noI (by decide) ?_
    walk_at "rd"
    refine rd_noI (by decide) ?_
    walk_at "rd"
    refine rd_yesI (by decide) ?_
    walk_at "rd"
    refine ⟨_, _, _, rfl, o.o, (by walk_at "lk"), ?_⟩
    walk_at "rd"
    exact ⟨rfl, rfl, _, _, _, rfl, a, p, past, n, pre, f1, f2, ⟨fun d e v H' k i => q1 d e H' k, fun p' d e v H' k f i => q2 p' d e H' k f, fun e h C dd H' k g x => q3 e h C dd H' k g x⟩⟩
  · refine rd_noI (by decide) ?_
    walk_at "rd"
    refine rd_noI (by decide) ?_
    walk_at "rd"
    refine rd_noI (by decide) ?_
    walk_at "rd"
    refine rd_noI (by decide) ?_
    walk_at "rd"
    refine rd_yesI (by decide) ?_
    walk_at "rd"
    refine ⟨_, _, _, rfl, o.o, (by walk_at "lk"), ?_⟩
    walk_at "rd"
    exact ⟨a, p, past, rfl, fa, f1, l1, fun r e l H' k _ _ => q1 _ (needPr_some e) H' k, fun e C H' k g => q3 .process (needPr_none e) C none H' k g rfl⟩
  · refine rd_noI (by decide) ?_
    walk_at "rd"
    refine rd_noI (by decide) ?_
    walk_at "rd"
    refine rd_noI (by decide) ?_
    walk_at "rd"
    refine rd_noI (by decide) ?_
    walk_at "rd"
    refine rd_noI (by decide) ?_
    walk_at "rd"
    refine rd_yesI (by decide) ?_
    walk_at "rd"
    refine ⟨_, _, _, rfl, o.o, (by walk_at "lk"), ?_⟩
    walk_at "rd"
    exact ⟨a, p, past, rfl, fa, f1, l1, fun r e H' k => q1 _ (needPr_some e) H' k, fun e C H' k g => q3 .process (needPr_none e) C none H' k g rfl⟩
  · refine rd_noI (by decide) ?_
    walk_at "rd"
    refine rd_noI (by decide) ?_
    walk_at "rd"
    refine rd_noI (by decide) ?_
    walk_at "rd"
    refine rd_noI (by decide) ?_
    walk_at "rd"
    refine rd_noI (by decide) ?_
    walk_at "rd"
    refine rd_noI (by decide) ?_
    walk_at "rd"
    refine rd_yesI (by decide) ?_
    walk_at "rd"
    refine ⟨_, _, _, rfl, o.o, (by walk_at "lk"), ?_⟩
    walk_at "rd"
    exact ⟨a, p, past, rfl, fa, f1, l1, fun r e v H' k _ => q1 _ (needPr_some e) H' k, fun e C H' k g => q3 .process (needPr_none e) C none H' k g rfl⟩
  · refine rd_noI (by decide) ?_
    walk_at "rd"
    refine rd_noI (by decide) ?_
    walk_at "rd"
    refine rd_noI (by decide) ?_
    walk_at "rd"
    refine rd_noI (by decide) ?_
    walk_at "rd"
    refine rd_noI (by decide) ?_
    walk_at "rd"
    refine rd_noI (by decide) ?_
    walk_at "rd"
    refine rd_noI (by decide) ?_
    walk_at "rd"
    refine ⟨_, _, _, rfl, o.o, (by walk_at "lk"), ?_⟩
    walk_at "rd"
    obtain rfl := h7 rfl
    exact ⟨a, p, [], rfl, fa, (fun x hx => nomatch hx), by decide, (fun p' past' e => by cases past' <;> cases e), fun _ C H' k g => q3 .empty rfl C none H' k g rfl⟩
/-- names that hold, 'other' behind them: the first one -/
def kdD (q : Str × Bool) : PyData := .tuple [.str q.1, .bool q.2]
def kd1 (ks : List (Str × Bool)) : Str := (((ks.filter (fun q : Str × Bool => q.2)).map (fun q : Str × Bool => q.1)) ++ [("other" : Str)]).headD "other"
theorem kd_strs {K : PySem.W.Frag} {H : Hp} : ∀ {ks : List (Str × Bool)} {ys : List V}, IpAll K H ys (ks.map fun q : Str × Bool => PyData.str q.1) → ys = (ks.map (·.1)).map V.str
  | [], _, h => by cases h; rfl
  | k :: ks, _, h => by
    cases h with
    | cons h1 h2 => rw [h1.s, kd_strs h2]; rfl
theorem kd_at (ks : List (Str × Bool)) : atI (((ks.filter (fun q : Str × Bool => q.2)).map (fun q : Str × Bool => q.1)).map V.str ++ [V.str "other"]) 0 = some (.str (kd1 ks)) := by
  unfold kd1
  cases (ks.filter (fun q : Str × Bool => q.2)).map (fun q : Str × Bool => q.1) with
  | nil => rfl
  | cons a l => exact atI_nat (j := 0) (xs := V.str a :: (l.map V.str ++ [V.str "other"])) rfl
def fwD : FEr → PyData
  | .process => .tuple [.str "process", .none]
  | .count => .tuple [.str "count", .none]
  | .dead p => .tuple [.str "dead", .int (p : Int)]
  | .empty => .tuple [.str "empty", .none]
  | .large => .tuple [.str "other", .none]
def okD : PyData := .tuple [.str "none", .none]
def Φ_law_word (K : PySem.W.Frag) (mg : Str → Option Value) (vf vw v1 v2 : V) (H : Hp) (Q : VK) : Prop := ∃ (a : Addr) (p : Prs) (past : List Prs) (n way : Nat), fPre K mg vf a p past n H ∧ vw = .int (way : Int) ∧ way ≤ 7 ∧ (way = 7 → past = []) ∧ Fl v1 ∧ Fl v2 ∧
  callF way p v1 v2 ≠ .inl .large ∧
  (∀ d, callF way p v1 v2 = .inr (none, d) → ∀ v H', Same H H' → Ip K H' v okD → Q v H') ∧
  (∀ p' d, callF way p v1 v2 = .inr (some p', d) → ∀ v H', Kp a H H' → FamAt K mg H' a p' (past ++ [p]) → Ip K H' v okD → Q v H') ∧
  ∀ e, callF way p v1 v2 = .inl e → ∀ v H', Same H H' → Ip K H' v (fwD e) → Q v H'
theorem ok_law_word (T : Txt P K mg) {f : Addr} {fd : FuncData} (F : Fun K "_law_word" "_law_word" s_law_word f fd) : Keeps P w K mg base CX0 5 f fd ["family", "way", "one", "two"] (sp4 (Φ_law_word K mg)) := by
  obtain ⟨C_NotAlive, F_NotAlive, e_NotAlive⟩ := T.e_NotAlive
  obtain ⟨C_WireError, e_WireError⟩ := T.e_WireError
  obtain ⟨C_InvalidProcess, e_InvalidProcess⟩ := T.e_InvalidProcess
  obtain ⟨C_InvalidCount, e_InvalidCount⟩ := T.e_InvalidCount
  obtain ⟨C_EmptyHistory, e_EmptyHistory⟩ := T.e_EmptyHistory
  have c_law_call := cal (P := P) (w := w) (base := base) T.d_law_call fun F => ok_law_call T F
  refine keeps0_of F sc_law_word (fun vs H Q E h => ?_) (fun cdv A outer s H vs Q E hr h => ?_)
  · obtain ⟨_, _, _, _, rfl, _⟩ := h
    rfl
  obtain ⟨v_family, v_way, v_one, v_two, rfl, h⟩ := h
  have hu := hr.hu
  refine ⟨_, (pss_cons (ps_tryMA (K := K) rfl rfl takes_none5 rfl (fun W1 pn1 xe1 tk1 po1 => (pss_one (ps_expr (pe_calS c_law_call (hr.mono (by decide)) (by rfl) (fun σ => passAt tk1 σ) (pa_cons (pv 0) (pa_cons (pv 1) (pa_cons (pv 2) (pa_cons (pv 3) pa_nil)))))))) (.as (i := 4) sc_law_word.nd rfl rfl (names_sup e_NotAlive (by rfl)) (fun _ _ _ _ _ hz hf => (pss_one (ps_ret (pe_tup (pa_cons pe_str (pa_cons (pe_byS e_NotAlive hz hf (pv 4)) pa_nil)))))) (.as (i := 4) sc_law_word.nd rfl rfl (names_of e_WireError (by rfl)) (fun _ _ _ _ _ hz hf => (pss_cons (ps_set (i := 5) sc_law_word.nd rfl (by first | exact Or.inl rfl | exact Or.inr rfl) (pe_lst (pa_cons (pe_tup (pa_cons pe_str (pa_cons (pe_callB (call_isE2 hz hf) (by rfl) T.b_isinstance (by decide +kernel) (pa_cons (pv 4) (pa_cons (pe_gk (v := .ref C_InvalidProcess) (by rfl) ⟨_, e_InvalidProcess.g, rfl⟩) pa_nil))) pa_nil))) (pa_cons (pe_tup (pa_cons pe_str (pa_cons (pe_callB (call_isE2 hz hf) (by rfl) T.b_isinstance (by decide +kernel) (pa_cons (pv 4) (pa_cons (pe_gk (v := .ref C_InvalidCount) (by rfl) ⟨_, e_InvalidCount.g, rfl⟩) pa_nil))) pa_nil))) (pa_cons (pe_tup (pa_cons pe_str (pa_cons (pe_callB (call_isE2 hz hf) (by rfl) T.b_isinstance (by decide +kernel) (pa_cons (pv 4) (pa_cons (pe_gk (v := .ref C_EmptyHistory) (by rfl) ⟨_, e_EmptyHistory.g, rfl⟩) pa_nil))) pa_nil))) pa_nil)))))
      (pss_one (ps_ret (pe_tup (pa_cons (pe_ix (ixX (K := K)) (pe_op (oAdd (K := K)) (pe_lc_hot (K := K) (own := [("name", 6), ("holds", 7)]) (hot_suite hz hf) sc_law_word.nd (pv 5) (blkOk_by (own := [("name", 6), ("holds", 7)]) (N := ["family", "way", "one", "two", "e", "kinds", "name", "holds"]) (sc := defScope s_law_word) (by decide +kernel)) (fun _ _ _ _ _ hb => pg_tup_hot (K := K) (n := 2) hb (pgs_cons (pg_name (i := 6) sc_law_word.nd rfl (by first | exact Or.inl rfl | exact Or.inr rfl)) (pgs_cons (pg_name (i := 7) sc_law_word.nd rfl (by first | exact Or.inl rfl | exact Or.inr rfl)) pgs_nil))) (fun _ _ _ _ _ => pts_one (pt_val (pv 7))) (fun _ _ _ _ _ => (pv 6))) (pe_lst (pa_cons pe_str pa_nil))) pe_int (fun _ _ => rfl)) (pa_cons pe_non pa_nil))))))) .nil)))
      (pss_one (ps_ret (pe_tup (pa_cons pe_str (pa_cons pe_non pa_nil)))))), ?_⟩
  rw [show start ["family", "way", "one", "two", "e", "kinds", "name", "holds"] [v_family, v_way, v_one, v_two] = [some v_family, some v_way, some v_one, some v_two, none, none, none, none] from rfl]
  try dsimp only [cxOf, Cx.nox, Cx.wish]
  obtain ⟨a, p, past, n, way, ⟨rfl, fa, wp, hn, hp⟩, rfl, hw, h7, f1, f2, nl, q1, q2, q3⟩ := h
  walk_at "rd"
  generalize hW : wMA K _ _ _ = W
  have rest : ∀ (C : Addr) (b1 b2 b3 : Bool) (H' : Hp), ExcC K C → PySem.W.exmOne K (.ref C) (.ref C_NotAlive) = some false → PySem.W.exmOne K (.ref C) (.ref C_WireError) = some true →
      PySem.W.kitOne K (.ref C) (.ref C_InvalidProcess) = some b1 → PySem.W.kitOne K (.ref C) (.ref C_InvalidCount) = some b2 → PySem.W.kitOne K (.ref C) (.ref C_EmptyHistory) = some b3 →
      (∀ v H'', Same H' H'' → Ip K H'' v (.tuple [.str (kd1 [("process", b1), ("count", b2), ("empty", b3)]), .none]) → Q v H'') → W (.ref C) none [some (.ref a), some (.int (way : Int)), some v_one, some v_two, none, none, none, none] H' := by
    intro C b1 b2 b3 H' ex m1 m2 i1 i2 i3 fin
    subst hW
    refine rd_missMN m1 ?_
    refine rd_hitMN m2 fun a' ha' => ?_
    walk_at "rd"
    refine ⟨C, _, b1, rfl, rfl, ex, rfl, i1, ?_⟩
    walk_at "rd"
    intro t1 ht1
    have k1 := (Same.refl H').new (o := .tup [.str "process", .bl b1]) ht1
    have c1 : upd H' t1 (.tup [.str "process", .bl b1]) t1 = some (.tup [.str "process", .bl b1]) := upd_same
    generalize upd H' t1 (.tup [.str "process", .bl b1]) = H1 at k1 c1 ⊢
    walk_at "rd"
    refine ⟨C, _, b2, rfl, rfl, ex, rfl, i2, ?_⟩
    walk_at "rd"
    intro t2 ht2
    have k2 := (Same.refl H1).new (o := .tup [.str "count", .bl b2]) ht2
    have c2 : upd H1 t2 (.tup [.str "count", .bl b2]) t2 = some (.tup [.str "count", .bl b2]) := upd_same
    generalize upd H1 t2 (.tup [.str "count", .bl b2]) = H2 at k2 c2 ⊢
    walk_at "rd"
    refine ⟨C, _, b3, rfl, rfl, ex, rfl, i3, ?_⟩
    walk_at "rd"
    intro t3 ht3
    have k3 := (Same.refl H2).new (o := .tup [.str "empty", .bl b3]) ht3
    have c3 : upd H2 t3 (.tup [.str "empty", .bl b3]) t3 = some (.tup [.str "empty", .bl b3]) := upd_same
    generalize upd H2 t3 (.tup [.str "empty", .bl b3]) = H3 at k3 c3 ⊢
    walk_at "rd"
    intro l hl
    have k4 := (Same.refl H3).new (o := .lst [.ref t1, .ref t2, .ref t3]) hl
    have cl : upd H3 l (.lst [.ref t1, .ref t2, .ref t3]) l = some (.lst [.ref t1, .ref t2, .ref t3]) := upd_same
    generalize upd H3 l (.lst [.ref t1, .ref t2, .ref t3]) = H4 at k4 cl ⊢
    have k14 := ((k1.trans k2).trans k3).trans k4
    have im : IpAll K H4 [.ref t1, .ref t2, .ref t3] (([("process", b1), ("count", b2), ("empty", b3)] : List (Str × Bool)).map kdD) :=
      .cons (.mk2 (SqT.of (k4 _ _ (k3 _ _ (k2 _ _ c1)))) (.str _) (.bl _)) (.cons (.mk2 (SqT.of (k4 _ _ (k3 _ _ c2))) (.str _) (.bl _)) (.cons (.mk2 (SqT.of (k4 _ _ c3)) (.str _) (.bl _)) .nil))
    generalize hks : ([("process", b1), ("count", b2), ("empty", b3)] : List (Str × Bool)) = ks at im fin
    have lks : ks.length = 3 := by rw [← hks]; rfl
    walk_at "rd"
    refine rd_lcH ?_
    walk_at "rd"
    refine rd_ipL (K := K) (enc := kdD) (out := fun q => .str q.1) (p := fun q : Str × Bool => q.2) (SqL.of cl) im (by omega) ?_ ?_
    · intro D x y H5 N hD hy k5 ix hno hyes
      obtain ⟨T5, x1, x2, rfl, hT, j1, j2⟩ := ix.t2
      obtain rfl := j1.s
      obtain rfl := j2.b
      refine rd_lcT1 ?_
      refine rd_gtupH hT rfl ?_
      walk_at "rd"
      cases e : y.2 with
      | true =>
        walk_at "rd"
        exact hyes e _ _ (Same.refl _) (.str _)
      | false =>
        walk_at "rd"
        exact hno e _ (Same.refl _)
    · intro D H5 ys hD k5 hys iys
      have ey : ys = ((ks.filter (fun q => q.2)).map (·.1)).map V.str := kd_strs iys
      subst ey
      walk_at "rd"
      intro u hu
      have k6 := (Same.refl H5).new (o := .lst [.str "other"]) hu
      have lf : (ks.filter (fun q => q.2)).length ≤ 3 := by rw [← lks]; exact List.length_filter_le _ _
      refine rd_cat (k6 _ _ hys) upd_same (szOk (by rw [List.length_map, List.length_map]; show _ + 1 ≤ 1000000; omega)) fun r hr => ?_
      have k7 := k6.new (o := .lst (((ks.filter (fun q => q.2)).map (·.1)).map V.str ++ [.str "other"])) hr
      walk_at "rd"
      refine rd_ixL (SqL.of upd_same) (kd_at ks) ?_
      walk_at "rd"
      intro t8 ht8
      exact fin _ _ ((k14.trans k5).trans (k7.new ht8)) (.mk2 (SqT.of upd_same) (.str _) .non)
  have hand : ∀ e, callF way p v_one v_two = .inl e → ∀ C dd H', Same H H' → mg e.nm = some (.ref C) → FEr.At H' dd e → W (.ref C) dd [some (.ref a), some (.int (way : Int)), some v_one, some v_two, none, none, none, none] H' := by
    intro e he C dd H' k g x
    cases e with
    | dead r =>
      subst hW
      obtain ⟨y, rfl, hx⟩ := x
      cases e_NotAlive.one g
      refine rd_hitMN (e_NotAlive.m (T.m_NotAlive_NotAlive _ _ e_NotAlive.gC e_NotAlive.gC)) fun a' ha' => ?_
      walk_at "rd"
      refine ⟨rfl, rfl, _, _, rfl, hx, ?_⟩
      walk_at "rd"
      intro t ht
      have k2 := (Same.refl H').new (o := .tup [.str "dead", .int (r : Int)]) ht
      exact q3 _ he _ _ (k.trans k2) (.mk2 (SqT.of upd_same) (.str _) (.int _))
    | large => exact absurd he nl
    | process =>
      obtain rfl : dd = none := x
      cases e_InvalidProcess.one g
      exact rest _ true false false H' (T.x_InvalidProcess _ g) (e_NotAlive.m (T.m_InvalidProcess_NotAlive _ _ e_InvalidProcess.g e_NotAlive.gC)) (e_WireError.m (T.m_InvalidProcess_WireError _ _ e_InvalidProcess.g e_WireError.g))
        (e_InvalidProcess.kit (T.m_InvalidProcess_InvalidProcess _ _ e_InvalidProcess.g e_InvalidProcess.g) (T.m_InvalidProcess_InvalidProcess _ _ e_InvalidProcess.g e_InvalidProcess.g)) (e_InvalidCount.kit (T.m_InvalidProcess_InvalidCount _ _ e_InvalidProcess.g e_InvalidCount.g) (T.m_InvalidCount_InvalidCount _ _ e_InvalidCount.g e_InvalidCount.g)) (e_EmptyHistory.kit (T.m_InvalidProcess_EmptyHistory _ _ e_InvalidProcess.g e_EmptyHistory.g) (T.m_EmptyHistory_EmptyHistory _ _ e_EmptyHistory.g e_EmptyHistory.g))
        fun v H'' k' i => q3 _ he v H'' (k.trans k') (by first | exact i | (simp [kd1] at i; exact i))
    | count =>
      obtain rfl : dd = none := x
      cases e_InvalidCount.one g
      exact rest _ false true false H' (T.x_InvalidCount _ g) (e_NotAlive.m (T.m_InvalidCount_NotAlive _ _ e_InvalidCount.g e_NotAlive.gC)) (e_WireError.m (T.m_InvalidCount_WireError _ _ e_InvalidCount.g e_WireError.g))
        (e_InvalidProcess.kit (T.m_InvalidCount_InvalidProcess _ _ e_InvalidCount.g e_InvalidProcess.g) (T.m_InvalidProcess_InvalidProcess _ _ e_InvalidProcess.g e_InvalidProcess.g)) (e_InvalidCount.kit (T.m_InvalidCount_InvalidCount _ _ e_InvalidCount.g e_InvalidCount.g) (T.m_InvalidCount_InvalidCount _ _ e_InvalidCount.g e_InvalidCount.g)) (e_EmptyHistory.kit (T.m_InvalidCount_EmptyHistory _ _ e_InvalidCount.g e_EmptyHistory.g) (T.m_EmptyHistory_EmptyHistory _ _ e_EmptyHistory.g e_EmptyHistory.g))
        fun v H'' k' i => q3 _ he v H'' (k.trans k') (by first | exact i | (simp [kd1] at i; exact i))
    | empty =>
      obtain rfl : dd = none := x
      cases e_EmptyHistory.one g
      exact rest _ false false true H' (T.x_EmptyHistory _ g) (e_NotAlive.m (T.m_EmptyHistory_NotAlive _ _ e_EmptyHistory.g e_NotAlive.gC)) (e_WireError.m (T.m_EmptyHistory_WireError _ _ e_EmptyHistory.g e_WireError.g))
        (e_InvalidProcess.kit (T.m_EmptyHistory_InvalidProcess _ _ e_EmptyHistory.g e_InvalidProcess.g) (T.m_InvalidProcess_InvalidProcess _ _ e_InvalidProcess.g e_InvalidProcess.g)) (e_InvalidCount.kit (T.m_EmptyHistory_InvalidCount _ _ e_EmptyHistory.g e_InvalidCount.g) (T.m_InvalidCount_InvalidCount _ _ e_InvalidCount.g e_InvalidCount.g)) (e_EmptyHistory.kit (T.m_EmptyHistory_EmptyHistory _ _ e_EmptyHistory.g e_EmptyHistory.g) (T.m_EmptyHistory_EmptyHistory _ _ e_EmptyHistory.g e_EmptyHistory.g))
        fun v H'' k' i => q3 _ he v H'' (k.trans k') (by first | exact i | (simp [kd1] at i; exact i))
  clear rest hW
  walk_at "rd"
  refine ⟨a, p, past, n, way, ⟨rfl, fa, wp, hn, hp⟩, rfl, hw, h7, f1, f2, fun d e H' k => ?_, fun p' d e H' k f => ?_, fun e he C dd H' k g x => ?_⟩
  · walk_at "rd"
    intro t ht
    exact q1 d e _ _ (k.new ht) (.mk2 (SqT.of upd_same) (.str _) .non)
  · walk_at "rd"
    intro t ht
    exact q2 p' d e _ _ (k.new ht) (f.same ((Same.refl H').new ht)) (.mk2 (SqT.of upd_same) (.str _) .non)
  · exact hand e he C dd H' k g x
/-! ### the family of this law -/
def wpB (p : Prs) : Bool := decide (1 ≤ p.1.length) && (decide (p.1.length ≤ 41) && (decide (p.2.length ≤ 41) && ((p.2.all fun k => match p.1[k]? with | some (_, .ended _) => true | _ => false) &&
  ((p.1.all fun r => match r.1 with | some q => decide (q < p.1.length) | none => true) && (p.1.all fun r => match r.2 with | .ended k => decide (k ≤ 255) | .gone => r.1.isNone | .alive => true)))))
theorem wp_of {p : Prs} (h : wpB p = true) : Wp 41 p := by
  unfold wpB at h
  simp only [Bool.and_eq_true, decide_eq_true_eq, List.all_eq_true] at h
  obtain ⟨h1, h2, h3, h4, h5, h6⟩ := h
  refine ⟨h1, h2, h3, fun k hk => ?_, fun r hr q e => ?_, fun r hr k e => ?_, fun r hr e => ?_⟩
  · have := h4 k hk
    split at this
    · rename_i par m e
      exact ⟨par, m, e⟩
    · cases this
  · have := h5 r hr
    rw [e] at this
    exact of_decide_eq_true this
  · have := h6 r hr
    rw [e] at this
    exact of_decide_eq_true this
  · have := h6 r hr
    rw [e] at this
    exact Option.isNone_iff_eq_none.mp this
/-- behind k forks -/
def pK (k : Nat) : Prs := ((none, .alive) :: List.replicate k (some 0, .alive), [])
theorem pK_fork (k : Nat) : forkP (pK k) 0 = pK (k + 1) := by
  unfold forkP pK
  rw [List.replicate_succ', List.cons_append]
theorem pK_w : ∀ k, k < 8 → wpB (pK k) = true := by decide
theorem pK_r {k : Nat} (h : k < 8) : forkR (pK k) (.int 0) = .inr (some (pK (k + 1)), .int ((k + 1 : Nat) : Int)) := by
  have e1 : (pK k).1.length = k + 1 := by show (List.replicate k _).length + 1 = _; rw [List.length_replicate]
  have e2 : prOf (pK k) (.int 0) = some 0 := prOf_nat (r := 0) (by omega)
  unfold forkR needPr needAl
  rw [e2]
  dsimp only
  rw [if_pos (show staOf (pK k) 0 = .alive from rfl), if_neg (by omega), pK_fork, e1]
/-- the ends -/
def pE (N n : Nat) : Prs := endP (pK N) 1 n
def pF (N n : Nat) : Prs := endP (pE N n) 2 3
def pL (N n : Nat) : Prs := toldP (pF N n) 2
theorem pE_w : ∀ N, N < 7 → 3 ≤ N → ∀ n ∈ [0, 255, 7], wpB (pE N n) = true ∧ wpB (pF N n) = true ∧ wpB (pL N n) = true := by decide
theorem pE_r : ∀ N, N < 7 → 3 ≤ N → ∀ n ∈ [0, 255, 7], (pK N).1.length = N + 1 ∧ (pE N n).1.length = N + 1 ∧ (pF N n).1.length = N + 1 ∧ (pL N n).1.length = N + 1 := by decide
theorem pE_s : ∀ N, N < 7 → 3 ≤ N → ∀ n ∈ [0, 255, 7], staOf (pK N) 1 = .alive ∧ staOf (pE N n) 2 = .alive ∧ staOf (pF N n) 0 = .alive ∧ parOf (pF N n) 2 = some 0 ∧ staOf (pF N n) 2 = .ended 3 ∧ staOf (pL N n) 0 = .alive ∧ staOf (pL N n) 1 ≠ .alive ∧ staOf (pL N n) 2 ≠ .alive ∧ staOf (pL N n) 3 = .alive ∧ parOf (pL N n) 0 = none := by decide
/-- what is no process -/
def vD : V → PyData
  | .int i => .int i
  | .bl b => .bool b
  | .str x => .str x
  | _ => .none
theorem vd_ip {K : PySem.W.Frag} {H : Hp} {v : V} (h : Fl v) : Ip K H v (vD v) := by
  rcases h with rfl | ⟨b, rfl⟩ | ⟨i, rfl⟩ | ⟨s, rfl⟩
  · exact .non
  · exact .bl b
  · exact .int i
  · exact .str s
theorem vd_eq {K : PySem.W.Frag} {H : Hp} {v u : V} (h : Fl v) (i : Ip K H u (vD v)) : u = v := by
  rcases h with rfl | ⟨b, rfl⟩ | ⟨j, rfl⟩ | ⟨s, rfl⟩
  · exact i.n
  · exact i.b
  · exact i.i
  · exact i.s
structure Row where
  way : Nat
  v : V
  u : V
  e : FEr
def rowD (r : Row) : PyData := .tuple [.int (r.way : Int), vD r.v, vD r.u, fwD r.e]
def RowOk (p : Prs) (r : Row) : Prop := r.way ≤ 6 ∧ Fl r.v ∧ Fl r.u ∧ callF r.way p r.v r.u = .inl r.e ∧ r.e ≠ .large ∧ ∀ k, r.e = .dead k → k ≤ 1000
section
variable {p : Prs} {v u : V}
theorem bad_call (h : prOf p v = none) : forkR p v = .inl .process ∧ endR p v u = .inl .process ∧ waitR p v = .inl .process ∧ waitForR p v u = .inl .process ∧ needPr p v (fun _ => .inr (none, .none)) = .inl .process := by
  unfold forkR endR waitR waitForR needPr
  rw [h]
  exact ⟨rfl, rfl, rfl, rfl, rfl⟩
theorem row_bad (w : Nat) (hw : w ≤ 6) (h : prOf p v = none) (f : Fl v) (f2 : Fl u) : RowOk p ⟨w, v, u, .process⟩ := by
  refine ⟨hw, f, f2, ?_, (fun z => nomatch z), fun _ z => nomatch z⟩
  obtain ⟨h1, h2, h3, h4, h5⟩ := bad_call (u := u) h
  show callF w p v u = _
  rcases (show w = 0 ∨ w = 1 ∨ w = 2 ∨ w = 3 ∨ w = 4 ∨ w = 5 ∨ w = 6 by omega) with rfl | rfl | rfl | rfl | rfl | rfl | rfl
  · exact h1
  · exact h2
  · exact h3
  · exact h4
  · exact h5
  · exact h5
  · exact h5
theorem fl_int (i : Int) : Fl (.int i) := .inr (.inr (.inl ⟨_, rfl⟩))
theorem fl_non : Fl .non := .inl rfl
variable {r c : Nat}
theorem row_dead0 (hr : r < p.1.length) (ha : staOf p r ≠ .alive) (hk : r ≤ 1000) : RowOk p ⟨0, .int (r : Int), .non, .dead r⟩ := by
  refine ⟨Nat.le_of_ble_eq_true rfl, fl_int _, fl_non, ?_, (fun z => nomatch z), fun k z => by cases z; exact hk⟩
  show forkR p (.int (r : Int)) = _
  unfold forkR needPr needAl
  rw [prOf_nat hr]
  exact if_neg ha
theorem row_dead2 (hr : r < p.1.length) (ha : staOf p r ≠ .alive) (hk : r ≤ 1000) : RowOk p ⟨2, .int (r : Int), .non, .dead r⟩ := by
  refine ⟨Nat.le_of_ble_eq_true rfl, fl_int _, fl_non, ?_, (fun z => nomatch z), fun k z => by cases z; exact hk⟩
  show waitR p (.int (r : Int)) = _
  unfold waitR needPr needAl
  rw [prOf_nat hr]
  exact if_neg ha
theorem row_count (hr : r < p.1.length) (hb : isInt u 0 255 = false) (f : Fl u) : RowOk p ⟨1, .int (r : Int), u, .count⟩ := by
  refine ⟨Nat.le_of_ble_eq_true rfl, fl_int _, f, ?_, (fun z => nomatch z), fun k z => nomatch z⟩
  show endR p (.int (r : Int)) u = _
  unfold endR needPr
  rw [prOf_nat hr]
  show (if isInt u 0 255 = true then _ else _) = _
  rw [hb]
  rfl
theorem row_dead1 (hr : r < p.1.length) (ha : staOf p r ≠ .alive) (hk : r ≤ 1000) : RowOk p ⟨1, .int (r : Int), .int 5, .dead r⟩ := by
  refine ⟨Nat.le_of_ble_eq_true rfl, fl_int _, fl_int _, ?_, (fun z => nomatch z), fun k z => by cases z; exact hk⟩
  show endR p (.int (r : Int)) (.int 5) = _
  unfold endR needPr needAl
  rw [prOf_nat hr]
  show (if isInt (.int 5) 0 255 = true then _ else _) = _
  rw [if_pos (show isInt (.int 5) 0 255 = true from rfl)]
  exact if_neg ha
theorem row_first (hr : 0 < p.1.length) (ha : staOf p 0 = .alive) : RowOk p ⟨1, .int 0, .int 5, .dead 0⟩ := by
  refine ⟨Nat.le_of_ble_eq_true rfl, fl_int _, fl_int _, ?_, (fun z => nomatch z), fun k z => by cases z; decide⟩
  show endR p (.int 0) (.int 5) = _
  unfold endR needPr needAl
  rw [show prOf p (.int 0) = some 0 from prOf_nat (r := 0) hr]
  show (if isInt (.int 5) 0 255 = true then _ else _) = _
  rw [if_pos (show isInt (.int 5) 0 255 = true from rfl)]
  show (if staOf p 0 = .alive then _ else _) = _
  rw [if_pos ha]
  first | done | rfl
theorem row_for (hr : r < p.1.length) (hb : prOf p u = none) (f : Fl u) : RowOk p ⟨3, .int (r : Int), u, .process⟩ := by
  refine ⟨Nat.le_of_ble_eq_true rfl, fl_int _, f, ?_, (fun z => nomatch z), fun k z => nomatch z⟩
  show waitForR p (.int (r : Int)) u = _
  unfold waitForR needPr
  rw [prOf_nat hr]
  dsimp only
  rw [hb]
theorem row_dead3 (hr : r < p.1.length) (h0 : 0 < p.1.length) (ha : staOf p r ≠ .alive) (hk : r ≤ 1000) : RowOk p ⟨3, .int (r : Int), .int 0, .dead r⟩ := by
  refine ⟨Nat.le_of_ble_eq_true rfl, fl_int _, fl_int _, ?_, (fun z => nomatch z), fun k z => by cases z; exact hk⟩
  show waitForR p (.int (r : Int)) (.int 0) = _
  unfold waitForR needPr needAl
  rw [prOf_nat hr]
  dsimp only
  rw [show prOf p (.int 0) = some 0 from prOf_nat (r := 0) h0]
  exact if_neg ha
theorem end_ok (hr : r < p.1.length) (h0 : r ≠ 0) (ha : staOf p r = .alive) {n : Nat} (hn : n ≤ 255) : endR p (.int (r : Int)) (.int (n : Int)) = .inr (some (endP p r n), .none) := by
  unfold endR needPr needAl
  rw [prOf_nat hr]
  have : isInt (.int (n : Int)) 0 255 = true := by
    show (decide ((0 : Int) ≤ n) && decide ((n : Int) ≤ 255)) = true
    rw [Bool.and_eq_true, decide_eq_true_eq, decide_eq_true_eq]
    omega
  dsimp only
  rw [if_pos this, if_pos ha, if_neg h0, Int.toNat_natCast]
theorem waitfor_ok (hr : r < p.1.length) (hc : c < p.1.length) (ha : staOf p r = .alive) (hp : parOf p c = some r) (hs : staOf p c ≠ .alive) : waitForR p (.int (r : Int)) (.int (c : Int)) = .inr (some (toldP p c), toldD p c) := by
  unfold waitForR needPr needAl
  rw [prOf_nat hr]
  dsimp only
  rw [prOf_nat hc]
  dsimp only
  rw [if_pos ha, if_pos hp, if_neg hs]
theorem waitfor_no (hr : r < p.1.length) (hc : c < p.1.length) (ha : staOf p r = .alive) (hp : parOf p c ≠ some r) : waitForR p (.int (r : Int)) (.int (c : Int)) = .inr (none, noneD) := by
  unfold waitForR needPr needAl
  rw [prOf_nat hr]
  dsimp only
  rw [prOf_nat hc]
  dsimp only
  rw [if_pos ha, if_neg hp]
end
theorem bad_pr {p : Prs} {N : Nat} (hl : p.1.length = N + 1) (h6 : N ≤ 6) {v : V} (h : v ∈ [V.int (-1), V.int ((N : Int) + 1), V.bl true, V.non, V.str "0", V.int 99]) : prOf p v = none ∧ Fl v := by
  have no : ∀ i : Int, (i < 0 ∨ (N : Int) < i) → prOf p (.int i) = none := fun i hi => by
    unfold prOf
    rw [if_neg]
    show ¬ (decide ((0 : Int) ≤ i) && decide (i ≤ (p.1.length : Int) - 1)) = true
    rw [Bool.and_eq_true, decide_eq_true_eq, decide_eq_true_eq]
    omega
  simp only [List.mem_cons, List.not_mem_nil, or_false] at h
  rcases h with rfl | rfl | rfl | rfl | rfl | rfl
  · exact ⟨no _ (by omega), fl_int _⟩
  · exact ⟨no _ (by omega), fl_int _⟩
  · exact ⟨rfl, .inr (.inl ⟨_, rfl⟩)⟩
  · exact ⟨rfl, fl_non⟩
  · exact ⟨rfl, .inr (.inr (.inr ⟨_, rfl⟩))⟩
  · exact ⟨no _ (by omega), fl_int _⟩
theorem bad_no {u : V} (h : u ∈ [V.int (-1), V.int 256, V.bl true, V.non, V.str "0", V.int 999]) : isInt u 0 255 = false ∧ Fl u := by
  simp only [List.mem_cons, List.not_mem_nil, or_false] at h
  rcases h with rfl | rfl | rfl | rfl | rfl | rfl
  · exact ⟨rfl, fl_int _⟩
  · exact ⟨rfl, fl_int _⟩
  · exact ⟨rfl, .inr (.inl ⟨_, rfl⟩)⟩
  · exact ⟨rfl, fl_non⟩
  · exact ⟨rfl, .inr (.inr (.inr ⟨_, rfl⟩))⟩
  · exact ⟨rfl, fl_int _⟩

theorem Kp.ty {d : Addr} {m : Nat} {H H' : Hp} (k : Kp d H H') (h : Dk d m H) : Ty H H' := k.tyD h
def Φ_law_one_of (K : PySem.W.Frag) (vd vi : V) (H : Hp) (Q : VK) : Prop := ∃ (d p : Addr) (xs : List V) (m : Nat), vd = .ref d ∧ vi = .ref p ∧ (H p = some (.lst xs) ∨ Rt H p xs) ∧ p ≠ d ∧ 1 ≤ xs.length ∧ xs.length ≤ 1000 ∧ Dk d m H ∧ m + 1 ≤ LIM ∧
  ∀ x H', x ∈ xs → Dk d (m + 1) H' → Kp d H H' → Q x H'
theorem ok_law_one_of (T : Txt P K mg) {f : Addr} {fd : FuncData} (F : Fun K "_law_one_of" "_law_one_of" s_law_one_of f fd) : Keeps P w K mg base CX0 2 f fd ["deck", "items"] (sp2 (Φ_law_one_of K)) := by
  have c_law_draw := cal (P := P) (w := w) (base := base) T.d_law_draw fun F => ok_law_draw T F
  refine keeps0_of F sc_law_one_of (fun vs H Q E h => ?_) (fun cdv A outer s H vs Q E hr h => ?_)
  · obtain ⟨_, _, rfl, _⟩ := h
    rfl
  obtain ⟨v_deck, v_items, rfl, h⟩ := h
  have hu := hr.hu
  refine ⟨_, (pss_one (ps_ret (pe_ix (ixX (K := K)) (pv 1) (pe_cal c_law_draw (hr.mono (by decide)) (by rfl) pass0 (pa_cons (pv 0) (pa_cons (pe_callB (call_lenX (K := K)) (by rfl) T.b_len (by decide +kernel) (pa_cons (pv 1) pa_nil)) pa_nil))) (fun _ _ => rfl)))), ?_⟩
  rw [show start ["deck", "items"] [v_deck, v_items] = [some v_deck, some v_items] from rfl]
  try dsimp only [cxOf, Cx.nox, Cx.wish]
  obtain ⟨d, p, xs, m, rfl, rfl, hp, pd, h1, h2, hd, hm, q⟩ := h
  rcases hp with hp | hp
  · walk_at "rd"
    refine rd_lenL (SqL.of hp) ?_
    walk_at "rd"
    refine use_draw hd (by omega) (by omega) (by omega) fun v H1 v0 v1 d1 k1 => ?_
    exact pick (SqL.of (k1 _ _ pd hp)) v0 v1 fun x hx => q x H1 hx d1 k1
  · walk_at "rd"
    refine rd_lenT hp.sq ?_
    walk_at "rd"
    refine use_draw hd (by omega) (by omega) (by omega) fun v H1 v0 v1 d1 k1 => ?_
    exact pickT (hp.up (k1.ty hd)).sq v0 v1 fun x hx => q x H1 hx d1 k1

structure FI (K : PySem.W.Frag) (mg : Str → Option Value) (H0 : Hp) (d : Addr) (m : Nat) (a : Addr) (p : Prs) (past : List Prs) (H : Hp) : Prop where
  fam : FamAt K mg H a p past
  dk : Dk d m H
  kp : Kp d H0 H
  na : H0 a = none
  nd : a ≠ d
section
variable {H0 H H' : Hp} {d a : Addr} {m : Nat} {p : Prs} {past : List Prs}
theorem FI.same (h : FI K mg H0 d m a p past H) (k : Same H H') : FI K mg H0 d m a p past H' := ⟨h.fam.same k, h.dk.same k, h.kp.trans (Kp.of k), h.na, h.nd⟩
theorem FI.draw {m' : Nat} (h : FI K mg H0 d m a p past H) (k : Kp d H H') (hd : Dk d m' H') : FI K mg H0 d m' a p past H' := by
  obtain ⟨C, dx, v, u, h1, h2, h3, h4⟩ := h.fam
  have t := k.tyD h.dk
  exact ⟨⟨C, dx, v, u, h1, k _ _ h.nd h2, h3.up t, h4.up t⟩, hd, h.kp.trans k, h.na, h.nd⟩
theorem FI.go {p' : Prs} {past' : List Prs} (h : FI K mg H0 d m a p past H) (k : Kp a H H') (f : FamAt K mg H' a p' past') : FI K mg H0 d m a p' past' H' := by
  obtain ⟨x, y, c, e, r⟩ := h.dk
  exact ⟨f, ⟨x, y, c, k d _ h.nd.symm e, r⟩, fun b o n e => k b o (ne_of_none e h.na) (h.kp b o n e), h.na, h.nd⟩
theorem FI.obj (h : FI K mg H0 d m a p past H) : ∃ C dx fs, mg "Family" = some (.ref C) ∧ H a = some (.ins C dx fs) ∧ fs.lookup ("fork" : Str) = none ∧ fs.lookup ("end" : Str) = none ∧ fs.lookup ("wait_for" : Str) = none := by
  obtain ⟨C, dx, v, u, h1, h2, _⟩ := h.fam
  exact ⟨C, dx, _, h1, h2, rfl, rfl, rfl⟩
end
theorem rd_negI {H : Hp} {Q : VK} {n : Int} (q : Q (.int (-n)) H) : rU (fun i => V.int (-i)) (.int n) H Q := ⟨n, rfl, q⟩
theorem fw_eqv (e : FEr) : PyData.eqv (fwD e) (fwD e) = true := (eqv_iff (fwD e) (fwD e) (by cases e <;> rfl) (by cases e <;> rfl)).mpr rfl
theorem fw_shaped (e : FEr) (h : ∀ k, e = .dead k → k ≤ 1000) : SeqAt.shaped (fwD e) = true := by
  cases e with
  | dead k =>
    have := h k rfl
    refine Bd.shaped (k := 1) (w := 42) ((Bd.tup (k := 0) (w := 20) (ds := [.str "dead", .int (k : Int)]) ?_).mono (by decide) (by show 2 * 21 ≤ 42; decide)) (by decide)
    intro d hd
    simp only [List.mem_cons, List.not_mem_nil, or_false] at hd
    rcases hd with rfl | rfl
    · exact str_bd (by decide +kernel) (by decide +kernel)
    · exact Bd.int (by omega)
  | _ => decide +kernel
def Φ_law_right (K : PySem.W.Frag) (mg : Str → Option Value) (vd : V) (H : Hp) (Q : VK) : Prop := ∃ (d : Addr), vd = .ref d ∧ Dk d 0 H ∧ ∀ H', Kp d H H' → Q (.bl true) H'
theorem ok_law_right (T : Txt P K mg) {f : Addr} {fd : FuncData} (F : Fun K "_law_right" "_law_right" s_law_right f fd) : Keeps P w K mg base CX0 6 f fd ["deck"] (sp1 (Φ_law_right K mg)) := by
  obtain ⟨C_Family, k_Family⟩ := T.k_Family
  have n_Family_present := T.n_Family_present C_Family k_Family.g
  have n_Family_past := T.n_Family_past C_Family k_Family.g
  have c_Family___init__ := met (P := P) (w := w) (base := base) (T.d_Family___init__ C_Family k_Family.g) fun F => ok_Family___init__ T F
  have c_Family_end := met (P := P) (w := w) (base := base) (T.d_Family_end C_Family k_Family.g) fun F => ok_Family_end T F
  have c_Family_wait_for := met (P := P) (w := w) (base := base) (T.d_Family_wait_for C_Family k_Family.g) fun F => ok_Family_wait_for T F
  have c_law_word := cal (P := P) (w := w) (base := base) T.d_law_word fun F => ok_law_word T F
  have c_law_draw := cal (P := P) (w := w) (base := base) T.d_law_draw fun F => ok_law_draw T F
  have c_Family_fork := met (P := P) (w := w) (base := base) (T.d_Family_fork C_Family k_Family.g) fun F => ok_Family_fork T F
  have c_law_one_of := cal (P := P) (w := w) (base := base) T.d_law_one_of fun F => ok_law_one_of T F
  have c_law_family_seen := cal (P := P) (w := w) (base := base) T.d_law_family_seen fun F => ok_law_family_seen T F
  refine keeps0_of F sc_law_right (fun vs H Q E h => ?_) (fun cdv A outer s H vs Q E hr h => ?_)
  · obtain ⟨_, rfl, _⟩ := h
    rfl
  obtain ⟨v_deck, rfl, h⟩ := h
  have hu := hr.hu
  refine ⟨_, (pss_cons (ps_set (i := 1) sc_law_right.nd rfl (by first | exact Or.inl rfl | exact Or.inr rfl) (pe_mkS0 k_Family c_Family___init__ (hr.mono (by decide)) (by rfl) (fun σ => passAt takes_none5 σ)))
      (pss_cons (ps_if (pt_cmpR (oNe (K := K) hr.u65) (pe_cal c_law_word (hr.mono (by decide)) (by rfl) pass0 (pa_cons (pv 1) (pa_cons pe_int (pa_cons pe_non (pa_cons pe_non pa_nil))))) (pe_tup (pa_cons pe_str (pa_cons pe_non pa_nil))) (nomark _)) (pss_one (ps_ret pe_bl)) pss_nil)
      (pss_cons (ps_set (i := 2) sc_law_right.nd rfl (by first | exact Or.inl rfl | exact Or.inr rfl) (pe_op (oAdd (K := K)) pe_int (pe_cal c_law_draw (hr.mono (by decide)) (by rfl) pass0 (pa_cons (pv 0) (pa_cons pe_int pa_nil)))))
      (pss_cons (ps_for PassesOwn.never rfl (pi_range1 (by rfl) T.b_range (pa_cons (pv 2) pa_nil)) (pg_name (i := 3) sc_law_right.nd rfl (by first | exact Or.inl rfl | exact Or.inr rfl)) (pss_one (ps_expr (pe_metS (pv 1) k_Family.c c_Family_fork (hr.mono (by decide)) (fun σ => passAt takes_none5 σ) (pa_cons pe_int pa_nil)))))
      (pss_cons (ps_expr (pe_metS (pv 1) k_Family.c c_Family_end (hr.mono (by decide)) (fun σ => passAt takes_none5 σ) (pa_cons pe_int (pa_cons (pe_cal c_law_one_of (hr.mono (by decide)) (by rfl) pass0 (pa_cons (pv 0) (pa_cons (pe_lst (pa_cons pe_int (pa_cons pe_int (pa_cons pe_int pa_nil)))) pa_nil))) pa_nil))))
      (pss_cons (ps_expr (pe_metS (pv 1) k_Family.c c_Family_end (hr.mono (by decide)) (fun σ => passAt takes_none5 σ) (pa_cons pe_int (pa_cons pe_int pa_nil))))
      (pss_cons (ps_expr (pe_metS (pv 1) k_Family.c c_Family_wait_for (hr.mono (by decide)) (fun σ => passAt takes_none5 σ) (pa_cons pe_int (pa_cons pe_int pa_nil))))
      (pss_cons (ps_set (i := 4) sc_law_right.nd rfl (by first | exact Or.inl rfl | exact Or.inr rfl) (pe_callB (call_reprX (K := K) (hr.mono (Nat.zero_le _))) (by rfl) T.b_repr (by decide +kernel) (pa_cons (pe_cal c_law_family_seen (hr.mono (by decide)) (by rfl) pass0 (pa_cons (pv 1) (pa_cons (pe_op (oAdd (K := K)) (pv 2) pe_int) pa_nil))) pa_nil)))
      (pss_cons (ps_set (i := 5) sc_law_right.nd rfl (by first | exact Or.inl rfl | exact Or.inr rfl) (pe_ix (ixX (K := K)) (pe_lst (pa_cons (pe_un un_neg pe_int) (pa_cons (pe_op (oAdd (K := K)) (pv 2) pe_int) (pa_cons pe_bl (pa_cons pe_non (pa_cons pe_str (pa_cons pe_int pa_nil))))))) (pe_cal c_law_draw (hr.mono (by decide)) (by rfl) pass0 (pa_cons (pv 0) (pa_cons pe_int pa_nil))) (fun _ _ => rfl)))
      (pss_cons (ps_set (i := 6) sc_law_right.nd rfl (by first | exact Or.inl rfl | exact Or.inr rfl) (pe_ix (ixX (K := K)) (pe_lst (pa_cons (pe_un un_neg pe_int) (pa_cons pe_int (pa_cons pe_bl (pa_cons pe_non (pa_cons pe_str (pa_cons pe_int pa_nil))))))) (pe_cal c_law_draw (hr.mono (by decide)) (by rfl) pass0 (pa_cons (pv 0) (pa_cons pe_int pa_nil))) (fun _ _ => rfl)))
      (pss_cons (ps_set (i := 7) sc_law_right.nd rfl (by first | exact Or.inl rfl | exact Or.inr rfl) (pe_op (oAdd (K := K)) pe_int (pe_cal c_law_draw (hr.mono (by decide)) (by rfl) pass0 (pa_cons (pv 0) (pa_cons pe_int pa_nil)))))
      (pss_cons (ps_set (i := 8) sc_law_right.nd rfl (by first | exact Or.inl rfl | exact Or.inr rfl) (pe_lst (pa_cons (pe_tup (pa_cons pe_int (pa_cons (pv 5) (pa_cons pe_non (pa_cons (pe_tup (pa_cons pe_str (pa_cons pe_non pa_nil))) pa_nil))))) (pa_cons (pe_tup (pa_cons pe_int (pa_cons (pv 7) (pa_cons pe_non (pa_cons (pe_tup (pa_cons pe_str (pa_cons (pv 7) pa_nil))) pa_nil))))) (pa_cons (pe_tup (pa_cons pe_int (pa_cons (pv 5) (pa_cons (pv 6) (pa_cons (pe_tup (pa_cons pe_str (pa_cons pe_non pa_nil))) pa_nil))))) pa_nil)))))
      (pss_cons (ps_set (i := 8) sc_law_right.nd rfl (by first | exact Or.inl rfl | exact Or.inr rfl) (pe_op (oAdd (K := K)) (pv 8) (pe_lst (pa_cons (pe_tup (pa_cons pe_int (pa_cons (pv 7) (pa_cons (pv 6) (pa_cons (pe_tup (pa_cons pe_str (pa_cons pe_non pa_nil))) pa_nil))))) (pa_cons (pe_tup (pa_cons pe_int (pa_cons (pv 7) (pa_cons pe_int (pa_cons (pe_tup (pa_cons pe_str (pa_cons (pv 7) pa_nil))) pa_nil))))) (pa_cons (pe_tup (pa_cons pe_int (pa_cons pe_int (pa_cons (pv 6) (pa_cons (pe_tup (pa_cons pe_str (pa_cons pe_non pa_nil))) pa_nil))))) (pa_cons (pe_tup (pa_cons pe_int (pa_cons pe_int (pa_cons pe_int (pa_cons (pe_tup (pa_cons pe_str (pa_cons pe_int pa_nil))) pa_nil))))) pa_nil)))))))
      (pss_cons (ps_set (i := 8) sc_law_right.nd rfl (by first | exact Or.inl rfl | exact Or.inr rfl) (pe_op (oAdd (K := K)) (pv 8) (pe_lst (pa_cons (pe_tup (pa_cons pe_int (pa_cons (pv 5) (pa_cons pe_non (pa_cons (pe_tup (pa_cons pe_str (pa_cons pe_non pa_nil))) pa_nil))))) (pa_cons (pe_tup (pa_cons pe_int (pa_cons (pv 7) (pa_cons pe_non (pa_cons (pe_tup (pa_cons pe_str (pa_cons (pv 7) pa_nil))) pa_nil))))) (pa_cons (pe_tup (pa_cons pe_int (pa_cons (pv 5) (pa_cons (pv 5) (pa_cons (pe_tup (pa_cons pe_str (pa_cons pe_non pa_nil))) pa_nil))))) pa_nil))))))
      (pss_cons (ps_set (i := 8) sc_law_right.nd rfl (by first | exact Or.inl rfl | exact Or.inr rfl) (pe_op (oAdd (K := K)) (pv 8) (pe_lst (pa_cons (pe_tup (pa_cons pe_int (pa_cons (pv 7) (pa_cons (pv 5) (pa_cons (pe_tup (pa_cons pe_str (pa_cons pe_non pa_nil))) pa_nil))))) (pa_cons (pe_tup (pa_cons pe_int (pa_cons (pv 7) (pa_cons pe_int (pa_cons (pe_tup (pa_cons pe_str (pa_cons (pv 7) pa_nil))) pa_nil))))) (pa_cons (pe_tup (pa_cons pe_int (pa_cons pe_int (pa_cons (pv 5) (pa_cons (pe_tup (pa_cons pe_str (pa_cons pe_non pa_nil))) pa_nil))))) pa_nil))))))
      (pss_cons (ps_set (i := 8) sc_law_right.nd rfl (by first | exact Or.inl rfl | exact Or.inr rfl) (pe_op (oAdd (K := K)) (pv 8) (pe_lst (pa_cons (pe_tup (pa_cons pe_int (pa_cons (pv 5) (pa_cons pe_non (pa_cons (pe_tup (pa_cons pe_str (pa_cons pe_non pa_nil))) pa_nil))))) (pa_cons (pe_tup (pa_cons pe_int (pa_cons (pv 5) (pa_cons pe_non (pa_cons (pe_tup (pa_cons pe_str (pa_cons pe_non pa_nil))) pa_nil))))) (pa_cons (pe_tup (pa_cons pe_int (pa_cons (pv 5) (pa_cons pe_non (pa_cons (pe_tup (pa_cons pe_str (pa_cons pe_non pa_nil))) pa_nil))))) pa_nil))))))
      (pss_cons (ps_for PassesOwn.never rfl (pi_any (K := K) (pv 8)) (pg_seqX (K := K) (n := 4) rfl (pgs_cons (pg_name (i := 9) sc_law_right.nd rfl (by first | exact Or.inl rfl | exact Or.inr rfl)) (pgs_cons (pg_name (i := 10) sc_law_right.nd rfl (by first | exact Or.inl rfl | exact Or.inr rfl)) (pgs_cons (pg_name (i := 11) sc_law_right.nd rfl (by first | exact Or.inl rfl | exact Or.inr rfl)) (pgs_cons (pg_name (i := 12) sc_law_right.nd rfl (by first | exact Or.inl rfl | exact Or.inr rfl)) pgs_nil))))) (pss_one (ps_if (PW.pt (pw_or (pt_cmpR (oNe (K := K) hr.u65) (pe_cal c_law_word (hr.mono (by decide)) (by rfl) pass0 (pa_cons (pv 1) (pa_cons (pv 9) (pa_cons (pv 10) (pa_cons (pv 11) pa_nil))))) (pv 12) (nomark _)) (pw_or1 (pt_cmpR (oNe (K := K) hr.u65) (pe_callB (call_reprX (K := K) (hr.mono (Nat.zero_le _))) (by rfl) T.b_repr (by decide +kernel) (pa_cons (pe_cal c_law_family_seen (hr.mono (by decide)) (by rfl) pass0 (pa_cons (pv 1) (pa_cons (pe_op (oAdd (K := K)) (pv 2) pe_int) pa_nil))) pa_nil)) (pv 4) (nomark _))))) (pss_one (ps_ret pe_bl)) pss_nil)))
      (pss_one (ps_ret (pe_and (pe_cmpR (oEq (K := K) hr.u65) (pe_cal c_law_word (hr.mono (by decide)) (by rfl) pass0 (pa_cons (pv 1) (pa_cons pe_int (pa_cons pe_int (pa_cons pe_int pa_nil))))) (pe_tup (pa_cons pe_str (pa_cons pe_non pa_nil))) (nomark _)) (pe_one (pe_cmpR (oEq (K := K) hr.u65) (pe_cal c_law_word (hr.mono (by decide)) (by rfl) pass0 (pa_cons (pv 1) (pa_cons pe_int (pa_cons pe_int (pa_cons pe_int pa_nil))))) (pe_tup (pa_cons pe_str (pa_cons pe_non pa_nil))) (nomark _))))))))))))))))))))))), ?_⟩
  rw [show start ["deck", "family", "many", "turn", "seen", "process", "number", "dead", "rows", "way", "one", "two", "due"] [v_deck] = [some v_deck, none, none, none, none, none, none, none, none, none, none, none, none] from rfl]
  try dsimp only [cxOf, Cx.nox, Cx.wish]
  obtain ⟨d, rfl, hd, q⟩ := h
  walk_at "rd"
  intro a dx ha hdx ne
  refine rd_sp1x ⟨a, C_Family, dx, rfl, k_Family.g, upd_same, fun H1 kp fa => ⟨rfl, ?_⟩⟩
  have s : Same H (upd (upd H dx (HO.own a)) a (HO.ins C_Family dx [])) := ((Same.refl H).new hdx).new (by rw [upd_ne (fun z : a = dx => ne z.symm)]; exact ha)
  have s' : Same H H1 := fun b o e => kp b o (fun z => by rw [z, ha] at e; cases e) (s b o e)
  have I : FI K mg H d 0 a newP [] H1 := ⟨fa, hd.same s', Kp.of s', ha, (hd.ne ha).symm⟩
  clear s s' kp fa hdx ne
  have w0 : Wp 41 newP := wp_of (by decide)
  walk_at "rd"
  refine ⟨a, newP, [], 41, 7, ⟨rfl, I.fam, w0, by decide, by decide⟩, rfl, by decide, fun _ => rfl, fl_non, fl_non, (fun z => nomatch z), (fun d z => nomatch z), (fun p' d z => nomatch z), fun e he v H2 k2 iv => ?_⟩
  cases he
  walk_at "rd"
  intro t ht
  have k3 := (Same.refl H2).new (o := .tup [.str "empty", .non]) ht
  refine rd_neD (iv.up (Ty.of k3)).to (.tup (SqT.of upd_same) (.cons (.str _) (.cons .non .nil))) (fw_shaped .empty (fun _ z => nomatch z)) (fw_shaped .empty (fun _ z => nomatch z)) ?_
  rw [show PyData.eqv (fwD .empty) (.tuple [.str "empty", .none]) = true from fw_eqv .empty]
  replace I := (I.same k2).same k3
  generalize upd H2 t (.tup [.str "empty", .non]) = H3 at I ⊢
  clear k2 k3 iv ht
  walk_at "rd"
  refine use_draw I.dk (by decide) (by decide) (by unfold LIM; omega) fun y H4 y0 y1 d4 k4 => ?_
  replace I := I.draw k4 d4
  obtain ⟨N, hN, n3, n6⟩ : ∃ N : Nat, 3 + y = (N : Int) ∧ 3 ≤ N ∧ N ≤ 6 := ⟨(3 + y).toNat, by omega, by omega, by omega⟩
  walk_at "rd"
  rw [hN]
  clear hN y0 y1 y k4 d4
  refine rd_itR (by omega) (by omega) (fun i σ H' => i ≤ N ∧ ∃ (past : List Prs) (x3 : Option V), FI K mg H d 1 a (pK i) past H' ∧ past.length ≤ i ∧ σ = [some (.ref d), some (.ref a), some (.int (N : Int)), x3, none, none, none, none, none, none, none, none, none]) ⟨Nat.zero_le _, [], _, I, Nat.zero_le _, rfl⟩ ?_ ?_
  · rintro i σ H5 hi ⟨_, past, x3, J, lp, rfl⟩
    obtain ⟨C, dx, fs, g, o, l1, l2, l3⟩ := J.obj
    cases k_Family.one g
    walk_at "rd"
    refine ⟨_, _, _, rfl, o, l1, ?_⟩
    walk_at "rd"
    have r := pK_r (k := i) (by omega)
    refine ⟨a, pK i, past, 41, ⟨rfl, J.fam, wp_of (pK_w i (by omega)), by decide, by omega⟩, fl_int 0, (fun d e => by rw [r] at e; cases e), (fun p' d e v H6 k6 f6 _ => ?_), fun e he => by rw [r] at he; cases he⟩
    rw [r] at e
    cases e
    walk_at "rd"
    exact ⟨by omega, past ++ [pK i], _, J.go k6 f6, by rw [List.length_append]; show past.length + 1 ≤ _; omega, rfl⟩
  clear I
  rintro σ H5 ⟨_, past, x3, I, lp, rfl⟩
  rw [Int.toNat_natCast] at I lp
  obtain ⟨C, dx, fs, g, o, l1, l2, l3⟩ := I.obj
  cases k_Family.one g
  walk_at "rd"
  refine ⟨_, _, _, rfl, o, l2, ?_⟩
  walk_at "rd"
  intro l hl
  have I6 := I.same ((Same.refl H5).new (o := .lst [.int 0, .int 255, .int 7]) hl)
  have ld := I.dk.ne hl
  walk_at "rd"
  refine ⟨d, l, [.int 0, .int 255, .int 7], 1, rfl, rfl, .inl upd_same, ld.symm, by decide, by decide, I6.dk, by unfold LIM; omega, fun x H7 hx d7 k7 => ?_⟩
  replace I := I6.draw k7 d7
  obtain ⟨n, rfl, hn⟩ : ∃ n : Nat, x = V.int (n : Int) ∧ n ∈ [0, 255, 7] := by
    simp only [List.mem_cons, List.not_mem_nil, or_false] at hx
    rcases hx with rfl | rfl | rfl
    · exact ⟨0, rfl, by decide⟩
    · exact ⟨255, rfl, by decide⟩
    · exact ⟨7, rfl, by decide⟩
  have hn255 : n ≤ 255 := by
    simp only [List.mem_cons, List.not_mem_nil, or_false] at hn
    omega
  obtain ⟨wE, wF, wL⟩ := pE_w N (by omega) n3 n hn
  obtain ⟨e1, e2, e3, e4⟩ := pE_r N (by omega) n3 n hn
  obtain ⟨a1, a2, a3, a4, a5, a6, a7, a8, a9, a10⟩ := pE_s N (by omega) n3 n hn
  clear I6 k7 d7 hx ld hl
  walk_at "rd"
  have r1 : endR (pK N) (.int 1) (.int (n : Int)) = .inr (some (pE N n), .none) := end_ok (r := 1) (by omega) (by decide) a1 hn255
  refine ⟨a, pK N, past, 41, ⟨rfl, I.fam, wp_of (pK_w N (by omega)), by decide, by omega⟩, fl_int 1, fl_int _, (fun d e => by rw [r1] at e; cases e), (fun p' d e v H8 k8 f8 _ => ?_), fun e he => by rw [r1] at he; cases he⟩
  rw [r1] at e
  cases e
  replace I : FI K mg H d 2 a (pE N n) (past ++ [pK N]) H8 := I.go k8 f8
  clear k8 f8
  have lp2 : (past ++ [pK N]).length ≤ N + 1 := by rw [List.length_append]; show past.length + 1 ≤ _; omega
  generalize past ++ [pK N] = past2 at I lp2
  obtain ⟨C, dx, fs, g, o, l1, l2, l3⟩ := I.obj
  cases k_Family.one g
  walk_at "rd"
  refine ⟨_, _, _, rfl, o, l2, ?_⟩
  walk_at "rd"
  have r2 : endR (pE N n) (.int 2) (.int 3) = .inr (some (pF N n), .none) := end_ok (r := 2) (n := 3) (by omega) (by decide) a2 (by decide)
  refine ⟨a, pE N n, past2, 41, ⟨rfl, I.fam, wp_of wE, by decide, by omega⟩, fl_int 2, fl_int 3, (fun d e => by rw [r2] at e; cases e), (fun p' d e v H9 k9 f9 _ => ?_), fun e he => by rw [r2] at he; cases he⟩
  rw [r2] at e
  cases e
  replace I : FI K mg H d 2 a (pF N n) (past2 ++ [pE N n]) H9 := I.go k9 f9
  clear k9 f9
  have lp3 : (past2 ++ [pE N n]).length ≤ N + 2 := by rw [List.length_append]; show past2.length + 1 ≤ _; omega
  generalize past2 ++ [pE N n] = past3 at I lp3
  obtain ⟨C, dx, fs, g, o, l1, l2, l3⟩ := I.obj
  cases k_Family.one g
  walk_at "rd"
  refine ⟨_, _, _, rfl, o, l3, ?_⟩
  walk_at "rd"
  have r3 : waitForR (pF N n) (.int 0) (.int 2) = .inr (some (pL N n), toldD (pF N n) 2) := waitfor_ok (r := 0) (c := 2) (by omega) (by omega) a3 a4 (by rw [a5]; simp)
  refine ⟨a, pF N n, past3, 41, ⟨rfl, I.fam, wp_of wF, by decide, by omega⟩, fl_int 0, fl_int 2, (fun d e => by rw [r3] at e; cases e), (fun p' d e v H10 k10 f10 _ => ?_), fun e he => by rw [r3] at he; cases he⟩
  rw [r3] at e
  cases e
  replace I : FI K mg H d 2 a (pL N n) (past3 ++ [pF N n]) H10 := I.go k10 f10
  clear k10 f10
  have lp4 : (past3 ++ [pF N n]).length ≤ N + 3 := by rw [List.length_append]; show past3.length + 1 ≤ _; omega
  generalize past3 ++ [pF N n] = past4 at I lp4
  have wL' := wp_of wL
  clear r1 r2 r3 wE wF e1 e2 e3 a1 a2 a3 a4 a5 lp lp2 lp3
  generalize pL N n = p at *
  have shS : Shows (seenD p (N + 1)) := seen_shows wL' (by decide) (by omega)
  walk_at "rd"
  refine ⟨a, p, past4, N + 1, rfl, I.fam, wL'.l1, rfl, by omega, fun v H11 k11 dv => ?_⟩
  walk_at "rd"
  refine rd_repr dv shS ?_
  replace I := I.same k11
  clear k11 dv v
  walk_at "rd"
  refine rd_negI ?_
  walk_at "rd"
  intro l hl
  have I6 := I.same ((Same.refl H11).new (o := .lst [.int (-1), .int ((N : Int) + 1), .bl true, .non, .str "0", .int 99]) hl)
  have ld := I.dk.ne hl
  walk_at "rd"
  refine use_draw I6.dk (by decide) (by decide) (by unfold LIM; omega) fun y H12 y0 y1 d12 k12 => ?_
  refine pick (SqL.of (k12.at ld)) y0 (by show y < 6; omega) fun pr hpr => ?_
  replace I := I6.draw k12 d12
  obtain ⟨bp, fp⟩ := bad_pr e4 (by omega) hpr
  clear I6 k12 d12 hpr ld hl y0 y1 y
  walk_at "rd"
  refine rd_negI ?_
  walk_at "rd"
  intro l hl
  have I6 := I.same ((Same.refl H12).new (o := .lst [.int (-1), .int 256, .bl true, .non, .str "0", .int 999]) hl)
  have ld := I.dk.ne hl
  walk_at "rd"
  refine use_draw I6.dk (by decide) (by decide) (by unfold LIM; omega) fun y H13 y0 y1 d13 k13 => ?_
  refine pick (SqL.of (k13.at ld)) y0 (by show y < 6; omega) fun no hno => ?_
  replace I := I6.draw k13 d13
  obtain ⟨bn, fn⟩ := bad_no hno
  clear I6 k13 d13 hno ld hl y0 y1 y
  walk_at "rd"
  refine use_draw I.dk (by decide) (by decide) (by unfold LIM; omega) fun y H14 y0 y1 d14 k14 => ?_
  replace I := I.draw k14 d14
  obtain ⟨dd, hdd, dd1, dd2⟩ : ∃ dd : Nat, 1 + y = (dd : Int) ∧ 1 ≤ dd ∧ dd ≤ 2 := ⟨(1 + y).toNat, by omega, by omega, by omega⟩
  have hal : staOf p dd ≠ .alive := by
    rcases (show dd = 1 ∨ dd = 2 by omega) with rfl | rfl
    · exact a7
    · exact a8
  have hdl : dd < p.1.length := by omega
  walk_at "rd"
  rw [hdd]
  clear hdd y0 y1 y k14 d14

  have im : IpAll K H14 [] (([] : List Row).map rowD) := .nil
  walk_at "rd"
  intro te hte
  have k := (Same.refl H14).new (o := .tup [.str "process", .non]) hte
  have ce : upd H14 te (.tup [.str "process", .non]) te = some (.tup [.str "process", .non]) := upd_same
  generalize upd H14 te (.tup [.str "process", .non]) = H15 at k ce ⊢
  have de : Ip K H15 (.ref te) (fwD (.process)) := .mk2 (SqT.of ce) (.str _) .non
  replace I := I.same k
  replace im := im.up (Ty.of k)
  clear k ce hte
  walk_at "rd"
  intro t0 ht
  have k := (Same.refl H15).new (o := .tup [.int 0, pr, .non, .ref te]) ht
  have ce : upd H15 t0 (.tup [.int 0, pr, .non, .ref te]) t0 = some (.tup [.int 0, pr, .non, .ref te]) := upd_same
  generalize upd H15 t0 (.tup [.int 0, pr, .non, .ref te]) = H16 at k ce ⊢
  replace im : IpAll K H16 [.ref t0] (([⟨0, pr, .non, .process⟩] : List Row).map rowD) := (im.up (Ty.of k)).snoc (.mk4 (SqT.of ce) (.int _) (vd_ip fp) (vd_ip fl_non) (de.up (Ty.of k)))
  replace I := I.same k
  clear k ce ht de
  walk_at "rd"
  intro te hte
  have k := (Same.refl H16).new (o := .tup [.str "dead", .int (dd : Int)]) hte
  have ce : upd H16 te (.tup [.str "dead", .int (dd : Int)]) te = some (.tup [.str "dead", .int (dd : Int)]) := upd_same
  generalize upd H16 te (.tup [.str "dead", .int (dd : Int)]) = H17 at k ce ⊢
  have de : Ip K H17 (.ref te) (fwD (.dead dd)) := .mk2 (SqT.of ce) (.str _) (.int _)
  replace I := I.same k
  replace im := im.up (Ty.of k)
  clear k ce hte
  walk_at "rd"
  intro t1 ht
  have k := (Same.refl H17).new (o := .tup [.int 0, .int (dd : Int), .non, .ref te]) ht
  have ce : upd H17 t1 (.tup [.int 0, .int (dd : Int), .non, .ref te]) t1 = some (.tup [.int 0, .int (dd : Int), .non, .ref te]) := upd_same
  generalize upd H17 t1 (.tup [.int 0, .int (dd : Int), .non, .ref te]) = H18 at k ce ⊢
  replace im : IpAll K H18 [.ref t0, .ref t1] (([⟨0, pr, .non, .process⟩, ⟨0, .int (dd : Int), .non, .dead dd⟩] : List Row).map rowD) := (im.up (Ty.of k)).snoc (.mk4 (SqT.of ce) (.int _) (vd_ip (fl_int _)) (vd_ip fl_non) (de.up (Ty.of k)))
  replace I := I.same k
  clear k ce ht de
  walk_at "rd"
  intro te hte
  have k := (Same.refl H18).new (o := .tup [.str "process", .non]) hte
  have ce : upd H18 te (.tup [.str "process", .non]) te = some (.tup [.str "process", .non]) := upd_same
  generalize upd H18 te (.tup [.str "process", .non]) = H19 at k ce ⊢
  have de : Ip K H19 (.ref te) (fwD (.process)) := .mk2 (SqT.of ce) (.str _) .non
  replace I := I.same k
  replace im := im.up (Ty.of k)
  clear k ce hte
  walk_at "rd"
  intro t2 ht
  have k := (Same.refl H19).new (o := .tup [.int 1, pr, no, .ref te]) ht
  have ce : upd H19 t2 (.tup [.int 1, pr, no, .ref te]) t2 = some (.tup [.int 1, pr, no, .ref te]) := upd_same
  generalize upd H19 t2 (.tup [.int 1, pr, no, .ref te]) = H20 at k ce ⊢
  replace im : IpAll K H20 [.ref t0, .ref t1, .ref t2] (([⟨0, pr, .non, .process⟩, ⟨0, .int (dd : Int), .non, .dead dd⟩, ⟨1, pr, no, .process⟩] : List Row).map rowD) := (im.up (Ty.of k)).snoc (.mk4 (SqT.of ce) (.int _) (vd_ip fp) (vd_ip fn) (de.up (Ty.of k)))
  replace I := I.same k
  clear k ce ht de
  walk_at "rd"
  intro l hl
  have k := (Same.refl H20).new (o := .lst [.ref t0, .ref t1, .ref t2]) hl
  have cl : upd H20 l (.lst [.ref t0, .ref t1, .ref t2]) l = some (.lst [.ref t0, .ref t1, .ref t2]) := upd_same
  generalize upd H20 l (.lst [.ref t0, .ref t1, .ref t2]) = H21 at k cl ⊢
  replace I := I.same k
  replace im := im.up (Ty.of k)
  clear k hl
  have hr := cl
  have ir := im
  clear cl im
  have im : IpAll K H21 [] (([] : List Row).map rowD) := .nil
  walk_at "rd"
  intro te hte
  have k := (Same.refl H21).new (o := .tup [.str "count", .non]) hte
  have ce : upd H21 te (.tup [.str "count", .non]) te = some (.tup [.str "count", .non]) := upd_same
  generalize upd H21 te (.tup [.str "count", .non]) = H22 at k ce ⊢
  have de : Ip K H22 (.ref te) (fwD (.count)) := .mk2 (SqT.of ce) (.str _) .non
  replace I := I.same k
  replace im := im.up (Ty.of k)
  replace hr := k _ _ hr
  replace ir := ir.up (Ty.of k)
  clear k ce hte
  walk_at "rd"
  intro t3 ht
  have k := (Same.refl H22).new (o := .tup [.int 1, .int (dd : Int), no, .ref te]) ht
  have ce : upd H22 t3 (.tup [.int 1, .int (dd : Int), no, .ref te]) t3 = some (.tup [.int 1, .int (dd : Int), no, .ref te]) := upd_same
  generalize upd H22 t3 (.tup [.int 1, .int (dd : Int), no, .ref te]) = H23 at k ce ⊢
  replace im : IpAll K H23 [.ref t3] (([⟨1, .int (dd : Int), no, .count⟩] : List Row).map rowD) := (im.up (Ty.of k)).snoc (.mk4 (SqT.of ce) (.int _) (vd_ip (fl_int _)) (vd_ip fn) (de.up (Ty.of k)))
  replace I := I.same k
  replace hr := k _ _ hr
  replace ir := ir.up (Ty.of k)
  clear k ce ht de
  walk_at "rd"
  intro te hte
  have k := (Same.refl H23).new (o := .tup [.str "dead", .int (dd : Int)]) hte
  have ce : upd H23 te (.tup [.str "dead", .int (dd : Int)]) te = some (.tup [.str "dead", .int (dd : Int)]) := upd_same
  generalize upd H23 te (.tup [.str "dead", .int (dd : Int)]) = H24 at k ce ⊢
  have de : Ip K H24 (.ref te) (fwD (.dead dd)) := .mk2 (SqT.of ce) (.str _) (.int _)
  replace I := I.same k
  replace im := im.up (Ty.of k)
  replace hr := k _ _ hr
  replace ir := ir.up (Ty.of k)
  clear k ce hte
  walk_at "rd"
  intro t4 ht
  have k := (Same.refl H24).new (o := .tup [.int 1, .int (dd : Int), .int 5, .ref te]) ht
  have ce : upd H24 t4 (.tup [.int 1, .int (dd : Int), .int 5, .ref te]) t4 = some (.tup [.int 1, .int (dd : Int), .int 5, .ref te]) := upd_same
  generalize upd H24 t4 (.tup [.int 1, .int (dd : Int), .int 5, .ref te]) = H25 at k ce ⊢
  replace im : IpAll K H25 [.ref t3, .ref t4] (([⟨1, .int (dd : Int), no, .count⟩, ⟨1, .int (dd : Int), .int 5, .dead dd⟩] : List Row).map rowD) := (im.up (Ty.of k)).snoc (.mk4 (SqT.of ce) (.int _) (vd_ip (fl_int _)) (vd_ip (fl_int _)) (de.up (Ty.of k)))
  replace I := I.same k
  replace hr := k _ _ hr
  replace ir := ir.up (Ty.of k)
  clear k ce ht de
  walk_at "rd"
  intro te hte
  have k := (Same.refl H25).new (o := .tup [.str "count", .non]) hte
  have ce : upd H25 te (.tup [.str "count", .non]) te = some (.tup [.str "count", .non]) := upd_same
  generalize upd H25 te (.tup [.str "count", .non]) = H26 at k ce ⊢
  have de : Ip K H26 (.ref te) (fwD (.count)) := .mk2 (SqT.of ce) (.str _) .non
  replace I := I.same k
  replace im := im.up (Ty.of k)
  replace hr := k _ _ hr
  replace ir := ir.up (Ty.of k)
  clear k ce hte
  walk_at "rd"
  intro t5 ht
  have k := (Same.refl H26).new (o := .tup [.int 1, .int 0, no, .ref te]) ht
  have ce : upd H26 t5 (.tup [.int 1, .int 0, no, .ref te]) t5 = some (.tup [.int 1, .int 0, no, .ref te]) := upd_same
  generalize upd H26 t5 (.tup [.int 1, .int 0, no, .ref te]) = H27 at k ce ⊢
  replace im : IpAll K H27 [.ref t3, .ref t4, .ref t5] (([⟨1, .int (dd : Int), no, .count⟩, ⟨1, .int (dd : Int), .int 5, .dead dd⟩, ⟨1, .int 0, no, .count⟩] : List Row).map rowD) := (im.up (Ty.of k)).snoc (.mk4 (SqT.of ce) (.int _) (vd_ip (fl_int _)) (vd_ip fn) (de.up (Ty.of k)))
  replace I := I.same k
  replace hr := k _ _ hr
  replace ir := ir.up (Ty.of k)
  clear k ce ht de
  walk_at "rd"
  intro te hte
  have k := (Same.refl H27).new (o := .tup [.str "dead", .int 0]) hte
  have ce : upd H27 te (.tup [.str "dead", .int 0]) te = some (.tup [.str "dead", .int 0]) := upd_same
  generalize upd H27 te (.tup [.str "dead", .int 0]) = H28 at k ce ⊢
  have de : Ip K H28 (.ref te) (fwD (.dead 0)) := .mk2 (SqT.of ce) (.str _) (.int _)
  replace I := I.same k
  replace im := im.up (Ty.of k)
  replace hr := k _ _ hr
  replace ir := ir.up (Ty.of k)
  clear k ce hte
  walk_at "rd"
  intro t6 ht
  have k := (Same.refl H28).new (o := .tup [.int 1, .int 0, .int 5, .ref te]) ht
  have ce : upd H28 t6 (.tup [.int 1, .int 0, .int 5, .ref te]) t6 = some (.tup [.int 1, .int 0, .int 5, .ref te]) := upd_same
  generalize upd H28 t6 (.tup [.int 1, .int 0, .int 5, .ref te]) = H29 at k ce ⊢
  replace im : IpAll K H29 [.ref t3, .ref t4, .ref t5, .ref t6] (([⟨1, .int (dd : Int), no, .count⟩, ⟨1, .int (dd : Int), .int 5, .dead dd⟩, ⟨1, .int 0, no, .count⟩, ⟨1, .int 0, .int 5, .dead 0⟩] : List Row).map rowD) := (im.up (Ty.of k)).snoc (.mk4 (SqT.of ce) (.int _) (vd_ip (fl_int _)) (vd_ip (fl_int _)) (de.up (Ty.of k)))
  replace I := I.same k
  replace hr := k _ _ hr
  replace ir := ir.up (Ty.of k)
  clear k ce ht de
  walk_at "rd"
  intro l hl
  have k := (Same.refl H29).new (o := .lst [.ref t3, .ref t4, .ref t5, .ref t6]) hl
  have cl : upd H29 l (.lst [.ref t3, .ref t4, .ref t5, .ref t6]) l = some (.lst [.ref t3, .ref t4, .ref t5, .ref t6]) := upd_same
  generalize upd H29 l (.lst [.ref t3, .ref t4, .ref t5, .ref t6]) = H30 at k cl ⊢
  replace I := I.same k
  replace im := im.up (Ty.of k)
  replace hr := k _ _ hr
  replace ir := ir.up (Ty.of k)
  clear k hl
  walk_at "rd"
  refine rd_cat hr cl (szOk (by show 7 ≤ 1000000; decide)) fun r hr2 => ?_
  have k := (Same.refl H30).new (o := .lst ([.ref t0, .ref t1, .ref t2] ++ [.ref t3, .ref t4, .ref t5, .ref t6])) hr2
  have cl2 : upd H30 r (.lst ([.ref t0, .ref t1, .ref t2] ++ [.ref t3, .ref t4, .ref t5, .ref t6])) r = some (.lst [.ref t0, .ref t1, .ref t2, .ref t3, .ref t4, .ref t5, .ref t6]) := upd_same
  generalize upd H30 r (.lst ([.ref t0, .ref t1, .ref t2] ++ [.ref t3, .ref t4, .ref t5, .ref t6])) = H31 at k cl2 ⊢
  replace ir : IpAll K H31 [.ref t0, .ref t1, .ref t2, .ref t3, .ref t4, .ref t5, .ref t6] (([⟨0, pr, .non, .process⟩, ⟨0, .int (dd : Int), .non, .dead dd⟩, ⟨1, pr, no, .process⟩, ⟨1, .int (dd : Int), no, .count⟩, ⟨1, .int (dd : Int), .int 5, .dead dd⟩, ⟨1, .int 0, no, .count⟩, ⟨1, .int 0, .int 5, .dead 0⟩] : List Row).map rowD) := (ir.append im).up (Ty.of k)
  replace hr := cl2
  replace I := I.same k
  clear k hr2 cl2 cl im
  have im : IpAll K H31 [] (([] : List Row).map rowD) := .nil
  walk_at "rd"
  intro te hte
  have k := (Same.refl H31).new (o := .tup [.str "process", .non]) hte
  have ce : upd H31 te (.tup [.str "process", .non]) te = some (.tup [.str "process", .non]) := upd_same
  generalize upd H31 te (.tup [.str "process", .non]) = H32 at k ce ⊢
  have de : Ip K H32 (.ref te) (fwD (.process)) := .mk2 (SqT.of ce) (.str _) .non
  replace I := I.same k
  replace im := im.up (Ty.of k)
  replace hr := k _ _ hr
  replace ir := ir.up (Ty.of k)
  clear k ce hte
  walk_at "rd"
  intro t7 ht
  have k := (Same.refl H32).new (o := .tup [.int 2, pr, .non, .ref te]) ht
  have ce : upd H32 t7 (.tup [.int 2, pr, .non, .ref te]) t7 = some (.tup [.int 2, pr, .non, .ref te]) := upd_same
  generalize upd H32 t7 (.tup [.int 2, pr, .non, .ref te]) = H33 at k ce ⊢
  replace im : IpAll K H33 [.ref t7] (([⟨2, pr, .non, .process⟩] : List Row).map rowD) := (im.up (Ty.of k)).snoc (.mk4 (SqT.of ce) (.int _) (vd_ip fp) (vd_ip fl_non) (de.up (Ty.of k)))
  replace I := I.same k
  replace hr := k _ _ hr
  replace ir := ir.up (Ty.of k)
  clear k ce ht de
  walk_at "rd"
  intro te hte
  have k := (Same.refl H33).new (o := .tup [.str "dead", .int (dd : Int)]) hte
  have ce : upd H33 te (.tup [.str "dead", .int (dd : Int)]) te = some (.tup [.str "dead", .int (dd : Int)]) := upd_same
  generalize upd H33 te (.tup [.str "dead", .int (dd : Int)]) = H34 at k ce ⊢
  have de : Ip K H34 (.ref te) (fwD (.dead dd)) := .mk2 (SqT.of ce) (.str _) (.int _)
  replace I := I.same k
  replace im := im.up (Ty.of k)
  replace hr := k _ _ hr
  replace ir := ir.up (Ty.of k)
  clear k ce hte
  walk_at "rd"
  intro t8 ht
  have k := (Same.refl H34).new (o := .tup [.int 2, .int (dd : Int), .non, .ref te]) ht
  have ce : upd H34 t8 (.tup [.int 2, .int (dd : Int), .non, .ref te]) t8 = some (.tup [.int 2, .int (dd : Int), .non, .ref te]) := upd_same
  generalize upd H34 t8 (.tup [.int 2, .int (dd : Int), .non, .ref te]) = H35 at k ce ⊢
  replace im : IpAll K H35 [.ref t7, .ref t8] (([⟨2, pr, .non, .process⟩, ⟨2, .int (dd : Int), .non, .dead dd⟩] : List Row).map rowD) := (im.up (Ty.of k)).snoc (.mk4 (SqT.of ce) (.int _) (vd_ip (fl_int _)) (vd_ip fl_non) (de.up (Ty.of k)))
  replace I := I.same k
  replace hr := k _ _ hr
  replace ir := ir.up (Ty.of k)
  clear k ce ht de
  walk_at "rd"
  intro te hte
  have k := (Same.refl H35).new (o := .tup [.str "process", .non]) hte
  have ce : upd H35 te (.tup [.str "process", .non]) te = some (.tup [.str "process", .non]) := upd_same
  generalize upd H35 te (.tup [.str "process", .non]) = H36 at k ce ⊢
  have de : Ip K H36 (.ref te) (fwD (.process)) := .mk2 (SqT.of ce) (.str _) .non
  replace I := I.same k
  replace im := im.up (Ty.of k)
  replace hr := k _ _ hr
  replace ir := ir.up (Ty.of k)
  clear k ce hte
  walk_at "rd"
  intro t9 ht
  have k := (Same.refl H36).new (o := .tup [.int 3, pr, pr, .ref te]) ht
  have ce : upd H36 t9 (.tup [.int 3, pr, pr, .ref te]) t9 = some (.tup [.int 3, pr, pr, .ref te]) := upd_same
  generalize upd H36 t9 (.tup [.int 3, pr, pr, .ref te]) = H37 at k ce ⊢
  replace im : IpAll K H37 [.ref t7, .ref t8, .ref t9] (([⟨2, pr, .non, .process⟩, ⟨2, .int (dd : Int), .non, .dead dd⟩, ⟨3, pr, pr, .process⟩] : List Row).map rowD) := (im.up (Ty.of k)).snoc (.mk4 (SqT.of ce) (.int _) (vd_ip fp) (vd_ip fp) (de.up (Ty.of k)))
  replace I := I.same k
  replace hr := k _ _ hr
  replace ir := ir.up (Ty.of k)
  clear k ce ht de
  walk_at "rd"
  intro l hl
  have k := (Same.refl H37).new (o := .lst [.ref t7, .ref t8, .ref t9]) hl
  have cl : upd H37 l (.lst [.ref t7, .ref t8, .ref t9]) l = some (.lst [.ref t7, .ref t8, .ref t9]) := upd_same
  generalize upd H37 l (.lst [.ref t7, .ref t8, .ref t9]) = H38 at k cl ⊢
  replace I := I.same k
  replace im := im.up (Ty.of k)
  replace hr := k _ _ hr
  replace ir := ir.up (Ty.of k)
  clear k hl
  walk_at "rd"
  refine rd_cat hr cl (szOk (by show 10 ≤ 1000000; decide)) fun r hr2 => ?_
  have k := (Same.refl H38).new (o := .lst ([.ref t0, .ref t1, .ref t2, .ref t3, .ref t4, .ref t5, .ref t6] ++ [.ref t7, .ref t8, .ref t9])) hr2
  have cl2 : upd H38 r (.lst ([.ref t0, .ref t1, .ref t2, .ref t3, .ref t4, .ref t5, .ref t6] ++ [.ref t7, .ref t8, .ref t9])) r = some (.lst [.ref t0, .ref t1, .ref t2, .ref t3, .ref t4, .ref t5, .ref t6, .ref t7, .ref t8, .ref t9]) := upd_same
  generalize upd H38 r (.lst ([.ref t0, .ref t1, .ref t2, .ref t3, .ref t4, .ref t5, .ref t6] ++ [.ref t7, .ref t8, .ref t9])) = H39 at k cl2 ⊢
  replace ir : IpAll K H39 [.ref t0, .ref t1, .ref t2, .ref t3, .ref t4, .ref t5, .ref t6, .ref t7, .ref t8, .ref t9] (([⟨0, pr, .non, .process⟩, ⟨0, .int (dd : Int), .non, .dead dd⟩, ⟨1, pr, no, .process⟩, ⟨1, .int (dd : Int), no, .count⟩, ⟨1, .int (dd : Int), .int 5, .dead dd⟩, ⟨1, .int 0, no, .count⟩, ⟨1, .int 0, .int 5, .dead 0⟩, ⟨2, pr, .non, .process⟩, ⟨2, .int (dd : Int), .non, .dead dd⟩, ⟨3, pr, pr, .process⟩] : List Row).map rowD) := (ir.append im).up (Ty.of k)
  replace hr := cl2
  replace I := I.same k
  clear k hr2 cl2 cl im
  have im : IpAll K H39 [] (([] : List Row).map rowD) := .nil
  walk_at "rd"
  intro te hte
  have k := (Same.refl H39).new (o := .tup [.str "process", .non]) hte
  have ce : upd H39 te (.tup [.str "process", .non]) te = some (.tup [.str "process", .non]) := upd_same
  generalize upd H39 te (.tup [.str "process", .non]) = H40 at k ce ⊢
  have de : Ip K H40 (.ref te) (fwD (.process)) := .mk2 (SqT.of ce) (.str _) .non
  replace I := I.same k
  replace im := im.up (Ty.of k)
  replace hr := k _ _ hr
  replace ir := ir.up (Ty.of k)
  clear k ce hte
  walk_at "rd"
  intro t10 ht
  have k := (Same.refl H40).new (o := .tup [.int 3, .int (dd : Int), pr, .ref te]) ht
  have ce : upd H40 t10 (.tup [.int 3, .int (dd : Int), pr, .ref te]) t10 = some (.tup [.int 3, .int (dd : Int), pr, .ref te]) := upd_same
  generalize upd H40 t10 (.tup [.int 3, .int (dd : Int), pr, .ref te]) = H41 at k ce ⊢
  replace im : IpAll K H41 [.ref t10] (([⟨3, .int (dd : Int), pr, .process⟩] : List Row).map rowD) := (im.up (Ty.of k)).snoc (.mk4 (SqT.of ce) (.int _) (vd_ip (fl_int _)) (vd_ip fp) (de.up (Ty.of k)))
  replace I := I.same k
  replace hr := k _ _ hr
  replace ir := ir.up (Ty.of k)
  clear k ce ht de
  walk_at "rd"
  intro te hte
  have k := (Same.refl H41).new (o := .tup [.str "dead", .int (dd : Int)]) hte
  have ce : upd H41 te (.tup [.str "dead", .int (dd : Int)]) te = some (.tup [.str "dead", .int (dd : Int)]) := upd_same
  generalize upd H41 te (.tup [.str "dead", .int (dd : Int)]) = H42 at k ce ⊢
  have de : Ip K H42 (.ref te) (fwD (.dead dd)) := .mk2 (SqT.of ce) (.str _) (.int _)
  replace I := I.same k
  replace im := im.up (Ty.of k)
  replace hr := k _ _ hr
  replace ir := ir.up (Ty.of k)
  clear k ce hte
  walk_at "rd"
  intro t11 ht
  have k := (Same.refl H42).new (o := .tup [.int 3, .int (dd : Int), .int 0, .ref te]) ht
  have ce : upd H42 t11 (.tup [.int 3, .int (dd : Int), .int 0, .ref te]) t11 = some (.tup [.int 3, .int (dd : Int), .int 0, .ref te]) := upd_same
  generalize upd H42 t11 (.tup [.int 3, .int (dd : Int), .int 0, .ref te]) = H43 at k ce ⊢
  replace im : IpAll K H43 [.ref t10, .ref t11] (([⟨3, .int (dd : Int), pr, .process⟩, ⟨3, .int (dd : Int), .int 0, .dead dd⟩] : List Row).map rowD) := (im.up (Ty.of k)).snoc (.mk4 (SqT.of ce) (.int _) (vd_ip (fl_int _)) (vd_ip (fl_int _)) (de.up (Ty.of k)))
  replace I := I.same k
  replace hr := k _ _ hr
  replace ir := ir.up (Ty.of k)
  clear k ce ht de
  walk_at "rd"
  intro te hte
  have k := (Same.refl H43).new (o := .tup [.str "process", .non]) hte
  have ce : upd H43 te (.tup [.str "process", .non]) te = some (.tup [.str "process", .non]) := upd_same
  generalize upd H43 te (.tup [.str "process", .non]) = H44 at k ce ⊢
  have de : Ip K H44 (.ref te) (fwD (.process)) := .mk2 (SqT.of ce) (.str _) .non
  replace I := I.same k
  replace im := im.up (Ty.of k)
  replace hr := k _ _ hr
  replace ir := ir.up (Ty.of k)
  clear k ce hte
  walk_at "rd"
  intro t12 ht
  have k := (Same.refl H44).new (o := .tup [.int 3, .int 0, pr, .ref te]) ht
  have ce : upd H44 t12 (.tup [.int 3, .int 0, pr, .ref te]) t12 = some (.tup [.int 3, .int 0, pr, .ref te]) := upd_same
  generalize upd H44 t12 (.tup [.int 3, .int 0, pr, .ref te]) = H45 at k ce ⊢
  replace im : IpAll K H45 [.ref t10, .ref t11, .ref t12] (([⟨3, .int (dd : Int), pr, .process⟩, ⟨3, .int (dd : Int), .int 0, .dead dd⟩, ⟨3, .int 0, pr, .process⟩] : List Row).map rowD) := (im.up (Ty.of k)).snoc (.mk4 (SqT.of ce) (.int _) (vd_ip (fl_int _)) (vd_ip fp) (de.up (Ty.of k)))
  replace I := I.same k
  replace hr := k _ _ hr
  replace ir := ir.up (Ty.of k)
  clear k ce ht de
  walk_at "rd"
  intro l hl
  have k := (Same.refl H45).new (o := .lst [.ref t10, .ref t11, .ref t12]) hl
  have cl : upd H45 l (.lst [.ref t10, .ref t11, .ref t12]) l = some (.lst [.ref t10, .ref t11, .ref t12]) := upd_same
  generalize upd H45 l (.lst [.ref t10, .ref t11, .ref t12]) = H46 at k cl ⊢
  replace I := I.same k
  replace im := im.up (Ty.of k)
  replace hr := k _ _ hr
  replace ir := ir.up (Ty.of k)
  clear k hl
  walk_at "rd"
  refine rd_cat hr cl (szOk (by show 13 ≤ 1000000; decide)) fun r hr2 => ?_
  have k := (Same.refl H46).new (o := .lst ([.ref t0, .ref t1, .ref t2, .ref t3, .ref t4, .ref t5, .ref t6, .ref t7, .ref t8, .ref t9] ++ [.ref t10, .ref t11, .ref t12])) hr2
  have cl2 : upd H46 r (.lst ([.ref t0, .ref t1, .ref t2, .ref t3, .ref t4, .ref t5, .ref t6, .ref t7, .ref t8, .ref t9] ++ [.ref t10, .ref t11, .ref t12])) r = some (.lst [.ref t0, .ref t1, .ref t2, .ref t3, .ref t4, .ref t5, .ref t6, .ref t7, .ref t8, .ref t9, .ref t10, .ref t11, .ref t12]) := upd_same
  generalize upd H46 r (.lst ([.ref t0, .ref t1, .ref t2, .ref t3, .ref t4, .ref t5, .ref t6, .ref t7, .ref t8, .ref t9] ++ [.ref t10, .ref t11, .ref t12])) = H47 at k cl2 ⊢
  replace ir : IpAll K H47 [.ref t0, .ref t1, .ref t2, .ref t3, .ref t4, .ref t5, .ref t6, .ref t7, .ref t8, .ref t9, .ref t10, .ref t11, .ref t12] (([⟨0, pr, .non, .process⟩, ⟨0, .int (dd : Int), .non, .dead dd⟩, ⟨1, pr, no, .process⟩, ⟨1, .int (dd : Int), no, .count⟩, ⟨1, .int (dd : Int), .int 5, .dead dd⟩, ⟨1, .int 0, no, .count⟩, ⟨1, .int 0, .int 5, .dead 0⟩, ⟨2, pr, .non, .process⟩, ⟨2, .int (dd : Int), .non, .dead dd⟩, ⟨3, pr, pr, .process⟩, ⟨3, .int (dd : Int), pr, .process⟩, ⟨3, .int (dd : Int), .int 0, .dead dd⟩, ⟨3, .int 0, pr, .process⟩] : List Row).map rowD) := (ir.append im).up (Ty.of k)
  replace hr := cl2
  replace I := I.same k
  clear k hr2 cl2 cl im
  have im : IpAll K H47 [] (([] : List Row).map rowD) := .nil
  walk_at "rd"
  intro te hte
  have k := (Same.refl H47).new (o := .tup [.str "process", .non]) hte
  have ce : upd H47 te (.tup [.str "process", .non]) te = some (.tup [.str "process", .non]) := upd_same
  generalize upd H47 te (.tup [.str "process", .non]) = H48 at k ce ⊢
  have de : Ip K H48 (.ref te) (fwD (.process)) := .mk2 (SqT.of ce) (.str _) .non
  replace I := I.same k
  replace im := im.up (Ty.of k)
  replace hr := k _ _ hr
  replace ir := ir.up (Ty.of k)
  clear k ce hte
  walk_at "rd"
  intro t13 ht
  have k := (Same.refl H48).new (o := .tup [.int 4, pr, .non, .ref te]) ht
  have ce : upd H48 t13 (.tup [.int 4, pr, .non, .ref te]) t13 = some (.tup [.int 4, pr, .non, .ref te]) := upd_same
  generalize upd H48 t13 (.tup [.int 4, pr, .non, .ref te]) = H49 at k ce ⊢
  replace im : IpAll K H49 [.ref t13] (([⟨4, pr, .non, .process⟩] : List Row).map rowD) := (im.up (Ty.of k)).snoc (.mk4 (SqT.of ce) (.int _) (vd_ip fp) (vd_ip fl_non) (de.up (Ty.of k)))
  replace I := I.same k
  replace hr := k _ _ hr
  replace ir := ir.up (Ty.of k)
  clear k ce ht de
  walk_at "rd"
  intro te hte
  have k := (Same.refl H49).new (o := .tup [.str "process", .non]) hte
  have ce : upd H49 te (.tup [.str "process", .non]) te = some (.tup [.str "process", .non]) := upd_same
  generalize upd H49 te (.tup [.str "process", .non]) = H50 at k ce ⊢
  have de : Ip K H50 (.ref te) (fwD (.process)) := .mk2 (SqT.of ce) (.str _) .non
  replace I := I.same k
  replace im := im.up (Ty.of k)
  replace hr := k _ _ hr
  replace ir := ir.up (Ty.of k)
  clear k ce hte
  walk_at "rd"
  intro t14 ht
  have k := (Same.refl H50).new (o := .tup [.int 5, pr, .non, .ref te]) ht
  have ce : upd H50 t14 (.tup [.int 5, pr, .non, .ref te]) t14 = some (.tup [.int 5, pr, .non, .ref te]) := upd_same
  generalize upd H50 t14 (.tup [.int 5, pr, .non, .ref te]) = H51 at k ce ⊢
  replace im : IpAll K H51 [.ref t13, .ref t14] (([⟨4, pr, .non, .process⟩, ⟨5, pr, .non, .process⟩] : List Row).map rowD) := (im.up (Ty.of k)).snoc (.mk4 (SqT.of ce) (.int _) (vd_ip fp) (vd_ip fl_non) (de.up (Ty.of k)))
  replace I := I.same k
  replace hr := k _ _ hr
  replace ir := ir.up (Ty.of k)
  clear k ce ht de
  walk_at "rd"
  intro te hte
  have k := (Same.refl H51).new (o := .tup [.str "process", .non]) hte
  have ce : upd H51 te (.tup [.str "process", .non]) te = some (.tup [.str "process", .non]) := upd_same
  generalize upd H51 te (.tup [.str "process", .non]) = H52 at k ce ⊢
  have de : Ip K H52 (.ref te) (fwD (.process)) := .mk2 (SqT.of ce) (.str _) .non
  replace I := I.same k
  replace im := im.up (Ty.of k)
  replace hr := k _ _ hr
  replace ir := ir.up (Ty.of k)
  clear k ce hte
  walk_at "rd"
  intro t15 ht
  have k := (Same.refl H52).new (o := .tup [.int 6, pr, .non, .ref te]) ht
  have ce : upd H52 t15 (.tup [.int 6, pr, .non, .ref te]) t15 = some (.tup [.int 6, pr, .non, .ref te]) := upd_same
  generalize upd H52 t15 (.tup [.int 6, pr, .non, .ref te]) = H53 at k ce ⊢
  replace im : IpAll K H53 [.ref t13, .ref t14, .ref t15] (([⟨4, pr, .non, .process⟩, ⟨5, pr, .non, .process⟩, ⟨6, pr, .non, .process⟩] : List Row).map rowD) := (im.up (Ty.of k)).snoc (.mk4 (SqT.of ce) (.int _) (vd_ip fp) (vd_ip fl_non) (de.up (Ty.of k)))
  replace I := I.same k
  replace hr := k _ _ hr
  replace ir := ir.up (Ty.of k)
  clear k ce ht de
  walk_at "rd"
  intro l hl
  have k := (Same.refl H53).new (o := .lst [.ref t13, .ref t14, .ref t15]) hl
  have cl : upd H53 l (.lst [.ref t13, .ref t14, .ref t15]) l = some (.lst [.ref t13, .ref t14, .ref t15]) := upd_same
  generalize upd H53 l (.lst [.ref t13, .ref t14, .ref t15]) = H54 at k cl ⊢
  replace I := I.same k
  replace im := im.up (Ty.of k)
  replace hr := k _ _ hr
  replace ir := ir.up (Ty.of k)
  clear k hl
  walk_at "rd"
  refine rd_cat hr cl (szOk (by show 16 ≤ 1000000; decide)) fun r hr2 => ?_
  have k := (Same.refl H54).new (o := .lst ([.ref t0, .ref t1, .ref t2, .ref t3, .ref t4, .ref t5, .ref t6, .ref t7, .ref t8, .ref t9, .ref t10, .ref t11, .ref t12] ++ [.ref t13, .ref t14, .ref t15])) hr2
  have cl2 : upd H54 r (.lst ([.ref t0, .ref t1, .ref t2, .ref t3, .ref t4, .ref t5, .ref t6, .ref t7, .ref t8, .ref t9, .ref t10, .ref t11, .ref t12] ++ [.ref t13, .ref t14, .ref t15])) r = some (.lst [.ref t0, .ref t1, .ref t2, .ref t3, .ref t4, .ref t5, .ref t6, .ref t7, .ref t8, .ref t9, .ref t10, .ref t11, .ref t12, .ref t13, .ref t14, .ref t15]) := upd_same
  generalize upd H54 r (.lst ([.ref t0, .ref t1, .ref t2, .ref t3, .ref t4, .ref t5, .ref t6, .ref t7, .ref t8, .ref t9, .ref t10, .ref t11, .ref t12] ++ [.ref t13, .ref t14, .ref t15])) = H55 at k cl2 ⊢
  replace ir : IpAll K H55 [.ref t0, .ref t1, .ref t2, .ref t3, .ref t4, .ref t5, .ref t6, .ref t7, .ref t8, .ref t9, .ref t10, .ref t11, .ref t12, .ref t13, .ref t14, .ref t15] (([⟨0, pr, .non, .process⟩, ⟨0, .int (dd : Int), .non, .dead dd⟩, ⟨1, pr, no, .process⟩, ⟨1, .int (dd : Int), no, .count⟩, ⟨1, .int (dd : Int), .int 5, .dead dd⟩, ⟨1, .int 0, no, .count⟩, ⟨1, .int 0, .int 5, .dead 0⟩, ⟨2, pr, .non, .process⟩, ⟨2, .int (dd : Int), .non, .dead dd⟩, ⟨3, pr, pr, .process⟩, ⟨3, .int (dd : Int), pr, .process⟩, ⟨3, .int (dd : Int), .int 0, .dead dd⟩, ⟨3, .int 0, pr, .process⟩, ⟨4, pr, .non, .process⟩, ⟨5, pr, .non, .process⟩, ⟨6, pr, .non, .process⟩] : List Row).map rowD) := (ir.append im).up (Ty.of k)
  replace hr := cl2
  replace I := I.same k
  clear k hr2 cl2 cl im
  have rok : ∀ x ∈ ([⟨0, pr, .non, .process⟩, ⟨0, .int (dd : Int), .non, .dead dd⟩, ⟨1, pr, no, .process⟩, ⟨1, .int (dd : Int), no, .count⟩, ⟨1, .int (dd : Int), .int 5, .dead dd⟩, ⟨1, .int 0, no, .count⟩, ⟨1, .int 0, .int 5, .dead 0⟩, ⟨2, pr, .non, .process⟩, ⟨2, .int (dd : Int), .non, .dead dd⟩, ⟨3, pr, pr, .process⟩, ⟨3, .int (dd : Int), pr, .process⟩, ⟨3, .int (dd : Int), .int 0, .dead dd⟩, ⟨3, .int 0, pr, .process⟩, ⟨4, pr, .non, .process⟩, ⟨5, pr, .non, .process⟩, ⟨6, pr, .non, .process⟩] : List Row), RowOk p x := by
    intro x hx
    simp only [List.mem_cons, List.not_mem_nil, or_false] at hx
    rcases hx with rfl | rfl | rfl | rfl | rfl | rfl | rfl | rfl | rfl | rfl | rfl | rfl | rfl | rfl | rfl | rfl
    · exact row_bad 0 (by decide) bp fp fl_non
    · exact row_dead0 hdl hal (by omega)
    · exact row_bad 1 (by decide) bp fp fn
    · exact row_count (r := dd) hdl bn fn
    · exact row_dead1 hdl hal (by omega)
    · exact row_count (r := 0) (by omega) bn fn
    · exact row_first (by omega) a6
    · exact row_bad 2 (by decide) bp fp fl_non
    · exact row_dead2 hdl hal (by omega)
    · exact row_bad 3 (by decide) bp fp fp
    · exact row_for (r := dd) hdl bp fp
    · exact row_dead3 hdl (by omega) hal (by omega)
    · exact row_for (r := 0) (by omega) bp fp
    · exact row_bad 4 (by decide) bp fp fl_non
    · exact row_bad 5 (by decide) bp fp fl_non
    · exact row_bad 6 (by decide) bp fp fl_non
  have lrow : ([⟨0, pr, .non, .process⟩, ⟨0, .int (dd : Int), .non, .dead dd⟩, ⟨1, pr, no, .process⟩, ⟨1, .int (dd : Int), no, .count⟩, ⟨1, .int (dd : Int), .int 5, .dead dd⟩, ⟨1, .int 0, no, .count⟩, ⟨1, .int 0, .int 5, .dead 0⟩, ⟨2, pr, .non, .process⟩, ⟨2, .int (dd : Int), .non, .dead dd⟩, ⟨3, pr, pr, .process⟩, ⟨3, .int (dd : Int), pr, .process⟩, ⟨3, .int (dd : Int), .int 0, .dead dd⟩, ⟨3, .int 0, pr, .process⟩, ⟨4, pr, .non, .process⟩, ⟨5, pr, .non, .process⟩, ⟨6, pr, .non, .process⟩] : List Row).length = 16 := rfl
  generalize ([⟨0, pr, .non, .process⟩, ⟨0, .int (dd : Int), .non, .dead dd⟩, ⟨1, pr, no, .process⟩, ⟨1, .int (dd : Int), no, .count⟩, ⟨1, .int (dd : Int), .int 5, .dead dd⟩, ⟨1, .int 0, no, .count⟩, ⟨1, .int 0, .int 5, .dead 0⟩, ⟨2, pr, .non, .process⟩, ⟨2, .int (dd : Int), .non, .dead dd⟩, ⟨3, pr, pr, .process⟩, ⟨3, .int (dd : Int), pr, .process⟩, ⟨3, .int (dd : Int), .int 0, .dead dd⟩, ⟨3, .int 0, pr, .process⟩, ⟨4, pr, .non, .process⟩, ⟨5, pr, .non, .process⟩, ⟨6, pr, .non, .process⟩] : List Row) = rows at ir rok lrow
  have lxs := ir.length
  rw [List.length_map, lrow] at lxs
  generalize ([.ref t0, .ref t1, .ref t2, .ref t3, .ref t4, .ref t5, .ref t6, .ref t7, .ref t8, .ref t9, .ref t10, .ref t11, .ref t12, .ref t13, .ref t14, .ref t15] : List V) = xs at hr ir lxs ⊢
  generalize H55 = Hb at I hr ir ⊢
  walk_at "rd"
  refine rd_forL ?_
  walk_at "rd"
  refine rd_itL (SqL.of hr) (fun _ σ H' => Same Hb H' ∧ ∃ x9 x10 x11 x12, σ = [some (.ref d), some (.ref a), some (.int (N : Int)), x3, some (.str (seenD p (N + 1)).shown), some pr, some no, some (.int (dd : Int)), some (.ref r), x9, x10, x11, x12]) ⟨Same.refl _, _, _, _, _, rfl⟩ (fun _ _ _ _ h => SqL.of (h.1 _ _ hr)) ?_ ?_
  · rintro i x σ H' hx ⟨k, x9, x10, x11, x12, rfl⟩
    obtain ⟨dat, hdat, ix⟩ := ir.getV hx
    rw [List.getElem?_map] at hdat
    obtain ⟨row, hrow, rfl⟩ := Option.map_eq_some_iff.mp hdat
    obtain ⟨o1, o2, o3, o4, o5, o6⟩ := rok row (List.mem_of_getElem? hrow)
    obtain ⟨T0, y1, y2, y3, y4, rfl, hT, j1, j2, j3, j4⟩ := (ix.up (Ty.of k)).t4
    obtain rfl := j1.i
    obtain rfl := vd_eq o2 j2
    obtain rfl := vd_eq o3 j3
    have J := I.same k
    refine rd_gtup hT rfl ?_
    walk_at "rd"
    refine ⟨a, p, past4, 41, row.way, ⟨rfl, J.fam, wL', by decide, by omega⟩, rfl, by omega, (fun z => by omega), o2, o3, (fun z => o5 (Sum.inl.inj (o4.symm.trans z))), (fun d e => by rw [o4] at e; cases e), (fun p' d e => by rw [o4] at e; cases e), fun e he v H2 k2 iv => ?_⟩
    obtain rfl : row.e = e := Sum.inl.inj (o4.symm.trans he)
    walk_at "rd"
    refine rd_neD iv.to (j4.up (Ty.of k2)).to (fw_shaped _ o6) (fw_shaped _ o6) ?_
    rw [fw_eqv]
    walk_at "rd"
    have J2 := J.same k2
    refine ⟨a, p, past4, N + 1, rfl, J2.fam, wL'.l1, rfl, by omega, fun v2 H3 k3 dv => ?_⟩
    walk_at "rd"
    refine rd_repr dv shS ?_
    walk_at "rd"
    rw [decide_eq_true rfl]
    walk_at "rd"
    exact ⟨(k.trans k2).trans k3, _, _, _, _, rfl⟩
  · rintro σ H' ⟨k, x9, x10, x11, x12, rfl⟩
    have J := I.same k
    have c1 : callF 3 p (.int 0) (.int 0) = .inr (none, noneD) := waitfor_no (r := 0) (c := 0) (by omega) (by omega) a6 (by rw [a10]; simp)
    have c2 : callF 1 p (.int 3) (.int 255) = .inr (some (endP p 3 255), .none) := end_ok (r := 3) (n := 255) (by omega) (by decide) a9 (by decide)
    walk_at "rd"
    refine ⟨a, p, past4, 41, 3, ⟨rfl, J.fam, wL', by decide, by omega⟩, rfl, by decide, (fun z => by omega), fl_int 0, fl_int 0, (fun z => by rw [c1] at z; cases z), (fun dt e v H2 k2 iv => ?_), (fun p' d e => by rw [c1] at e; cases e), (fun e he => by rw [c1] at he; cases he)⟩
    walk_at "rd"
    intro t ht
    have k3 := (Same.refl H2).new (o := .tup [.str "none", .non]) ht
    refine rd_eqD (iv.up (Ty.of k3)).to (.tup (SqT.of upd_same) (.cons (.str _) (.cons .non .nil))) (by decide +kernel) (by decide +kernel) ?_
    rw [show PyData.eqv okD (.tuple [.str "none", .none]) = true from (eqv_iff _ _ rfl rfl).mpr rfl]
    have J3 := (J.same k2).same k3
    generalize upd H2 t (.tup [.str "none", .non]) = H3 at J3 ⊢
    walk_at "rd"
    refine ⟨a, p, past4, 41, 1, ⟨rfl, J3.fam, wL', by decide, by omega⟩, rfl, by decide, (fun z => by omega), fl_int 3, fl_int 255, (fun z => by rw [c2] at z; cases z), (fun dt e => by rw [c2] at e; cases e), (fun p' dt e v H4 k4 f4 iv => ?_), (fun e he => by rw [c2] at he; cases he)⟩
    rw [c2] at e
    cases e
    have J4 := J3.go k4 f4
    walk_at "rd"
    intro t ht
    have k5 := (Same.refl H4).new (o := .tup [.str "none", .non]) ht
    refine rd_eqD (iv.up (Ty.of k5)).to (.tup (SqT.of upd_same) (.cons (.str _) (.cons .non .nil))) (by decide +kernel) (by decide +kernel) ?_
    rw [show PyData.eqv okD (.tuple [.str "none", .none]) = true from (eqv_iff _ _ rfl rfl).mpr rfl]
    exact q _ (J4.same k5).kp

def Φ_law (K : PySem.W.Frag) (v : V) (H : Hp) (Q : VK) : Prop := ∃ (a : Addr) (ns : List Int), v = .ref a ∧ SqL K H a (ns.map V.int) ∧ ns.length ≤ 63 ∧ ∀ H', Q (.bl true) H'
theorem ok_law (T : Txt P K mg) {f : Addr} {fd : FuncData} (F : Fun K "law" "law" s_law f fd) : Keeps P w K mg base CX0 7 f fd ["script"] (sp1 (Φ_law K)) := by
  have c_law_right := cal (P := P) (w := w) (base := base) T.d_law_right fun F => ok_law_right T F
  have c_law_deck := cal (P := P) (w := w) (base := base) T.d_law_deck fun F => ok_law_deck T F
  refine keeps0_of F sc_law (fun vs H Q E h => ?_) (fun cdv A outer s H vs Q E hr h => ?_)
  · obtain ⟨_, rfl, _⟩ := h
    rfl
  obtain ⟨v_script, rfl, h⟩ := h
  have hu := hr.hu
  refine ⟨_, (pss_cons (ps_for PassesOwn.never rfl (pi_range1 (by rfl) T.b_range (pa_cons (pe_callB (call_maxX rfl) (by rfl) T.b_max (by decide +kernel) (pa_cons pe_int (pa_cons (pe_callB (call_minX rfl) (by rfl) T.b_min (by decide +kernel) (pa_cons pe_int (pa_cons (pe_callB (call_lenX (K := K)) (by rfl) T.b_len (by decide +kernel) (pa_cons (pv 0) pa_nil)) pa_nil))) pa_nil))) pa_nil)) (pg_name (i := 1) sc_law.nd rfl (by first | exact Or.inl rfl | exact Or.inr rfl)) (pss_one (ps_if (pt_not (pt_val (pe_cal c_law_right (hr.mono (by decide)) (by rfl) pass0 (pa_cons (pe_cal c_law_deck (hr.mono (by decide)) (by rfl) pass0 (pa_cons (pv 0) (pa_cons (pv 1) pa_nil))) pa_nil)))) (pss_one (ps_ret pe_bl)) pss_nil)))
      (pss_one (ps_ret pe_bl))), ?_⟩
  rw [show start ["script", "k"] [v_script] = [some v_script, none] from rfl]
  try dsimp only [cxOf, Cx.nox, Cx.wish]
  obtain ⟨a, ns, rfl, hS, hl, q⟩ := h
  walk_at "rd"
  refine rd_lenL hS ?_
  walk_at "rd"
  rw [List.length_map]
  refine rd_itR (by omega) (by omega) (fun i σ H' => Same H H' ∧ ∃ x, σ = [some (.ref a), x]) ⟨Same.refl H, _, rfl⟩ ?_ ?_
  · rintro i σ H1 hi ⟨k1, x, rfl⟩
    walk_at "rd"
    refine ⟨a, ns, i, rfl, rfl, k1.seq hS, hl, by omega, by omega, fun d H2 hd d2 k2 => ?_⟩
    walk_at "rd"
    refine ⟨d, rfl, d2, fun H3 k3 => ?_⟩
    walk_at "rd"
    exact ⟨fun b o e => k3 _ _ (ne_of_none (k1 _ _ e) hd) (k2 _ _ (k1 _ _ e)), _, rfl⟩
  · rintro σ H1 ⟨k1, x, rfl⟩
    walk_at "rd"
    exact q H1

end
/-- the facts of the top -/
theorem all_mk {P : Program} {K : PySem.W.Frag} {h : Heap} {mg : Str → Option Value} (X : K.In h) (G : h.Ns mainGlobals mg)
    {u_MOST_PROCESS u_MOST_NUMBER u_FIRST : Value}
    (h_MOST_PROCESS : PySem.W.nsIn K mainGlobals "MOST_PROCESS" = some (some u_MOST_PROCESS)) (r_MOST_PROCESS : RelV (.int 40) u_MOST_PROCESS)
    (h_MOST_NUMBER : PySem.W.nsIn K mainGlobals "MOST_NUMBER" = some (some u_MOST_NUMBER)) (r_MOST_NUMBER : RelV (.int 255) u_MOST_NUMBER)
    (h_FIRST : PySem.W.nsIn K mainGlobals "FIRST" = some (some u_FIRST)) (r_FIRST : RelV (.int 0) u_FIRST)
    {f_is_integer : Addr} {od_is_integer an_is_integer : Option Addr} {sl_is_integer : Array (Option Value)} {oc_is_integer kV_is_integer dc_is_integer pm_is_integer cd_is_integer ct_is_integer : Value}
    (a_is_integer : PySem.W.nsIn K mainGlobals "is_integer" = some (some (.ref f_is_integer))) (l_is_integer : K.lookup f_is_integer = some ⟨oc_is_integer, od_is_integer, .func (PySem.W.fnOf "is_integer" "is_integer" (defArgs s_is_integer) (defBody s_is_integer) (defScope s_is_integer) .none kV_is_integer dc_is_integer pm_is_integer an_is_integer cd_is_integer ct_is_integer), sl_is_integer⟩) (c_is_integer : PySem.W.codeIn K cd_is_integer "is_integer" = true) (k_is_integer : PySem.W.keepIn K (.ref f_is_integer) = true)
    {f_law_deck : Addr} {od_law_deck an_law_deck : Option Addr} {sl_law_deck : Array (Option Value)} {oc_law_deck kV_law_deck dc_law_deck pm_law_deck cd_law_deck ct_law_deck : Value}
    (a_law_deck : PySem.W.nsIn K mainGlobals "_law_deck" = some (some (.ref f_law_deck))) (l_law_deck : K.lookup f_law_deck = some ⟨oc_law_deck, od_law_deck, .func (PySem.W.fnOf "_law_deck" "_law_deck" (defArgs s_law_deck) (defBody s_law_deck) (defScope s_law_deck) .none kV_law_deck dc_law_deck pm_law_deck an_law_deck cd_law_deck ct_law_deck), sl_law_deck⟩) (c_law_deck : PySem.W.codeIn K cd_law_deck "_law_deck" = true) (k_law_deck : PySem.W.keepIn K (.ref f_law_deck) = true)
    {f_law_draw : Addr} {od_law_draw an_law_draw : Option Addr} {sl_law_draw : Array (Option Value)} {oc_law_draw kV_law_draw dc_law_draw pm_law_draw cd_law_draw ct_law_draw : Value}
    (a_law_draw : PySem.W.nsIn K mainGlobals "_law_draw" = some (some (.ref f_law_draw))) (l_law_draw : K.lookup f_law_draw = some ⟨oc_law_draw, od_law_draw, .func (PySem.W.fnOf "_law_draw" "_law_draw" (defArgs s_law_draw) (defBody s_law_draw) (defScope s_law_draw) .none kV_law_draw dc_law_draw pm_law_draw an_law_draw cd_law_draw ct_law_draw), sl_law_draw⟩) (c_law_draw : PySem.W.codeIn K cd_law_draw "_law_draw" = true) (k_law_draw : PySem.W.keepIn K (.ref f_law_draw) = true)
    {f_law_one_of : Addr} {od_law_one_of an_law_one_of : Option Addr} {sl_law_one_of : Array (Option Value)} {oc_law_one_of kV_law_one_of dc_law_one_of pm_law_one_of cd_law_one_of ct_law_one_of : Value}
    (a_law_one_of : PySem.W.nsIn K mainGlobals "_law_one_of" = some (some (.ref f_law_one_of))) (l_law_one_of : K.lookup f_law_one_of = some ⟨oc_law_one_of, od_law_one_of, .func (PySem.W.fnOf "_law_one_of" "_law_one_of" (defArgs s_law_one_of) (defBody s_law_one_of) (defScope s_law_one_of) .none kV_law_one_of dc_law_one_of pm_law_one_of an_law_one_of cd_law_one_of ct_law_one_of), sl_law_one_of⟩) (c_law_one_of : PySem.W.codeIn K cd_law_one_of "_law_one_of" = true) (k_law_one_of : PySem.W.keepIn K (.ref f_law_one_of) = true)
    {f_law_family_seen : Addr} {od_law_family_seen an_law_family_seen : Option Addr} {sl_law_family_seen : Array (Option Value)} {oc_law_family_seen kV_law_family_seen dc_law_family_seen pm_law_family_seen cd_law_family_seen ct_law_family_seen : Value}
    (a_law_family_seen : PySem.W.nsIn K mainGlobals "_law_family_seen" = some (some (.ref f_law_family_seen))) (l_law_family_seen : K.lookup f_law_family_seen = some ⟨oc_law_family_seen, od_law_family_seen, .func (PySem.W.fnOf "_law_family_seen" "_law_family_seen" (defArgs s_law_family_seen) (defBody s_law_family_seen) (defScope s_law_family_seen) .none kV_law_family_seen dc_law_family_seen pm_law_family_seen an_law_family_seen cd_law_family_seen ct_law_family_seen), sl_law_family_seen⟩) (c_law_family_seen : PySem.W.codeIn K cd_law_family_seen "_law_family_seen" = true) (k_law_family_seen : PySem.W.keepIn K (.ref f_law_family_seen) = true)
    {f_law_call : Addr} {od_law_call an_law_call : Option Addr} {sl_law_call : Array (Option Value)} {oc_law_call kV_law_call dc_law_call pm_law_call cd_law_call ct_law_call : Value}
    (a_law_call : PySem.W.nsIn K mainGlobals "_law_call" = some (some (.ref f_law_call))) (l_law_call : K.lookup f_law_call = some ⟨oc_law_call, od_law_call, .func (PySem.W.fnOf "_law_call" "_law_call" (defArgs s_law_call) (defBody s_law_call) (defScope s_law_call) .none kV_law_call dc_law_call pm_law_call an_law_call cd_law_call ct_law_call), sl_law_call⟩) (c_law_call : PySem.W.codeIn K cd_law_call "_law_call" = true) (k_law_call : PySem.W.keepIn K (.ref f_law_call) = true)
    {f_law_word : Addr} {od_law_word an_law_word : Option Addr} {sl_law_word : Array (Option Value)} {oc_law_word kV_law_word dc_law_word pm_law_word cd_law_word ct_law_word : Value}
    (a_law_word : PySem.W.nsIn K mainGlobals "_law_word" = some (some (.ref f_law_word))) (l_law_word : K.lookup f_law_word = some ⟨oc_law_word, od_law_word, .func (PySem.W.fnOf "_law_word" "_law_word" (defArgs s_law_word) (defBody s_law_word) (defScope s_law_word) .none kV_law_word dc_law_word pm_law_word an_law_word cd_law_word ct_law_word), sl_law_word⟩) (c_law_word : PySem.W.codeIn K cd_law_word "_law_word" = true) (k_law_word : PySem.W.keepIn K (.ref f_law_word) = true)
    {f_law_right : Addr} {od_law_right an_law_right : Option Addr} {sl_law_right : Array (Option Value)} {oc_law_right kV_law_right dc_law_right pm_law_right cd_law_right ct_law_right : Value}
    (a_law_right : PySem.W.nsIn K mainGlobals "_law_right" = some (some (.ref f_law_right))) (l_law_right : K.lookup f_law_right = some ⟨oc_law_right, od_law_right, .func (PySem.W.fnOf "_law_right" "_law_right" (defArgs s_law_right) (defBody s_law_right) (defScope s_law_right) .none kV_law_right dc_law_right pm_law_right an_law_right cd_law_right ct_law_right), sl_law_right⟩) (c_law_right : PySem.W.codeIn K cd_law_right "_law_right" = true) (k_law_right : PySem.W.keepIn K (.ref f_law_right) = true)
    {f_law : Addr} {od_law an_law : Option Addr} {sl_law : Array (Option Value)} {oc_law kV_law dc_law pm_law cd_law ct_law : Value}
    (a_law : PySem.W.nsIn K mainGlobals "law" = some (some (.ref f_law))) (l_law : K.lookup f_law = some ⟨oc_law, od_law, .func (PySem.W.fnOf "law" "law" (defArgs s_law) (defBody s_law) (defScope s_law) .none kV_law dc_law pm_law an_law cd_law ct_law), sl_law⟩) (c_law : PySem.W.codeIn K cd_law "law" = true) (k_law : PySem.W.keepIn K (.ref f_law) = true)
    {A_ALIVE : Addr} {u_ALIVE_0 : Value} {oA_ALIVE : Option Addr} {nA_ALIVE : Nat} {sA_ALIVE : Array (Option Value)}
    (h_ALIVE : PySem.W.nsIn K mainGlobals "ALIVE" = some (some (.ref A_ALIVE))) (y_ALIVE : K.lookup A_ALIVE = some ⟨.type "tuple", oA_ALIVE, .seq #[u_ALIVE_0] nA_ALIVE, sA_ALIVE⟩) (r_ALIVE : Vals [(.str "alive")] [u_ALIVE_0])
    {A_GONE : Addr} {u_GONE_0 : Value} {oA_GONE : Option Addr} {nA_GONE : Nat} {sA_GONE : Array (Option Value)}
    (h_GONE : PySem.W.nsIn K mainGlobals "GONE" = some (some (.ref A_GONE))) (y_GONE : K.lookup A_GONE = some ⟨.type "tuple", oA_GONE, .seq #[u_GONE_0] nA_GONE, sA_GONE⟩) (r_GONE : Vals [(.str "gone")] [u_GONE_0])
    {C_Family : Addr} (gC_Family : PySem.W.nsIn K mainGlobals "Family" = some (some (.ref C_Family))) (pg_Family : PySem.W.plainGet K C_Family Str.empty = true) (hd_Family : PySem.W.hasDictIn K C_Family = true) (po_Family : PySem.W.plainOver K C_Family = true) (sa_Family : PySem.W.findIn K (.ref C_Family) "__setattr__" = some (some (.builtin "object.__setattr__"))) (mk_Family : PySem.W.makesIn K C_Family = true) (kc_Family : PySem.W.keepIn K (.ref C_Family) = true)
    (nf_Family_present : PySem.W.findIn K (.ref C_Family) "present" = some none)
    (nf_Family_past : PySem.W.findIn K (.ref C_Family) "past" = some none)
    {f_Family___init__ : Addr} {od_Family___init__ an_Family___init__ : Option Addr} {sl_Family___init__ : Array (Option Value)} {oc_Family___init__ kV_Family___init__ dc_Family___init__ pm_Family___init__ cd_Family___init__ ct_Family___init__ : Value}
    (a_Family___init__ : PySem.W.findIn K (.ref C_Family) "__init__" = some (some (.ref f_Family___init__))) (i_Family___init__ : PySem.W.isFn K (.ref f_Family___init__) = true) (l_Family___init__ : K.lookup f_Family___init__ = some ⟨oc_Family___init__, od_Family___init__, .func (PySem.W.fnOf "__init__" "Family.__init__" (defArgs s_Family___init__) (defBody s_Family___init__) (defScope s_Family___init__) .none kV_Family___init__ dc_Family___init__ pm_Family___init__ an_Family___init__ cd_Family___init__ ct_Family___init__), sl_Family___init__⟩) (c_Family___init__ : PySem.W.codeIn K cd_Family___init__ "Family.__init__" = true) (k_Family___init__ : PySem.W.keepIn K (.ref f_Family___init__) = true)
    {f_Family_check : Addr} {od_Family_check an_Family_check : Option Addr} {sl_Family_check : Array (Option Value)} {oc_Family_check kV_Family_check dc_Family_check pm_Family_check cd_Family_check ct_Family_check : Value}
    (a_Family_check : PySem.W.findIn K (.ref C_Family) "check" = some (some (.ref f_Family_check))) (i_Family_check : PySem.W.isFn K (.ref f_Family_check) = true) (l_Family_check : K.lookup f_Family_check = some ⟨oc_Family_check, od_Family_check, .func (PySem.W.fnOf "check" "Family.check" (defArgs s_Family_check) (defBody s_Family_check) (defScope s_Family_check) .none kV_Family_check dc_Family_check pm_Family_check an_Family_check cd_Family_check ct_Family_check), sl_Family_check⟩) (c_Family_check : PySem.W.codeIn K cd_Family_check "Family.check" = true) (k_Family_check : PySem.W.keepIn K (.ref f_Family_check) = true)
    {f_Family_check_alive : Addr} {od_Family_check_alive an_Family_check_alive : Option Addr} {sl_Family_check_alive : Array (Option Value)} {oc_Family_check_alive kV_Family_check_alive dc_Family_check_alive pm_Family_check_alive cd_Family_check_alive ct_Family_check_alive : Value}
    (a_Family_check_alive : PySem.W.findIn K (.ref C_Family) "check_alive" = some (some (.ref f_Family_check_alive))) (i_Family_check_alive : PySem.W.isFn K (.ref f_Family_check_alive) = true) (l_Family_check_alive : K.lookup f_Family_check_alive = some ⟨oc_Family_check_alive, od_Family_check_alive, .func (PySem.W.fnOf "check_alive" "Family.check_alive" (defArgs s_Family_check_alive) (defBody s_Family_check_alive) (defScope s_Family_check_alive) .none kV_Family_check_alive dc_Family_check_alive pm_Family_check_alive an_Family_check_alive cd_Family_check_alive ct_Family_check_alive), sl_Family_check_alive⟩) (c_Family_check_alive : PySem.W.codeIn K cd_Family_check_alive "Family.check_alive" = true) (k_Family_check_alive : PySem.W.keepIn K (.ref f_Family_check_alive) = true)
    {f_Family_go_to : Addr} {od_Family_go_to an_Family_go_to : Option Addr} {sl_Family_go_to : Array (Option Value)} {oc_Family_go_to kV_Family_go_to dc_Family_go_to pm_Family_go_to cd_Family_go_to ct_Family_go_to : Value}
    (a_Family_go_to : PySem.W.findIn K (.ref C_Family) "go_to" = some (some (.ref f_Family_go_to))) (i_Family_go_to : PySem.W.isFn K (.ref f_Family_go_to) = true) (l_Family_go_to : K.lookup f_Family_go_to = some ⟨oc_Family_go_to, od_Family_go_to, .func (PySem.W.fnOf "go_to" "Family.go_to" (defArgs s_Family_go_to) (defBody s_Family_go_to) (defScope s_Family_go_to) .none kV_Family_go_to dc_Family_go_to pm_Family_go_to an_Family_go_to cd_Family_go_to ct_Family_go_to), sl_Family_go_to⟩) (c_Family_go_to : PySem.W.codeIn K cd_Family_go_to "Family.go_to" = true) (k_Family_go_to : PySem.W.keepIn K (.ref f_Family_go_to) = true)
    {f_Family_fork : Addr} {od_Family_fork an_Family_fork : Option Addr} {sl_Family_fork : Array (Option Value)} {oc_Family_fork kV_Family_fork dc_Family_fork pm_Family_fork cd_Family_fork ct_Family_fork : Value}
    (a_Family_fork : PySem.W.findIn K (.ref C_Family) "fork" = some (some (.ref f_Family_fork))) (i_Family_fork : PySem.W.isFn K (.ref f_Family_fork) = true) (l_Family_fork : K.lookup f_Family_fork = some ⟨oc_Family_fork, od_Family_fork, .func (PySem.W.fnOf "fork" "Family.fork" (defArgs s_Family_fork) (defBody s_Family_fork) (defScope s_Family_fork) .none kV_Family_fork dc_Family_fork pm_Family_fork an_Family_fork cd_Family_fork ct_Family_fork), sl_Family_fork⟩) (c_Family_fork : PySem.W.codeIn K cd_Family_fork "Family.fork" = true) (k_Family_fork : PySem.W.keepIn K (.ref f_Family_fork) = true)
    {f_Family_end : Addr} {od_Family_end an_Family_end : Option Addr} {sl_Family_end : Array (Option Value)} {oc_Family_end kV_Family_end dc_Family_end pm_Family_end cd_Family_end ct_Family_end : Value}
    (a_Family_end : PySem.W.findIn K (.ref C_Family) "end" = some (some (.ref f_Family_end))) (i_Family_end : PySem.W.isFn K (.ref f_Family_end) = true) (l_Family_end : K.lookup f_Family_end = some ⟨oc_Family_end, od_Family_end, .func (PySem.W.fnOf "end" "Family.end" (defArgs s_Family_end) (defBody s_Family_end) (defScope s_Family_end) .none kV_Family_end dc_Family_end pm_Family_end an_Family_end cd_Family_end ct_Family_end), sl_Family_end⟩) (c_Family_end : PySem.W.codeIn K cd_Family_end "Family.end" = true) (k_Family_end : PySem.W.keepIn K (.ref f_Family_end) = true)
    {f_Family_told_of : Addr} {od_Family_told_of an_Family_told_of : Option Addr} {sl_Family_told_of : Array (Option Value)} {oc_Family_told_of kV_Family_told_of dc_Family_told_of pm_Family_told_of cd_Family_told_of ct_Family_told_of : Value}
    (a_Family_told_of : PySem.W.findIn K (.ref C_Family) "told_of" = some (some (.ref f_Family_told_of))) (i_Family_told_of : PySem.W.isFn K (.ref f_Family_told_of) = true) (l_Family_told_of : K.lookup f_Family_told_of = some ⟨oc_Family_told_of, od_Family_told_of, .func (PySem.W.fnOf "told_of" "Family.told_of" (defArgs s_Family_told_of) (defBody s_Family_told_of) (defScope s_Family_told_of) .none kV_Family_told_of dc_Family_told_of pm_Family_told_of an_Family_told_of cd_Family_told_of ct_Family_told_of), sl_Family_told_of⟩) (c_Family_told_of : PySem.W.codeIn K cd_Family_told_of "Family.told_of" = true) (k_Family_told_of : PySem.W.keepIn K (.ref f_Family_told_of) = true)
    {f_Family_wait : Addr} {od_Family_wait an_Family_wait : Option Addr} {sl_Family_wait : Array (Option Value)} {oc_Family_wait kV_Family_wait dc_Family_wait pm_Family_wait cd_Family_wait ct_Family_wait : Value}
    (a_Family_wait : PySem.W.findIn K (.ref C_Family) "wait" = some (some (.ref f_Family_wait))) (i_Family_wait : PySem.W.isFn K (.ref f_Family_wait) = true) (l_Family_wait : K.lookup f_Family_wait = some ⟨oc_Family_wait, od_Family_wait, .func (PySem.W.fnOf "wait" "Family.wait" (defArgs s_Family_wait) (defBody s_Family_wait) (defScope s_Family_wait) .none kV_Family_wait dc_Family_wait pm_Family_wait an_Family_wait cd_Family_wait ct_Family_wait), sl_Family_wait⟩) (c_Family_wait : PySem.W.codeIn K cd_Family_wait "Family.wait" = true) (k_Family_wait : PySem.W.keepIn K (.ref f_Family_wait) = true)
    {f_Family_wait_for : Addr} {od_Family_wait_for an_Family_wait_for : Option Addr} {sl_Family_wait_for : Array (Option Value)} {oc_Family_wait_for kV_Family_wait_for dc_Family_wait_for pm_Family_wait_for cd_Family_wait_for ct_Family_wait_for : Value}
    (a_Family_wait_for : PySem.W.findIn K (.ref C_Family) "wait_for" = some (some (.ref f_Family_wait_for))) (i_Family_wait_for : PySem.W.isFn K (.ref f_Family_wait_for) = true) (l_Family_wait_for : K.lookup f_Family_wait_for = some ⟨oc_Family_wait_for, od_Family_wait_for, .func (PySem.W.fnOf "wait_for" "Family.wait_for" (defArgs s_Family_wait_for) (defBody s_Family_wait_for) (defScope s_Family_wait_for) .none kV_Family_wait_for dc_Family_wait_for pm_Family_wait_for an_Family_wait_for cd_Family_wait_for ct_Family_wait_for), sl_Family_wait_for⟩) (c_Family_wait_for : PySem.W.codeIn K cd_Family_wait_for "Family.wait_for" = true) (k_Family_wait_for : PySem.W.keepIn K (.ref f_Family_wait_for) = true)
    {f_Family_offspring : Addr} {od_Family_offspring an_Family_offspring : Option Addr} {sl_Family_offspring : Array (Option Value)} {oc_Family_offspring kV_Family_offspring dc_Family_offspring pm_Family_offspring cd_Family_offspring ct_Family_offspring : Value}
    (a_Family_offspring : PySem.W.findIn K (.ref C_Family) "offspring" = some (some (.ref f_Family_offspring))) (i_Family_offspring : PySem.W.isFn K (.ref f_Family_offspring) = true) (l_Family_offspring : K.lookup f_Family_offspring = some ⟨oc_Family_offspring, od_Family_offspring, .func (PySem.W.fnOf "offspring" "Family.offspring" (defArgs s_Family_offspring) (defBody s_Family_offspring) (defScope s_Family_offspring) .none kV_Family_offspring dc_Family_offspring pm_Family_offspring an_Family_offspring cd_Family_offspring ct_Family_offspring), sl_Family_offspring⟩) (c_Family_offspring : PySem.W.codeIn K cd_Family_offspring "Family.offspring" = true) (k_Family_offspring : PySem.W.keepIn K (.ref f_Family_offspring) = true)
    {f_Family_children : Addr} {od_Family_children an_Family_children : Option Addr} {sl_Family_children : Array (Option Value)} {oc_Family_children kV_Family_children dc_Family_children pm_Family_children cd_Family_children ct_Family_children : Value}
    (a_Family_children : PySem.W.findIn K (.ref C_Family) "children" = some (some (.ref f_Family_children))) (i_Family_children : PySem.W.isFn K (.ref f_Family_children) = true) (l_Family_children : K.lookup f_Family_children = some ⟨oc_Family_children, od_Family_children, .func (PySem.W.fnOf "children" "Family.children" (defArgs s_Family_children) (defBody s_Family_children) (defScope s_Family_children) .none kV_Family_children dc_Family_children pm_Family_children an_Family_children cd_Family_children ct_Family_children), sl_Family_children⟩) (c_Family_children : PySem.W.codeIn K cd_Family_children "Family.children" = true) (k_Family_children : PySem.W.keepIn K (.ref f_Family_children) = true)
    {f_Family_parent : Addr} {od_Family_parent an_Family_parent : Option Addr} {sl_Family_parent : Array (Option Value)} {oc_Family_parent kV_Family_parent dc_Family_parent pm_Family_parent cd_Family_parent ct_Family_parent : Value}
    (a_Family_parent : PySem.W.findIn K (.ref C_Family) "parent" = some (some (.ref f_Family_parent))) (i_Family_parent : PySem.W.isFn K (.ref f_Family_parent) = true) (l_Family_parent : K.lookup f_Family_parent = some ⟨oc_Family_parent, od_Family_parent, .func (PySem.W.fnOf "parent" "Family.parent" (defArgs s_Family_parent) (defBody s_Family_parent) (defScope s_Family_parent) .none kV_Family_parent dc_Family_parent pm_Family_parent an_Family_parent cd_Family_parent ct_Family_parent), sl_Family_parent⟩) (c_Family_parent : PySem.W.codeIn K cd_Family_parent "Family.parent" = true) (k_Family_parent : PySem.W.keepIn K (.ref f_Family_parent) = true)
    {f_Family_status : Addr} {od_Family_status an_Family_status : Option Addr} {sl_Family_status : Array (Option Value)} {oc_Family_status kV_Family_status dc_Family_status pm_Family_status cd_Family_status ct_Family_status : Value}
    (a_Family_status : PySem.W.findIn K (.ref C_Family) "status" = some (some (.ref f_Family_status))) (i_Family_status : PySem.W.isFn K (.ref f_Family_status) = true) (l_Family_status : K.lookup f_Family_status = some ⟨oc_Family_status, od_Family_status, .func (PySem.W.fnOf "status" "Family.status" (defArgs s_Family_status) (defBody s_Family_status) (defScope s_Family_status) .none kV_Family_status dc_Family_status pm_Family_status an_Family_status cd_Family_status ct_Family_status), sl_Family_status⟩) (c_Family_status : PySem.W.codeIn K cd_Family_status "Family.status" = true) (k_Family_status : PySem.W.keepIn K (.ref f_Family_status) = true)
    {f_Family_ended : Addr} {od_Family_ended an_Family_ended : Option Addr} {sl_Family_ended : Array (Option Value)} {oc_Family_ended kV_Family_ended dc_Family_ended pm_Family_ended cd_Family_ended ct_Family_ended : Value}
    (a_Family_ended : PySem.W.findIn K (.ref C_Family) "ended" = some (some (.ref f_Family_ended))) (i_Family_ended : PySem.W.isFn K (.ref f_Family_ended) = true) (l_Family_ended : K.lookup f_Family_ended = some ⟨oc_Family_ended, od_Family_ended, .func (PySem.W.fnOf "ended" "Family.ended" (defArgs s_Family_ended) (defBody s_Family_ended) (defScope s_Family_ended) .none kV_Family_ended dc_Family_ended pm_Family_ended an_Family_ended cd_Family_ended ct_Family_ended), sl_Family_ended⟩) (c_Family_ended : PySem.W.codeIn K cd_Family_ended "Family.ended" = true) (k_Family_ended : PySem.W.keepIn K (.ref f_Family_ended) = true)
    {f_Family_undo : Addr} {od_Family_undo an_Family_undo : Option Addr} {sl_Family_undo : Array (Option Value)} {oc_Family_undo kV_Family_undo dc_Family_undo pm_Family_undo cd_Family_undo ct_Family_undo : Value}
    (a_Family_undo : PySem.W.findIn K (.ref C_Family) "undo" = some (some (.ref f_Family_undo))) (i_Family_undo : PySem.W.isFn K (.ref f_Family_undo) = true) (l_Family_undo : K.lookup f_Family_undo = some ⟨oc_Family_undo, od_Family_undo, .func (PySem.W.fnOf "undo" "Family.undo" (defArgs s_Family_undo) (defBody s_Family_undo) (defScope s_Family_undo) .none kV_Family_undo dc_Family_undo pm_Family_undo an_Family_undo cd_Family_undo ct_Family_undo), sl_Family_undo⟩) (c_Family_undo : PySem.W.codeIn K cd_Family_undo "Family.undo" = true) (k_Family_undo : PySem.W.keepIn K (.ref f_Family_undo) = true)
    (z_bool : PySem.W.nsIn K mainGlobals "bool" = some none)
    (z_enumerate : PySem.W.nsIn K mainGlobals "enumerate" = some none)
    (z_int : PySem.W.nsIn K mainGlobals "int" = some none)
    (z_isinstance : PySem.W.nsIn K mainGlobals "isinstance" = some none)
    (z_len : PySem.W.nsIn K mainGlobals "len" = some none)
    (z_list : PySem.W.nsIn K mainGlobals "list" = some none)
    (z_max : PySem.W.nsIn K mainGlobals "max" = some none)
    (z_min : PySem.W.nsIn K mainGlobals "min" = some none)
    (z_range : PySem.W.nsIn K mainGlobals "range" = some none)
    (z_repr : PySem.W.nsIn K mainGlobals "repr" = some none)
    (z_tuple : PySem.W.nsIn K mainGlobals "tuple" = some none)
    {C_InvalidProcess C_NotAlive C_TooLarge C_InvalidCount C_EmptyHistory C_WireError : Addr}
    (gsuper : PySem.W.nsIn K mainGlobals "super" = some none) (third : PySem.W.nsIn K PySem.cStatics "thirdparty.any" = some none) (topS : (P.main.scope.names.lookup ("super" : Str)).isSome = false)
    (g_InvalidProcess : PySem.W.nsIn K mainGlobals "InvalidProcess" = some (some (.ref C_InvalidProcess))) (x_InvalidProcess : PySem.W.excIn K C_InvalidProcess [.type "ValueError", .type "Exception", .type "BaseException", .type "object"] "ValueError.__new__" = true) (kk_InvalidProcess : PySem.W.keepIn K (.ref C_InvalidProcess) = true) (bb_InvalidProcess : PySem.W.subIn K (.ref C_InvalidProcess) (.type "BaseException") = some true) (tt_InvalidProcess : PySem.W.typeIn K (.ref C_InvalidProcess) = some (.type "type")) (ii_InvalidProcess : PySem.W.isClsIn K C_InvalidProcess = true)
    {F_NotAlive cda_NotAlive cc_NotAlive N_NotAlive B0_NotAlive : Addr} {nm_NotAlive q_NotAlive file_NotAlive : Str} {bs_NotAlive sub_NotAlive : List Value} {sn_NotAlive : List Str} {ab_NotAlive : Bool} {col_NotAlive : Option Bool} {dd_NotAlive od_NotAlive an_NotAlive cdd_NotAlive cld_NotAlive : Option Addr} {k0_NotAlive k1_NotAlive k2_NotAlive k3_NotAlive k5_NotAlive : Option Value} {oc_NotAlive kV_NotAlive dc_NotAlive pm_NotAlive ct_NotAlive ccl_NotAlive cl_NotAlive : Value} {ols_NotAlive ccs_NotAlive csl_NotAlive : Array (Option Value)} {vs_NotAlive : Array Value} {tok_NotAlive : Tok}
    (g_NotAlive : PySem.W.nsIn K mainGlobals "NotAlive" = some (some (.ref C_NotAlive))) (x_NotAlive : K.lookup C_NotAlive = some (PySem.excClassObj nm_NotAlive q_NotAlive C_NotAlive N_NotAlive bs_NotAlive [.ref B0_NotAlive, .type "ValueError", .type "Exception", .type "BaseException", .type "object"] true sn_NotAlive sub_NotAlive ab_NotAlive col_NotAlive dd_NotAlive k0_NotAlive k1_NotAlive k2_NotAlive k3_NotAlive k5_NotAlive "ValueError.__new__"))
    (sa_NotAlive : PySem.W.findIn K (.ref C_NotAlive) "__setattr__" = some (some (.builtin "object.__setattr__"))) (ga_NotAlive : PySem.W.findIn K (.ref C_NotAlive) "__getattribute__" = some (some (.builtin "BaseException.__getattribute__"))) (gg_NotAlive : PySem.W.findIn K (.ref C_NotAlive) "__getattr__" = some none) (no_NotAlive : PySem.W.findIn K (.ref C_NotAlive) "process" = some none)
    (ic_NotAlive : PySem.W.findIn K (.ref C_NotAlive) "__init__" = some (some (.ref F_NotAlive))) (tf_NotAlive : PySem.W.typeIn K (.ref F_NotAlive) = some (.type "function")) (kk_NotAlive : PySem.W.keepIn K (.ref C_NotAlive) = true) (bb_NotAlive : PySem.W.subIn K (.ref C_NotAlive) (.type "BaseException") = some true) (ve_NotAlive : PySem.W.subIn K (.ref C_NotAlive) (.type "ValueError") = some true)
    (tt_NotAlive : PySem.W.typeIn K (.ref C_NotAlive) = some (.type "type")) (hd_NotAlive : PySem.W.hasDictIn K C_NotAlive = true) (ii_NotAlive : PySem.W.isClsIn K C_NotAlive = true) (sl_NotAlive : PySem.W.mroIn K C_NotAlive (.ref C_NotAlive) = some true) (su_NotAlive : PySem.W.ks_superIn K C_NotAlive C_NotAlive "__init__" = some (some (.builtin "ValueError.__init__")))
    (l_NotAlive : K.lookup F_NotAlive = some ⟨oc_NotAlive, od_NotAlive, .func (PySem.W.fnX "__init__" "NotAlive.__init__" (defArgs (inClass (top 6) 0)) (defBody (inClass (top 6) 0)) (defScope (inClass (top 6) 0)) [("__class__", cc_NotAlive)] .none kV_NotAlive dc_NotAlive pm_NotAlive an_NotAlive (.ref cda_NotAlive) ct_NotAlive), ols_NotAlive⟩) (c_NotAlive : PySem.W.codeIn K (.ref cda_NotAlive) "NotAlive.__init__" = true)
    (co_NotAlive : K.lookup cda_NotAlive = some ⟨ccl_NotAlive, cdd_NotAlive, .fields vs_NotAlive, ccs_NotAlive⟩) (v2_NotAlive : vs_NotAlive[2]? = some (.str file_NotAlive tok_NotAlive)) (fe_NotAlive : ((P.main.file : Str) == file_NotAlive) = true) (ce_NotAlive : K.lookup cc_NotAlive = some ⟨cl_NotAlive, cld_NotAlive, .cell (some (.ref C_NotAlive)), csl_NotAlive⟩)
    {F_TooLarge cda_TooLarge cc_TooLarge N_TooLarge B0_TooLarge : Addr} {nm_TooLarge q_TooLarge file_TooLarge : Str} {bs_TooLarge sub_TooLarge : List Value} {sn_TooLarge : List Str} {ab_TooLarge : Bool} {col_TooLarge : Option Bool} {dd_TooLarge od_TooLarge an_TooLarge cdd_TooLarge cld_TooLarge : Option Addr} {k0_TooLarge k1_TooLarge k2_TooLarge k3_TooLarge k5_TooLarge : Option Value} {oc_TooLarge kV_TooLarge dc_TooLarge pm_TooLarge ct_TooLarge ccl_TooLarge cl_TooLarge : Value} {ols_TooLarge ccs_TooLarge csl_TooLarge : Array (Option Value)} {vs_TooLarge : Array Value} {tok_TooLarge : Tok}
    (g_TooLarge : PySem.W.nsIn K mainGlobals "TooLarge" = some (some (.ref C_TooLarge))) (x_TooLarge : K.lookup C_TooLarge = some (PySem.excClassObj nm_TooLarge q_TooLarge C_TooLarge N_TooLarge bs_TooLarge [.ref B0_TooLarge, .type "ValueError", .type "Exception", .type "BaseException", .type "object"] true sn_TooLarge sub_TooLarge ab_TooLarge col_TooLarge dd_TooLarge k0_TooLarge k1_TooLarge k2_TooLarge k3_TooLarge k5_TooLarge "ValueError.__new__"))
    (sa_TooLarge : PySem.W.findIn K (.ref C_TooLarge) "__setattr__" = some (some (.builtin "object.__setattr__"))) (ga_TooLarge : PySem.W.findIn K (.ref C_TooLarge) "__getattribute__" = some (some (.builtin "BaseException.__getattribute__"))) (gg_TooLarge : PySem.W.findIn K (.ref C_TooLarge) "__getattr__" = some none) (no_TooLarge : PySem.W.findIn K (.ref C_TooLarge) "limit" = some none)
    (ic_TooLarge : PySem.W.findIn K (.ref C_TooLarge) "__init__" = some (some (.ref F_TooLarge))) (tf_TooLarge : PySem.W.typeIn K (.ref F_TooLarge) = some (.type "function")) (kk_TooLarge : PySem.W.keepIn K (.ref C_TooLarge) = true) (bb_TooLarge : PySem.W.subIn K (.ref C_TooLarge) (.type "BaseException") = some true) (ve_TooLarge : PySem.W.subIn K (.ref C_TooLarge) (.type "ValueError") = some true)
    (tt_TooLarge : PySem.W.typeIn K (.ref C_TooLarge) = some (.type "type")) (hd_TooLarge : PySem.W.hasDictIn K C_TooLarge = true) (ii_TooLarge : PySem.W.isClsIn K C_TooLarge = true) (sl_TooLarge : PySem.W.mroIn K C_TooLarge (.ref C_TooLarge) = some true) (su_TooLarge : PySem.W.ks_superIn K C_TooLarge C_TooLarge "__init__" = some (some (.builtin "ValueError.__init__")))
    (l_TooLarge : K.lookup F_TooLarge = some ⟨oc_TooLarge, od_TooLarge, .func (PySem.W.fnX "__init__" "TooLarge.__init__" (defArgs (inClass (top 4) 0)) (defBody (inClass (top 4) 0)) (defScope (inClass (top 4) 0)) [("__class__", cc_TooLarge)] .none kV_TooLarge dc_TooLarge pm_TooLarge an_TooLarge (.ref cda_TooLarge) ct_TooLarge), ols_TooLarge⟩) (c_TooLarge : PySem.W.codeIn K (.ref cda_TooLarge) "TooLarge.__init__" = true)
    (co_TooLarge : K.lookup cda_TooLarge = some ⟨ccl_TooLarge, cdd_TooLarge, .fields vs_TooLarge, ccs_TooLarge⟩) (v2_TooLarge : vs_TooLarge[2]? = some (.str file_TooLarge tok_TooLarge)) (fe_TooLarge : ((P.main.file : Str) == file_TooLarge) = true) (ce_TooLarge : K.lookup cc_TooLarge = some ⟨cl_TooLarge, cld_TooLarge, .cell (some (.ref C_TooLarge)), csl_TooLarge⟩)
    (g_InvalidCount : PySem.W.nsIn K mainGlobals "InvalidCount" = some (some (.ref C_InvalidCount))) (x_InvalidCount : PySem.W.excIn K C_InvalidCount [.type "ValueError", .type "Exception", .type "BaseException", .type "object"] "ValueError.__new__" = true) (kk_InvalidCount : PySem.W.keepIn K (.ref C_InvalidCount) = true) (bb_InvalidCount : PySem.W.subIn K (.ref C_InvalidCount) (.type "BaseException") = some true) (tt_InvalidCount : PySem.W.typeIn K (.ref C_InvalidCount) = some (.type "type")) (ii_InvalidCount : PySem.W.isClsIn K C_InvalidCount = true)
    (g_EmptyHistory : PySem.W.nsIn K mainGlobals "EmptyHistory" = some (some (.ref C_EmptyHistory))) (x_EmptyHistory : PySem.W.excIn K C_EmptyHistory [.type "ValueError", .type "Exception", .type "BaseException", .type "object"] "ValueError.__new__" = true) (kk_EmptyHistory : PySem.W.keepIn K (.ref C_EmptyHistory) = true) (bb_EmptyHistory : PySem.W.subIn K (.ref C_EmptyHistory) (.type "BaseException") = some true) (tt_EmptyHistory : PySem.W.typeIn K (.ref C_EmptyHistory) = some (.type "type")) (ii_EmptyHistory : PySem.W.isClsIn K C_EmptyHistory = true)
    (g_WireError : PySem.W.nsIn K mainGlobals "WireError" = some (some (.ref C_WireError))) (x_WireError : PySem.W.excIn K C_WireError [.type "ValueError", .type "Exception", .type "BaseException", .type "object"] "ValueError.__new__" = true) (kk_WireError : PySem.W.keepIn K (.ref C_WireError) = true) (bb_WireError : PySem.W.subIn K (.ref C_WireError) (.type "BaseException") = some true) (tt_WireError : PySem.W.typeIn K (.ref C_WireError) = some (.type "type")) (ii_WireError : PySem.W.isClsIn K C_WireError = true)
    (xg_InvalidProcess : PySem.W.findIn K (.ref C_InvalidProcess) "__getattribute__" = some (some (.builtin "BaseException.__getattribute__"))) (xk_InvalidProcess : PySem.W.findIn K (.ref C_InvalidProcess) "__getattr__" = some none) (xd_InvalidProcess : PySem.W.hasDictIn K C_InvalidProcess = true) (xa_InvalidProcess : PySem.W.findIn K (.ref C_InvalidProcess) "__class__" = some (some (.builtin "object.__class__"))) (xm_InvalidProcess : PySem.W.mroIn K C_InvalidProcess (.type "object") = some true)
    (xg_InvalidCount : PySem.W.findIn K (.ref C_InvalidCount) "__getattribute__" = some (some (.builtin "BaseException.__getattribute__"))) (xk_InvalidCount : PySem.W.findIn K (.ref C_InvalidCount) "__getattr__" = some none) (xd_InvalidCount : PySem.W.hasDictIn K C_InvalidCount = true) (xa_InvalidCount : PySem.W.findIn K (.ref C_InvalidCount) "__class__" = some (some (.builtin "object.__class__"))) (xm_InvalidCount : PySem.W.mroIn K C_InvalidCount (.type "object") = some true)
    (xg_EmptyHistory : PySem.W.findIn K (.ref C_EmptyHistory) "__getattribute__" = some (some (.builtin "BaseException.__getattribute__"))) (xk_EmptyHistory : PySem.W.findIn K (.ref C_EmptyHistory) "__getattr__" = some none) (xd_EmptyHistory : PySem.W.hasDictIn K C_EmptyHistory = true) (xa_EmptyHistory : PySem.W.findIn K (.ref C_EmptyHistory) "__class__" = some (some (.builtin "object.__class__"))) (xm_EmptyHistory : PySem.W.mroIn K C_EmptyHistory (.type "object") = some true)
    (xg_WireError : PySem.W.findIn K (.ref C_WireError) "__getattribute__" = some (some (.builtin "BaseException.__getattribute__"))) (xk_WireError : PySem.W.findIn K (.ref C_WireError) "__getattr__" = some none) (xd_WireError : PySem.W.hasDictIn K C_WireError = true) (xa_WireError : PySem.W.findIn K (.ref C_WireError) "__class__" = some (some (.builtin "object.__class__"))) (xm_WireError : PySem.W.mroIn K C_WireError (.type "object") = some true)
    (xn : PySem.W.specialIn K (.builtin "object.__class__") "__get__" = some (some (.builtin "getset_descriptor.__get__"))) (xt : PySem.W.takesIn K (.builtin "object.__class__") = some true)
    (s_InvalidProcess_NotAlive : PySem.W.subIn K (.ref C_InvalidProcess) (.ref C_NotAlive) = some false)
    (s_InvalidProcess_WireError : PySem.W.subIn K (.ref C_InvalidProcess) (.ref C_WireError) = some true)
    (s_InvalidProcess_InvalidProcess : PySem.W.subIn K (.ref C_InvalidProcess) (.ref C_InvalidProcess) = some true)
    (s_InvalidProcess_InvalidCount : PySem.W.subIn K (.ref C_InvalidProcess) (.ref C_InvalidCount) = some false)
    (s_InvalidProcess_EmptyHistory : PySem.W.subIn K (.ref C_InvalidProcess) (.ref C_EmptyHistory) = some false)
    (s_NotAlive_NotAlive : PySem.W.subIn K (.ref C_NotAlive) (.ref C_NotAlive) = some true)
    (s_NotAlive_WireError : PySem.W.subIn K (.ref C_NotAlive) (.ref C_WireError) = some true)
    (s_NotAlive_InvalidProcess : PySem.W.subIn K (.ref C_NotAlive) (.ref C_InvalidProcess) = some false)
    (s_NotAlive_InvalidCount : PySem.W.subIn K (.ref C_NotAlive) (.ref C_InvalidCount) = some false)
    (s_NotAlive_EmptyHistory : PySem.W.subIn K (.ref C_NotAlive) (.ref C_EmptyHistory) = some false)
    (s_TooLarge_NotAlive : PySem.W.subIn K (.ref C_TooLarge) (.ref C_NotAlive) = some false)
    (s_TooLarge_WireError : PySem.W.subIn K (.ref C_TooLarge) (.ref C_WireError) = some true)
    (s_TooLarge_InvalidProcess : PySem.W.subIn K (.ref C_TooLarge) (.ref C_InvalidProcess) = some false)
    (s_TooLarge_InvalidCount : PySem.W.subIn K (.ref C_TooLarge) (.ref C_InvalidCount) = some false)
    (s_TooLarge_EmptyHistory : PySem.W.subIn K (.ref C_TooLarge) (.ref C_EmptyHistory) = some false)
    (s_InvalidCount_NotAlive : PySem.W.subIn K (.ref C_InvalidCount) (.ref C_NotAlive) = some false)
    (s_InvalidCount_WireError : PySem.W.subIn K (.ref C_InvalidCount) (.ref C_WireError) = some true)
    (s_InvalidCount_InvalidProcess : PySem.W.subIn K (.ref C_InvalidCount) (.ref C_InvalidProcess) = some false)
    (s_InvalidCount_InvalidCount : PySem.W.subIn K (.ref C_InvalidCount) (.ref C_InvalidCount) = some true)
    (s_InvalidCount_EmptyHistory : PySem.W.subIn K (.ref C_InvalidCount) (.ref C_EmptyHistory) = some false)
    (s_EmptyHistory_NotAlive : PySem.W.subIn K (.ref C_EmptyHistory) (.ref C_NotAlive) = some false)
    (s_EmptyHistory_WireError : PySem.W.subIn K (.ref C_EmptyHistory) (.ref C_WireError) = some true)
    (s_EmptyHistory_InvalidProcess : PySem.W.subIn K (.ref C_EmptyHistory) (.ref C_InvalidProcess) = some false)
    (s_EmptyHistory_InvalidCount : PySem.W.subIn K (.ref C_EmptyHistory) (.ref C_InvalidCount) = some false)
    (s_EmptyHistory_EmptyHistory : PySem.W.subIn K (.ref C_EmptyHistory) (.ref C_EmptyHistory) = some true)
    (s_WireError_NotAlive : PySem.W.subIn K (.ref C_WireError) (.ref C_NotAlive) = some false)
    (s_WireError_WireError : PySem.W.subIn K (.ref C_WireError) (.ref C_WireError) = some true)
    (s_WireError_InvalidProcess : PySem.W.subIn K (.ref C_WireError) (.ref C_InvalidProcess) = some false)
    (s_WireError_InvalidCount : PySem.W.subIn K (.ref C_WireError) (.ref C_InvalidCount) = some false)
    (s_WireError_EmptyHistory : PySem.W.subIn K (.ref C_WireError) (.ref C_EmptyHistory) = some false)
    : Txt P K mg where
  c_MOST_PROCESS := ⟨_, PySem.W.mg_of X G h_MOST_PROCESS, r_MOST_PROCESS⟩
  c_MOST_NUMBER := ⟨_, PySem.W.mg_of X G h_MOST_NUMBER, r_MOST_NUMBER⟩
  c_FIRST := ⟨_, PySem.W.mg_of X G h_FIRST, r_FIRST⟩
  c_ALIVE := ⟨A_ALIVE, KTup.mk (its := [u_ALIVE_0]) y_ALIVE r_ALIVE (by show _ ≤ 1000; decide), ⟨_, PySem.W.mg_of X G h_ALIVE, rfl⟩⟩
  c_GONE := ⟨A_GONE, KTup.mk (its := [u_GONE_0]) y_GONE r_GONE (by show _ ≤ 1000; decide), ⟨_, PySem.W.mg_of X G h_GONE, rfl⟩⟩
  k_Family := ⟨C_Family, PySem.W.mg_of X G gC_Family, ⟨pg_Family, hd_Family, po_Family, sa_Family⟩, mk_Family, kc_Family⟩
  n_Family_present := fun C h => by
    cases (PySem.W.mg_of X G gC_Family).symm.trans h
    exact nf_Family_present
  n_Family_past := fun C h => by
    cases (PySem.W.mg_of X G gC_Family).symm.trans h
    exact nf_Family_past
  d_Family___init__ := fun C h => by
    cases (PySem.W.mg_of X G gC_Family).symm.trans h
    exact .mk (st := s_Family___init__) a_Family___init__ i_Family___init__ l_Family___init__ c_Family___init__ k_Family___init__ (fun _ _ _ _ _ _ us hl => match us, hl with | [_], _ => rfl)
  d_Family_check := fun C h => by
    cases (PySem.W.mg_of X G gC_Family).symm.trans h
    exact .mk (st := s_Family_check) a_Family_check i_Family_check l_Family_check c_Family_check k_Family_check (fun _ _ _ _ _ _ us hl => match us, hl with | [_, _], _ => rfl)
  d_Family_check_alive := fun C h => by
    cases (PySem.W.mg_of X G gC_Family).symm.trans h
    exact .mk (st := s_Family_check_alive) a_Family_check_alive i_Family_check_alive l_Family_check_alive c_Family_check_alive k_Family_check_alive (fun _ _ _ _ _ _ us hl => match us, hl with | [_, _], _ => rfl)
  d_Family_go_to := fun C h => by
    cases (PySem.W.mg_of X G gC_Family).symm.trans h
    exact .mk (st := s_Family_go_to) a_Family_go_to i_Family_go_to l_Family_go_to c_Family_go_to k_Family_go_to (fun _ _ _ _ _ _ us hl => match us, hl with | [_, _, _], _ => rfl)
  d_Family_fork := fun C h => by
    cases (PySem.W.mg_of X G gC_Family).symm.trans h
    exact .mk (st := s_Family_fork) a_Family_fork i_Family_fork l_Family_fork c_Family_fork k_Family_fork (fun _ _ _ _ _ _ us hl => match us, hl with | [_, _], _ => rfl)
  d_Family_end := fun C h => by
    cases (PySem.W.mg_of X G gC_Family).symm.trans h
    exact .mk (st := s_Family_end) a_Family_end i_Family_end l_Family_end c_Family_end k_Family_end (fun _ _ _ _ _ _ us hl => match us, hl with | [_, _, _], _ => rfl)
  d_Family_told_of := fun C h => by
    cases (PySem.W.mg_of X G gC_Family).symm.trans h
    exact .mk (st := s_Family_told_of) a_Family_told_of i_Family_told_of l_Family_told_of c_Family_told_of k_Family_told_of (fun _ _ _ _ _ _ us hl => match us, hl with | [_, _], _ => rfl)
  d_Family_wait := fun C h => by
    cases (PySem.W.mg_of X G gC_Family).symm.trans h
    exact .mk (st := s_Family_wait) a_Family_wait i_Family_wait l_Family_wait c_Family_wait k_Family_wait (fun _ _ _ _ _ _ us hl => match us, hl with | [_, _], _ => rfl)
  d_Family_wait_for := fun C h => by
    cases (PySem.W.mg_of X G gC_Family).symm.trans h
    exact .mk (st := s_Family_wait_for) a_Family_wait_for i_Family_wait_for l_Family_wait_for c_Family_wait_for k_Family_wait_for (fun _ _ _ _ _ _ us hl => match us, hl with | [_, _, _], _ => rfl)
  d_Family_offspring := fun C h => by
    cases (PySem.W.mg_of X G gC_Family).symm.trans h
    exact .mk (st := s_Family_offspring) a_Family_offspring i_Family_offspring l_Family_offspring c_Family_offspring k_Family_offspring (fun _ _ _ _ _ _ us hl => match us, hl with | [_, _], _ => rfl)
  d_Family_children := fun C h => by
    cases (PySem.W.mg_of X G gC_Family).symm.trans h
    exact .mk (st := s_Family_children) a_Family_children i_Family_children l_Family_children c_Family_children k_Family_children (fun _ _ _ _ _ _ us hl => match us, hl with | [_, _], _ => rfl)
  d_Family_parent := fun C h => by
    cases (PySem.W.mg_of X G gC_Family).symm.trans h
    exact .mk (st := s_Family_parent) a_Family_parent i_Family_parent l_Family_parent c_Family_parent k_Family_parent (fun _ _ _ _ _ _ us hl => match us, hl with | [_, _], _ => rfl)
  d_Family_status := fun C h => by
    cases (PySem.W.mg_of X G gC_Family).symm.trans h
    exact .mk (st := s_Family_status) a_Family_status i_Family_status l_Family_status c_Family_status k_Family_status (fun _ _ _ _ _ _ us hl => match us, hl with | [_, _], _ => rfl)
  d_Family_ended := fun C h => by
    cases (PySem.W.mg_of X G gC_Family).symm.trans h
    exact .mk (st := s_Family_ended) a_Family_ended i_Family_ended l_Family_ended c_Family_ended k_Family_ended (fun _ _ _ _ _ _ us hl => match us, hl with | [_], _ => rfl)
  d_Family_undo := fun C h => by
    cases (PySem.W.mg_of X G gC_Family).symm.trans h
    exact .mk (st := s_Family_undo) a_Family_undo i_Family_undo l_Family_undo c_Family_undo k_Family_undo (fun _ _ _ _ _ _ us hl => match us, hl with | [_], _ => rfl)
  d_is_integer := .mk (st := s_is_integer) l_is_integer c_is_integer k_is_integer (PySem.W.mg_of X G a_is_integer) (fun _ _ _ _ _ _ us hl => match us, hl with | [_, _, _], _ => rfl)
  d_law_deck := .mk (st := s_law_deck) l_law_deck c_law_deck k_law_deck (PySem.W.mg_of X G a_law_deck) (fun _ _ _ _ _ _ us hl => match us, hl with | [_, _], _ => rfl)
  d_law_draw := .mk (st := s_law_draw) l_law_draw c_law_draw k_law_draw (PySem.W.mg_of X G a_law_draw) (fun _ _ _ _ _ _ us hl => match us, hl with | [_, _], _ => rfl)
  d_law_one_of := .mk (st := s_law_one_of) l_law_one_of c_law_one_of k_law_one_of (PySem.W.mg_of X G a_law_one_of) (fun _ _ _ _ _ _ us hl => match us, hl with | [_, _], _ => rfl)
  d_law_family_seen := .mk (st := s_law_family_seen) l_law_family_seen c_law_family_seen k_law_family_seen (PySem.W.mg_of X G a_law_family_seen) (fun _ _ _ _ _ _ us hl => match us, hl with | [_, _], _ => rfl)
  d_law_call := .mk (st := s_law_call) l_law_call c_law_call k_law_call (PySem.W.mg_of X G a_law_call) (fun _ _ _ _ _ _ us hl => match us, hl with | [_, _, _, _], _ => rfl)
  d_law_word := .mk (st := s_law_word) l_law_word c_law_word k_law_word (PySem.W.mg_of X G a_law_word) (fun _ _ _ _ _ _ us hl => match us, hl with | [_, _, _, _], _ => rfl)
  d_law_right := .mk (st := s_law_right) l_law_right c_law_right k_law_right (PySem.W.mg_of X G a_law_right) (fun _ _ _ _ _ _ us hl => match us, hl with | [_], _ => rfl)
  d_law := .mk (st := s_law) l_law c_law k_law (PySem.W.mg_of X G a_law) (fun _ _ _ _ _ _ us hl => match us, hl with | [_], _ => rfl)
  b_bool := PySem.W.mg_none_of X G z_bool
  b_enumerate := PySem.W.mg_none_of X G z_enumerate
  b_int := PySem.W.mg_none_of X G z_int
  b_isinstance := PySem.W.mg_none_of X G z_isinstance
  b_len := PySem.W.mg_none_of X G z_len
  b_list := PySem.W.mg_none_of X G z_list
  b_max := PySem.W.mg_none_of X G z_max
  b_min := PySem.W.mg_none_of X G z_min
  b_range := PySem.W.mg_none_of X G z_range
  b_repr := PySem.W.mg_none_of X G z_repr
  b_tuple := PySem.W.mg_none_of X G z_tuple
  e_InvalidProcess := ⟨C_InvalidProcess, PySem.W.mg_of X G g_InvalidProcess, x_InvalidProcess, kk_InvalidProcess, bb_InvalidProcess, tt_InvalidProcess, ii_InvalidProcess⟩
  e_NotAlive := ⟨C_NotAlive, F_NotAlive, ⟨by decide +kernel, by decide +kernel, by decide +kernel, by decide +kernel⟩, PySem.W.mg_of X G g_NotAlive, PySem.W.mg_none_of X G gsuper, ⟨_, _, _, _, _, _, _, _, _, _, _, _, _, _, _, x_NotAlive, rfl⟩, sa_NotAlive, ga_NotAlive, gg_NotAlive, no_NotAlive, ic_NotAlive, tf_NotAlive, kk_NotAlive, bb_NotAlive, ve_NotAlive, tt_NotAlive, hd_NotAlive, ii_NotAlive, sl_NotAlive, su_NotAlive, third, topS,
    ⟨_, _, _, _, _, _, _, _, _, _, _, ⟨17, 17, 17, 21⟩, ⟨17, 23, 17, 30⟩, ⟨18, 8, 18, 13⟩, ⟨18, 8, 18, 15⟩, ⟨18, 8, 18, 24⟩, ⟨18, 25, 18, 36⟩, ⟨18, 8, 18, 37⟩, ⟨18, 8, 18, 37⟩, ⟨19, 8, 19, 12⟩, ⟨19, 8, 19, 20⟩, ⟨19, 23, 19, 30⟩, ⟨19, 8, 19, 30⟩, "not alive", 0, "NotAlive.__init__", l_NotAlive, c_NotAlive, ⟨_, _, _, _, _, _, co_NotAlive, v2_NotAlive, fe_NotAlive⟩, ⟨_, _, _, ce_NotAlive⟩, fun _ _ => rfl, fun _ => ⟨_, rfl⟩, fun _ => rfl, fun _ => rfl⟩⟩
  e_TooLarge := ⟨C_TooLarge, F_TooLarge, ⟨by decide +kernel, by decide +kernel, by decide +kernel, by decide +kernel⟩, PySem.W.mg_of X G g_TooLarge, PySem.W.mg_none_of X G gsuper, ⟨_, _, _, _, _, _, _, _, _, _, _, _, _, _, _, x_TooLarge, rfl⟩, sa_TooLarge, ga_TooLarge, gg_TooLarge, no_TooLarge, ic_TooLarge, tf_TooLarge, kk_TooLarge, bb_TooLarge, ve_TooLarge, tt_TooLarge, hd_TooLarge, ii_TooLarge, sl_TooLarge, su_TooLarge, third, topS,
    ⟨_, _, _, _, _, _, _, _, _, _, _, ⟨10, 17, 10, 21⟩, ⟨10, 23, 10, 28⟩, ⟨11, 8, 11, 13⟩, ⟨11, 8, 11, 15⟩, ⟨11, 8, 11, 24⟩, ⟨11, 25, 11, 36⟩, ⟨11, 8, 11, 37⟩, ⟨11, 8, 11, 37⟩, ⟨12, 8, 12, 12⟩, ⟨12, 8, 12, 18⟩, ⟨12, 21, 12, 26⟩, ⟨12, 8, 12, 26⟩, "too large", 0, "TooLarge.__init__", l_TooLarge, c_TooLarge, ⟨_, _, _, _, _, _, co_TooLarge, v2_TooLarge, fe_TooLarge⟩, ⟨_, _, _, ce_TooLarge⟩, fun _ _ => rfl, fun _ => ⟨_, rfl⟩, fun _ => rfl, fun _ => rfl⟩⟩
  e_InvalidCount := ⟨C_InvalidCount, PySem.W.mg_of X G g_InvalidCount, x_InvalidCount, kk_InvalidCount, bb_InvalidCount, tt_InvalidCount, ii_InvalidCount⟩
  e_EmptyHistory := ⟨C_EmptyHistory, PySem.W.mg_of X G g_EmptyHistory, x_EmptyHistory, kk_EmptyHistory, bb_EmptyHistory, tt_EmptyHistory, ii_EmptyHistory⟩
  e_WireError := ⟨C_WireError, PySem.W.mg_of X G g_WireError, x_WireError, kk_WireError, bb_WireError, tt_WireError, ii_WireError⟩
  x_InvalidProcess := fun C h => by
    cases (PySem.W.mg_of X G g_InvalidProcess).symm.trans h
    exact ⟨xg_InvalidProcess, xk_InvalidProcess, bb_InvalidProcess, xd_InvalidProcess, xa_InvalidProcess, xn, xt, xm_InvalidProcess⟩
  x_InvalidCount := fun C h => by
    cases (PySem.W.mg_of X G g_InvalidCount).symm.trans h
    exact ⟨xg_InvalidCount, xk_InvalidCount, bb_InvalidCount, xd_InvalidCount, xa_InvalidCount, xn, xt, xm_InvalidCount⟩
  x_EmptyHistory := fun C h => by
    cases (PySem.W.mg_of X G g_EmptyHistory).symm.trans h
    exact ⟨xg_EmptyHistory, xk_EmptyHistory, bb_EmptyHistory, xd_EmptyHistory, xa_EmptyHistory, xn, xt, xm_EmptyHistory⟩
  x_WireError := fun C h => by
    cases (PySem.W.mg_of X G g_WireError).symm.trans h
    exact ⟨xg_WireError, xk_WireError, bb_WireError, xd_WireError, xa_WireError, xn, xt, xm_WireError⟩
  m_InvalidProcess_NotAlive := fun C D h1 h2 => by
    cases (PySem.W.mg_of X G g_InvalidProcess).symm.trans h1
    cases (PySem.W.mg_of X G g_NotAlive).symm.trans h2
    exact s_InvalidProcess_NotAlive
  m_InvalidProcess_WireError := fun C D h1 h2 => by
    cases (PySem.W.mg_of X G g_InvalidProcess).symm.trans h1
    cases (PySem.W.mg_of X G g_WireError).symm.trans h2
    exact s_InvalidProcess_WireError
  m_InvalidProcess_InvalidProcess := fun C D h1 h2 => by
    cases (PySem.W.mg_of X G g_InvalidProcess).symm.trans h1
    cases (PySem.W.mg_of X G g_InvalidProcess).symm.trans h2
    exact s_InvalidProcess_InvalidProcess
  m_InvalidProcess_InvalidCount := fun C D h1 h2 => by
    cases (PySem.W.mg_of X G g_InvalidProcess).symm.trans h1
    cases (PySem.W.mg_of X G g_InvalidCount).symm.trans h2
    exact s_InvalidProcess_InvalidCount
  m_InvalidProcess_EmptyHistory := fun C D h1 h2 => by
    cases (PySem.W.mg_of X G g_InvalidProcess).symm.trans h1
    cases (PySem.W.mg_of X G g_EmptyHistory).symm.trans h2
    exact s_InvalidProcess_EmptyHistory
  m_NotAlive_NotAlive := fun C D h1 h2 => by
    cases (PySem.W.mg_of X G g_NotAlive).symm.trans h1
    cases (PySem.W.mg_of X G g_NotAlive).symm.trans h2
    exact s_NotAlive_NotAlive
  m_NotAlive_WireError := fun C D h1 h2 => by
    cases (PySem.W.mg_of X G g_NotAlive).symm.trans h1
    cases (PySem.W.mg_of X G g_WireError).symm.trans h2
    exact s_NotAlive_WireError
  m_NotAlive_InvalidProcess := fun C D h1 h2 => by
    cases (PySem.W.mg_of X G g_NotAlive).symm.trans h1
    cases (PySem.W.mg_of X G g_InvalidProcess).symm.trans h2
    exact s_NotAlive_InvalidProcess
  m_NotAlive_InvalidCount := fun C D h1 h2 => by
    cases (PySem.W.mg_of X G g_NotAlive).symm.trans h1
    cases (PySem.W.mg_of X G g_InvalidCount).symm.trans h2
    exact s_NotAlive_InvalidCount
  m_NotAlive_EmptyHistory := fun C D h1 h2 => by
    cases (PySem.W.mg_of X G g_NotAlive).symm.trans h1
    cases (PySem.W.mg_of X G g_EmptyHistory).symm.trans h2
    exact s_NotAlive_EmptyHistory
  m_TooLarge_NotAlive := fun C D h1 h2 => by
    cases (PySem.W.mg_of X G g_TooLarge).symm.trans h1
    cases (PySem.W.mg_of X G g_NotAlive).symm.trans h2
    exact s_TooLarge_NotAlive
  m_TooLarge_WireError := fun C D h1 h2 => by
    cases (PySem.W.mg_of X G g_TooLarge).symm.trans h1
    cases (PySem.W.mg_of X G g_WireError).symm.trans h2
    exact s_TooLarge_WireError
  m_TooLarge_InvalidProcess := fun C D h1 h2 => by
    cases (PySem.W.mg_of X G g_TooLarge).symm.trans h1
    cases (PySem.W.mg_of X G g_InvalidProcess).symm.trans h2
    exact s_TooLarge_InvalidProcess
  m_TooLarge_InvalidCount := fun C D h1 h2 => by
    cases (PySem.W.mg_of X G g_TooLarge).symm.trans h1
    cases (PySem.W.mg_of X G g_InvalidCount).symm.trans h2
    exact s_TooLarge_InvalidCount
  m_TooLarge_EmptyHistory := fun C D h1 h2 => by
    cases (PySem.W.mg_of X G g_TooLarge).symm.trans h1
    cases (PySem.W.mg_of X G g_EmptyHistory).symm.trans h2
    exact s_TooLarge_EmptyHistory
  m_InvalidCount_NotAlive := fun C D h1 h2 => by
    cases (PySem.W.mg_of X G g_InvalidCount).symm.trans h1
    cases (PySem.W.mg_of X G g_NotAlive).symm.trans h2
    exact s_InvalidCount_NotAlive
  m_InvalidCount_WireError := fun C D h1 h2 => by
    cases (PySem.W.mg_of X G g_InvalidCount).symm.trans h1
    cases (PySem.W.mg_of X G g_WireError).symm.trans h2
    exact s_InvalidCount_WireError
  m_InvalidCount_InvalidProcess := fun C D h1 h2 => by
    cases (PySem.W.mg_of X G g_InvalidCount).symm.trans h1
    cases (PySem.W.mg_of X G g_InvalidProcess).symm.trans h2
    exact s_InvalidCount_InvalidProcess
  m_InvalidCount_InvalidCount := fun C D h1 h2 => by
    cases (PySem.W.mg_of X G g_InvalidCount).symm.trans h1
    cases (PySem.W.mg_of X G g_InvalidCount).symm.trans h2
    exact s_InvalidCount_InvalidCount
  m_InvalidCount_EmptyHistory := fun C D h1 h2 => by
    cases (PySem.W.mg_of X G g_InvalidCount).symm.trans h1
    cases (PySem.W.mg_of X G g_EmptyHistory).symm.trans h2
    exact s_InvalidCount_EmptyHistory
  m_EmptyHistory_NotAlive := fun C D h1 h2 => by
    cases (PySem.W.mg_of X G g_EmptyHistory).symm.trans h1
    cases (PySem.W.mg_of X G g_NotAlive).symm.trans h2
    exact s_EmptyHistory_NotAlive
  m_EmptyHistory_WireError := fun C D h1 h2 => by
    cases (PySem.W.mg_of X G g_EmptyHistory).symm.trans h1
    cases (PySem.W.mg_of X G g_WireError).symm.trans h2
    exact s_EmptyHistory_WireError
  m_EmptyHistory_InvalidProcess := fun C D h1 h2 => by
    cases (PySem.W.mg_of X G g_EmptyHistory).symm.trans h1
    cases (PySem.W.mg_of X G g_InvalidProcess).symm.trans h2
    exact s_EmptyHistory_InvalidProcess
  m_EmptyHistory_InvalidCount := fun C D h1 h2 => by
    cases (PySem.W.mg_of X G g_EmptyHistory).symm.trans h1
    cases (PySem.W.mg_of X G g_InvalidCount).symm.trans h2
    exact s_EmptyHistory_InvalidCount
  m_EmptyHistory_EmptyHistory := fun C D h1 h2 => by
    cases (PySem.W.mg_of X G g_EmptyHistory).symm.trans h1
    cases (PySem.W.mg_of X G g_EmptyHistory).symm.trans h2
    exact s_EmptyHistory_EmptyHistory
  m_WireError_NotAlive := fun C D h1 h2 => by
    cases (PySem.W.mg_of X G g_WireError).symm.trans h1
    cases (PySem.W.mg_of X G g_NotAlive).symm.trans h2
    exact s_WireError_NotAlive
  m_WireError_WireError := fun C D h1 h2 => by
    cases (PySem.W.mg_of X G g_WireError).symm.trans h1
    cases (PySem.W.mg_of X G g_WireError).symm.trans h2
    exact s_WireError_WireError
  m_WireError_InvalidProcess := fun C D h1 h2 => by
    cases (PySem.W.mg_of X G g_WireError).symm.trans h1
    cases (PySem.W.mg_of X G g_InvalidProcess).symm.trans h2
    exact s_WireError_InvalidProcess
  m_WireError_InvalidCount := fun C D h1 h2 => by
    cases (PySem.W.mg_of X G g_WireError).symm.trans h1
    cases (PySem.W.mg_of X G g_InvalidCount).symm.trans h2
    exact s_WireError_InvalidCount
  m_WireError_EmptyHistory := fun C D h1 h2 => by
    cases (PySem.W.mg_of X G g_WireError).symm.trans h1
    cases (PySem.W.mg_of X G g_EmptyHistory).symm.trans h2
    exact s_WireError_EmptyHistory
theorem walk {l : PySem.W.OpenLaw} {q : Program} {loose : List Str} {XP : (Str → Option Value) → Heap → Prop} {YP : World → Heap → Prop} {d : DefRec} {K : Params → PySem.W.Frag} (hn : l.most = some 63) (hdf : d.params.defaults = []) (hdn : d.name = "law")
    (hY : ∀ (w : World) (h : Heap), YP w h → (K w.params).In h) (F : ∀ (w : World) (mg : Str → Option Value) (h : Heap), (K w.params).In h → h.Ns mainGlobals mg → Txt l.prog (K w.params) mg) :
    PySem.W.WalkO q loose XP YP l.row.toRowW d [] (fun f vs => PySem.call f vs) := by
  refine walk_keeps (n := 63) (k := 7) (x := "script") (sp := fun w => sp1 (Φ_law (K w.params))) hn (by decide) hdf ⟨rfl, by decide, by decide⟩ hY ?_ ?_
  · intro w mg fa h KX G hmg
    have T := F w mg h KX G
    obtain ⟨f, fd, F1, hm, B, KB⟩ := T.d_law
    rw [hdn] at hmg
    obtain rfl : f = fa := Value.ref.inj (Option.some.inj (hm.symm.trans hmg))
    exact ⟨fd, fun s u => KB s [u] rfl, fun base _ _ => ok_law T F1⟩
  · intro w H a ns hl hS
    exact ⟨_, rfl, a, ns, rfl, hS, hl, fun _ => rfl⟩
end Mine
open PySem PySem.W PyProof.Rows
set_option maxRecDepth 100000 in
set_option maxHeartbeats 0 in
theorem PySem.Challenge.cw_wireshell_k35_families_refuse_holds : PySem.Challenge.rw_wireshell_k35_families_refuse.Holds := by
  w_on; o_law; k_head; (case hw => w_witness2)
  k_fill
  refine Mine.walk (l := PySem.Challenge.rw_wireshell_k35_families_refuse) rfl rfl rfl (fun w h Y => PySem.W.kIn_of Y) ?F
  case F =>
    intro w mg h KX G
    refine' Mine.all_mk KX G ?h_MOST_PROCESS ?r_MOST_PROCESS ?h_MOST_NUMBER ?r_MOST_NUMBER ?h_FIRST ?r_FIRST ?a_is_integer ?l_is_integer ?c_is_integer ?k_is_integer ?a_law_deck ?l_law_deck ?c_law_deck ?k_law_deck ?a_law_draw ?l_law_draw ?c_law_draw ?k_law_draw ?a_law_one_of ?l_law_one_of ?c_law_one_of ?k_law_one_of ?a_law_family_seen ?l_law_family_seen ?c_law_family_seen ?k_law_family_seen ?a_law_call ?l_law_call ?c_law_call ?k_law_call ?a_law_word ?l_law_word ?c_law_word ?k_law_word ?a_law_right ?l_law_right ?c_law_right ?k_law_right ?a_law ?l_law ?c_law ?k_law ?h_ALIVE ?y_ALIVE ?r_ALIVE ?h_GONE ?y_GONE ?r_GONE ?gC_Family ?pg_Family ?hd_Family ?po_Family ?sa_Family ?mk_Family ?kc_Family ?nf_Family_present ?nf_Family_past ?a_Family___init__ ?i_Family___init__ ?l_Family___init__ ?c_Family___init__ ?k_Family___init__ ?a_Family_check ?i_Family_check ?l_Family_check ?c_Family_check ?k_Family_check ?a_Family_check_alive ?i_Family_check_alive ?l_Family_check_alive ?c_Family_check_alive ?k_Family_check_alive ?a_Family_go_to ?i_Family_go_to ?l_Family_go_to ?c_Family_go_to ?k_Family_go_to ?a_Family_fork ?i_Family_fork ?l_Family_fork ?c_Family_fork ?k_Family_fork ?a_Family_end ?i_Family_end ?l_Family_end ?c_Family_end ?k_Family_end ?a_Family_told_of ?i_Family_told_of ?l_Family_told_of ?c_Family_told_of ?k_Family_told_of ?a_Family_wait ?i_Family_wait ?l_Family_wait ?c_Family_wait ?k_Family_wait ?a_Family_wait_for ?i_Family_wait_for ?l_Family_wait_for ?c_Family_wait_for ?k_Family_wait_for ?a_Family_offspring ?i_Family_offspring ?l_Family_offspring ?c_Family_offspring ?k_Family_offspring ?a_Family_children ?i_Family_children ?l_Family_children ?c_Family_children ?k_Family_children ?a_Family_parent ?i_Family_parent ?l_Family_parent ?c_Family_parent ?k_Family_parent ?a_Family_status ?i_Family_status ?l_Family_status ?c_Family_status ?k_Family_status ?a_Family_ended ?i_Family_ended ?l_Family_ended ?c_Family_ended ?k_Family_ended ?a_Family_undo ?i_Family_undo ?l_Family_undo ?c_Family_undo ?k_Family_undo ?z_bool ?z_enumerate ?z_int ?z_isinstance ?z_len ?z_list ?z_max ?z_min ?z_range ?z_repr ?z_tuple ?gsuper ?third ?topS ?g_InvalidProcess ?x_InvalidProcess ?kk_InvalidProcess ?bb_InvalidProcess ?tt_InvalidProcess ?ii_InvalidProcess ?g_NotAlive ?x_NotAlive ?sa_NotAlive ?ga_NotAlive ?gg_NotAlive ?no_NotAlive ?ic_NotAlive ?tf_NotAlive ?kk_NotAlive ?bb_NotAlive ?ve_NotAlive ?tt_NotAlive ?hd_NotAlive ?ii_NotAlive ?sl_NotAlive ?su_NotAlive ?l_NotAlive ?c_NotAlive ?co_NotAlive ?v2_NotAlive ?fe_NotAlive ?ce_NotAlive ?g_TooLarge ?x_TooLarge ?sa_TooLarge ?ga_TooLarge ?gg_TooLarge ?no_TooLarge ?ic_TooLarge ?tf_TooLarge ?kk_TooLarge ?bb_TooLarge ?ve_TooLarge ?tt_TooLarge ?hd_TooLarge ?ii_TooLarge ?sl_TooLarge ?su_TooLarge ?l_TooLarge ?c_TooLarge ?co_TooLarge ?v2_TooLarge ?fe_TooLarge ?ce_TooLarge ?g_InvalidCount ?x_InvalidCount ?kk_InvalidCount ?bb_InvalidCount ?tt_InvalidCount ?ii_InvalidCount ?g_EmptyHistory ?x_EmptyHistory ?kk_EmptyHistory ?bb_EmptyHistory ?tt_EmptyHistory ?ii_EmptyHistory ?g_WireError ?x_WireError ?kk_WireError ?bb_WireError ?tt_WireError ?ii_WireError ?xg_InvalidProcess ?xk_InvalidProcess ?xd_InvalidProcess ?xa_InvalidProcess ?xm_InvalidProcess ?xg_InvalidCount ?xk_InvalidCount ?xd_InvalidCount ?xa_InvalidCount ?xm_InvalidCount ?xg_EmptyHistory ?xk_EmptyHistory ?xd_EmptyHistory ?xa_EmptyHistory ?xm_EmptyHistory ?xg_WireError ?xk_WireError ?xd_WireError ?xa_WireError ?xm_WireError ?xn ?xt ?s_InvalidProcess_NotAlive ?s_InvalidProcess_WireError ?s_InvalidProcess_InvalidProcess ?s_InvalidProcess_InvalidCount ?s_InvalidProcess_EmptyHistory ?s_NotAlive_NotAlive ?s_NotAlive_WireError ?s_NotAlive_InvalidProcess ?s_NotAlive_InvalidCount ?s_NotAlive_EmptyHistory ?s_TooLarge_NotAlive ?s_TooLarge_WireError ?s_TooLarge_InvalidProcess ?s_TooLarge_InvalidCount ?s_TooLarge_EmptyHistory ?s_InvalidCount_NotAlive ?s_InvalidCount_WireError ?s_InvalidCount_InvalidProcess ?s_InvalidCount_InvalidCount ?s_InvalidCount_EmptyHistory ?s_EmptyHistory_NotAlive ?s_EmptyHistory_WireError ?s_EmptyHistory_InvalidProcess ?s_EmptyHistory_InvalidCount ?s_EmptyHistory_EmptyHistory ?s_WireError_NotAlive ?s_WireError_WireError ?s_WireError_InvalidProcess ?s_WireError_InvalidCount ?s_WireError_EmptyHistory
    (case h_MOST_PROCESS => k_is); (case r_MOST_PROCESS => exact ⟨_, rfl⟩)
    (case h_MOST_NUMBER => k_is); (case r_MOST_NUMBER => exact ⟨_, rfl⟩)
    (case h_FIRST => k_is); (case r_FIRST => exact ⟨_, rfl⟩)
    (case a_is_integer => k_is); (case l_is_integer => k_is); (case c_is_integer => k_is); (case k_is_integer => k_is)
    (case a_law_deck => k_is); (case l_law_deck => k_is); (case c_law_deck => k_is); (case k_law_deck => k_is)
    (case a_law_draw => k_is); (case l_law_draw => k_is); (case c_law_draw => k_is); (case k_law_draw => k_is)
    (case a_law_one_of => k_is); (case l_law_one_of => k_is); (case c_law_one_of => k_is); (case k_law_one_of => k_is)
    (case a_law_family_seen => k_is); (case l_law_family_seen => k_is); (case c_law_family_seen => k_is); (case k_law_family_seen => k_is)
    (case a_law_call => k_is); (case l_law_call => k_is); (case c_law_call => k_is); (case k_law_call => k_is)
    (case a_law_word => k_is); (case l_law_word => k_is); (case c_law_word => k_is); (case k_law_word => k_is)
    (case a_law_right => k_is); (case l_law_right => k_is); (case c_law_right => k_is); (case k_law_right => k_is)
    (case a_law => k_is); (case l_law => k_is); (case c_law => k_is); (case k_law => k_is)
    (case h_ALIVE => k_is); (case y_ALIVE => k_is); (case r_ALIVE => repeat (first | exact .nil | refine .cons (by first | rfl | exact ⟨_, rfl⟩) ?_))
    (case h_GONE => k_is); (case y_GONE => k_is); (case r_GONE => repeat (first | exact .nil | refine .cons (by first | rfl | exact ⟨_, rfl⟩) ?_))
    (case gC_Family => k_is); (case pg_Family => k_is); (case hd_Family => k_is); (case po_Family => k_is); (case sa_Family => k_is); (case mk_Family => k_is); (case kc_Family => k_is)
    (case nf_Family_present => k_is)
    (case nf_Family_past => k_is)
    (case a_Family___init__ => k_is); (case i_Family___init__ => k_is); (case l_Family___init__ => k_is); (case c_Family___init__ => k_is); (case k_Family___init__ => k_is)
    (case a_Family_check => k_is); (case i_Family_check => k_is); (case l_Family_check => k_is); (case c_Family_check => k_is); (case k_Family_check => k_is)
    (case a_Family_check_alive => k_is); (case i_Family_check_alive => k_is); (case l_Family_check_alive => k_is); (case c_Family_check_alive => k_is); (case k_Family_check_alive => k_is)
    (case a_Family_go_to => k_is); (case i_Family_go_to => k_is); (case l_Family_go_to => k_is); (case c_Family_go_to => k_is); (case k_Family_go_to => k_is)
    (case a_Family_fork => k_is); (case i_Family_fork => k_is); (case l_Family_fork => k_is); (case c_Family_fork => k_is); (case k_Family_fork => k_is)
    (case a_Family_end => k_is); (case i_Family_end => k_is); (case l_Family_end => k_is); (case c_Family_end => k_is); (case k_Family_end => k_is)
    (case a_Family_told_of => k_is); (case i_Family_told_of => k_is); (case l_Family_told_of => k_is); (case c_Family_told_of => k_is); (case k_Family_told_of => k_is)
    (case a_Family_wait => k_is); (case i_Family_wait => k_is); (case l_Family_wait => k_is); (case c_Family_wait => k_is); (case k_Family_wait => k_is)
    (case a_Family_wait_for => k_is); (case i_Family_wait_for => k_is); (case l_Family_wait_for => k_is); (case c_Family_wait_for => k_is); (case k_Family_wait_for => k_is)
    (case a_Family_offspring => k_is); (case i_Family_offspring => k_is); (case l_Family_offspring => k_is); (case c_Family_offspring => k_is); (case k_Family_offspring => k_is)
    (case a_Family_children => k_is); (case i_Family_children => k_is); (case l_Family_children => k_is); (case c_Family_children => k_is); (case k_Family_children => k_is)
    (case a_Family_parent => k_is); (case i_Family_parent => k_is); (case l_Family_parent => k_is); (case c_Family_parent => k_is); (case k_Family_parent => k_is)
    (case a_Family_status => k_is); (case i_Family_status => k_is); (case l_Family_status => k_is); (case c_Family_status => k_is); (case k_Family_status => k_is)
    (case a_Family_ended => k_is); (case i_Family_ended => k_is); (case l_Family_ended => k_is); (case c_Family_ended => k_is); (case k_Family_ended => k_is)
    (case a_Family_undo => k_is); (case i_Family_undo => k_is); (case l_Family_undo => k_is); (case c_Family_undo => k_is); (case k_Family_undo => k_is)
    (case z_bool => k_is)
    (case z_enumerate => k_is)
    (case z_int => k_is)
    (case z_isinstance => k_is)
    (case z_len => k_is)
    (case z_list => k_is)
    (case z_max => k_is)
    (case z_min => k_is)
    (case z_range => k_is)
    (case z_repr => k_is)
    (case z_tuple => k_is)
    (case gsuper => k_is); (case third => k_is); (case topS => first | rfl | decide +kernel)
    (case g_InvalidProcess => k_is); (case x_InvalidProcess => k_exc); (case kk_InvalidProcess => k_is); (case bb_InvalidProcess => k_is); (case tt_InvalidProcess => k_is); (case ii_InvalidProcess => k_is)
    (case g_NotAlive => k_is); (case x_NotAlive => k_is); (case sa_NotAlive => k_is); (case ga_NotAlive => k_is); (case gg_NotAlive => k_is); (case no_NotAlive => k_is); (case ic_NotAlive => k_is); (case tf_NotAlive => k_is); (case kk_NotAlive => k_is); (case bb_NotAlive => k_is); (case ve_NotAlive => k_is); (case tt_NotAlive => k_is); (case hd_NotAlive => k_is); (case ii_NotAlive => k_is); (case sl_NotAlive => first | rfl | k_is); (case su_NotAlive => first | rfl | k_is); (case l_NotAlive => k_is); (case c_NotAlive => k_is); (case co_NotAlive => k_is); (case v2_NotAlive => first | rfl | decide +kernel); (case fe_NotAlive => first | rfl | decide +kernel); (case ce_NotAlive => k_is)
    (case g_TooLarge => k_is); (case x_TooLarge => k_is); (case sa_TooLarge => k_is); (case ga_TooLarge => k_is); (case gg_TooLarge => k_is); (case no_TooLarge => k_is); (case ic_TooLarge => k_is); (case tf_TooLarge => k_is); (case kk_TooLarge => k_is); (case bb_TooLarge => k_is); (case ve_TooLarge => k_is); (case tt_TooLarge => k_is); (case hd_TooLarge => k_is); (case ii_TooLarge => k_is); (case sl_TooLarge => first | rfl | k_is); (case su_TooLarge => first | rfl | k_is); (case l_TooLarge => k_is); (case c_TooLarge => k_is); (case co_TooLarge => k_is); (case v2_TooLarge => first | rfl | decide +kernel); (case fe_TooLarge => first | rfl | decide +kernel); (case ce_TooLarge => k_is)
    (case g_InvalidCount => k_is); (case x_InvalidCount => k_exc); (case kk_InvalidCount => k_is); (case bb_InvalidCount => k_is); (case tt_InvalidCount => k_is); (case ii_InvalidCount => k_is)
    (case g_EmptyHistory => k_is); (case x_EmptyHistory => k_exc); (case kk_EmptyHistory => k_is); (case bb_EmptyHistory => k_is); (case tt_EmptyHistory => k_is); (case ii_EmptyHistory => k_is)
    (case g_WireError => k_is); (case x_WireError => k_exc); (case kk_WireError => k_is); (case bb_WireError => k_is); (case tt_WireError => k_is); (case ii_WireError => k_is)
    (case xg_InvalidProcess => first | k_is | rfl | decide +kernel); (case xk_InvalidProcess => first | k_is | rfl | decide +kernel); (case xd_InvalidProcess => first | k_is | rfl | decide +kernel); (case xa_InvalidProcess => first | k_is | rfl | decide +kernel); (case xm_InvalidProcess => first | k_is | rfl | decide +kernel)
    (case xg_InvalidCount => first | k_is | rfl | decide +kernel); (case xk_InvalidCount => first | k_is | rfl | decide +kernel); (case xd_InvalidCount => first | k_is | rfl | decide +kernel); (case xa_InvalidCount => first | k_is | rfl | decide +kernel); (case xm_InvalidCount => first | k_is | rfl | decide +kernel)
    (case xg_EmptyHistory => first | k_is | rfl | decide +kernel); (case xk_EmptyHistory => first | k_is | rfl | decide +kernel); (case xd_EmptyHistory => first | k_is | rfl | decide +kernel); (case xa_EmptyHistory => first | k_is | rfl | decide +kernel); (case xm_EmptyHistory => first | k_is | rfl | decide +kernel)
    (case xg_WireError => first | k_is | rfl | decide +kernel); (case xk_WireError => first | k_is | rfl | decide +kernel); (case xd_WireError => first | k_is | rfl | decide +kernel); (case xa_WireError => first | k_is | rfl | decide +kernel); (case xm_WireError => first | k_is | rfl | decide +kernel)
    (case xn => first | k_is | rfl | decide +kernel); (case xt => first | k_is | rfl | decide +kernel)
    (case s_InvalidProcess_NotAlive => first | rfl | k_is)
    (case s_InvalidProcess_WireError => first | rfl | k_is)
    (case s_InvalidProcess_InvalidProcess => first | rfl | k_is)
    (case s_InvalidProcess_InvalidCount => first | rfl | k_is)
    (case s_InvalidProcess_EmptyHistory => first | rfl | k_is)
    (case s_NotAlive_NotAlive => first | rfl | k_is)
    (case s_NotAlive_WireError => first | rfl | k_is)
    (case s_NotAlive_InvalidProcess => first | rfl | k_is)
    (case s_NotAlive_InvalidCount => first | rfl | k_is)
    (case s_NotAlive_EmptyHistory => first | rfl | k_is)
    (case s_TooLarge_NotAlive => first | rfl | k_is)
    (case s_TooLarge_WireError => first | rfl | k_is)
    (case s_TooLarge_InvalidProcess => first | rfl | k_is)
    (case s_TooLarge_InvalidCount => first | rfl | k_is)
    (case s_TooLarge_EmptyHistory => first | rfl | k_is)
    (case s_InvalidCount_NotAlive => first | rfl | k_is)
    (case s_InvalidCount_WireError => first | rfl | k_is)
    (case s_InvalidCount_InvalidProcess => first | rfl | k_is)
    (case s_InvalidCount_InvalidCount => first | rfl | k_is)
    (case s_InvalidCount_EmptyHistory => first | rfl | k_is)
    (case s_EmptyHistory_NotAlive => first | rfl | k_is)
    (case s_EmptyHistory_WireError => first | rfl | k_is)
    (case s_EmptyHistory_InvalidProcess => first | rfl | k_is)
    (case s_EmptyHistory_InvalidCount => first | rfl | k_is)
    (case s_EmptyHistory_EmptyHistory => first | rfl | k_is)
    (case s_WireError_NotAlive => first | rfl | k_is)
    (case s_WireError_WireError => first | rfl | k_is)
    (case s_WireError_InvalidProcess => first | rfl | k_is)
    (case s_WireError_InvalidCount => first | rfl | k_is)
    (case s_WireError_EmptyHistory => first | rfl | k_is)
#print axioms PySem.Challenge.cw_wireshell_k35_families_refuse_holds

