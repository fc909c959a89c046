import PyProof.Rows.All
import Wide.All
import OpenK.AllK
import Wide.FinOn
import HandS.ForMost
import HandS.Exc
import HandS.EndBits
import HandS.Wide
import HandS.Codes
import HandS.TupAny
import HandS.IsInst
import HandS.Walk
import HandS.Flow
import HandS.SetKeys
import HandS.SortKw
import HandS.Style
import KE.SortData
import HandS.More
import HandS.DictComp
import HandS.Defaults
import HandS.Deep
import PyProof.RowDictHeap
import PyProof.ReprRoads
import PyProof.ReprBulk
import HandS.Finally
import PyProof.DictUpdate
import HandS.ExcInit
import HandS.ExcIs
import HandS.ExcField
import PySem.Challenge.RW_threeturned_k68_mentioned_constraints
import PyProof.P3In
import HandS.Lambda
import KE.DataMinKey
import HandS.EndTab
set_option Elab.async false
set_option linter.all false
set_option maxRecDepth 100000
set_option maxHeartbeats 4000000
/-! calls with room and with nothing being shown (guards known) -/
namespace U
open PySem PySem.Spec PyProof.Rows L2

/-- room for k calls, and no repr is under way -/
structure Rm (k : Nat) (A : Around) : Prop where
  r : Room k A
  g : A.guards = some []
theorem Rm.mono {j k : Nat} {A : Around} (h : Rm k A) (hj : j ≤ k) : Rm j A := ⟨h.r.mono hj, h.g⟩
theorem Rm.deeper {k : Nat} {A : Around} (h : Rm (k + 1) A) (env : Env) : Rm k (A.deeper env) := ⟨h.r.deeper env, h.g⟩
theorem Rm.u1 {k : Nat} {A : Around} (h : Rm k A) : A.units + 1 < cLine := by
  have z := h.r.un
  omega
theorem Rm.u64 {k : Nat} {A : Around} (h : Rm k A) : A.units + 64 < cLine := h.r.units
theorem Rm.u0 {k : Nat} {A : Around} (h : Rm k A) : A.units < cLine := by
  have z := h.r.un
  omega
theorem Rm.u100 {k : Nat} {A : Around} (h : Rm k A) : A.units + 150 < cLine := by
  have z := h.r.un
  omega

/-- the def at f keeps the promise sp -/
structure FnG (P : Program) (w : World) (K : PySem.W.Frag) (mg : Str → Option Value) (base : Heap) (CX : CXT) (k : Nat) (f : Addr) (fd : FuncData) (ps : List Str) (sp : Sp) : Prop where
  len : ∀ vs H Q E, sp vs H Q E → vs.length = ps.length
  go : ∀ (A : Around) (outer : List Env) (s : Shared) (H : Hp) (args : Args) (us : List Value) (vs : List V) (Q : VK) (E : XK), Rm k A →
    Env0 P w K mg base A outer s H → BindsTo s fd args (ps.zip us) → Vals vs us → sp vs H Q E → codeAny (model P w) A (.call (.ref f) args) (CR CX outer P w H s Q E) s
/-- room ran out of is no way: L2's own promise serves -/
theorem FnG.of {P : Program} {w : World} {K : PySem.W.Frag} {mg : Str → Option Value} {base : Heap} {CX : CXT} {k : Nat} {f : Addr} {fd : FuncData} {ps : List Str} {sp : Sp} (F : FnOk P w K mg base CX k f fd ps sp) : FnG P w K mg base CX k f fd ps sp :=
  ⟨F.len, fun A outer s H args us vs Q E hr => F.run A outer s H args us vs Q E hr.r⟩

section
variable {P : Program} {w : World} {K : PySem.W.Frag} {mg : Str → Option Value} {base : Heap} {CX : CXT}
/-- a def by its body -/
theorem fnG {x qual : Str} {st : Stmt} {f : Addr} {fd : FuncData} {N ps : List Str} {k : Nat} {sp : Sp} (F : Fun K x qual st f fd) (S : FnScope N ps (defScope st)) (len : ∀ vs H Q E, sp vs H Q E → vs.length = ps.length)
    (body : ∀ (cdv : Value) (A : Around) (outer : List Env) (s : Shared) (H : Hp) (vs : List V) (Q : VK) (E : XK), Rm k (A.deeper (envOfC qual (defScope st) s.heap.objs.size f cdv)) → sp vs H Q E →
      ∃ t, PSs (cxOf CX P w K mg base N qual (defScope st) f cdv A outer s H E) (defBody st) t ∧ t { nx := fun _ H' => Q .non H', rt := Q } (start N vs) H) :
    FnG P w K mg base CX (k + 1) f fd ps sp := by
  obtain ⟨oc, od, kV, doc, pm, an, cdv, ct, osl, rfl, lk, hcd⟩ := F.ex
  refine ⟨len, fun A outer s H args us vs Q E room e0 bd rel want => ?_⟩
  have count := len _ _ _ _ want
  have kin : K.In s.heap := e0.mod.kin.keeps fun b o e => (e0.bs b o e).1
  have kinds : ∀ y ∈ ps.zip us, (defScope st).names.lookup y.1 = some .local ∨ ((defScope st).names.lookup y.1 = some .cell ∧ ((cellsFrom (s.heap.objs.size + 1) (defScope st).names []).lookup y.1).isSome = true) := by
    rintro ⟨n, v⟩ hy
    cases S.par n (List.of_mem_zip hy).1 with
    | inl q => exact .inl q
    | inr q => exact .inr ⟨q, PySem.W.cellsFrom_some _ _ _ (.inl q)⟩
  apply codeAny_call_function room.r.depth (kin _ _ lk) rfl S.co S.gen rfl (PySem.W.codeRec_of kin hcd) (bd _ _ _ _ _)
  apply wpAny_newFunctionEnv_cells S.kind kinds
  intro env he s1 x
  subst he
  have lim : s.heap.NoLimit := e0.mod.nolimit.keeps fun b o e => (e0.bs b o e).1
  refine ⟨lim.keeps x.toInCall.keep, codeAny_func ?_⟩
  obtain ⟨t, ht, want'⟩ := body cdv A outer s H vs Q E (room.deeper _) want
  have I := inv_start (CX := CX) (P := P) (w := w) (K := K) (mg := mg) (base := base) (E := E) S room.r.hd e0 count rel x
  refine wpAny_mono (ht.run [] s1 (start N vs) H _ I want') ?_ fun e s' hs => hs
  intro fl s' hs
  cases fl with
  | ret u =>
    obtain ⟨v, σ', H', J, rv, q⟩ := hs
    exact ⟨v, H', J.os, J.bare, J.base, J.hok, rv, q⟩
  | next =>
    obtain ⟨σ', H', J, q⟩ := hs
    exact ⟨V.non, H', J.os, J.bare, J.base, J.hok, rfl, q⟩
  | brk => exact hs.elim fun _ z => z.elim fun _ z => z.2.elim
  | cont => exact hs.elim fun _ z => z.elim fun _ z => z.2.elim
/-- a def that no exception leaves -/
theorem fnG0 {x qual : Str} {st : Stmt} {f : Addr} {fd : FuncData} {N ps : List Str} {k : Nat} {sp : Sp} (F : Fun K x qual st f fd) (S : FnScope N ps (defScope st)) (len : ∀ vs H Q E, sp vs H Q E → vs.length = ps.length)
    (body : ∀ (cdv : Value) (A : Around) (outer : List Env) (s : Shared) (H : Hp) (vs : List V) (Q : VK) (E : XK), Rm k (A.deeper (envOfC qual (defScope st) s.heap.objs.size f cdv)) → sp vs H Q E →
      ∃ t, PSs (cxOf CX0 P w K mg base N qual (defScope st) f cdv A outer s H E).nox (defBody st) t ∧ t { nx := fun _ H' => Q .non H', rt := Q } (start N vs) H) :
    FnG P w K mg base CX0 (k + 1) f fd ps sp := fnG F S len fun cdv A outer s H vs Q E hr h => by
  obtain ⟨t, p, q⟩ := body cdv A outer s H vs Q E hr h
  exact ⟨t, p.nox, q⟩
/-- a def that may be called by its global name -/
structure Cal (P : Program) (w : World) (K : PySem.W.Frag) (mg : Str → Option Value) (base : Heap) (CX : CXT) (k : Nat) (x : Str) (sp : Sp) : Prop where
  ex : ∃ (f : Addr) (fd : FuncData) (ps : List Str), FnG P w K mg base CX k f fd ps sp ∧ mg x = some (.ref f) ∧ PySem.W.keepIn K (.ref f) = true ∧ Binds K fd ps []
end

section
variable {X : Cx} {CX : L2.CXT} {k j : Nat} {f : Addr} {fd : FuncData} {ps : List Str} {sp : Sp} {E : XK} {x : Str} {p pos : Pos} {e : Expr} {es : List Expr} {t : TA}
theorem callG {pins : List (Addr × Obj)} {σ : L2.St} {H : Hp} {s : Shared} {Q : VK} {us : List Value} {vs : List V} (F : FnG X.prog X.w X.K X.mg X.base CX k f fd ps sp) (hr : Rm k X.A) (hb : Binds X.K fd ps []) (hx : Passes CX X E)
    (I : Inv X pins σ H s) (r : Vals vs us) (h : sp vs H Q E) : wpAny (model X.prog X.w) X.A (call (.ref f) us) (EP X pins σ Q) X.xe s := by
  have count : us.length = ps.length := r.length ▸ F.len _ _ _ _ h
  have bd := hb s us I.kIn (by rw [List.append_nil]; exact count)
  rw [List.append_nil] at bd
  refine wpAny_call (codeAny_mono (F.go X.A X.stack s H ⟨us, []⟩ us vs Q E hr I.env0 bd r h) ?_)
  intro res s' hq
  cases res with
  | error er => exact hx pins σ H s er s' I hq
  | ok fl =>
    cases fl with
    | ret u => exact I.after hq
    | next => exact hq.elim
    | brk => exact hq.elim
    | cont => exact hq.elim
/-- f(..): the promise -/
def tC1 (sp : Sp) (E : XK) (t : TA) : TE := fun σ H Q => t σ H fun vs H1 => sp vs H1 Q E
theorem pe_cG (c : Cal X.prog X.w X.K X.mg X.base CX k x sp) (hr : Rm j X.A) (hk : k ≤ j) (hg : Gl X x) (hx : Passes CX X E) (ha : PA X (e :: es) t)
    (hdb : (x == ("__debug__" : Str)) = false := by decide) (he : starEach (e :: es) X.env = (false, eval e X.env) :: starEach es X.env := by rfl) (hpl : (backTo pos (starEach es X.env)).any (·.1) = false := by rfl) :
    PE X (.Call (.Name x p) (e :: es) [] pos) (tC1 sp E t) := by
  obtain ⟨f, fd, ps, F, hm, kp, b⟩ := c.ex
  refine ⟨fun pins s σ H Q I h => wpAny_Call_Name_kw (ld_glob I hg hm ?_ hdb)⟩
  refine PySem.W.callWith_K (h₀ := X.base) I.ok.mod.kin kp (thn (ha.run pos pins s σ H _ I h) ?_) he hpl
  rintro us s1 ⟨vs, H1, I1, r, q⟩
  exact ⟨I1.kIn, callG F (hr.mono hk) b hx I1 r q⟩
/-- f() -/
theorem pe_cG0 (c : Cal X.prog X.w X.K X.mg X.base CX k x sp) (hr : Rm j X.A) (hk : k ≤ j) (hg : Gl X x) (hx : Passes CX X E)
    (hdb : (x == ("__debug__" : Str)) = false := by decide) : PE X (.Call (.Name x p) [] [] pos) (tC1 sp E tNil) := by
  obtain ⟨f, fd, ps, F, hm, kp, b⟩ := c.ex
  refine ⟨fun pins s σ H Q I h => wpAny_Call_Name_kw (ld_glob I hg hm ?_ hdb)⟩
  exact PySem.W.callWith_K0 I.kIn kp (callG (us := []) F (hr.mono hk) b hx I .nil h)
theorem pe_c (c : Cal X.prog X.w X.K X.mg X.base CX0 k x sp) (hr : Rm j X.A) (hk : k ≤ j) (hg : Gl X x) (ha : PA X (e :: es) t)
    (hdb : (x == ("__debug__" : Str)) = false := by decide) (he : starEach (e :: es) X.env = (false, eval e X.env) :: starEach es X.env := by rfl) (hpl : (backTo pos (starEach es X.env)).any (·.1) = false := by rfl) :
    PE X (.Call (.Name x p) (e :: es) [] pos) (tC1 sp E0 t) := pe_cG c hr hk hg pass0 ha hdb he hpl
/-- .. what is raised is wished for at the caller's slots -/
def tC2 (sp : Sp) (W : WX) (t : TA) : TE := fun σ H Q => t σ H fun vs H1 => sp vs H1 Q fun cls d H' => W cls d σ H'
theorem pe_cX {W : WX} (c : Cal X.prog X.w X.K X.mg X.base (L2.CX X.prog X.w) k x sp) (hr : Rm j X.A) (hk : k ≤ j) (hg : Gl X x) (tk : Takes X W) (ha : PA X (e :: es) t)
    (hdb : (x == ("__debug__" : Str)) = false := by decide) (he : starEach (e :: es) X.env = (false, eval e X.env) :: starEach es X.env := by rfl) (hpl : (backTo pos (starEach es X.env)).any (·.1) = false := by rfl) :
    PE X (.Call (.Name x p) (e :: es) [] pos) (tC2 sp W t) := by
  obtain ⟨f, fd, ps, F, hm, kp, b⟩ := c.ex
  refine ⟨fun pins s σ H Q I h => wpAny_Call_Name_kw (ld_glob I hg hm ?_ hdb)⟩
  refine PySem.W.callWith_K (h₀ := X.base) I.ok.mod.kin kp (thn (ha.run pos pins s σ H _ I h) ?_) he hpl
  rintro us s1 ⟨vs, H1, I1, r, q⟩
  refine ⟨I1.kIn, ?_⟩
  have count : us.length = ps.length := r.length ▸ F.len _ _ _ _ q
  have bd := b s1 us I1.kIn (by rw [List.append_nil]; exact count)
  rw [List.append_nil] at bd
  refine wpAny_call (codeAny_mono (F.go X.A X.stack s1 H1 ⟨us, []⟩ us vs _ _ (hr.mono hk) I1.env0 bd r q) ?_)
  intro res s' hq
  cases res with
  | error er => exact tk er s' (XE.of_call I1 (fun cls d H' z => z) hq)
  | ok fl =>
    cases fl with
    | ret u => exact I1.after hq
    | next => exact hq.elim
    | brk => exact hq.elim
    | cont => exact hq.elim
end

/-! ### the law's own head -/
theorem law_G {P : Program} {w : World} {K : PySem.W.Frag} {mg mb : Str → Option Value} {k : Nat} {fa a : Addr} {fd : FuncData} {x : Str} {sp : Sp} {s₁ : Shared} {vs : List Value} {ns : List Int}
    (KX : K.In s₁.heap) (hns : s₁.heap.Ns mainGlobals mg) (hb : s₁.heap.Ns builtinsNs mb) (hbb : ∀ x : Str, x ≠ "__name__" → mb x = bootBuiltins x) (hlim : s₁.heap.NoLimit) (hg : s₁.gens = #[])
    (ha : s₁.heap.get? a = some { cls := .type "list", data := .seq vs.toArray }) (hi : IntsAre vs ns) (hl : ns.length ≤ sizeLine) (hr : Room k callerA)
    (F : ∀ base : Heap, K.In base → base.Ns mainGlobals mg → FnG P w K mg base CX0 k fa fd [x] sp) (hbind : ∀ (s : Shared) (u : Value), BindsTo s fd ⟨[u], []⟩ [(x, u)])
    (hsp : ∀ H : Hp, Only H → SqL K H a (ns.map V.int) → sp [.ref a] H (fun v _ => v = .bl true) fun _ _ _ => False) :
    codeAny (model P w) callerA (.call (.ref fa) ⟨[.ref a], []⟩) (fun r s' => r = .ok (.ret (.bool true)) ∧ OldK s₁.heap s'.heap ∧ s'.os = s₁.os ∧ AllBare s'.gens) s₁ := by
  /- the promise as L2's head asks it: of room alone; it asks it of callerA alone -/
  have Z : ∀ base : Heap, K.In base → base.Ns mainGlobals mg → ∀ (outer : List Env) (s : Shared) (H : Hp) (args : Args) (us : List Value) (vs : List V) (Q : VK) (E : XK),
      Env0 P w K mg base callerA outer s H → BindsTo s fd args ([x].zip us) → Vals vs us → sp vs H Q E → codeAny (model P w) callerA (.call (.ref fa) args) (CR CX0 outer P w H s Q E) s :=
    fun base h1 h2 outer s H args us vs Q E e b r q => (F base h1 h2).go callerA outer s H args us vs Q E ⟨hr, rfl⟩ e b r q
  have rv := vals_ints hi
  have lenV := hi.length
  have main : ∀ H : Hp, Only H → SqL K H a (ns.map V.int) → HOk P w H s₁.heap → (∀ b, H b ≠ none → b = a) → (H a ≠ none → K.lookup a = none) →
      codeAny (model P w) callerA (.call (.ref fa) ⟨[.ref a], []⟩) (fun r s' => r = .ok (.ret (.bool true)) ∧ OldK s₁.heap s'.heap ∧ s'.os = s₁.os ∧ AllBare s'.gens) s₁ := by
    intro H only seq ok only_a own
    have free_dict : ∀ {b : Addr} {o : Obj} {es : Array DictEntry} {ep : Nat}, s₁.heap.get? b = some o → o.data = .dict es ep → H b = none := by
      intro b o es ep e d
      cases q : H b with
      | none => rfl
      | some u =>
        obtain rfl : b = a := only_a b (by rw [q]; simp)
        obtain rfl := Option.some.inj (ha.symm.trans e)
        cases d
    have stays : ∀ {b : Addr} {m : Str → Option Value}, s₁.heap.Ns b m → (hidT s₁.heap H).Ns b m := by
      rintro b m ⟨o, es, ep, e, d, r⟩
      exact ⟨o, es, ep, hidT_get e (free_dict e d), d, r⟩
    have kin : K.In (hidT s₁.heap H) := by
      intro b o e
      refine hidT_get (KX b o e) ?_
      cases q : H b with
      | none => rfl
      | some u =>
        obtain rfl : b = a := only_a b (by rw [q]; simp)
        rw [own (by rw [q]; simp)] at e
        cases e
    have md : Mod K mg (hidT s₁.heap H) := ⟨kin, stays hns, ⟨mb, stays hb, hbb⟩, by
      obtain ⟨mc, h1, h2⟩ := hlim
      exact ⟨mc, stays h1, h2⟩⟩
    have e0 : Env0 P w K mg (hidT s₁.heap H) callerA [] s₁ H := ⟨rfl, md, fun b o e => of_hidT e, Nat.le_of_eq (hidT_size _ _), trivial, fun b z => (List.not_mem_nil z).elim, ok, .of_eq hg⟩
    refine codeAny_mono (Z _ kin (stays hns) [] s₁ H ⟨[.ref a], []⟩ [.ref a] [.ref a] _ _ e0 (hbind s₁ (.ref a)) (.cons rfl .nil) (hsp H only seq)) ?_
    intro r s' h
    cases r with
    | error e => exact h.elim
    | ok fl =>
      cases fl with
      | next => exact h.elim
      | brk => exact h.elim
      | cont => exact h.elim
      | ret u =>
        obtain ⟨v, H', os, bare, un, ok', r', q⟩ := h
        have q' : v = .bl true := q
        subst q'
        obtain rfl : u = Value.bool true := r'
        refine ⟨rfl, OldK.of_keep ?_, os, bare⟩
        intro b o e
        cases q : H b with
        | none => exact un.keep b o e q (fun z => (List.not_mem_nil z).elim) (fun z => (List.not_mem_nil z).elim)
        | some u =>
          rcases only b with z | ⟨ob, xs, z⟩
          · rw [q] at z; cases z
          · obtain ⟨e1, _⟩ := ok b _ z
            obtain ⟨e2, _⟩ := ok' b _ (un.frzs b ob _ z)
            exact (Option.some.inj (e1.symm.trans e)) ▸ e2
  cases hk : K.lookup a with
  | some o =>
    obtain rfl := Option.some.inj (ha.symm.trans (KX a o hk))
    refine main (fun _ => none) (fun _ => .inl rfl) (.inr ⟨_, vs.toArray, _, hk, rfl, rfl, rfl, ?_, by simpa using rv⟩) (fun b u z => nomatch z) (fun b z => (z rfl).elim) fun z => (z rfl).elim
    rw [List.size_toArray, lenV]
    exact hl
  | none =>
    refine main (fun b => if b = a then some (.frz { cls := .type "list", data := .seq vs.toArray } (.lst (ns.map V.int))) else none) (fun b => ?_) (.inl (.inr ⟨_, if_pos rfl⟩)) (fun b u z => ?_) (fun b z => ?_) fun _ => hk
    · by_cases hb : b = a
      · exact .inr ⟨_, _, if_pos hb⟩
      · exact .inl (if_neg hb)
    · by_cases hb : b = a
      · subst hb
        obtain rfl := Option.some.inj ((if_pos rfl).symm.trans z)
        exact ⟨ha, by rw [List.length_map]; exact hl, vs, _, rv, ha⟩
      · exact nomatch (if_neg hb).symm.trans z
    · by_cases hb : b = a
      · exact hb
      · exact absurd (if_neg hb) z
theorem walk_G {l : PySem.W.OpenLaw} {n k : Nat} {q : Program} {loose : List Str} {XP : (Str → Option Value) → Heap → Prop} {YP : World → Heap → Prop} {d : DefRec} {K : Params → PySem.W.Frag} {sp : PySem.W.Frag → Sp} {x : Str}
    (hn : l.most = some n) (hn2 : n ≤ sizeLine) (hdf : d.params.defaults = []) (hr : Room k callerA)
    (hY : ∀ (w : World) (h : Heap), YP w h → (K w.params).In h)
    (F : ∀ (w : World) (mg : Str → Option Value) (fa : Addr) (h : Heap), (K w.params).In h → h.Ns mainGlobals mg → mg d.name = some (.ref fa) →
      ∃ fd : FuncData, (∀ (s : Shared) (u : Value), BindsTo s fd ⟨[u], []⟩ [(x, u)]) ∧
        ∀ base : Heap, (K w.params).In base → base.Ns mainGlobals mg → FnG l.prog w (K w.params) mg base CX0 k fa fd [x] (sp (K w.params)))
    (hsp : ∀ (K : PySem.W.Frag) (H : Hp) (a : Addr) (ns : List Int), ns.length ≤ n → (∀ z ∈ ns, Builtin.Int.intBits z ≤ 1048576) → Only H → SqL K H a (ns.map V.int) → sp K [.ref a] H (fun v _ => v = .bl true) fun _ _ _ => False) :
    PySem.W.WalkO q loose XP YP l.row.toRowW d [] (fun f vs => PySem.call f vs) := by
  refine Att.attach_callB hn hdf ?_
  intro w s₀ s₁ mg mb fa o pm cd doc a vs ns G Y ho hd hcd hmg hobj hints hlen bits hg
  obtain ⟨fd, hb, hF⟩ := F w mg fa _ (hY w _ Y) G.T.g hmg
  exact law_G (hY w _ Y) G.T.g G.T.b G.T.builtins G.T.nolimit hg hobj hints (Nat.le_trans hlen hn2) hr hF hb fun H only seq => hsp _ H a ns hlen bits only seq
end U

/-! a def that calls itself -/
namespace Law
open PySem PySem.Spec PyProof.Rows L2 U
structure SelfR (K : PySem.W.Frag) (mg : Str → Option Value) (x : Str) (f : Addr) (fd : FuncData) (ps : List Str) : Prop where
  mg : mg x = some (.ref f)
  kp : PySem.W.keepIn K (.ref f) = true
  bd : Binds K fd ps []
end Law

/-! operators by the values that come: one rule an operator -/
namespace U
open PySem PySem.Spec PyProof.Rows L2
section
variable {X : Cx}

/-! ### names of the world -/
theorem bb_len : bootBuiltins "len" = some (.builtin "len") := by decide +kernel
theorem bb_abs : bootBuiltins "abs" = some (.builtin "abs") := by decide +kernel
theorem bb_max : bootBuiltins "max" = some (.builtin "max") := by decide +kernel
theorem bb_min : bootBuiltins "min" = some (.builtin "min") := by decide +kernel
theorem bb_sorted : bootBuiltins "sorted" = some (.builtin "sorted") := by decide +kernel
theorem bb_sum : bootBuiltins "sum" = some (.builtin "sum") := by decide +kernel
theorem bb_all : bootBuiltins "all" = some (.builtin "all") := by decide +kernel
theorem bb_any : bootBuiltins "any" = some (.builtin "any") := by decide +kernel
theorem bb_isinstance : bootBuiltins "isinstance" = some (.builtin "isinstance") := by decide +kernel
theorem bb_repr : bootBuiltins "repr" = some (.builtin "repr") := by decide +kernel
theorem bb_int : bootBuiltins "int" = some (.type "int") := by decide +kernel
theorem bb_list : bootBuiltins "list" = some (.type "list") := by decide +kernel
theorem bb_tuple : bootBuiltins "tuple" = some (.type "tuple") := by decide +kernel
theorem bb_dict : bootBuiltins "dict" = some (.type "dict") := by decide +kernel
theorem bb_str : bootBuiltins "str" = some (.type "str") := by decide +kernel
theorem bb_bool : bootBuiltins "bool" = some (.type "bool") := by decide +kernel
theorem bb_set : bootBuiltins "set" = some (.type "set") := by decide +kernel
theorem pe_ty {x : Str} {T : String} {pos : Pos} (hg : Gl X x) (hm : X.mg x = none) (hv : bootBuiltins x = some (.type T)) (hn : x ≠ "__name__" := by decide) (hd : (x == ("__debug__" : Str)) = false := by decide) :
    PE X (.Name x pos) (tC (.ty T)) := pe_bltn hg hm hv rfl hn hd
theorem pe_gl {x : Str} {v : V} {pos : Pos} (hg : Gl X x) (h : ∃ u, X.mg x = some u ∧ RelV v u) (hd : (x == ("__debug__" : Str)) = false := by decide) : PE X (.Name x pos) (tC v) := by
  obtain ⟨u, hm, r⟩ := h
  exact pe_glob hg hm r hd

/-! ### + - * % // ** -/
/-- what is wanted where a new list, a new tuple comes -/
def nL (xs : List V) (H : Hp) (Q : VK) : Prop := ∀ p, H p = none → Q (.ref p) (upd H p (.lst xs))
def nT (xs : List V) (H : Hp) (Q : VK) : Prop := ∀ p, H p = none → Q (.ref p) (upd H p (.tup xs))
def rAddU (K : PySem.W.Frag) : R2 := fun x y H Q => match x, y with
  | .int i, .int j => Q (.int (i + j)) H
  | .str a, .str b => a.length + b.length ≤ sizeLine ∧ Q (.str (a ++ b)) H
  | .ref a, .ref b => (∃ xs ys, H a = some (.lst xs) ∧ H b = some (.lst ys) ∧ xs.length + ys.length ≤ sizeLine ∧ nL (xs ++ ys) H Q) ∨ rCatA K (.ref a) (.ref b) H Q
  | _, _ => False
theorem uAdd : OpR X (binaryOp .Add) (rAddU X.K) := by
  intro pins s σ H x y v u Q I rx ry h
  cases x <;> cases y <;> first | exact h.elim | skip
  · exact op_add pins s σ H _ _ v u Q I rx ry ⟨_, _, rfl, rfl, h⟩
  · exact op_add_str pins s σ H _ _ v u Q I rx ry ⟨_, _, rfl, rfl, h⟩
  · rcases h with ⟨xs, ys, h1, h2, h3, h4⟩ | h
    · exact op_cat pins s σ H _ _ v u Q I rx ry ⟨_, _, _, _, rfl, rfl, h1, h2, h3, h4⟩
    · exact op_catA pins s σ H _ _ v u Q I rx ry h
def rSubU : R2 := fun x y H Q => match x, y with
  | .int i, .int j => Q (.int (i - j)) H
  | _, _ => False
theorem uSub : OpR X (binaryOp .Sub) rSubU := by
  intro pins s σ H x y v u Q I rx ry h
  cases x <;> cases y <;> first | exact h.elim | exact op_sub pins s σ H _ _ v u Q I rx ry ⟨_, _, rfl, rfl, h⟩
/-- a text k times -/
def timesS (z : Str) (k : Int) : Str := ⟨((List.replicate k.toNat z.cps.toList).flatten).toArray⟩
theorem timesS_one (z : Str) : timesS z 1 = z := by
  unfold timesS
  simp
theorem timesS_neg {z : Str} {k : Int} (h : k < 1) : timesS z k = Str.empty := by
  unfold timesS
  have e : k.toNat = 0 := by omega
  rw [e]
  rfl
theorem fold_rep (a : Array Nat) : ∀ (n : Nat) (acc : Array Nat), (List.replicate n a).foldl (· ++ ·) acc = acc ++ ((List.replicate n a.toList).flatten).toArray
  | 0, acc => by simp
  | n + 1, acc => by
    rw [List.replicate_succ, List.foldl_cons, fold_rep a n, List.replicate_succ, List.flatten_cons]
    apply Array.ext'
    simp
theorem timesS_nil {z : Str} {k : Int} (h : z.length = 0) : timesS z k = z := by
  obtain ⟨a⟩ := z
  have e : a = #[] := Array.size_eq_zero_iff.mp h
  subst e
  unfold timesS
  have : (List.replicate k.toNat ([] : List Nat)).flatten = [] := by
    rw [List.flatten_eq_nil_iff]
    intro l hl
    exact List.eq_of_mem_replicate hl
  show (⟨((List.replicate k.toNat ([] : List Nat)).flatten).toArray⟩ : Str) = ⟨#[]⟩
  rw [this]
def rMulU : R2 := fun x y H Q => match x, y with
  | .int i, .int j => (CMul i j ∨ CMulW i j) ∧ Q (.int (i * j)) H
  | .str z, .int k => (0 ≤ k ∧ k ≤ 1000 ∧ z.length ≤ 1000) ∧ Q (.str (timesS z k)) H
  | .ref l, .int k => rRep (.ref l) (.int k) H Q
  | _, _ => False
theorem uMul : OpR X (binaryOp .Mult) rMulU := by
  intro pins s σ H x y v u Q I rx ry h
  cases x <;> cases y <;> first | exact h.elim | skip
  · obtain ⟨c | c, h⟩ := h
    · exact op_mul pins s σ H _ _ v u Q I rx ry ⟨_, _, rfl, rfl, c, h⟩
    · exact op_mulW pins s σ H _ _ v u Q I rx ry ⟨_, _, rfl, rfl, c, h⟩
  · rename_i z k
    obtain ⟨⟨h0, h1, hz⟩, q⟩ := h
    obtain ⟨t, rfl⟩ := rx
    obtain ⟨t', rfl⟩ := ry
    have hl : z.length * k.toNat ≤ 1000 * 1000 := Nat.mul_le_mul hz (by omega)
    refine P.mul_str ?_ ?_ ?_ ?_
    · have a : ¬ k < -(2 ^ 63) := by omega
      have b : ¬ k ≥ 2 ^ 63 := by omega
      rw [decide_eq_false a, decide_eq_false b]
      rfl
    · intro _ _ bad
      have : (z.length : Int) ≤ 1000 := by omega
      have e : (1000 : Int) ≤ (2 ^ 63 - 1) / k := by
        rw [Int.le_ediv_iff_mul_le (by omega)]
        have : (1000 : Int) * k ≤ 1000 * 1000 := Int.mul_le_mul_of_nonneg_left h1 (by decide)
        omega
      omega
    · intro _ _
      unfold Builtin.Str.tooLong
      have : z.length * k.toNat ≤ sizeLine := Nat.le_trans hl (by decide)
      simp
      exact this
    · split
      · rename_i hk
        rw [timesS_neg hk] at q
        exact ⟨by decide, ⟨.str Str.empty, H, I.tok _, ⟨_, rfl⟩, q⟩⟩
      · split
        · rename_i hk hc
          have e : timesS z k = z := by
            rcases (Bool.or_eq_true _ _).mp hc with c | c
            · have : k = 1 := by simpa using c
              rw [this, timesS_one]
            · exact timesS_nil (by simpa using c)
          rw [e] at q
          exact ⟨.str z, H, I.tok _, ⟨_, rfl⟩, q⟩
        · have e : (⟨(List.replicate k.toNat z.cps).foldl (· ++ ·) #[]⟩ : Str) = timesS z k := by
            rw [fold_rep]
            unfold timesS
            congr 1
            simp
          rw [e]
          refine ⟨?_, ⟨.str (timesS z k), H, I.tok _, ⟨_, rfl⟩, q⟩⟩
          have : (timesS z k).length = k.toNat * z.length := by
            unfold timesS Str.length
            simp
          rw [this, Nat.mul_comm]
          exact Nat.le_trans hl (by decide)
  · exact op_rep pins s σ H _ _ v u Q I rx ry h
def rModU : R2 := fun x y H Q => match x, y with
  | .int i, .int j => 0 < j ∧ Q (.int (i % j)) H
  | _, _ => False
theorem uMod : OpR X (binaryOp .Mod) rModU := by
  intro pins s σ H x y v u Q I rx ry h
  cases x <;> cases y <;> first | exact h.elim | exact op_mod pins s σ H _ _ v u Q I rx ry ⟨_, _, rfl, rfl, h.1, h.2⟩
def rDivU : R2 := fun x y H Q => match x, y with
  | .int i, .int j => (0 < j ∧ j < 1073741824) ∧ Q (.int (i / j)) H
  | _, _ => False
theorem uDiv : OpR X (binaryOp .FloorDiv) rDivU := by
  intro pins s σ H x y v u Q I rx ry h
  cases x <;> cases y <;> first | exact h.elim | exact op_fdiv pins s σ H _ _ v u Q I rx ry ⟨_, _, rfl, rfl, h.1, h.2⟩
def rPowU : R2 := fun x y H Q => match x, y with
  | .int i, .int j => CPow i j ∧ Q (.int (i ^ j.toNat)) H
  | _, _ => False
theorem uPow : OpR X (binaryOp .Pow) rPowU := by
  intro pins s σ H x y v u Q I rx ry h
  cases x <;> cases y <;> first | exact h.elim | exact op_pow pins s σ H _ _ v u Q I rx ry ⟨_, _, rfl, rfl, h.1, h.2⟩

/-! ### < <= > >= -/
def rLtU : R2 := fun x y H Q => match x, y with
  | .int i, .int j => Q (.bl (decide (i < j))) H
  | .str a, .str b => Q (.bl (decide (a.cps.toList < b.cps.toList))) H
  | _, _ => False
theorem uLt : OpR X (compareOp .Lt) rLtU := by
  intro pins s σ H x y v u Q I rx ry h
  cases x <;> cases y <;> first | exact h.elim | exact op_lt pins s σ H _ _ v u Q I rx ry ⟨_, _, rfl, rfl, h⟩ | exact op_lt_str pins s σ H _ _ v u Q I rx ry ⟨_, _, rfl, rfl, h⟩
def rLeU : R2 := fun x y H Q => match x, y with
  | .int i, .int j => Q (.bl (decide (i ≤ j))) H
  | _, _ => False
theorem uLe : OpR X (compareOp .LtE) rLeU := by
  intro pins s σ H x y v u Q I rx ry h
  cases x <;> cases y <;> first | exact h.elim | exact op_le pins s σ H _ _ v u Q I rx ry ⟨_, _, rfl, rfl, h⟩
def rGtU : R2 := fun x y H Q => match x, y with
  | .int i, .int j => Q (.bl (decide (j < i))) H
  | _, _ => False
theorem uGt : OpR X (compareOp .Gt) rGtU := by
  intro pins s σ H x y v u Q I rx ry h
  cases x <;> cases y <;> first | exact h.elim | exact op_gt pins s σ H _ _ v u Q I rx ry ⟨_, _, rfl, rfl, h⟩
def rGeU : R2 := fun x y H Q => match x, y with
  | .int i, .int j => Q (.bl (decide (j ≤ i))) H
  | _, _ => False
theorem uGe : OpR X (compareOp .GtE) rGeU := by
  intro pins s σ H x y v u Q I rx ry h
  cases x <;> cases y <;> first | exact h.elim | exact op_ge pins s σ H _ _ v u Q I rx ry ⟨_, _, rfl, rfl, h⟩

/-! ### == != is, is not -/
/-- == of any two: what is told of them is data -/
def eqB (x y : V) : Option Bool := match x, y with
  | .int i, .int j => some (decide (i = j))
  | .str a, .str b => some (decide (a = b))
  | .bl a, .bl b => some (decide (a = b))
  | .non, .non => some true
  | .int _, .str _ => some false
  | .str _, .int _ => some false
  | .non, .str _ => some false
  | .str _, .non => some false
  | .non, .int _ => some false
  | .int _, .non => some false
  | .bl _, .str _ => some false
  | .str _, .bl _ => some false
  | .bl _, .non => some false
  | .non, .bl _ => some false
  | _, _ => none
theorem eqB_scal {x y : V} {b : Bool} (h : eqB x y = some b) : scal x y = true ∧ decide (x = y) = b := by
  cases x <;> cases y <;> simp_all [eqB, scal]
def rEqU (K : PySem.W.Frag) : R2 := fun x y H Q => match eqB x y with
  | some b => Q (.bl b) H
  | none => rEqD K x y H Q
def rNeU (K : PySem.W.Frag) : R2 := fun x y H Q => match eqB x y with
  | some b => Q (.bl (!b)) H
  | none => rNeD K x y H Q
theorem uEq' (hu : X.A.units + 64 < cLine) : OpR X (compareOp .Eq) (rEqU X.K) := by
  intro pins s σ H x y v u Q I rx ry h
  unfold rEqU at h
  cases e : eqB x y with
  | some b =>
    rw [e] at h
    obtain ⟨z1, z2⟩ := eqB_scal e
    exact op_eq pins s σ H _ _ v u Q I rx ry ⟨z1, by rw [z2]; exact h⟩
  | none =>
    rw [e] at h
    exact op_eqD hu pins s σ H _ _ v u Q I rx ry h
theorem uNe' (hu : X.A.units + 64 < cLine) : OpR X (compareOp .NotEq) (rNeU X.K) := by
  intro pins s σ H x y v u Q I rx ry h
  unfold rNeU at h
  cases e : eqB x y with
  | some b =>
    rw [e] at h
    obtain ⟨z1, z2⟩ := eqB_scal e
    exact op_ne pins s σ H _ _ v u Q I rx ry ⟨z1, by rw [z2]; exact h⟩
  | none =>
    rw [e] at h
    exact op_neD hu pins s σ H _ _ v u Q I rx ry h
def rIsU : R2 := fun x y H Q => match y with
  | .non => Q (.bl (decide (x = .non))) H
  | .bl b => ∃ a, x = .bl a ∧ Q (.bl (decide (a = b))) H
  | _ => False
theorem uIs : OpR X (compareOp .Is) rIsU := by
  intro pins s σ H x y v u Q I rx ry h
  cases y <;> first | exact h.elim | exact op_isN pins s σ H _ _ v u Q I rx ry ⟨rfl, h⟩ | skip
  obtain ⟨a, rfl, h⟩ := h
  exact op_isBl pins s σ H _ _ v u Q I rx ry ⟨_, _, rfl, rfl, h⟩
def rIsNotU : R2 := fun x y H Q => match y with
  | .non => Q (.bl (!decide (x = .non))) H
  | .bl b => ∃ a, x = .bl a ∧ Q (.bl (!decide (a = b))) H
  | _ => False
theorem uIsNot : OpR X (compareOp .IsNot) rIsNotU := by
  intro pins s σ H x y v u Q I rx ry h
  cases y <;> first | exact h.elim | exact op_notN pins s σ H _ _ v u Q I rx ry ⟨rfl, h⟩ | skip
  obtain ⟨a, rfl, h⟩ := h
  exact op_notBl pins s σ H _ _ v u Q I rx ry ⟨_, _, rfl, rfl, h⟩

/-! ### in, not in: lists and tuples -/
def rInU (K : PySem.W.Frag) : R2 := fun x y H Q => match y with
  | .ref p => ∃ xs, (SqL K H p xs ∨ SqT K H p xs) ∧ ((flatV x = true ∧ xs.all flatV = true ∧ Q (.bl (inV x xs)) H))
  | _ => False
theorem uIn : OpR X (compareOp .In) (rInU X.K) := by
  intro pins s σ H x y v u Q I rx ry h
  cases y <;> first | exact h.elim | skip
  obtain ⟨xs, h1, h2, h3, h4⟩ := h
  exact op_in_seq pins s σ H _ _ v u Q I rx ry ⟨_, xs, rfl, h1, h2, h3, h4⟩
def rNotInU (K : PySem.W.Frag) : R2 := fun x y H Q => match y with
  | .ref p => ∃ xs, (SqL K H p xs ∨ SqT K H p xs) ∧ ((flatV x = true ∧ xs.all flatV = true ∧ Q (.bl (!inV x xs)) H))
  | _ => False
theorem uNotIn : OpR X (compareOp .NotIn) (rNotInU X.K) := by
  intro pins s σ H x y v u Q I rx ry h
  cases y <;> first | exact h.elim | skip
  obtain ⟨xs, h1, h2, h3, h4⟩ := h
  exact op_notIn_seq pins s σ H _ _ v u Q I rx ry ⟨_, xs, rfl, h1, h2, h3, h4⟩

/-! ### o[i], o[a:b] -/
def rIxU (K : PySem.W.Frag) : R2 := fun x y H Q => match x, y with
  | .str z, .int i => z.length ≤ sizeLine ∧ ∃ c, atI z.cps.toList i = some c ∧ Q (.str ⟨#[c]⟩) H
  | .ref p, .int i => ∃ xs, (SqL K H p xs ∨ SqT K H p xs) ∧ ∃ v, atI xs i = some v ∧ Q v H
  | _, _ => False
theorem uIx : IxR X (rIxU X.K) := by
  intro a b pins s σ H x y v u Q I rx ry h hs
  cases x <;> cases y <;> first | exact h.elim | skip
  · obtain ⟨h1, c, h2, h3⟩ := h
    exact ix_str a b pins s σ H _ _ v u Q I rx ry ⟨_, _, c, rfl, rfl, h1, h2, h3⟩ hs
  · obtain ⟨xs, h1 | h1, w', h2, h3⟩ := h
    · exact ix_list a b pins s σ H _ _ v u Q I rx ry ⟨_, xs, _, w', rfl, rfl, h1, h2, h3⟩ hs
    · exact ix_tup a b pins s σ H _ _ v u Q I rx ry ⟨_, xs, _, w', rfl, rfl, h1, h2, h3⟩ hs
end
end U

/-! slices, built-in functions by the values that come -/
namespace U
open PySem PySem.Spec PyProof.Rows L2
section
variable {X : Cx}
/-! ### slices -/
def rSlU (K : PySem.W.Frag) : V → Option Int → Option Int → Hp → VK → Prop := fun x lo hi H Q => match x with
  | .str z => z.length ≤ sizeLine ∧ Q (.str (cutS z lo hi)) H
  | .ref a => (∃ xs, SqL K H a xs ∧ nL (cutV xs lo hi) H Q) ∨ rSlA K (.ref a) lo hi H Q
  | _ => False
theorem uSl : SlR X (rSlU X.K) := by
  intro pins s σ H x v vl vu lo hi sl Q I rx hs pl pu h
  cases x <;> first | exact h.elim | skip
  · exact sl_str pins s σ H _ v vl vu lo hi sl Q I rx hs pl pu ⟨_, rfl, h.1, h.2⟩
  · rcases h with ⟨xs, h1, h2⟩ | h
    · exact sl_list pins s σ H _ v vl vu lo hi sl Q I rx hs pl pu ⟨_, xs, rfl, h1, h2⟩
    · exact sl_tupA pins s σ H _ v vl vu lo hi sl Q I rx hs pl pu h

/-! ### len, abs, max, min, int, list, tuple -/
def rLenU (K : PySem.W.Frag) : List V → Hp → VK → Prop := fun xs H Q => match xs with
  | [.str z] => z.length ≤ sizeLine ∧ Q (.int z.length) H
  | [.ref p] => (∃ ys, (SqL K H p ys ∨ SqT K H p ys) ∧ Q (.int ys.length) H) ∨ ∃ kvs, H p = some (.dK kvs) ∧ Q (.int kvs.length) H
  | _ => False
theorem cLen : CallR X (.builtin "len") (rLenU X.K) := by
  intro pins s σ H xs us Q I r h
  match xs, h with
  | [.str z], h => exact call_len_str pins s σ H _ us Q I r ⟨z, rfl, h.1, h.2⟩
  | [.ref p], .inl ⟨ys, h1, h2⟩ => exact call_len_seq pins s σ H _ us Q I r ⟨p, ys, rfl, h1, h2⟩
  | [.ref p], .inr ⟨kvs, h1, h2⟩ => exact call_lenD pins s σ H _ us Q I r ⟨p, kvs, rfl, h1, h2⟩
def rAbsU : List V → Hp → VK → Prop := fun xs H Q => match xs with
  | [.int i] => Q (.int (i.natAbs : Int)) H
  | _ => False
theorem cAbs : CallR X (.builtin "abs") rAbsU := by
  intro pins s σ H xs us Q I r h
  match xs, h with
  | [.int i], h =>
    refine call_abs pins s σ H _ us Q I r ⟨i, rfl, ?_⟩
    have e : (if i < 0 then -i else i) = (i.natAbs : Int) := by split <;> omega
    rw [e]
    exact h
def rMaxU : List V → Hp → VK → Prop := fun xs H Q => match xs with
  | [.int i, .int j] => Q (.int (max i j)) H
  | _ => False
theorem cMax (hc : X.calm = true) : CallR X (.builtin "max") rMaxU := by
  intro pins s σ H xs us Q I r h
  match xs, h with
  | [.int i, .int j], h =>
    refine call_max2 hc pins s σ H _ us Q I r ⟨i, j, rfl, ?_⟩
    have e : (if j > i then j else i) = max i j := by split <;> omega
    rw [e]
    exact h
def rMinU : List V → Hp → VK → Prop := fun xs H Q => match xs with
  | [.int i, .int j] => Q (.int (min i j)) H
  | _ => False
theorem cMin (hc : X.calm = true) : CallR X (.builtin "min") rMinU := by
  intro pins s σ H xs us Q I r h
  match xs, h with
  | [.int i, .int j], h =>
    refine call_min2 hc pins s σ H _ us Q I r ⟨i, j, rfl, ?_⟩
    have e : (if j < i then j else i) = min i j := by split <;> omega
    rw [e]
    exact h
def bToI (k : Bool) : Int := if k then 1 else 0
def rIntU : List V → Hp → VK → Prop := fun xs H Q => match xs with
  | [.int i] => Q (.int i) H
  | [.bl k] => Q (.int (bToI k)) H
  | _ => False
theorem cInt : CallR X (.type "int") rIntU := by
  intro pins s σ H xs us Q I r h
  match xs, h with
  | [.int i], h => exact call_int1 pins s σ H _ us Q I r (.inl ⟨i, rfl, h⟩)
  | [.bl k], h => exact call_int1 pins s σ H _ us Q I r (.inr ⟨k, rfl, h⟩)
def rListU (K : PySem.W.Frag) : List V → Hp → VK → Prop := fun xs H Q => match xs with
  | [.ref p] => (∃ ys, (SqL K H p ys ∨ SqT K H p ys) ∧ nL ys H Q) ∨ ∃ kvs : List (Key × V), Rd H p (.dK kvs) ∧ nL (kvs.map fun kv => kV kv.1) H Q
  | _ => False
theorem cList (hc : X.calm = true) : CallR X (.type "list") (rListU X.K) := by
  intro pins s σ H xs us Q I r h
  match xs, h with
  | [.ref p], .inl ⟨ys, h1, h2⟩ => exact call_list_of pins s σ H _ us Q I r ⟨p, ys, rfl, h1, h2⟩
  | [.ref p], .inr ⟨kvs, h1, h2⟩ => exact call_listD hc pins s σ H _ us Q I r ⟨p, kvs, rfl, h1, h2⟩
def rTupleU (K : PySem.W.Frag) : List V → Hp → VK → Prop := fun xs H Q => match xs with
  | [.ref p] => (∃ ys, SqL K H p ys ∧ nT ys H Q) ∨ ((∃ ys, SqT K H p ys) ∧ Q (.ref p) H)
  | _ => False
theorem cTuple : CallR X (.type "tuple") (rTupleU X.K) := by
  intro pins s σ H xs us Q I r h
  match xs, h with
  | [.ref p], .inl ⟨ys, h1, h2⟩ => exact call_tuple_of pins s σ H _ us Q I r ⟨p, ys, rfl, .inl ⟨h1, h2⟩⟩
  | [.ref p], .inr ⟨⟨ys, h1⟩, h2⟩ => exact call_tuple_of pins s σ H _ us Q I r ⟨p, ys, rfl, .inr ⟨h1, h2⟩⟩
def rDictU : List V → Hp → VK → Prop := fun xs H Q => match xs with
  | [.ref p] => ∃ kvs : List (Key × V), Rd H p (.dK kvs) ∧ ∀ d, H d = none → Q (.ref d) (upd H d (.dK kvs))
  | _ => False
theorem cDict : CallR X (.type "dict") rDictU := by
  intro pins s σ H xs us Q I r h
  match xs, h with
  | [.ref p], ⟨kvs, h1, h2⟩ => exact call_dictD pins s σ H _ us Q I r ⟨p, kvs, rfl, h1, h2⟩

def rSumU (K : PySem.W.Frag) : List V → Hp → VK → Prop := fun xs H Q => match xs with
  | [.ref p] => ∃ ns : List Int, SqL K H p (ns.map V.int) ∧ Q (.int ns.sum) H
  | _ => False
theorem cSum (hc : X.calm = true) : CallR X (.builtin "sum") (rSumU X.K) := by
  intro pins s σ H xs us Q I r h
  match xs, h with
  | [.ref p], ⟨ns, h1, h2⟩ => exact cr_sum hc pins s σ H _ us Q I r ⟨p, ns, rfl, h1, h2⟩
def rAllU (K : PySem.W.Frag) : List V → Hp → VK → Prop := fun xs H Q => match xs with
  | [.ref p] => ∃ bs : List Bool, SqL K H p (bs.map V.bl) ∧ Q (.bl (bs.all id)) H
  | _ => False
theorem cAll (hc : X.calm = true) : CallR X (.builtin "all") (rAllU X.K) := by
  intro pins s σ H xs us Q I r h
  match xs, h with
  | [.ref p], ⟨bs, h1, h2⟩ => exact cr_all hc pins s σ H _ us Q I r ⟨p, bs, rfl, h1, h2⟩
def rAnyU (K : PySem.W.Frag) : List V → Hp → VK → Prop := fun xs H Q => match xs with
  | [.ref p] => ∃ bs : List Bool, SqL K H p (bs.map V.bl) ∧ Q (.bl (bs.any id)) H
  | _ => False
theorem cAny (hc : X.calm = true) : CallR X (.builtin "any") (rAnyU X.K) := by
  intro pins s σ H xs us Q I r h
  match xs, h with
  | [.ref p], ⟨bs, h1, h2⟩ => exact cr_any hc pins s σ H _ us Q I r ⟨p, bs, rfl, h1, h2⟩

/-! ### sorted -/
/-- a < b, of data -/
abbrev dLt (a b : PyData) : Bool := PySem.W.dataLt a b
/-- a list of what may be sorted -/
structure Sorts (K : PySem.W.Frag) (H : Hp) (bs : List (V × PyData)) : Prop where
  dat : ∀ b ∈ bs, Dp K H b.1 b.2
  alk : PySem.W.AllAlike (bs.map (·.2))
  srt : PySem.W.Sortable (bs.map (·.2))
  dep : ∀ b ∈ bs, b.2.depth ≤ 50
  len : bs.length ≤ 100000
def rSortU (K : PySem.W.Frag) : List V → Hp → VK → Prop := fun xs H Q => match xs with
  | [.ref p] => ∃ bs : List (V × PyData), SqL K H p (bs.map (·.1)) ∧ Sorts K H bs ∧
      ∀ cs : List (V × PyData), cs.Perm bs → cs.Pairwise (fun a b => dLt b.2 a.2 = false) → nL (cs.map (·.1)) H Q
  | _ => False
theorem each_vals : ∀ {bs : List (V × PyData)} {us : List Value}, Vals (bs.map (·.1)) us → PySem.W.EachIs (fun u b => RelV b.1 u) us bs
  | [], _, r => by
    cases r
    exact .nil
  | b :: bs, _, r => by
    cases r with
    | cons r1 r2 => exact .cons r1 (each_vals r2)
theorem vals_each : ∀ {bs : List (V × PyData)} {us : List Value}, PySem.W.EachIs (fun u b => RelV b.1 u) us bs → Vals (bs.map (·.1)) us
  | [], _, r => by
    cases r
    exact .nil
  | b :: bs, _, r => by
    cases r with
    | cons r1 r2 => exact .cons r1 (vals_each r2)
theorem each_reads {pins : List (Addr × Obj)} {σ : L2.St} {H : Hp} {s : Shared} (I : Inv X pins σ H s) : ∀ {bs : List (V × PyData)} {us : List Value}, (∀ b ∈ bs, Dp X.K H b.1 b.2) → Vals (bs.map (·.1)) us → PySem.W.EachIs (fun u b => ∃ as, Reads s.heap u b.2 as) us bs
  | [], _, _, r => by
    cases r
    exact .nil
  | b :: bs, _, h, r => by
    cases r with
    | cons r1 r2 => exact .cons (Dp.reads I _ _ _ (h b List.mem_cons_self) r1) (each_reads I (fun c hc => h c (List.mem_cons_of_mem _ hc)) r2)
theorem cSorted (hu : X.A.units + 64 < cLine) : CallR X (.builtin "sorted") (rSortU X.K) := by
  intro pins s σ H xs us Q I r h
  match xs, h with
  | [.ref p], ⟨bs, hs, S, q⟩ =>
    cases r with
    | cons r rr =>
      cases rr
      cases r
      obtain ⟨its, rv, pl, hz⟩ := I.list hs
      have e1 := each_vals rv
      have hb : ∀ b, b ∈ bs → X.A.units + 2 + b.2.depth < cLine := fun b hb => by
        have := S.dep b hb
        omega
      refine PySem.W.sorted_data (vs := its) (bs := bs) (enc := fun b : V × PyData => b.2) (R := fun u b => RelV b.1 u) pl.isList e1 (each_reads I S.dat rv) S.alk S.srt ?_ hb ?_
      · rw [List.length_map] at hz
        exact hz
      · intro out ol oe
        have perm : (bs.mergeSort (PySem.W.dataLe false fun b : V × PyData => b.2)).Perm bs := List.mergeSort_perm _ _
        have srt : (bs.mergeSort (PySem.W.dataLe false fun b : V × PyData => b.2)).Pairwise (fun a b => dLt b.2 a.2 = false) :=
          (PySem.W.sort_pairwise (PySem.W.sortLe_total _ _ _) bs).imp fun {a b} z => by
            have z' : (!dLt b.2 a.2) = true := z
            simpa using z'
        generalize bs.mergeSort (PySem.W.dataLe false fun b : V × PyData => b.2) = cs at perm srt oe
        have rv2 := vals_each oe
        have hfr : s.heap.objs.size ≤ s.heap.objs.size + 1 := Nat.le_succ _
        obtain ⟨e, he⟩ := sortedAll_at s.heap its out.toArray
        have new : ObjOk X.prog X.w (upd H (s.heap.objs.size + 1) (.lst (cs.map (·.1)))) (sortedAll s.heap its out.toArray) (s.heap.objs.size + 1) (.lst (cs.map (·.1))) :=
          ⟨by rw [List.length_map, perm.length_eq]; rw [List.length_map] at hz; exact hz, out, e, rv2, he⟩
        exact ⟨.ref (s.heap.objs.size + 1), _, I.laid (t' := s.toks) (fun b u z => sortedAll_old z) hfr new, rfl, q cs perm srt _ (I.hok.fresh hfr)⟩

/-! ### isinstance of built-in classes -/
inductive Ty where
  | non | bl | int | str | lst | tup | dct
  deriving DecidableEq
def Ty.nm : Ty → String
  | .non => "NoneType"
  | .bl => "bool"
  | .int => "int"
  | .str => "str"
  | .lst => "list"
  | .tup => "tuple"
  | .dct => "dict"
def isT (a b : Ty) : Bool := decide (a = b) || (decide (a = .bl) && decide (b = .int))
theorem isT_ok (a b : Ty) (hb : b ≠ .non) : kitB a.nm b.nm = some (isT a b) := by
  cases a <;> cases b <;> first | exact absurd rfl hb | decide +kernel
/-- a value's class -/
def TyIs (K : PySem.W.Frag) (H : Hp) (x : V) (a : Ty) : Prop := TyX K H x (.type a.nm)
def tyOf : String → Option Ty
  | "bool" => some .bl
  | "int" => some .int
  | "str" => some .str
  | "list" => some .lst
  | "tuple" => some .tup
  | "dict" => some .dct
  | _ => none
theorem tyOf_ok {n : String} {t : Ty} (h : tyOf n = some t) : n = t.nm ∧ t ≠ .non := by
  unfold tyOf at h
  split at h <;> first | (cases h; exact ⟨rfl, by decide⟩) | cases h
def rIsiU (K : PySem.W.Frag) : List V → Hp → VK → Prop := fun xs H Q => match xs with
  | [x, .ty n] => ∃ a t, TyIs K H x a ∧ tyOf n = some t ∧ Q (.bl (isT a t)) H
  | _ => False
theorem cIsi : CallR X (.builtin "isinstance") (rIsiU X.K) := by
  intro pins s σ H xs us Q I r h
  match xs, h with
  | [x, .ty n], ⟨a, t, h1, h2, h3⟩ =>
    obtain ⟨e, hn⟩ := tyOf_ok h2
    exact call_isi pins s σ H _ us Q I r ⟨x, _, _, _, _, rfl, .ty n, h1, kit_ty (by rw [e]; exact isT_ok a t hn), h3⟩
theorem ty_str {K : PySem.W.Frag} {H : Hp} {x : Str} : TyIs K H (.str x) .str := .base (.str x)
theorem ty_int {K : PySem.W.Frag} {H : Hp} {x : Int} : TyIs K H (.int x) .int := .base (.int x)
theorem ty_bl {K : PySem.W.Frag} {H : Hp} {x : Bool} : TyIs K H (.bl x) .bl := .base (.bl x)
theorem ty_non {K : PySem.W.Frag} {H : Hp} : TyIs K H .non .non := .base .non
theorem ty_lst {K : PySem.W.Frag} {H : Hp} {a : Addr} {xs : List V} (h : H a = some (.lst xs)) : TyIs K H (.ref a) .lst := .base (.lst h)
theorem ty_tup {K : PySem.W.Frag} {H : Hp} {a : Addr} {xs : List V} (h : H a = some (.tup xs)) : TyIs K H (.ref a) .tup := .base (.tup h)
theorem ty_dK {K : PySem.W.Frag} {H : Hp} {a : Addr} {kvs : List (Key × V)} (h : H a = some (.dK kvs)) : TyIs K H (.ref a) .dct := .base (.dK h)
theorem ty_seqT {K : PySem.W.Frag} {H : Hp} {a : Addr} {xs : List V} (h : SqT K H a xs) : TyIs K H (.ref a) .tup := by
  rcases h with (h | ⟨o, h⟩) | ⟨o, its, n, h1, h2, _⟩
  · exact ty_tup h
  · exact .fTuple h
  · exact .kTuple h1 h2
end
end U
namespace U
open PySem PySem.Spec PyProof.Rows L2
/-! the rules with the fragment told: they serve within a comprehension's block -/
section
variable {X : Cx} (K : PySem.W.Frag) (hK : X.K = K)
include hK
theorem kAdd : OpR X (binaryOp .Add) (rAddU K) := hK ▸ uAdd
theorem kEq (hu : X.A.units + 64 < cLine) : OpR X (compareOp .Eq) (rEqU K) := hK ▸ uEq' hu
theorem kNe (hu : X.A.units + 64 < cLine) : OpR X (compareOp .NotEq) (rNeU K) := hK ▸ uNe' hu
theorem kIn : OpR X (compareOp .In) (rInU K) := hK ▸ uIn
theorem kNotIn : OpR X (compareOp .NotIn) (rNotInU K) := hK ▸ uNotIn
theorem kIx : IxR X (rIxU K) := hK ▸ uIx
theorem kSl : SlR X (rSlU K) := hK ▸ uSl
theorem kLen : CallR X (.builtin "len") (rLenU K) := hK ▸ cLen
theorem kList (hc : X.calm = true) : CallR X (.type "list") (rListU K) := hK ▸ cList hc
theorem kTuple : CallR X (.type "tuple") (rTupleU K) := hK ▸ cTuple
theorem kSum (hc : X.calm = true) : CallR X (.builtin "sum") (rSumU K) := hK ▸ cSum hc
theorem kAll (hc : X.calm = true) : CallR X (.builtin "all") (rAllU K) := hK ▸ cAll hc
theorem kAny (hc : X.calm = true) : CallR X (.builtin "any") (rAnyU K) := hK ▸ cAny hc
theorem kSorted (hu : X.A.units + 64 < cLine) : CallR X (.builtin "sorted") (rSortU K) := hK ▸ cSorted hu
theorem kIsi : CallR X (.builtin "isinstance") (rIsiU K) := hK ▸ cIsi
theorem ki_list {tg l : Expr} {tl : TE} (hl : PE X l tl) : PI X tg l (iList K tl) := hK ▸ pi_list hl
theorem ki_tup {tg l : Expr} {tl : TE} (hl : PE X l tl) : PI X tg l (iTup K tl) := hK ▸ pi_tup hl
theorem kg_tup {pos : Pos} {es : List Expr} {k : Nat} {t : TGs} {n : Nat} (hc : X.calm = true) (h : PGs X es t)
    (hn : (assignEach es X.env).length = n := by rfl) (hst : (assignEach es X.env).findIdx? (·.1) = none := by rfl) : PG X (.Tuple es k pos) (gTup K n t) := hK ▸ pg_tup hc h hn hst
end
end U

/-! the readings, step by step: one lemma a form, one word for all that need no thought -/
namespace U
open PySem PySem.Spec PyProof.Rows L2
section
variable {σ : L2.St} {H : Hp} {Q : VK} {D : Ends} {v x y : V} {i j : Int} {a b : Str} {ta tb tc te : TE} {t u : TS} {K : PySem.W.Frag}
theorem rd_seq (h : t { D with nx := u D } σ H) : tSeq t u D σ H := h
theorem rd_var {n : Nat} (e : σ[n]? = some (some v)) (h : Q v H) : tVar n σ H Q := ⟨v, e, h⟩
theorem rd_c (h : Q v H) : tC v σ H Q := h
theorem rd_asg {g : TG} (h : te σ H fun x H1 => g x σ H1 D.nx) : tAsg te g D σ H := h
theorem rd_name {n : Nat} {Q : L2.St → Hp → Prop} (h : Q (σ.set n (some v)) H) : gName n v σ H Q := h
theorem rd_ret (h : te σ H D.rt) : tRet te D σ H := h
theorem rd_retN (h : D.rt .non H) : tRetN D σ H := h
theorem rd_drop (h : te σ H fun _ H1 => D.nx σ H1) : tDrop te D σ H := h
theorem rd_next (h : D.nx σ H) : tNext D σ H := h
theorem rd_if {c : TT} (h : c σ H fun b H1 => if b = true then t D σ H1 else u D σ H1) : tIfS c t u D σ H := h
theorem rd_break (h : D.bk σ H) : tBreak D σ H := h
theorem rd_cont (h : D.ct σ H) : tCont D σ H := h
theorem rd_op {r : R2} (h : ta σ H fun x H1 => tb σ H1 fun y H2 => r x y H2 Q) : tOp r ta tb σ H Q := h
theorem rd_test {Q : Bool → Hp → Prop} (h : te σ H fun x H1 => ∃ k, x = .bl k ∧ Q k H1) : tTest te σ H Q := h
theorem rd_B {Q : Bool → Hp → Prop} (h : te σ H fun x H1 => ∃ k, x = .bl k ∧ Q k H1) : tB te σ H Q := h
theorem rd_bl {Q : Bool → Prop} {k : Bool} (h : Q k) : ∃ c, V.bl k = .bl c ∧ Q c := ⟨k, rfl, h⟩
theorem rd_chain {r r' : R2} (h : ta σ H fun x H1 => tb σ H1 fun y H2 => r x y H2 fun z H3 => ∃ k, z = .bl k ∧ (if k = true then tc σ H3 fun w' H4 => r' y w' H4 Q else Q (.bl false) H3)) : tChain r r' ta tb tc σ H Q := h
theorem rd_nil {Q : List V → Hp → Prop} (h : Q [] H) : tNil σ H Q := h
theorem rd_cons {tr : TA} {Q : List V → Hp → Prop} (h : ta σ H fun x H1 => tr σ H1 fun xs H2 => Q (x :: xs) H2) : tCons ta tr σ H Q := h
theorem rd_cb {r : List V → Hp → VK → Prop} {tr : TA} (h : tr σ H fun vs H1 => r vs H1 Q) : tCB r tr σ H Q := h
theorem rd_c1 {sp : Sp} {E : XK} {tr : TA} (h : tr σ H fun vs H1 => sp vs H1 Q E) : tC1 sp E tr σ H Q := h
theorem rd_c2 {sp : Sp} {W : WX} {tr : TA} (h : tr σ H fun vs H1 => sp vs H1 Q fun cls d H' => W cls d σ H') : tC2 sp W tr σ H Q := h
theorem rd_lst {tr : TA} (h : tr σ H fun xs H1 => xs.length ≤ sizeLine ∧ nL xs H1 Q) : tLst tr σ H Q := h
theorem rd_tup {tr : TA} (h : tr σ H fun xs H1 => xs.length ≤ sizeLine ∧ nT xs H1 Q) : tTup tr σ H Q := h
theorem rd_sz {xs : List V} {P : Prop} (h : Nat.ble xs.length 1000 = true) (q : P) : xs.length ≤ sizeLine ∧ P :=
  ⟨Nat.le_trans (Nat.le_of_ble_eq_true h) (by decide), q⟩
theorem rd_addI (h : Q (.int (i + j)) H) : rAddU K (.int i) (.int j) H Q := h
theorem rd_subI (h : Q (.int (i - j)) H) : rSubU (.int i) (.int j) H Q := h
theorem rd_mulI (c : CMul i j ∨ CMulW i j) (h : Q (.int (i * j)) H) : rMulU (.int i) (.int j) H Q := ⟨c, h⟩
theorem rd_modI (c : 0 < j) (h : Q (.int (i % j)) H) : rModU (.int i) (.int j) H Q := ⟨c, h⟩
theorem rd_divI (c : 0 < j ∧ j < 1073741824) (h : Q (.int (i / j)) H) : rDivU (.int i) (.int j) H Q := ⟨c, h⟩
theorem rd_addS (c : a.length + b.length ≤ sizeLine) (h : Q (.str (a ++ b)) H) : rAddU K (.str a) (.str b) H Q := ⟨c, h⟩
theorem rd_ltI (h : Q (.bl (decide (i < j))) H) : rLtU (.int i) (.int j) H Q := h
theorem rd_ltS (h : Q (.bl (decide (a.cps.toList < b.cps.toList))) H) : rLtU (.str a) (.str b) H Q := h
theorem rd_leI (h : Q (.bl (decide (i ≤ j))) H) : rLeU (.int i) (.int j) H Q := h
theorem rd_gtI (h : Q (.bl (decide (j < i))) H) : rGtU (.int i) (.int j) H Q := h
theorem rd_geI (h : Q (.bl (decide (j ≤ i))) H) : rGeU (.int i) (.int j) H Q := h
theorem rd_eqI (h : Q (.bl (decide (i = j))) H) : rEqU K (.int i) (.int j) H Q := h
theorem rd_eqS (h : Q (.bl (decide (a = b))) H) : rEqU K (.str a) (.str b) H Q := h
theorem rd_neI (h : Q (.bl (!decide (i = j))) H) : rNeU K (.int i) (.int j) H Q := h
theorem rd_neS (h : Q (.bl (!decide (a = b))) H) : rNeU K (.str a) (.str b) H Q := h
theorem rd_is (h : Q (.bl (decide (x = .non))) H) : rIsU x .non H Q := h
theorem rd_isNot (h : Q (.bl (!decide (x = .non))) H) : rIsNotU x .non H Q := h
theorem rd_absI (h : Q (.int (i.natAbs : Int)) H) : rAbsU [.int i] H Q := h
theorem rd_maxI (h : Q (.int (max i j)) H) : rMaxU [.int i, .int j] H Q := h
theorem rd_minI (h : Q (.int (min i j)) H) : rMinU [.int i, .int j] H Q := h
theorem rd_intI (h : Q (.int i) H) : rIntU [.int i] H Q := h
theorem rd_intB {k : Bool} (h : Q (.int (bToI k)) H) : rIntU [.bl k] H Q := h
theorem rd_neg {g : Int → Int} (h : Q (.int (g i)) H) : rU (fun i => .int (g i)) (.int i) H Q := ⟨i, rfl, h⟩
theorem rd_sub {to ti : TE} {t : TSet} {Q : L2.St → Hp → Prop} (h : to σ H fun o H1 => ti σ H1 fun i H2 => t o i v H2 fun H3 => Q σ H3) : gSub to ti t v σ H Q := h
theorem rd_and {t u : TT} {Q : Bool → Hp → Prop} (h : t σ H fun c H1 => if c = true then u σ H1 Q else Q false H1) : tAnd t u σ H Q := h
theorem rd_or {t u : TT} {Q : Bool → Hp → Prop} (h : t σ H fun c H1 => if c = true then Q true H1 else u σ H1 Q) : tOr t u σ H Q := h
theorem rd_not {t : TT} {Q : Bool → Hp → Prop} (h : t σ H fun c H1 => Q (!c) H1) : tNot t σ H Q := h
theorem rd_andV (h : ta σ H fun x H1 => ∃ c, x = .bl c ∧ if c = true then tb σ H1 Q else Q (.bl false) H1) : tAndV ta tb σ H Q := h
theorem rd_orV (h : ta σ H fun x H1 => ∃ c, x = .bl c ∧ if c = true then Q (.bl true) H1 else tb σ H1 Q) : tOrV ta tb σ H Q := h
theorem rd_notV (h : ta σ H fun x H1 => ∃ c, x = .bl c ∧ Q (.bl (!c)) H1) : tNotV ta σ H Q := h
theorem rd_ifE {t : TT} (h : t σ H fun c H1 => if c = true then ta σ H1 Q else tb σ H1 Q) : tIf t ta tb σ H Q := h
theorem rd_T {A B : Prop} (h : A) : if true = true then A else B := by
  rw [if_pos rfl]
  exact h
theorem rd_F {A B : Prop} (h : B) : if false = true then A else B := by
  rw [if_neg Bool.false_ne_true]
  exact h
/-- a test that is known -/
theorem rd_yes {c : Prop} {_ : Decidable c} {A B : Prop} (hc : c) (h : A) : if decide c = true then A else B := by
  rw [if_pos (decide_eq_true hc)]
  exact h
theorem rd_no {c : Prop} {_ : Decidable c} {A B : Prop} (hc : ¬ c) (h : B) : if decide c = true then A else B := by
  rw [if_neg (by rw [decide_eq_false hc]; exact Bool.false_ne_true)]
  exact h
theorem rd_nyes {c : Prop} {_ : Decidable c} {A B : Prop} (hc : ¬ c) (h : A) : if (!decide c) = true then A else B := by
  rw [if_pos (by rw [decide_eq_false hc]; rfl)]
  exact h
theorem rd_nno {c : Prop} {_ : Decidable c} {A B : Prop} (hc : c) (h : B) : if (!decide c) = true then A else B := by
  rw [if_neg (by rw [decide_eq_true hc]; exact Bool.false_ne_true)]
  exact h
theorem rd_split {c : Prop} {_ : Decidable c} {A B : Prop} (h1 : c → A) (h2 : ¬ c → B) : if decide c = true then A else B := by
  by_cases h : c
  · exact rd_yes h (h1 h)
  · exact rd_no h (h2 h)
theorem rd_nsplit {c : Prop} {_ : Decidable c} {A B : Prop} (h1 : ¬ c → A) (h2 : c → B) : if (!decide c) = true then A else B := by
  by_cases h : c
  · exact rd_nno h (h2 h)
  · exact rd_nyes h (h1 h)
theorem rd_b {c : Bool} {A B : Prop} (h1 : c = true → A) (h2 : c = false → B) : if c = true then A else B := by
  cases c with
  | true => exact rd_T (h1 rfl)
  | false => exact rd_F (h2 rfl)
/-- an item of a list, a tuple -/
theorem rd_ixL {p : Addr} {xs : List V} (hs : SqL K H p xs) (hv : atI xs i = some v) (h : Q v H) : rIxU K (.ref p) (.int i) H Q := ⟨xs, .inl hs, v, hv, h⟩
theorem rd_ixT {p : Addr} {xs : List V} (hs : SqT K H p xs) (hv : atI xs i = some v) (h : Q v H) : rIxU K (.ref p) (.int i) H Q := ⟨xs, .inr hs, v, hv, h⟩
theorem rd_ixS {c : Nat} (hz : a.length ≤ 100000) (hv : atI a.cps.toList i = some c) (h : Q (.str ⟨#[c]⟩) H) : rIxU K (.str a) (.int i) H Q := ⟨Nat.le_trans hz (by decide), c, hv, h⟩
theorem rd_lenL {p : Addr} {xs : List V} (hs : SqL K H p xs) (h : Q (.int xs.length) H) : rLenU K [.ref p] H Q := .inl ⟨xs, .inl hs, h⟩
theorem rd_lenT {p : Addr} {xs : List V} (hs : SqT K H p xs) (h : Q (.int xs.length) H) : rLenU K [.ref p] H Q := .inl ⟨xs, .inr hs, h⟩
theorem rd_lenS (hz : a.length ≤ 100000) (h : Q (.int a.length) H) : rLenU K [.str a] H Q := ⟨Nat.le_trans hz (by decide), h⟩
theorem rd_lenD {p : Addr} {kvs : List (Key × V)} (hs : H p = some (.dK kvs)) (h : Q (.int kvs.length) H) : rLenU K [.ref p] H Q := .inr ⟨kvs, hs, h⟩
theorem rd_setL {p : Addr} {xs : List V} {n : Nat} {Q : Hp → Prop} (hs : H p = some (.lst xs)) (hi : ixN xs.length i = some n) (h : Q (upd H p (.lst (xs.set n v)))) : rSetL (.ref p) (.int i) v H Q := ⟨p, xs, i, n, rfl, rfl, hs, hi, h⟩
theorem rd_listL {p : Addr} {xs : List V} (hs : SqL K H p xs) (h : nL xs H Q) : rListU K [.ref p] H Q := .inl ⟨xs, .inl hs, h⟩
theorem rd_listT {p : Addr} {xs : List V} (hs : SqT K H p xs) (h : nL xs H Q) : rListU K [.ref p] H Q := .inl ⟨xs, .inr hs, h⟩
theorem rd_tupleL {p : Addr} {xs : List V} (hs : SqL K H p xs) (h : nT xs H Q) : rTupleU K [.ref p] H Q := .inl ⟨xs, hs, h⟩
theorem rd_slS {lo hi : Option Int} (hz : a.length ≤ 100000) (h : Q (.str (cutS a lo hi)) H) : rSlU K (.str a) lo hi H Q := ⟨Nat.le_trans hz (by decide), h⟩
theorem rd_slL {lo hi : Option Int} {p : Addr} {xs : List V} (hs : SqL K H p xs) (h : nL (cutV xs lo hi) H Q) : rSlU K (.ref p) lo hi H Q := .inl ⟨xs, hs, h⟩
theorem rd_sl {tl th : TO} {r : V → Option Int → Option Int → Hp → VK → Prop} (h : te σ H fun x H1 => tl σ H1 fun lo H2 => th σ H2 fun hi H3 => r x lo hi H3 Q) : tSl r te tl th σ H Q := h
theorem rd_noPart {Q : Option Int → Hp → Prop} (h : Q none H) : tNoPart σ H Q := h
theorem rd_part {Q : Option Int → Hp → Prop} (h : te σ H fun x H1 => ∃ i, x = .int i ∧ Q (some i) H1) : tPart te σ H Q := h
theorem rd_exI {Q : Int → Prop} (h : Q i) : ∃ k, V.int i = .int k ∧ Q k := ⟨i, rfl, h⟩
theorem rd_bm {T : String} {r : V → List V → Hp → VK → Prop} {tr : TA} (h : te σ H fun x H1 => tyV K T x H1 ∧ tr σ H1 fun xs H2 => r x xs H2 Q) : tBM K T r te tr σ H Q := h
theorem rd_bm0 {T : String} {r : V → List V → Hp → VK → Prop} (h : te σ H fun x H1 => tyV K T x H1 ∧ r x [] H1 Q) : tBM0 K T r te σ H Q := h
theorem rd_tyL {p : Addr} {xs : List V} {P : Prop} (hs : H p = some (.lst xs)) (h : P) : tyV K "list" (.ref p) H ∧ P := ⟨.inl ⟨rfl, xs, .inl (.inl hs)⟩, h⟩
theorem rd_append {p : Addr} {xs : List V} (hs : H p = some (.lst xs)) (hz : xs.length < 100000) (h : Q .non (upd H p (.lst (xs ++ [v])))) : rAppend (.ref p) [v] H Q :=
  ⟨p, xs, v, rfl, rfl, hs, Nat.lt_of_lt_of_le hz (by decide), h⟩
theorem mul_bI {i : Int} {b : Bool} : CMul i (bToI b) ∨ CMulW i (bToI b) := .inl (.inr (by cases b <;> decide))
theorem rd_powI (c : CPow i j) (h : Q (.int (i ^ j.toNat)) H) : rPowU (.int i) (.int j) H Q := ⟨c, h⟩
/-! heaps -/
theorem new_ne {p q : Addr} {o : HO} (h : upd H p o q = none) : q ≠ p := fun e => by
  rw [e, upd_same] at h
  cases h
theorem new_old {p q : Addr} {o : HO} (h : upd H p o q = none) : H q = none := by
  rw [upd_ne (new_ne h)] at h
  exact h
theorem at_upd {p q : Addr} {o u : HO} (n : q ≠ p) (h : H q = some u) : upd H p o q = some u := (upd_ne n).trans h
theorem no_upd {p q : Addr} {o : HO} (n : q ≠ p) (h : H q = none) : upd H p o q = none := (upd_ne n).trans h
/-- all that is tracked stays, but the object at p -/
def But (p : Addr) (H H' : Hp) : Prop := ∀ b o, b ≠ p → H b = some o → H' b = some o
theorem But.refl {p : Addr} : But p H H := fun _ _ _ h => h
theorem But.trans {p : Addr} {H1 H2 : Hp} (a : But p H H1) (b : But p H1 H2) : But p H H2 := fun c o n h => b c o n (a c o n h)
theorem But.of_same {p : Addr} {H1 : Hp} (a : Same H H1) : But p H H1 := fun c o _ h => a c o h
theorem But.upd {p : Addr} {o : HO} : But p H (upd H p o) := fun _ _ n h => at_upd n h
theorem But.new {p q : Addr} {o : HO} (h : H q = none) : But p H (L2.upd H q o) := fun _ _ _ e => at_upd (ne_of_none e h) e
theorem Same.new {q : Addr} {o : HO} (h : H q = none) : Same H (L2.upd H q o) := fun _ _ e => at_upd (ne_of_none e h) e
theorem But.free {p q : Addr} {H1 : Hp} (a : But p H H1) (n : q ≠ p) (h : H1 q = none) : H q = none := by
  cases e : H q with
  | none => rfl
  | some o =>
    rw [a q o n e] at h
    cases h
theorem new_of_same {q : Addr} {H1 : Hp} (a : Same H H1) (h : H1 q = none) : H q = none := a.free h
theorem Same.seqT {H' : Hp} {a : Addr} {xs : List V} (e : Same H H') (h : SqT K H a xs) : SqT K H' a xs := by
  rcases h with (h | ⟨o, h⟩) | h
  · exact .inl (.inl (e _ _ h))
  · exact .inl (.inr ⟨o, e _ _ h⟩)
  · exact .inr h
theorem But.seqT {p : Addr} {H' : Hp} {a : Addr} {xs : List V} (e : But p H H') (n : ∃ ys, H p = some (.lst ys)) (h : SqT K H a xs) : SqT K H' a xs := by
  obtain ⟨ys, hy⟩ := n
  rcases h with (h | ⟨o, h⟩) | h
  · exact .inl (.inl (e _ _ (ne_of h hy (by intro z; cases z)) h))
  · exact .inl (.inr ⟨o, e _ _ (ne_of h hy (by intro z; cases z)) h⟩)
  · exact .inr h
theorem rd_un {r : V → Hp → VK → Prop} (h : ta σ H fun x H1 => r x H1 Q) : tUn r ta σ H Q := h
end
local macro_rules | `(tactic| wtm_at "rd1") => `(tactic| first
  | with_reducible refine rd_seq ?_
  | ((with_reducible refine rd_var (v := ?vv) ?hv ?_); (case hv => exact rfl))
  | with_reducible refine rd_c ?_
  | with_reducible refine rd_cons ?_
  | with_reducible refine rd_nil ?_
  | with_reducible refine rd_op ?_
  | with_reducible refine rd_asg ?_
  | with_reducible refine rd_name ?_
  | with_reducible refine rd_c1 ?_
  | with_reducible refine rd_cb ?_
  | with_reducible refine rd_test ?_
  | with_reducible refine rd_B ?_
  | with_reducible refine rd_bl ?_
  | with_reducible refine rd_if ?_
  | with_reducible refine rd_ret ?_
  | with_reducible refine rd_drop ?_
  | with_reducible refine rd_next ?_
  | with_reducible refine rd_addI ?_
  | with_reducible refine rd_ltI ?_
  | with_reducible refine rd_eqI ?_
  | with_reducible refine rd_neI ?_
  | with_reducible refine rd_eqS ?_
  | with_reducible refine rd_neS ?_
  | with_reducible refine rd_gtI ?_
  | with_reducible refine rd_geI ?_
  | with_reducible refine rd_leI ?_
  | with_reducible refine rd_ltS ?_
  | with_reducible refine rd_subI ?_
  | ((with_reducible refine rd_modI ?hc ?_); (case hc => first | decide | omega))
  | ((with_reducible refine rd_mulI ?hc ?_); (case hc => first | exact mul_bI | exact .inl (.inr (by decide)) | exact .inl (.inl (by decide)) | exact .inl (.inr (by omega)) | exact .inl (.inl (by omega))))
  | ((with_reducible refine rd_divI ?hc ?_); (case hc => first | decide | omega))
  | ((with_reducible refine rd_powI ?hc ?_); (case hc => exact ⟨by decide, by decide, by decide⟩))
  | with_reducible refine rd_lst ?_
  | with_reducible refine rd_tup ?_
  | ((with_reducible refine rd_sz ?hv ?_); (case hv => exact rfl))
  | with_reducible refine rd_and ?_
  | with_reducible refine rd_or ?_
  | with_reducible refine rd_not ?_
  | with_reducible refine rd_andV ?_
  | with_reducible refine rd_orV ?_
  | with_reducible refine rd_notV ?_
  | with_reducible refine rd_ifE ?_
  | with_reducible refine rd_T ?_
  | with_reducible refine rd_F ?_
  | with_reducible refine rd_chain ?_
  | with_reducible refine rd_is ?_
  | with_reducible refine rd_isNot ?_
  | with_reducible refine rd_absI ?_
  | with_reducible refine rd_maxI ?_
  | with_reducible refine rd_minI ?_
  | with_reducible refine rd_intI ?_
  | with_reducible refine rd_intB ?_
  | with_reducible refine rd_sub ?_
  | with_reducible refine rd_sl ?_
  | with_reducible refine rd_noPart ?_
  | with_reducible refine rd_part ?_
  | with_reducible refine rd_exI ?_
  | with_reducible refine rd_bm ?_
  | with_reducible refine rd_bm0 ?_
  | with_reducible refine rd_un ?_
  | with_reducible refine rd_neg ?_
  | with_reducible refine rd_c2 ?_
  | with_reducible refine rd_retN ?_
  | with_reducible refine rd_break ?_
  | with_reducible refine rd_cont ?_)
local macro_rules | `(tactic| wtm_at "rd") => `(tactic| repeat wtm_at "rd1")
end U

/-! texts in order, names -/
namespace U
open PySem PySem.Spec PyProof.Rows L2
/-- the order of texts -/
def sLt (a b : Str) : Prop := a.cps.toList < b.cps.toList
instance (a b : Str) : Decidable (sLt a b) := inferInstanceAs (Decidable (a.cps.toList < b.cps.toList))
theorem str_ext {a b : Str} (h : a.cps.toList = b.cps.toList) : a = b := by
  obtain ⟨x⟩ := a
  obtain ⟨y⟩ := b
  have e : x = y := Array.toList_inj.mp h
  rw [e]
theorem sLt_irrefl (a : Str) : ¬ sLt a a := List.lt_irrefl _
theorem sLt_trans {a b c : Str} (h : sLt a b) (h' : sLt b c) : sLt a c := List.lt_trans h h'
theorem sLt_asymm {a b : Str} (h : sLt a b) : ¬ sLt b a := fun h' => sLt_irrefl a (sLt_trans h h')
theorem sLt_total {a b : Str} (h : ¬ sLt b a) (n : a ≠ b) : sLt a b := by
  have h1 : a.cps.toList ≤ b.cps.toList := List.not_lt.mp h
  rcases List.le_iff_lt_or_eq.mp h1 with z | z
  · exact z
  · exact absurd (str_ext z) n
theorem sLt_tri (a b : Str) : sLt a b ∨ a = b ∨ sLt b a := by
  by_cases h : sLt b a
  · exact .inr (.inr h)
  · by_cases e : a = b
    · exact .inr (.inl e)
    · exact .inl (sLt_total h e)
/-- strictly upwards -/
abbrev Asc (xs : List Str) : Prop := xs.Pairwise sLt
theorem asc_nodup {xs : List Str} (h : Asc xs) : xs.Nodup := by
  refine List.Pairwise.imp ?_ h
  intro a b z e
  subst e
  exact sLt_irrefl _ z
/-- two lists upwards with the same members are one -/
theorem asc_unique : ∀ {xs ys : List Str}, Asc xs → Asc ys → (∀ z, z ∈ xs ↔ z ∈ ys) → xs = ys
  | [], [], _, _, _ => rfl
  | [], y :: ys, _, _, h => absurd ((h y).mpr List.mem_cons_self) List.not_mem_nil
  | x :: xs, [], _, _, h => absurd ((h x).mp List.mem_cons_self) List.not_mem_nil
  | x :: xs, y :: ys, hx, hy, h => by
    rw [Asc, List.pairwise_cons] at hx hy
    have e : x = y := by
      rcases List.mem_cons.mp ((h x).mp List.mem_cons_self) with z | z
      · exact z
      · rcases List.mem_cons.mp ((h y).mpr List.mem_cons_self) with z2 | z2
        · exact z2.symm
        · exact absurd (hx.1 _ z2) (sLt_asymm (hy.1 _ z))
    subst e
    have t : xs = ys := asc_unique hx.2 hy.2 fun z => by
      constructor
      · intro hz
        rcases List.mem_cons.mp ((h z).mp (List.mem_cons_of_mem _ hz)) with e | e
        · subst e
          exact absurd (hx.1 _ hz) (sLt_irrefl _)
        · exact e
      · intro hz
        rcases List.mem_cons.mp ((h z).mpr (List.mem_cons_of_mem _ hz)) with e | e
        · subst e
          exact absurd (hy.1 _ hz) (sLt_irrefl _)
        · exact e
    rw [t]
theorem asc_of_sorted {xs : List Str} (h : xs.Pairwise fun a b => ¬ sLt b a) (n : xs.Nodup) : Asc xs := by
  have z : xs.Pairwise fun a b => ¬ sLt b a ∧ a ≠ b := List.Pairwise.and h n
  exact z.imp fun {a b} q => sLt_total q.1 q.2
/-- an edge's order -/
def eLt (a b : Str × Str) : Prop := sLt a.1 b.1 ∨ (a.1 = b.1 ∧ sLt a.2 b.2)
instance (a b : Str × Str) : Decidable (eLt a b) := inferInstanceAs (Decidable (_ ∨ _))
theorem eLt_irrefl (a : Str × Str) : ¬ eLt a a := fun h => h.elim (sLt_irrefl _) fun z => sLt_irrefl _ z.2
theorem eLt_trans {a b c : Str × Str} (h : eLt a b) (h' : eLt b c) : eLt a c := by
  rcases h with h | ⟨e, h⟩
  · rcases h' with h' | ⟨e', h'⟩
    · exact .inl (sLt_trans h h')
    · exact .inl (e' ▸ h)
  · rcases h' with h' | ⟨e', h'⟩
    · exact .inl (e ▸ h')
    · exact .inr ⟨e.trans e', sLt_trans h h'⟩
theorem eLt_asymm {a b : Str × Str} (h : eLt a b) : ¬ eLt b a := fun h' => eLt_irrefl a (eLt_trans h h')
theorem eLt_total {a b : Str × Str} (h : ¬ eLt b a) (n : a ≠ b) : eLt a b := by
  rcases sLt_tri a.1 b.1 with z | z | z
  · exact .inl z
  · rcases sLt_tri a.2 b.2 with y | y | y
    · exact .inr ⟨z, y⟩
    · exact absurd (Prod.ext z y) n
    · exact absurd (.inr ⟨z.symm, y⟩) h
  · exact absurd (.inl z) h
abbrev AscE (xs : List (Str × Str)) : Prop := xs.Pairwise eLt
theorem ascE_nodup {xs : List (Str × Str)} (h : AscE xs) : xs.Nodup := by
  refine List.Pairwise.imp ?_ h
  intro a b z e
  subst e
  exact eLt_irrefl _ z
theorem ascE_of_sorted {xs : List (Str × Str)} (h : xs.Pairwise fun a b => ¬ eLt b a) (n : xs.Nodup) : AscE xs := by
  have z : xs.Pairwise fun a b => ¬ eLt b a ∧ a ≠ b := List.Pairwise.and h n
  exact z.imp fun {a b} q => eLt_total q.1 q.2

section
variable {K : PySem.W.Frag} {H : Hp} {Q : VK} {p : Addr}
theorem perm_of_map {α β : Type} {f : α → β} : ∀ {l : List β} {xs : List α}, l.Perm (xs.map f) → ∃ ys : List α, ys.Perm xs ∧ l = ys.map f := by
  intro l xs h
  generalize hm : xs.map f = m at h
  induction h generalizing xs with
  | nil =>
    cases xs with
    | nil => exact ⟨[], .nil, rfl⟩
    | cons _ _ => cases hm
  | cons x hp ih =>
    cases xs with
    | nil => cases hm
    | cons a as =>
      injection hm with h1 h2
      obtain ⟨ys, py, e⟩ := ih h2
      exact ⟨a :: ys, py.cons a, by rw [e, List.map_cons, h1]⟩
  | swap x y l =>
    cases xs with
    | nil => cases hm
    | cons a as =>
      cases as with
      | nil => cases hm
      | cons b bs =>
        injection hm with h1 h2
        injection h2 with h2 h3
        exact ⟨b :: a :: bs, .swap a b bs, by rw [List.map_cons, List.map_cons, h1, h2, h3]⟩
  | trans _ _ ih1 ih2 =>
    obtain ⟨ys, py, e⟩ := ih2 hm
    obtain ⟨zs, pz, e'⟩ := ih1 e.symm
    exact ⟨zs, pz.trans py, e'⟩
/-- sorted(a list of texts) -/
theorem rd_sortS {xs : List Str} (hs : SqL K H p (xs.map V.str)) (hl : xs.length ≤ 100000) (k : ∀ ys : List Str, ys.Perm xs → ys.Pairwise (fun a b => ¬ sLt b a) → nL (ys.map V.str) H Q) : rSortU K [.ref p] H Q := by
  refine ⟨xs.map fun x => (V.str x, PyData.str x), ?_, ⟨?_, ?_, ?_, ?_, ?_⟩, ?_⟩
  · rw [List.map_map]
    exact hs
  · intro b hb
    obtain ⟨x, _, rfl⟩ := List.mem_map.mp hb
    exact .str x
  · rw [List.map_map]
    exact PySem.W.AllAlike.of (enc := PyData.str) fun a b => by simp [PySem.W.alike]
  · rw [List.map_map]
    exact PySem.W.Sortable.others (enc := PyData.str) fun b => ⟨by simp, by simp⟩
  · intro b hb
    obtain ⟨x, _, rfl⟩ := List.mem_map.mp hb
    simp [PyData.depth]
  · rw [List.length_map]
    omega
  · intro cs pc sc
    obtain ⟨ys, py, rfl⟩ := perm_of_map pc
    rw [List.map_map]
    refine k ys py ?_
    rw [List.pairwise_map] at sc
    refine sc.imp fun {a b} z h => ?_
    have z' : PySem.W.dataLt (PyData.str b) (PyData.str a) = false := z
    rw [PySem.W.dataLt_str] at z'
    exact of_decide_eq_false z' h
/-- sorted(a list of pairs of texts): e is the pair's place, then the two -/
theorem rd_sortE {xs : List (Addr × Str × Str)} (hs : SqL K H p (xs.map fun e => V.ref e.1)) (ht : ∀ e ∈ xs, SqT K H e.1 [.str e.2.1, .str e.2.2]) (hl : xs.length ≤ 100000)
    (k : ∀ ys : List (Addr × Str × Str), ys.Perm xs → ys.Pairwise (fun a b => ¬ eLt b.2 a.2) → nL (ys.map fun e => V.ref e.1) H Q) : rSortU K [.ref p] H Q := by
  refine ⟨xs.map fun e => (V.ref e.1, PyData.tuple [.str e.2.1, .str e.2.2]), ?_, ⟨?_, ?_, ?_, ?_, ?_⟩, ?_⟩
  · rw [List.map_map]
    exact hs
  · intro b hb
    obtain ⟨x, hx, rfl⟩ := List.mem_map.mp hb
    exact .tup (ht x hx) (.cons (.str _) (.cons (.str _) .nil))
  · rw [List.map_map]
    exact PySem.W.AllAlike.of (enc := fun e : Addr × Str × Str => PyData.tuple [.str e.2.1, .str e.2.2]) fun a b => by simp [PySem.W.alike, PySem.W.alikeAll]
  · rw [List.map_map]
    exact PySem.W.Sortable.tuples (enc := fun e : Addr × Str × Str => PyData.tuple [.str e.2.1, .str e.2.2]) fun b => ⟨_, _, rfl⟩
  · intro b hb
    obtain ⟨x, _, rfl⟩ := List.mem_map.mp hb
    simp [PyData.depth, PyData.depthAll]
  · rw [List.length_map]
    omega
  · intro cs pc sc
    obtain ⟨ys, py, rfl⟩ := perm_of_map pc
    rw [List.map_map]
    refine k ys py ?_
    rw [List.pairwise_map] at sc
    refine sc.imp fun {a b} z h => ?_
    have z' : PySem.W.dataLt (PyData.tuple [.str b.2.1, .str b.2.2]) (PyData.tuple [.str a.2.1, .str a.2.2]) = false := z
    rw [PySem.W.dataLt_pair (by simp [PySem.W.alike]) (by simp [PySem.W.alike]), PySem.W.dataLt_str, PySem.W.dataLt_str] at z'
    simp only [PyData.eqv, beq_iff_eq] at z'
    rcases h with h | ⟨e, h⟩
    · have n : ¬ b.2.1 = a.2.1 := fun e => sLt_irrefl _ (by rw [e] at h; exact h)
      rw [if_neg n] at z'
      exact of_decide_eq_false z' h
    · rw [if_pos e] at z'
      have n : ¬ b.2.2 = a.2.2 := fun e => sLt_irrefl _ (by rw [e] at h; exact h)
      rw [if_neg n] at z'
      exact of_decide_eq_false z' h
end
end U

/-! names as the laws draw them -/
namespace U
open PySem PySem.Spec PyProof.Rows L2
/-- 1 to 8 small letters -/
structure IsName (z : Str) : Prop where
  lo : 1 ≤ z.length
  hi : z.length ≤ 8
  ch : ∀ c ∈ z.cps.toList, 97 ≤ c ∧ c ≤ 122
theorem letters_at {i : Int} (h0 : 0 ≤ i) (h1 : i < 26) : atI (Str.ofString "abcdefghijklmnopqrstuvwxyz").cps.toList i = some (97 + i.toNat) := by
  obtain ⟨n, rfl⟩ : ∃ n : Nat, i = (n : Int) := ⟨i.toNat, by omega⟩
  have all : ∀ n : Fin 26, (Str.ofString "abcdefghijklmnopqrstuvwxyz").cps.toList[(n : Nat)]? = some (97 + (n : Nat)) := by decide +kernel
  have hn : n < 26 := by omega
  rw [Int.toNat_natCast]
  exact atI_nat (all ⟨n, hn⟩)
theorem letters_len : (Str.ofString "abcdefghijklmnopqrstuvwxyz").length ≤ 100000 := by decide +kernel
theorem pick4 {a b c d r : Int} (h0 : 0 ≤ r) (h1 : r < 4) : ∃ v, atI [V.int a, .int b, .int c, .int d] r = some (.int v) ∧ (v = a ∨ v = b ∨ v = c ∨ v = d) := by
  have : r = 0 ∨ r = 1 ∨ r = 2 ∨ r = 3 := by omega
  rcases this with rfl | rfl | rfl | rfl
  · exact ⟨a, rfl, .inl rfl⟩
  · exact ⟨b, rfl, .inr (.inl rfl)⟩
  · exact ⟨c, rfl, .inr (.inr (.inl rfl))⟩
  · exact ⟨d, rfl, .inr (.inr (.inr rfl))⟩
theorem pick2 {x y : V} {r : Int} (h : r = 0 ∨ r = 1) : atI [x, y] r = some (if r = 0 then x else y) := by
  rcases h with rfl | rfl
  · rfl
  · rfl
theorem bToI_01 (b : Bool) : bToI b = 0 ∨ bToI b = 1 := by cases b <;> simp [bToI]
theorem bToI_pick {x y : V} (b : Bool) : atI [x, y] (bToI b) = some (if b = true then y else x) := by cases b <;> rfl
/-- the letter c put into the text t at place a -/
def putIn (t : List Nat) (a c : Nat) : List Nat := t.take a ++ [c] ++ t.drop a
theorem putIn_len (t : List Nat) (a c : Nat) (h : a ≤ t.length) : (putIn t a c).length = t.length + 1 := by
  unfold putIn
  simp
  omega
theorem putIn_inj {t : List Nat} {a c d : Nat} (h : a ≤ t.length) (e : putIn t a c = putIn t a d) : c = d := by
  unfold putIn at e
  rw [List.append_assoc, List.append_assoc] at e
  have e2 := List.append_cancel_left e
  injection e2
theorem mem_putIn {t : List Nat} {a c x : Nat} (h : x ∈ putIn t a c) : x = c ∨ x ∈ t := by
  unfold putIn at h
  rw [List.mem_append, List.mem_append, List.mem_singleton] at h
  rcases h with (h | h) | h
  · exact .inr (List.mem_of_mem_take h)
  · exact .inl h
  · exact .inr (List.mem_of_mem_drop h)
/-- the k-th name: begin b, step s, the tail's letter and times, its place, whether mixed -/
def nameK (b s : Int) (t : List Nat) (a : Nat) (m : Bool) (k : Nat) : Str :=
  if m = true ∧ k % 2 = 1 then ⟨#[97 + ((b + s * (k : Int)) % 26).toNat]⟩ else ⟨(putIn t a (97 + ((b + s * (k : Int)) % 26).toNat)).toArray⟩
theorem nameK_ok {b s : Int} {n d a : Nat} {m : Bool} {k : Nat} (hn : n ≤ 7) (ha : a ≤ n) (hd : 97 ≤ d ∧ d ≤ 122) : IsName (nameK b s (List.replicate n d) a m k) := by
  have hc : 97 ≤ 97 + ((b + s * (k : Int)) % 26).toNat ∧ 97 + ((b + s * (k : Int)) % 26).toNat ≤ 122 := by omega
  unfold nameK
  generalize 97 + ((b + s * (k : Int)) % 26).toNat = c at hc
  split
  · exact ⟨by simp [Str.length], by simp [Str.length], fun x hx => by
      have : x = c := by simpa using hx
      rw [this]
      exact hc⟩
  · have hl : (putIn (List.replicate n d) a c).length = n + 1 := by rw [putIn_len _ _ _ (by rw [List.length_replicate]; exact ha), List.length_replicate]
    refine ⟨by simp [Str.length, hl], by simp [Str.length, hl]; omega, fun x hx => ?_⟩
    have hx' : x ∈ putIn (List.replicate n d) a c := by simpa using hx
    rcases mem_putIn hx' with e | e
    · rw [e]; exact hc
    · rw [List.eq_of_mem_replicate e]; exact hd
theorem nameK_inj {b s : Int} {n d a : Nat} {m : Bool} {j k : Nat} (ha : a ≤ n) (hs : s = 1 ∨ s = 3 ∨ s = 5 ∨ s = 7) (hj : j < 26) (hk : k < 26)
    (e : nameK b s (List.replicate n d) a m j = nameK b s (List.replicate n d) a m k) : j = k := by
  have core : ∀ {x y : Nat}, x = 97 + ((b + s * (j : Int)) % 26).toNat → y = 97 + ((b + s * (k : Int)) % 26).toNat → x = y → j = k := by
    intro x y hx hy q
    rcases hs with rfl | rfl | rfl | rfl <;> omega
  have hl : ∀ c, (putIn (List.replicate n d) a c).length = n + 1 := fun c => by rw [putIn_len _ _ _ (by rw [List.length_replicate]; exact ha), List.length_replicate]
  unfold nameK at e
  split at e <;> split at e
  · injection e with e
    have e2 := congrArg Array.toList e
    simp only [List.cons.injEq, and_true] at e2
    exact core rfl rfl e2
  · rename_i h1 h2
    exfalso
    injection e with e
    have e2 := congrArg Array.size e
    simp only [List.size_toArray, hl] at e2
    have hn : n = 0 := by simpa using e2.symm
    subst hn
    obtain rfl : a = 0 := by omega
    have e3 := congrArg Array.toList e
    simp only [putIn, List.replicate_zero, List.take_nil, List.nil_append, List.drop_nil, List.append_nil, List.cons.injEq, and_true] at e3
    have := core rfl rfl e3
    subst this
    exact h2 h1
  · rename_i h1 h2
    exfalso
    injection e with e
    have e2 := congrArg Array.size e
    simp only [List.size_toArray, hl] at e2
    have hn : n = 0 := by simpa using e2
    subst hn
    obtain rfl : a = 0 := by omega
    have e3 := congrArg Array.toList e
    simp only [putIn, List.replicate_zero, List.take_nil, List.nil_append, List.drop_nil, List.append_nil, List.cons.injEq, and_true] at e3
    have := core rfl rfl e3
    subst this
    exact h1 h2
  · injection e with e
    have e2 := congrArg Array.toList e
    exact core rfl rfl (putIn_inj (by rw [List.length_replicate]; exact ha) e2)
theorem names_nodup {b s : Int} {n d a : Nat} {m : Bool} (ha : a ≤ n) (hs : s = 1 ∨ s = 3 ∨ s = 5 ∨ s = 7) {many : Nat} (hm : many ≤ 26) : ((List.range many).map (nameK b s (List.replicate n d) a m)).Nodup := by
  rw [List.nodup_iff_pairwise_ne, List.pairwise_map]
  have h : (List.range many).Pairwise fun x y => x ≠ y := List.nodup_range
  refine (List.Pairwise.and_mem.mp h).imp ?_
  intro x y ⟨hx, hy, n⟩ e
  exact n (nameK_inj ha hs (by have := List.mem_range.mp hx; omega) (by have := List.mem_range.mp hy; omega) e)
/-- names, strictly upwards -/
structure Names (ys : List Str) : Prop where
  asc : Asc ys
  ok : ∀ y ∈ ys, IsName y
/-- names, each once, in any order -/
structure NamesU (ys : List Str) : Prop where
  nd : ys.Nodup
  ok : ∀ y ∈ ys, IsName y
theorem Names.u {ys : List Str} (h : Names ys) : NamesU ys := ⟨asc_nodup h.asc, h.ok⟩
theorem NamesU.perm {xs ys : List Str} (h : NamesU xs) (p : ys.Perm xs) : NamesU ys := ⟨p.nodup_iff.mpr h.nd, fun y hy => h.ok y (p.mem_iff.mp hy)⟩
/-! slices of a text -/
theorem cutS_to {z : Str} {i : Int} (h0 : 0 ≤ i) : cutS z none (some i) = ⟨(z.cps.toList.take i.toNat).toArray⟩ := by
  unfold cutS HT.sIx
  simp only [Nat.sub_zero, List.drop_zero]
  rw [if_neg (by omega)]
  congr 2
  have : z.cps.toList.length = z.length := by simp [Str.length]
  by_cases h : i.toNat ≤ z.length
  · rw [Nat.min_eq_left h]
  · rw [Nat.min_eq_right (by omega), List.take_of_length_le (by omega), List.take_of_length_le (by omega)]
theorem cutS_from {z : Str} {i : Int} (h0 : 0 ≤ i) : cutS z (some i) none = ⟨(z.cps.toList.drop i.toNat).toArray⟩ := by
  unfold cutS HT.sIx
  simp only
  rw [if_neg (by omega)]
  congr 1
  have hl : z.cps.toList.length = z.length := by simp [Str.length]
  by_cases h : i.toNat ≤ z.length
  · rw [Nat.min_eq_left h, List.take_of_length_le (by rw [List.length_drop]; omega)]
  · rw [Nat.min_eq_right (by omega), List.drop_of_length_le (by omega), List.drop_of_length_le (by omega), List.take_nil]
theorem str_app {a b : List Nat} : (⟨a.toArray⟩ : Str) ++ ⟨b.toArray⟩ = ⟨(a ++ b).toArray⟩ := str_ext (TL.tl_append _ _)
end U

/-! loops, dictionaries, unpacking: their readings by steps -/
namespace U
open PySem PySem.Spec PyProof.Rows L2
/-- what a loop over J asks -/
def ForB (J : It) (g : TG) (tb : TS) (D : Ends) (σ : L2.St) (H : Hp) : Prop := ∃ W : Nat → Nat → L2.St → Hp → Prop, (∃ m, W 0 m σ H) ∧ ∀ i m σ H, W i m σ H →
  (J.stop i H ∧ D.nx σ H) ∨ (J.go i H ∧ ∃ N : L2.St → Hp → Prop, (∀ σ' H', N σ' H' → ∃ m', m' < m ∧ W (i + 1) m' σ' H') ∧ ∀ x H', J.yld i H x H' → g x σ H' fun σ2 H2 => tb { D with nx := N, ct := N, bk := D.nx } σ2 H2)
def LcB (J : It) (g : TG) (tt : TT) (te : TE) (vs : List Nat) (σ : L2.St) (H1 : Hp) (D : Addr) (Qd : Hp → Prop) : Prop := ∃ W : Nat → Nat → Hp → Prop, (∃ m, W 0 m (upd H1 D (.lst []))) ∧ ∀ i m H, W i m H →
  (J.stop i H ∧ Qd H) ∨ (J.go i H ∧ ∃ Nx : Hp → Prop, (∀ H', Nx H' → ∃ m', m' < m ∧ W (i + 1) m' H') ∧ ∀ x H', J.yld i H x H' → g x (wipe σ vs) H' fun σ2 H2 => wipe σ2 vs = wipe σ vs ∧ tt σ2 H2 fun b H3 =>
    if b = true then te σ2 H3 fun y H4 => ∃ acc, H4 D = some (.lst acc) ∧ acc.length < sizeLine ∧ Nx (upd H4 D (.lst (acc ++ [y]))) else Nx H3)
section
variable {σ : L2.St} {H : Hp} {Q : VK} {D : Ends} {v x y : V} {i j : Int} {ta tb tc te td ty tv : TE} {t u : TS} {K : PySem.W.Frag} {g : TG} {wi : TI} {R : It → Hp → Prop} {tr : TA}
theorem rd_for (h : wi σ H fun J H1 => ForB J g t D σ H1) : tFor wi g t D σ H := h
theorem rd_rng1 (h : tr σ H fun vs H1 => ∃ j : Int, vs = [.int j] ∧ -(2 ^ 62) ≤ j ∧ j < 2 ^ 62 ∧ R (Itr 0 j.toNat) H1) : iRng1 tr σ H R := h
theorem rd_rng2 (h : tr σ H fun vs H1 => ∃ i j : Int, vs = [.int i, .int j] ∧ (-(2 ^ 62) ≤ i ∧ i < 2 ^ 62 ∧ -(2 ^ 62) ≤ j ∧ j < 2 ^ 62) ∧ R (Itr i (j - i).toNat) H1) : iRng2 tr σ H R := h
theorem rd_iList (h : te σ H fun x H1 => ∃ a, x = .ref a ∧ (∃ xs, SqL K H1 a xs) ∧ R (Itl K a) H1) : iList K te σ H R := h
theorem rd_iTup (h : te σ H fun x H1 => ∃ a, x = .ref a ∧ (∃ xs, SqT K H1 a xs) ∧ R (Itt K a) H1) : iTup K te σ H R := h
theorem rd_iEnum (h : tr σ H fun vs H1 => ∃ a xs, vs = [.ref a] ∧ SqL K H1 a xs ∧ R (Ite K a) H1) : iEnum K tr σ H R := h
theorem rd_forL {p : Addr} {xs : List V} {R : Addr → Prop} (hs : SqL K H p xs) (h : R p) : ∃ a, V.ref p = .ref a ∧ (∃ xs, SqL K H a xs) ∧ R a := ⟨p, rfl, ⟨xs, hs⟩, h⟩
theorem rd_forT {p : Addr} {xs : List V} {R : Addr → Prop} (hs : SqT K H p xs) (h : R p) : ∃ a, V.ref p = .ref a ∧ (∃ xs, SqT K H a xs) ∧ R a := ⟨p, rfl, ⟨xs, hs⟩, h⟩
theorem rd_forR {R : Int → Prop} (h0 : -(2 ^ 62) ≤ j) (h1 : j < 2 ^ 62) (h : R j) : ∃ k : Int, [V.int j] = [.int k] ∧ -(2 ^ 62) ≤ k ∧ k < 2 ^ 62 ∧ R k := ⟨j, rfl, h0, h1, h⟩
theorem rd_forE {p : Addr} {xs : List V} {R : Addr → Prop} (hs : SqL K H p xs) (h : R p) : ∃ a xs, [V.ref p] = [.ref a] ∧ SqL K H a xs ∧ R a := ⟨p, xs, rfl, hs, h⟩
theorem turnsR {lo : Int} {n : Nat} (Pv : Nat → L2.St → Hp → Prop) (h0 : Pv 0 σ H) (hs : ∀ i σ H, i < n → Pv i σ H → g (.int (lo + i)) σ H fun σ2 H2 => t { D with nx := Pv (i + 1), ct := Pv (i + 1), bk := D.nx } σ2 H2)
    (hd : ∀ σ H, Pv n σ H → D.nx σ H) : ForB (Itr lo n) g t D σ H := for_range Pv h0 hs hd
theorem turnsL {a : Addr} {xs : List V} (Pv : Nat → L2.St → Hp → Prop) (h0 : Pv 0 σ H) (hl : ∀ i σ H, i ≤ xs.length → Pv i σ H → SqL K H a xs)
    (hs : ∀ i x σ H, xs[i]? = some x → Pv i σ H → g x σ H fun σ2 H2 => t { D with nx := Pv (i + 1), ct := Pv (i + 1), bk := D.nx } σ2 H2) (hd : ∀ σ H, Pv xs.length σ H → D.nx σ H) : ForB (Itl K a) g t D σ H := for_list Pv h0 hl hs hd
theorem turnsT {a : Addr} {xs : List V} (Pv : Nat → L2.St → Hp → Prop) (h0 : Pv 0 σ H) (hl : ∀ i σ H, i ≤ xs.length → Pv i σ H → SqT K H a xs)
    (hs : ∀ i x σ H, xs[i]? = some x → Pv i σ H → g x σ H fun σ2 H2 => t { D with nx := Pv (i + 1), ct := Pv (i + 1), bk := D.nx } σ2 H2) (hd : ∀ σ H, Pv xs.length σ H → D.nx σ H) : ForB (Itt K a) g t D σ H := for_tup Pv h0 hl hs hd
theorem turnsW {J : It} {n : Nat} {G : Hp → Prop} {Y : Nat → Hp → V → Hp → Prop} (w : Walk J n G Y) (Pv : Nat → L2.St → Hp → Prop) (h0 : Pv 0 σ H) (hG : ∀ i σ H, i ≤ n → Pv i σ H → G H)
    (hs : ∀ i x σ H H', i < n → Pv i σ H → Y i H x H' → g x σ H' fun σ2 H2 => t { D with nx := Pv (i + 1), ct := Pv (i + 1), bk := D.nx } σ2 H2) (hd : ∀ σ H, Pv n σ H → D.nx σ H) : ForB J g t D σ H := for_it w Pv h0 hG hs hd
theorem rd_lc {tt : TT} {vs : List Nat} (h : wi σ H fun J H1 => ∀ D, H1 D = none → LcB J g tt te vs σ H1 D fun H2 => Q (.ref D) H2) : tLc wi g tt te vs σ H Q := h
theorem lcT {a : Addr} {xs : List V} {tt : TT} {vs : List Nat} {D : Addr} {Qd : Hp → Prop} (Pv : Nat → Hp → Prop) (h0 : Pv 0 (upd H D (.lst []))) (hl : ∀ i H, i ≤ xs.length → Pv i H → SqT K H a xs)
    (hs : ∀ i x H, xs[i]? = some x → Pv i H → g x (wipe σ vs) H fun σ2 H2 => wipe σ2 vs = wipe σ vs ∧ tt σ2 H2 fun b H3 =>
      if b = true then te σ2 H3 fun y H4 => ∃ acc, H4 D = some (.lst acc) ∧ acc.length < sizeLine ∧ Pv (i + 1) (upd H4 D (.lst (acc ++ [y]))) else Pv (i + 1) H3) (hd : ∀ H, Pv xs.length H → Qd H) : LcB (Itt K a) g tt te vs σ H D Qd := lc_tup Pv h0 hl hs hd
theorem lcL {a : Addr} {xs : List V} {tt : TT} {vs : List Nat} {D : Addr} {Qd : Hp → Prop} (Pv : Nat → Hp → Prop) (h0 : Pv 0 (upd H D (.lst []))) (hl : ∀ i H, i ≤ xs.length → Pv i H → SqL K H a xs)
    (hs : ∀ i x H, xs[i]? = some x → Pv i H → g x (wipe σ vs) H fun σ2 H2 => wipe σ2 vs = wipe σ vs ∧ tt σ2 H2 fun b H3 =>
      if b = true then te σ2 H3 fun y H4 => ∃ acc, H4 D = some (.lst acc) ∧ acc.length < sizeLine ∧ Pv (i + 1) (upd H4 D (.lst (acc ++ [y]))) else Pv (i + 1) H3) (hd : ∀ H, Pv xs.length H → Qd H) : LcB (Itl K a) g tt te vs σ H D Qd := lc_list Pv h0 hl hs hd
theorem lcR {lo : Int} {n : Nat} {tt : TT} {vs : List Nat} {D : Addr} {Qd : Hp → Prop} (Pv : Nat → Hp → Prop) (h0 : Pv 0 (upd H D (.lst [])))
    (hs : ∀ i H, i < n → Pv i H → g (.int (lo + i)) (wipe σ vs) H fun σ2 H2 => wipe σ2 vs = wipe σ vs ∧ tt σ2 H2 fun b H3 =>
      if b = true then te σ2 H3 fun y H4 => ∃ acc, H4 D = some (.lst acc) ∧ acc.length < sizeLine ∧ Pv (i + 1) (upd H4 D (.lst (acc ++ [y]))) else Pv (i + 1) H3) (hd : ∀ H, Pv n H → Qd H) : LcB (Itr lo n) g tt te vs σ H D Qd := lc_range Pv h0 hs hd
/-- unpacking -/
theorem rd_unp {n : Nat} {ts : TGs} {p : Addr} {xs : List V} {Q : L2.St → Hp → Prop} (hs : SqT K H p xs) (hl : xs.length = n) (h : ts xs σ H Q) : gTup K n ts (.ref p) σ H Q := ⟨p, xs, rfl, hs, hl, h⟩
theorem rd_gcons {tg : TG} {u : TGs} {vr : List V} {Q : L2.St → Hp → Prop} (h : tg v σ H fun σ1 H1 => u vr σ1 H1 Q) : gCons tg u (v :: vr) σ H Q := ⟨v, vr, rfl, h⟩
theorem rd_gnil {Q : L2.St → Hp → Prop} (h : Q σ H) : gNil [] σ H Q := ⟨rfl, h⟩
/-- dictionaries -/
theorem rd_dget (h : td σ H fun x H1 => ty σ H1 fun y H2 => ∃ a v, x = .ref a ∧ DGet H2 a y (some v) ∧ Q v H2) : tDGet td ty σ H Q := h
theorem rd_dat {p : Addr} {kvs : List (Key × V)} {k : Key} (hs : Rd H p (.dK kvs)) (hv : valV kvs k = some v) {R : V → Prop} (hy : y = kV k) (h : R v) : ∃ a v, V.ref p = .ref a ∧ DGet H a y (some v) ∧ R v := ⟨p, v, rfl, .inl ⟨kvs, k, hs, hy, hv.symm⟩, h⟩
theorem rd_dput (h : tv σ H fun v H1 => td σ H1 fun x H2 => ty σ H2 fun y H3 => ∃ a H4, x = .ref a ∧ DPut H3 a y v H4 ∧ D.nx σ H4) : sDPut td ty tv D σ H := h
end
end U

/-! lists of texts as data -/
namespace U
open PySem PySem.Spec PyProof.Rows L2
theorem IsName.sok {z : Str} (h : IsName z) : PyData.strOk z = true := by
  unfold PyData.strOk
  rw [Array.all_eq_true_iff_forall_mem]
  intro x hx
  have := h.ch x (by simpa using hx)
  rw [decide_eq_true_eq]
  omega
theorem erase_map {α β : Type} {f : α → β} : ∀ {xs : List α} {i : Nat}, (xs.map f).eraseIdx i = (xs.eraseIdx i).map f
  | [], _ => by simp
  | _ :: _, 0 => rfl
  | x :: xs, i + 1 => by
    show f x :: (xs.map f).eraseIdx i = f x :: (xs.eraseIdx i).map f
    rw [erase_map]
theorem erase_perm {α : Type} : ∀ {xs : List α} {i : Nat} (h : i < xs.length), (xs[i] :: xs.eraseIdx i).Perm xs
  | _ :: _, 0, _ => .refl _
  | x :: xs, i + 1, h => by
    have h' : i < xs.length := Nat.lt_of_succ_lt_succ h
    show (xs[i] :: x :: xs.eraseIdx i).Perm (x :: xs)
    exact (List.Perm.swap x xs[i] _).trans ((erase_perm h').cons x)
section
variable {K : PySem.W.Frag} {H : Hp} {Q : VK} {p q : Addr}
theorem dp_strs : ∀ (xs : List Str), DpAll K H (xs.map V.str) (xs.map PyData.str)
  | [] => .nil
  | x :: xs => .cons (.str x) (dp_strs xs)
theorem can_strs : ∀ {xs : List Str}, (∀ x ∈ xs, PyData.strOk x = true) → PyData.canLayAll0 (xs.map PyData.str) = true
  | [], _ => by simp [PyData.canLayAll0]
  | x :: xs, h => by
    rw [List.map_cons, PyData.canLayAll0, PyData.canLay0, h x List.mem_cons_self, can_strs fun y hy => h y (List.mem_cons_of_mem _ hy)]
    rfl
theorem dep_strs : ∀ {xs : List Str}, PyData.depthAll (xs.map PyData.str) = 0
  | [] => by simp [PyData.depthAll]
  | x :: xs => by
    rw [List.map_cons, PyData.depthAll, dep_strs, PyData.depth]
    rfl
theorem shp_strs {xs : List Str} (h : ∀ x ∈ xs, PyData.strOk x = true) : SeqAt.shaped (.list (xs.map PyData.str)) = true := by
  unfold SeqAt.shaped
  rw [PyData.canLay0, can_strs h, PyData.depth, dep_strs]
  rfl
theorem eqv_nil {xs : List Str} : PyData.eqv (.list (xs.map PyData.str)) (.list []) = xs.isEmpty := by
  cases xs with
  | nil => simp [PyData.eqv, PyData.eqvAll]
  | cons _ _ => simp [PyData.eqv, PyData.eqvAll]
/-- xs != [] -/
theorem rd_neNil {xs : List Str} (hp : SqL K H p (xs.map V.str)) (hq : SqL K H q []) (ok : ∀ x ∈ xs, PyData.strOk x = true) (h : Q (.bl (!xs.isEmpty)) H) : rNeU K (.ref p) (.ref q) H Q := by
  refine ⟨_, _, .lst hp (dp_strs xs), .lst hq .nil, shp_strs ok, by decide, ?_⟩
  rw [eqv_nil]
  exact h
theorem rd_popAt {xs : List V} {i : Int} {v : V} {k : Nat} (hs : H p = some (.lst xs)) (h0 : 0 ≤ i) (hk : i.toNat = k) (hl : xs.length < 100000) (hv : xs[k]? = some v) (h : Q v (upd H p (.lst (xs.eraseIdx k)))) : rPopAt (.ref p) [.int i] H Q := by
  obtain ⟨hlt, _⟩ := List.getElem?_eq_some_iff.mp hv
  refine ⟨p, xs, i, k, v, rfl, rfl, hs, by omega, by omega, ?_, hv, h⟩
  rw [seqIndex_of h0 (by omega), hk]
end
end U

/-! graphs and states as the laws draw them -/
namespace U
open PySem PySem.Spec PyProof.Rows L2
/-- the two names, the lower first -/
def eOf (a b : Str) : Str × Str := if sLt a b then (a, b) else (b, a)
theorem eOf_cases (a b : Str) : eOf a b = (a, b) ∨ eOf a b = (b, a) := by
  unfold eOf
  split
  · exact .inl rfl
  · exact .inr rfl
theorem eOf_lt {a b : Str} (n : a ≠ b) : sLt (eOf a b).1 (eOf a b).2 := by
  unfold eOf
  split
  · assumption
  · rename_i h
    exact sLt_total h (Ne.symm n)
theorem eOf_inj {a b c d : Str} (h : eOf a b = eOf c d) : (a = c ∧ b = d) ∨ (a = d ∧ b = c) := by
  rcases eOf_cases a b with e | e <;> rcases eOf_cases c d with e' | e' <;> rw [e, e'] at h <;> injection h with h1 h2
  · exact .inl ⟨h1, h2⟩
  · exact .inr ⟨h1, h2⟩
  · exact .inr ⟨h2, h1⟩
  · exact .inl ⟨h2, h1⟩
/-- the state's pairs -/
abbrev kvsOf (ws : List (Str × Int)) : List (Key × V) := ws.map fun p => (Sum.inr p.1, V.int p.2)
/-- the number of the node n -/
def numOf (ws : List (Str × Int)) (n : Str) : Int := (ws.lookup n).getD 0
theorem val_kvs : ∀ {ws : List (Str × Int)} {n : Str}, n ∈ ws.map (·.1) → valV (kvsOf ws) (.inr n) = some (.int (numOf ws n))
  | p :: ws, n, h => by
    by_cases e : n = p.1
    · subst e
      rw [kvsOf, List.map_cons, valV_pos rfl]
      unfold numOf
      rw [List.lookup_cons_self]
      rfl
    · have e' : ¬ (Sum.inr p.1 : Key) = Sum.inr n := fun z => e (Sum.inr.inj z).symm
      rw [kvsOf, List.map_cons, valV_neg e']
      have : n ∈ ws.map (·.1) := by
        rcases List.mem_cons.mp h with z | z
        · exact absurd z e
        · exact z
      have r := val_kvs this
      rw [kvsOf] at r
      rw [r]
      unfold numOf
      rw [List.lookup_cons, show (n == p.1) = false from beq_eq_false_iff_ne.mpr e]
theorem val_none : ∀ {ws : List (Str × Int)} {n : Str}, n ∉ ws.map (·.1) → valV (kvsOf ws) (.inr n) = none
  | [], _, _ => rfl
  | p :: ws, n, h => by
    have e' : ¬ (Sum.inr p.1 : Key) = Sum.inr n := fun z => h (by rw [← Sum.inr.inj z]; exact List.mem_cons_self)
    rw [kvsOf, List.map_cons, valV_neg e']
    exact val_none fun z => h (List.mem_cons_of_mem _ z)
theorem put_kvs {ws : List (Str × Int)} {n : Str} {v : Int} (h : n ∉ ws.map (·.1)) : putK (kvsOf ws) (.inr n) (.int v) = kvsOf (ws ++ [(n, v)]) := by
  rw [putK_new _ (val_none h), kvsOf, kvsOf, List.map_append]
  rfl
theorem num_mem : ∀ {ws : List (Str × Int)} {n : Str}, n ∈ ws.map (·.1) → (n, numOf ws n) ∈ ws
  | p :: ws, n, h => by
    unfold numOf
    rw [List.lookup_cons]
    by_cases e : n = p.1
    · rw [show (n == p.1) = true from beq_iff_eq.mpr e]
      subst e
      exact List.mem_cons_self
    · rw [show (n == p.1) = false from beq_eq_false_iff_ne.mpr e]
      have : n ∈ ws.map (·.1) := by
        rcases List.mem_cons.mp h with z | z
        · exact absurd z e
        · exact z
      exact List.mem_cons_of_mem _ (num_mem this)
/-- a state: each name once, in the order ord, a number of 0, 1, 2 -/
structure StOk (ord : List Str) (ws : List (Str × Int)) : Prop where
  key : ws.map (·.1) = ord
  num : ∀ p ∈ ws, 0 ≤ p.2 ∧ p.2 < 3
theorem StOk.at {ord : List Str} {ws : List (Str × Int)} (h : StOk ord ws) {n : Str} (hn : n ∈ ord) : 0 ≤ numOf ws n ∧ numOf ws n < 3 := h.num _ (num_mem (by rw [h.key]; exact hn))
theorem StOk.val {ord : List Str} {ws : List (Str × Int)} (h : StOk ord ws) {n : Str} (hn : n ∈ ord) : valV (kvsOf ws) (.inr n) = some (.int (numOf ws n)) := val_kvs (by rw [h.key]; exact hn)
/-- the edges as they are found: at turn i, j -/
structure EdgesIn (ord : List Str) (f : Str → Int) (i j : Nat) (es : List (Addr × Str × Str)) : Prop where
  nd : (es.map (·.2)).Nodup
  of : ∀ e ∈ es, ∃ i' j', ∃ (hi : i' < ord.length) (hj : j' < ord.length), j' < i' ∧ (i' < i ∨ (i' = i ∧ j' < j)) ∧ e.2 = eOf ord[i'] ord[j'] ∧ f ord[i'] ≠ f ord[j']
theorem EdgesIn.step {ord : List Str} {f : Str → Int} {i j i2 j2 : Nat} {es : List (Addr × Str × Str)} (h : EdgesIn ord f i j es) (c : i < i2 ∨ (i = i2 ∧ j ≤ j2)) : EdgesIn ord f i2 j2 es :=
  ⟨h.nd, fun e he => by
    obtain ⟨i', j', hi, hj, h1, h2, h3⟩ := h.of e he
    exact ⟨i', j', hi, hj, h1, by omega, h3⟩⟩
theorem EdgesIn.add {ord : List Str} {f : Str → Int} {i j : Nat} {es : List (Addr × Str × Str)} {t : Addr} (h : EdgesIn ord f i j es) (nd : ord.Nodup) (hij : j < i) (hi : i < ord.length) (hj : j < ord.length) (hf : f ord[i] ≠ f ord[j]) :
    EdgesIn ord f i (j + 1) (es ++ [(t, eOf ord[i] ord[j])]) := by
  have inj : ∀ {a b : Nat} (ha : a < ord.length) (hb : b < ord.length), ord[a] = ord[b] → a = b := by
    intro a b ha hb e
    have z := List.pairwise_iff_getElem.mp (List.nodup_iff_pairwise_ne.mp nd)
    rcases Nat.lt_trichotomy a b with h | h | h
    · exact absurd e (z a b ha hb h)
    · exact h
    · exact absurd e.symm (z b a hb ha h)
  refine ⟨?_, ?_⟩
  · rw [List.map_append, List.nodup_append]
    refine ⟨h.nd, by simp, ?_⟩
    intro x hx y hy e
    obtain ⟨z, hz, rfl⟩ := List.mem_map.mp hx
    have : y = eOf ord[i] ord[j] := by simpa using hy
    subst this
    obtain ⟨i', j', hi', hj', h1, h2, h3, _⟩ := h.of z hz
    rw [h3] at e
    rcases eOf_inj e with ⟨e1, e2⟩ | ⟨e1, e2⟩
    · have := inj _ _ e1
      have := inj _ _ e2
      omega
    · have := inj _ _ e1
      have := inj _ _ e2
      omega
  · intro e he
    rcases List.mem_append.mp he with he | he
    · obtain ⟨i', j', hi', hj', h1, h2, h3⟩ := h.of e he
      exact ⟨i', j', hi', hj', h1, by omega, h3⟩
    · have : e = (t, eOf ord[i] ord[j]) := by simpa using he
      subst this
      exact ⟨i, j, hi, hj, hij, by omega, rfl, hf⟩
/-- a graph: names upwards, edges upwards, each with its lower name first -/
structure GrOk (ns : List Str) (es : List (Str × Str)) : Prop where
  names : Names ns
  asc : AscE es
  lt : ∀ e ∈ es, sLt e.1 e.2
  mem : ∀ e ∈ es, e.1 ∈ ns ∧ e.2 ∈ ns
/-- the graph stands at g -/
structure GrAt (H : Hp) (g n e : Addr) (ns : List Str) (es : List (Addr × Str × Str)) : Prop where
  top : H g = some (.tup [.ref n, .ref e])
  nodes : H n = some (.tup (ns.map V.str))
  edges : H e = some (.tup (es.map fun x => V.ref x.1))
  pairs : ∀ x ∈ es, H x.1 = some (.tup [.str x.2.1, .str x.2.2])
theorem cutV_to {xs : List V} {i : Nat} (h : i ≤ xs.length) : cutV xs none (some (i : Int)) = xs.take i := by
  unfold cutV HT.sIx
  simp only [Nat.sub_zero, List.drop_zero]
  rw [if_neg (by omega), Int.toNat_natCast, Nat.min_eq_left h]
theorem map_at {α : Type} {f : α → V} {xs : List α} {i : Nat} {x : V} (h : (xs.map f)[i]? = some x) : ∃ hi : i < xs.length, x = f xs[i] := by
  rw [List.getElem?_map] at h
  by_cases hi : i < xs.length
  · rw [List.getElem?_eq_getElem hi] at h
    exact ⟨hi, (Option.some.inj h).symm⟩
  · rw [List.getElem?_eq_none (by omega)] at h
    cases h
theorem StOk.nil : StOk [] [] := ⟨rfl, fun _ h => nomatch h⟩
theorem StOk.add {ord : List Str} {ws : List (Str × Int)} {i : Nat} {v : Int} (h : StOk (ord.take i) ws) (hi : i < ord.length) (h0 : 0 ≤ v) (h1 : v < 3) : StOk (ord.take (i + 1)) (ws ++ [(ord[i], v)]) := by
  refine ⟨?_, ?_⟩
  · rw [List.map_append, h.key, List.take_succ, List.getElem?_eq_getElem hi]
    rfl
  · intro p hp
    rcases List.mem_append.mp hp with hp | hp
    · exact h.num p hp
    · have : p = (ord[i], v) := by simpa using hp
      subst this
      exact ⟨h0, h1⟩
theorem StOk.not {ord : List Str} {ws : List (Str × Int)} {i : Nat} (h : StOk (ord.take i) ws) (nd : ord.Nodup) (hi : i < ord.length) : ord[i] ∉ ws.map (·.1) := by
  rw [h.key]
  intro hm
  obtain ⟨j, hj, e⟩ := List.mem_iff_getElem.mp hm
  rw [List.length_take] at hj
  have e' : ord[j] = ord[i] := by rw [← e, List.getElem_take]
  have z := List.pairwise_iff_getElem.mp (List.nodup_iff_pairwise_ne.mp nd)
  exact z j i (by omega) hi (by omega) e'
theorem eOf_pair {a b : Str} : (if sLt a b then [V.str a, V.str b] else [V.str b, V.str a]) = [V.str (eOf a b).1, V.str (eOf a b).2] := by
  unfold eOf
  split <;> rfl
section
variable {K : PySem.W.Frag} {H : Hp} {Q : VK} {p q : Addr} {σ : L2.St}
theorem rd_dnew (h : ∀ d, H d = none → Q (.ref d) (upd H d (.dK []))) : tDNewK σ H Q := h
theorem rd_dset {kvs : List (Key × V)} {k : Key} {y v : V} {R : Hp → Prop} (hs : H p = some (.dK kvs)) (hy : y = kV k) (hl : kvs.length < 100000) (h : R (upd H p (.dK (putK kvs k v)))) :
    ∃ a H4, V.ref p = .ref a ∧ DPut H a y v H4 ∧ R H4 := ⟨p, _, rfl, .inl ⟨kvs, k, hs, hy, Nat.lt_of_lt_of_le hl (by decide), rfl⟩, h⟩
end
end U

/-! lifts: the plain laws -/
namespace U
open PySem PySem.Spec PyProof.Rows L2
/-- the dict of numbers over ns, in that order -/
abbrev kvF (ns : List Str) (f : Str → Int) : List (Key × V) := ns.map fun n => (Sum.inr n, V.int (f n))
def updf (f : Str → Int) (n : Str) (v : Int) : Str → Int := fun m => if m = n then v else f m
theorem kvF_congr {ns : List Str} {f g : Str → Int} (h : ∀ n ∈ ns, f n = g n) : kvF ns f = kvF ns g := List.map_congr_left fun n hn => by rw [h n hn]
theorem kvF_val : ∀ {ns : List Str} {f : Str → Int} {n : Str}, n ∈ ns → valV (kvF ns f) (.inr n) = some (.int (f n))
  | m :: ns, f, n, h => by
    by_cases e : n = m
    · subst e
      rw [kvF, List.map_cons, valV_pos rfl]
    · have e' : ¬ (Sum.inr m : Key) = Sum.inr n := fun z => e (Sum.inr.inj z).symm
      rw [kvF, List.map_cons, valV_neg e']
      refine kvF_val ?_
      rcases List.mem_cons.mp h with z | z
      · exact absurd z e
      · exact z
theorem kvF_none : ∀ {ns : List Str} {f : Str → Int} {n : Str}, n ∉ ns → valV (kvF ns f) (.inr n) = none
  | [], _, _, _ => rfl
  | m :: ns, f, n, h => by
    have e' : ¬ (Sum.inr m : Key) = Sum.inr n := fun z => h (by rw [← Sum.inr.inj z]; exact List.mem_cons_self)
    rw [kvF, List.map_cons, valV_neg e']
    exact kvF_none fun z => h (List.mem_cons_of_mem _ z)
theorem kvF_put {ns : List Str} {f : Str → Int} {n : Str} {v : Int} (h : n ∈ ns) : putK (kvF ns f) (.inr n) (.int v) = kvF ns (updf f n v) := by
  unfold putK
  rw [if_pos]
  · rw [kvF, kvF, List.map_map]
    refine List.map_congr_left fun m _ => ?_
    show (if (Sum.inr m : Key) = Sum.inr n then ((Sum.inr m : Key), V.int v) else (Sum.inr m, V.int (f m))) = (Sum.inr m, V.int (updf f n v m))
    unfold updf
    by_cases e : m = n
    · rw [if_pos (by rw [e]), if_pos e]
    · rw [if_neg (fun z => e (Sum.inr.inj z)), if_neg e]
  · rw [valV_any, kvF_val h]
    rfl
theorem kvF_new {ns : List Str} {f : Str → Int} {n : Str} {v : Int} (h : n ∉ ns) : putK (kvF ns f) (.inr n) (.int v) = kvF (ns ++ [n]) (updf f n v) := by
  rw [putK_new _ (kvF_none h), kvF, kvF, List.map_append]
  congr 1
  · refine List.map_congr_left fun m hm => ?_
    unfold updf
    rw [if_neg (fun e => h (by rw [← e]; exact hm))]
  · show [((Sum.inr n : Key), V.int v)] = [(Sum.inr n, V.int (updf f n v n))]
    unfold updf
    rw [if_pos rfl]
theorem kvs_F {ord : List Str} {ws : List (Str × Int)} (h : StOk ord ws) (nd : ord.Nodup) : kvsOf ws = kvF ord (numOf ws) := by
  obtain ⟨hk, _⟩ := h
  subst hk
  rw [kvF, List.map_map]
  refine List.map_congr_left fun p hp => ?_
  show ((Sum.inr p.1 : Key), V.int p.2) = (Sum.inr p.1, V.int (numOf ws p.1))
  have : (p.1, numOf ws p.1) ∈ ws := num_mem (List.mem_map_of_mem hp)
  congr 2
  -- one number a name
  have uniq : ∀ {ws : List (Str × Int)}, (ws.map (·.1)).Nodup → ∀ {x : Str} {a b : Int}, (x, a) ∈ ws → (x, b) ∈ ws → a = b := by
    intro ws
    induction ws with
    | nil => intro _ _ _ _ h; cases h
    | cons q ws ih =>
      intro nd x a b ha hb
      rw [List.map_cons, List.nodup_cons] at nd
      rcases List.mem_cons.mp ha with ea | ha <;> rcases List.mem_cons.mp hb with eb | hb
      · rw [← ea] at eb
        exact (Prod.mk.inj eb).2.symm
      · exact absurd (List.mem_map_of_mem (f := (·.1)) hb) (by rw [← ea] at nd; exact nd.1)
      · exact absurd (List.mem_map_of_mem (f := (·.1)) ha) (by rw [← eb] at nd; exact nd.1)
      · exact ih nd.2 ha hb
  exact uniq nd hp this

/-! ### neighbours, moves -/
def nbrF (es : List (Str × Str)) (x : Str) : List Str := es.flatMap fun e => (if e.1 = x then [e.2] else []) ++ (if e.2 = x then [e.1] else [])
theorem mem_nbrF {es : List (Str × Str)} {x z : Str} : z ∈ nbrF es x ↔ (x, z) ∈ es ∨ (z, x) ∈ es := by
  unfold nbrF
  rw [List.mem_flatMap]
  constructor
  · rintro ⟨e, he, h⟩
    rcases List.mem_append.mp h with h | h
    · split at h
      · rename_i c
        have : z = e.2 := by simpa using h
        subst this
        subst c
        exact .inl he
      · cases h
    · split at h
      · rename_i c
        have : z = e.1 := by simpa using h
        subst this
        subst c
        exact .inr he
      · cases h
  · rintro (h | h)
    · exact ⟨_, h, by simp⟩
    · exact ⟨_, h, by simp⟩
def freeB (es : List (Str × Str)) (f : Str → Int) (n : Str) (v : Int) : Bool := !decide (v ∈ (nbrF es n).map f ++ [f n])
def movesOf (es : List (Str × Str)) (f : Str → Int) (n : Str) : List (Str × Int) := (([0, 1, 2] : List Int).filter (freeB es f n)).map fun v => (n, v)
def movesF (ns : List Str) (es : List (Str × Str)) (f : Str → Int) (ps : List Str) : List (Str × Int) := ns.flatMap fun n => if n ∈ ps then [] else movesOf es f n
structure Legal (ns : List Str) (es : List (Str × Str)) (f : Str → Int) (ps : List Str) (m : Str × Int) : Prop where
  mem : m.1 ∈ ns
  pin : m.1 ∉ ps
  val : 0 ≤ m.2 ∧ m.2 < 3
  own : m.2 ≠ f m.1
  nbr : ∀ z, (m.1, z) ∈ es ∨ (z, m.1) ∈ es → m.2 ≠ f z
theorem legal_of {ns : List Str} {es : List (Str × Str)} {f : Str → Int} {ps : List Str} {m : Str × Int} (h : m ∈ movesF ns es f ps) : Legal ns es f ps m := by
  unfold movesF at h
  obtain ⟨n, hn, h⟩ := List.mem_flatMap.mp h
  split at h
  · cases h
  · rename_i hp
    unfold movesOf at h
    obtain ⟨v, hv, rfl⟩ := List.mem_map.mp h
    obtain ⟨h1, h2⟩ := List.mem_filter.mp hv
    unfold freeB at h2
    have h2 : v ∉ (nbrF es n).map f ++ [f n] := by simpa using h2
    have h3 : v = 0 ∨ v = 1 ∨ v = 2 := by simpa using h1
    refine ⟨hn, hp, by show 0 ≤ v ∧ v < 3; omega, fun e => h2 (List.mem_append_right _ (by rw [show v = f n from e]; exact List.mem_singleton_self _)), fun z hz e => h2 (List.mem_append_left _ ?_)⟩
    rw [show v = f z from e]
    exact List.mem_map_of_mem (mem_nbrF.mpr hz)
/-- one move after another -/
inductive Plays (ns : List Str) (es : List (Str × Str)) (ps : List Str) (f : Str → Int) : List (Str × Int) → (Str → Int) → Prop
  | nil : Plays ns es ps f [] f
  | snoc {ms : List (Str × Int)} {f' : Str → Int} {m : Str × Int} : Plays ns es ps f ms f' → Legal ns es f' ps m → Plays ns es ps f (ms ++ [m]) (updf f' m.1 m.2)
/-! ### counting -/
def dlt (d : Int) : Int := if d % 3 = 0 then 0 else if d % 3 = 1 then 1 else -1
def slp (f : Str → Int) (a b : Str) : Int := if (f b - f a) % 3 = 1 then 1 else -1
/-- the state and the numbers behind the moves -/
def countF (f h : Str → Int) : List (Str × Int) → (Str → Int) × (Str → Int)
  | [] => (f, h)
  | (n, v) :: r => countF (updf f n v) (updf h n (h n + dlt (f n - v))) r
theorem countF_snoc {n : Str} {v : Int} : ∀ {ms : List (Str × Int)} {f h : Str → Int}, countF f h (ms ++ [(n, v)]) = (updf (countF f h ms).1 n v, updf (countF f h ms).2 n ((countF f h ms).2 n + dlt ((countF f h ms).1 n - v)))
  | [], _, _ => rfl
  | (m, w) :: ms, _, _ => by
    rw [List.cons_append, countF, countF_snoc, countF]
structure EsOk (ns : List Str) (es : List (Str × Str)) (f : Str → Int) : Prop where
  ne : ∀ e ∈ es, e.1 ≠ e.2
  mem : ∀ e ∈ es, e.1 ∈ ns ∧ e.2 ∈ ns
  tri : ∀ n ∈ ns, 0 ≤ f n ∧ f n < 3
  pro : ∀ e ∈ es, f e.1 ≠ f e.2
theorem slp_pm (f : Str → Int) (a b : Str) : slp f a b = 1 ∨ slp f a b = -1 := by
  unfold slp
  split
  · exact .inl rfl
  · exact .inr rfl
theorem move_keeps {ns : List Str} {es : List (Str × Str)} {ps : List Str} {f0 f h : Str → Int} {m : Str × Int} (ok : EsOk ns es f) (l : Legal ns es f ps m) (t : ∀ e ∈ es, slp f0 e.1 e.2 - slp f e.1 e.2 = 2 * (h e.1 - h e.2)) :
    EsOk ns es (updf f m.1 m.2) ∧ ∀ e ∈ es, slp f0 e.1 e.2 - slp (updf f m.1 m.2) e.1 e.2 = 2 * (updf h m.1 (h m.1 + dlt (f m.1 - m.2)) e.1 - updf h m.1 (h m.1 + dlt (f m.1 - m.2)) e.2) := by
  obtain ⟨n, v⟩ := m
  have hv := l.val
  have ho := l.own
  have hm := l.mem
  simp only at hv ho hm
  refine ⟨⟨ok.ne, ok.mem, fun x hx => ?_, fun e he => ?_⟩, fun e he => ?_⟩
  · show 0 ≤ updf f n v x ∧ updf f n v x < 3
    unfold updf
    split
    · exact hv
    · exact ok.tri x hx
  · show updf f n v e.1 ≠ updf f n v e.2
    have hne := ok.ne e he
    have hp := ok.pro e he
    unfold updf
    by_cases h1 : e.1 = n
    · rw [if_pos h1, if_neg (fun z => hne (h1.trans z.symm))]
      exact l.nbr e.2 (.inl (by show (n, e.2) ∈ es; rw [← h1]; exact he))
    · by_cases h2 : e.2 = n
      · rw [if_neg h1, if_pos h2]
        exact Ne.symm (l.nbr e.1 (.inr (by show (e.1, n) ∈ es; rw [← h2]; exact he)))
      · rw [if_neg h1, if_neg h2]
        exact hp
  · show slp f0 e.1 e.2 - slp (updf f n v) e.1 e.2 = 2 * (updf h n (h n + dlt (f n - v)) e.1 - updf h n (h n + dlt (f n - v)) e.2)
    have hne := ok.ne e he
    have hp := ok.pro e he
    have t1 := ok.tri e.1 (ok.mem e he).1
    have t2 := ok.tri e.2 (ok.mem e he).2
    have te := t e he
    by_cases h1 : e.1 = n
    · have h2 : ¬ e.2 = n := fun z => hne (h1.trans z.symm)
      have nb := l.nbr e.2 (.inl (by show (n, e.2) ∈ es; rw [← h1]; exact he))
      simp only at nb
      have e1 : updf f n v e.1 = v := if_pos h1
      have e2 : updf f n v e.2 = f e.2 := if_neg h2
      have e3 : updf h n (h n + dlt (f n - v)) e.1 = h e.1 + dlt (f e.1 - v) := by rw [h1]; exact if_pos rfl
      have e4 : updf h n (h n + dlt (f n - v)) e.2 = h e.2 := if_neg h2
      rw [e3, e4]
      rw [← h1] at ho
      unfold slp dlt at *
      rw [e1, e2]
      generalize f e.1 = x at *
      generalize f e.2 = y at *
      generalize h e.1 = hx at *
      generalize h e.2 = hy at *
      generalize (if (f0 e.2 - f0 e.1) % 3 = 1 then (1 : Int) else -1) = s0 at *
      have : hx - hy + hx - hy = 2 * (hx - hy) := by omega
      split at te <;> split <;> split <;> try split
      all_goals omega
    · by_cases h2 : e.2 = n
      · have nb := l.nbr e.1 (.inr (by show (e.1, n) ∈ es; rw [← h2]; exact he))
        simp only at nb
        have e1 : updf f n v e.1 = f e.1 := if_neg h1
        have e2 : updf f n v e.2 = v := if_pos h2
        have e3 : updf h n (h n + dlt (f n - v)) e.1 = h e.1 := if_neg h1
        have e4 : updf h n (h n + dlt (f n - v)) e.2 = h e.2 + dlt (f e.2 - v) := by rw [h2]; exact if_pos rfl
        rw [e3, e4]
        rw [← h2] at ho
        unfold slp dlt at *
        rw [e1, e2]
        generalize f e.1 = x at *
        generalize f e.2 = y at *
        generalize h e.1 = hx at *
        generalize h e.2 = hy at *
        generalize (if (f0 e.2 - f0 e.1) % 3 = 1 then (1 : Int) else -1) = s0 at *
        split at te <;> split <;> split <;> try split
        all_goals omega
      · have e1 : updf f n v e.1 = f e.1 := if_neg h1
        have e2 : updf f n v e.2 = f e.2 := if_neg h2
        have e3 : updf h n (h n + dlt (f n - v)) e.1 = h e.1 := if_neg h1
        have e4 : updf h n (h n + dlt (f n - v)) e.2 = h e.2 := if_neg h2
        rw [e3, e4, ← te]
        unfold slp
        rw [e1, e2]
theorem plays_ok {ns : List Str} {es : List (Str × Str)} {ps : List Str} {f0 : Str → Int} (ok : EsOk ns es f0) {ms : List (Str × Int)} {f : Str → Int} (p : Plays ns es ps f0 ms f) :
    (countF f0 (fun _ => 0) ms).1 = f ∧ EsOk ns es f ∧ ∀ e ∈ es, slp f0 e.1 e.2 - slp f e.1 e.2 = 2 * ((countF f0 (fun _ => 0) ms).2 e.1 - (countF f0 (fun _ => 0) ms).2 e.2) := by
  induction p with
  | nil => exact ⟨rfl, ok, fun e _ => by show slp f0 e.1 e.2 - slp f0 e.1 e.2 = 2 * ((0 : Int) - 0); omega⟩
  | @snoc ms f' m p l ih =>
    obtain ⟨i1, i2, i3⟩ := ih
    obtain ⟨n, v⟩ := m
    rw [countF_snoc, i1]
    obtain ⟨k1, k2⟩ := move_keeps i2 l i3
    exact ⟨rfl, k1, k2⟩
/-! ### fitting -/
def fitB (f h : Str → Int) (a b : Str) : Bool := if slp f a b = 1 then decide (0 ≤ h a - h b) && decide (h a - h b ≤ 1) else decide (0 ≤ h b - h a) && decide (h b - h a ≤ 1)
def Fits (es : List (Str × Str)) (f h : Str → Int) : Prop := ∀ e ∈ es, fitB f h e.1 e.2 = true
theorem fit_iff {f h : Str → Int} {a b : Str} : fitB f h a b = true ↔ (if slp f a b = 1 then 0 ≤ h a - h b ∧ h a - h b ≤ 1 else 0 ≤ h b - h a ∧ h b - h a ≤ 1) := by
  unfold fitB
  split <;> simp
theorem fits_count {ns : List Str} {es : List (Str × Str)} {ps : List Str} {f0 : Str → Int} (ok : EsOk ns es f0) {ms : List (Str × Int)} {f : Str → Int} (p : Plays ns es ps f0 ms f) : Fits es f0 (countF f0 (fun _ => 0) ms).2 := by
  intro e he
  have t := (plays_ok ok p).2.2 e he
  rw [fit_iff]
  have h1 := slp_pm f e.1 e.2
  have h0 := slp_pm f0 e.1 e.2
  split <;> omega
theorem fits_min {es : List (Str × Str)} {f h k : Str → Int} (a : Fits es f h) (b : Fits es f k) : Fits es f fun n => min (h n) (k n) := by
  intro e he
  have x := fit_iff.mp (a e he)
  have y := fit_iff.mp (b e he)
  rw [fit_iff]
  split
  · rename_i c
    rw [if_pos c] at x y
    omega
  · rename_i c
    rw [if_neg c] at x y
    omega
theorem fits_max {es : List (Str × Str)} {f h k : Str → Int} (a : Fits es f h) (b : Fits es f k) : Fits es f fun n => max (h n) (k n) := by
  intro e he
  have x := fit_iff.mp (a e he)
  have y := fit_iff.mp (b e he)
  rw [fit_iff]
  split
  · rename_i c
    rw [if_pos c] at x y
    omega
  · rename_i c
    rw [if_neg c] at x y
    omega
end U

/-! paths found level by level: the plain law -/
namespace U
open PySem PySem.Spec PyProof.Rows L2
/-- nodes found, each with its path, in the order in which they are found -/
abbrev keysF (kp : List (Str × List Str)) : List Str := kp.map (·.1)
def addF (ok : Str → Str → Bool) (c : Str × List Str) (kp : List (Str × List Str)) (o : Str) : List (Str × List Str) := if o ∉ keysF kp ∧ ok c.1 o = true then kp ++ [(o, c.2 ++ [o])] else kp
def addsF (ok : Str → Str → Bool) (c : Str × List Str) (os : List Str) (kp : List (Str × List Str)) : List (Str × List Str) := os.foldl (addF ok c) kp
def stF (adj : Str → List Str) (ok : Str → Str → Bool) (root : Str) : Nat → List (Str × List Str)
  | 0 => [(root, [root])]
  | i + 1 => match (stF adj ok root i)[i]? with
    | none => stF adj ok root i
    | some c => addsF ok c (adj c.1) (stF adj ok root i)
def pathsF (adj : Str → List Str) (ok : Str → Str → Bool) (root : Str) : List (Str × List Str) := stF adj ok root 1000
inductive Reach (adj : Str → List Str) (ok : Str → Str → Bool) (root : Str) : Str → Prop
  | refl : Reach adj ok root root
  | step {a b : Str} : Reach adj ok root a → b ∈ adj a → ok a b = true → Reach adj ok root b
theorem Reach.trans {adj : Str → List Str} {ok : Str → Str → Bool} {a b c : Str} (h : Reach adj ok a b) (k : Reach adj ok b c) : Reach adj ok a c := by
  induction k with
  | refl => exact h
  | step _ m o ih => exact .step ih m o
section
variable {adj : Str → List Str} {ok : Str → Str → Bool} {root : Str}
theorem addF_cases (c : Str × List Str) (kp : List (Str × List Str)) (o : Str) : (addF ok c kp o = kp ∧ (o ∈ keysF kp ∨ ok c.1 o = false)) ∨ (addF ok c kp o = kp ++ [(o, c.2 ++ [o])] ∧ o ∉ keysF kp ∧ ok c.1 o = true) := by
  unfold addF
  by_cases h : o ∉ keysF kp ∧ ok c.1 o = true
  · rw [if_pos h]
    exact .inr ⟨rfl, h⟩
  · rw [if_neg h]
    refine .inl ⟨rfl, ?_⟩
    by_cases m : o ∈ keysF kp
    · exact .inl m
    · refine .inr ?_
      cases e : ok c.1 o with
      | false => rfl
      | true => exact (h ⟨m, e⟩).elim
theorem addsF_snoc {c : Str × List Str} {os : List Str} {o : Str} {kp : List (Str × List Str)} : addsF ok c (os ++ [o]) kp = addF ok c (addsF ok c os kp) o := by
  unfold addsF
  rw [List.foldl_append]
  rfl
theorem addsF_pre {c : Str × List Str} : ∀ {os : List Str} {kp : List (Str × List Str)}, ∃ r, addsF ok c os kp = kp ++ r
  | [], kp => ⟨[], (List.append_nil kp).symm⟩
  | o :: os, kp => by
    obtain ⟨r, hr⟩ := addsF_pre (c := c) (os := os) (kp := addF ok c kp o)
    have e : addsF ok c (o :: os) kp = addsF ok c os (addF ok c kp o) := rfl
    rw [e, hr]
    rcases addF_cases c kp o with ⟨h, _⟩ | ⟨h, _⟩
    · rw [h]
      exact ⟨r, rfl⟩
    · rw [h, List.append_assoc]
      exact ⟨_, rfl⟩
/-- what is added: each a neighbour that may be gone to -/
theorem addsF_mem {c : Str × List Str} : ∀ {os : List Str} {kp : List (Str × List Str)} {x : Str × List Str}, x ∈ addsF ok c os kp → x ∈ kp ∨ (x.1 ∈ os ∧ ok c.1 x.1 = true ∧ x.2 = c.2 ++ [x.1])
  | [], kp, x, h => .inl h
  | o :: os, kp, x, h => by
    have e : addsF ok c (o :: os) kp = addsF ok c os (addF ok c kp o) := rfl
    rw [e] at h
    rcases addsF_mem h with h | ⟨h1, h2, h3⟩
    · rcases addF_cases c kp o with ⟨e, _⟩ | ⟨e, _, k⟩
      · rw [e] at h
        exact .inl h
      · rw [e] at h
        rcases List.mem_append.mp h with h | h
        · exact .inl h
        · rw [List.mem_singleton] at h
          subst h
          exact .inr ⟨List.mem_cons_self, k, rfl⟩
    · exact .inr ⟨List.mem_cons_of_mem _ h1, h2, h3⟩
theorem addsF_all {c : Str × List Str} : ∀ {os : List Str} {kp : List (Str × List Str)} {o : Str}, o ∈ os → ok c.1 o = true → o ∈ keysF (addsF ok c os kp)
  | o' :: os, kp, o, h, k => by
    have e : addsF ok c (o' :: os) kp = addsF ok c os (addF ok c kp o') := rfl
    rw [e]
    rcases List.mem_cons.mp h with rfl | h
    · obtain ⟨r, hr⟩ := addsF_pre (ok := ok) (c := c) (os := os) (kp := addF ok c kp o)
      rw [hr, keysF, List.map_append]
      refine List.mem_append_left _ ?_
      rcases addF_cases c kp o with ⟨e, m⟩ | ⟨e, _⟩
      · rw [e]
        rcases m with m | m
        · exact m
        · rw [k] at m
          cases m
      · rw [e, List.map_append]
        exact List.mem_append_right _ List.mem_cons_self
    · exact addsF_all h k
theorem addF_nodup {c : Str × List Str} {kp : List (Str × List Str)} {o : Str} (h : (keysF kp).Nodup) : (keysF (addF ok c kp o)).Nodup := by
  rcases addF_cases c kp o with ⟨e, _⟩ | ⟨e, m, _⟩
  · rw [e]
    exact h
  · rw [e, keysF, List.map_append, List.nodup_append]
    refine ⟨h, by simp, fun a ha b hb z => ?_⟩
    have : b = o := by simpa using hb
    rw [z, this] at ha
    exact m ha
theorem addsF_nodup {c : Str × List Str} : ∀ {os : List Str} {kp : List (Str × List Str)}, (keysF kp).Nodup → (keysF (addsF ok c os kp)).Nodup
  | [], _, h => h
  | o :: os, kp, h => addsF_nodup (os := os) (addF_nodup h)
theorem stF_at {i : Nat} {c : Str × List Str} (h : (stF adj ok root i)[i]? = some c) : stF adj ok root (i + 1) = addsF ok c (adj c.1) (stF adj ok root i) := by
  rw [stF, h]
theorem stF_end {i : Nat} (h : (stF adj ok root i)[i]? = none) : stF adj ok root (i + 1) = stF adj ok root i := by
  rw [stF, h]
theorem stF_pre (i : Nat) : ∃ r, stF adj ok root (i + 1) = stF adj ok root i ++ r := by
  cases h : (stF adj ok root i)[i]? with
  | none => rw [stF_end h]; exact ⟨[], (List.append_nil _).symm⟩
  | some c => rw [stF_at h]; exact addsF_pre
theorem stF_pre' (i : Nat) : ∀ k, ∃ r, stF adj ok root (i + k) = stF adj ok root i ++ r
  | 0 => ⟨[], (List.append_nil _).symm⟩
  | k + 1 => by
    obtain ⟨r, hr⟩ := stF_pre' i k
    obtain ⟨r2, h2⟩ := stF_pre (adj := adj) (ok := ok) (root := root) (i + k)
    exact ⟨r ++ r2, by rw [← Nat.add_assoc, h2, hr, List.append_assoc]⟩
theorem stF_stop {i : Nat} (h : (stF adj ok root i).length ≤ i) : ∀ k, stF adj ok root (i + k) = stF adj ok root i
  | 0 => rfl
  | k + 1 => by
    have e := stF_stop h k
    rw [← Nat.add_assoc, stF_end (by rw [e]; exact List.getElem?_eq_none (by omega)), e]
theorem stF_nodup : ∀ i, (keysF (stF adj ok root i)).Nodup
  | 0 => by simp [stF]
  | i + 1 => by
    cases h : (stF adj ok root i)[i]? with
    | none => rw [stF_end h]; exact stF_nodup i
    | some c => rw [stF_at h]; exact addsF_nodup (stF_nodup i)
theorem stF_root (i : Nat) : ∃ r, stF adj ok root i = (root, [root]) :: r := by
  obtain ⟨r, h⟩ := stF_pre' (adj := adj) (ok := ok) (root := root) 0 i
  rw [Nat.zero_add] at h
  exact ⟨r, h⟩
/-- a path: from the first to the last, each step to a neighbour that may be gone to -/
inductive PathTo (adj : Str → List Str) (ok : Str → Str → Bool) (root : Str) : Str → List Str → Prop
  | one : PathTo adj ok root root [root]
  | snoc {a b : Str} {p : List Str} : PathTo adj ok root a p → b ∈ adj a → ok a b = true → PathTo adj ok root b (p ++ [b])
theorem PathTo.reach {a : Str} {p : List Str} (h : PathTo adj ok root a p) : Reach adj ok root a := by
  induction h with
  | one => exact .refl
  | snoc _ m o ih => exact .step ih m o
theorem stF_path : ∀ i x, x ∈ stF adj ok root i → PathTo adj ok root x.1 x.2
  | 0, x, h => by
    rw [stF, List.mem_singleton] at h
    subst h
    exact .one
  | i + 1, x, h => by
    cases e : (stF adj ok root i)[i]? with
    | none => rw [stF_end e] at h; exact stF_path i x h
    | some c =>
      rw [stF_at e] at h
      rcases addsF_mem h with h | ⟨h1, h2, h3⟩
      · exact stF_path i x h
      · have := stF_path i c (List.mem_of_getElem? e)
        rw [h3]
        exact .snoc this h1 h2
theorem stF_reach {i : Nat} {x : Str} (h : x ∈ keysF (stF adj ok root i)) : Reach adj ok root x := by
  obtain ⟨y, hy, rfl⟩ := List.mem_map.mp h
  exact (stF_path i y hy).reach
/-- those whose turn has been have their neighbours found -/
theorem stF_closed : ∀ (i j : Nat) (c : Str × List Str), j < i → (stF adj ok root i)[j]? = some c → ∀ b ∈ adj c.1, ok c.1 b = true → b ∈ keysF (stF adj ok root i)
  | i + 1, j, c, hj, hc, b, hb, hk => by
    cases e : (stF adj ok root i)[i]? with
    | none =>
      rw [stF_end e] at hc ⊢
      have : j < (stF adj ok root i).length := (List.getElem?_eq_some_iff.mp hc).1
      have := List.getElem?_eq_none_iff.mp e
      exact stF_closed i j c (by omega) hc b hb hk
    | some d =>
      have li : i < (stF adj ok root i).length := (List.getElem?_eq_some_iff.mp e).1
      obtain ⟨r, hr⟩ := stF_pre (adj := adj) (ok := ok) (root := root) i
      have hc2 : (stF adj ok root i)[j]? = some c := by
        rw [hr, List.getElem?_append_left (by omega)] at hc
        exact hc
      by_cases q : j < i
      · have := stF_closed i j c q hc2 b hb hk
        rw [hr, keysF, List.map_append]
        exact List.mem_append_left _ this
      · have : j = i := by omega
        subst this
        rw [hc2] at e
        cases e
        rw [stF_at hc2]
        exact addsF_all hb hk
theorem stF_all {i : Nat} (h : (stF adj ok root i).length ≤ i) {x : Str} (r : Reach adj ok root x) : x ∈ keysF (stF adj ok root i) := by
  induction r with
  | refl =>
    obtain ⟨r, e⟩ := stF_root (adj := adj) (ok := ok) (root := root) i
    rw [e]
    exact List.mem_cons_self
  | step _ m o ih =>
    obtain ⟨y, hy, rfl⟩ := List.mem_map.mp ih
    obtain ⟨j, hj, e⟩ := List.mem_iff_getElem.mp hy
    exact stF_closed i j y (by omega) (by rw [List.getElem?_eq_getElem hj, e]) _ m o
/-- nodes of ns alone -/
theorem reach_mem {ns : List Str} (cl : ∀ x ∈ ns, ∀ y ∈ adj x, y ∈ ns) (h0 : root ∈ ns) {x : Str} (r : Reach adj ok root x) : x ∈ ns := by
  induction r with
  | refl => exact h0
  | step _ m _ ih => exact cl _ ih _ m
theorem nodup_len {α : Type} [DecidableEq α] : ∀ {xs ys : List α}, xs.Nodup → (∀ x ∈ xs, x ∈ ys) → xs.length ≤ ys.length
  | [], _, _, _ => Nat.zero_le _
  | x :: xs, ys, nd, h => by
    rw [List.nodup_cons] at nd
    have hx := h x List.mem_cons_self
    have := nodup_len (xs := xs) (ys := ys.erase x) nd.2 fun y hy => by
      refine (List.mem_erase_of_ne ?_).mpr (h y (List.mem_cons_of_mem _ hy))
      rintro rfl
      exact nd.1 hy
    rw [List.length_erase_of_mem hx] at this
    have : 0 < ys.length := List.length_pos_of_mem hx
    rw [List.length_cons]
    omega
theorem stF_len {ns : List Str} (cl : ∀ x ∈ ns, ∀ y ∈ adj x, y ∈ ns) (h0 : root ∈ ns) (i : Nat) : (stF adj ok root i).length ≤ ns.length := by
  have := nodup_len (stF_nodup (adj := adj) (ok := ok) (root := root) i) (ys := ns) fun x hx => reach_mem cl h0 (stF_reach hx)
  rw [List.length_map] at this
  exact this
theorem addsF_len {c : Str × List Str} : ∀ {os : List Str} {kp : List (Str × List Str)}, (addsF ok c os kp).length ≤ kp.length + os.length
  | [], kp => Nat.le_refl _
  | o :: os, kp => by
    have e : addsF ok c (o :: os) kp = addsF ok c os (addF ok c kp o) := rfl
    have := addsF_len (c := c) (os := os) (kp := addF ok c kp o)
    rw [e, List.length_cons]
    rcases addF_cases c kp o with ⟨z, _⟩ | ⟨z, _⟩ <;> rw [z] at this
    · rw [z]
      omega
    · rw [z]
      rw [List.length_append, List.length_singleton] at this
      omega
theorem stF_plen : ∀ i x, x ∈ stF adj ok root i → x.2.length ≤ i + 1
  | 0, x, h => by
    rw [stF, List.mem_singleton] at h
    subst h
    exact Nat.le_refl _
  | i + 1, x, h => by
    cases e : (stF adj ok root i)[i]? with
    | none =>
      rw [stF_end e] at h
      have := stF_plen i x h
      omega
    | some c =>
      rw [stF_at e] at h
      rcases addsF_mem h with h | ⟨h1, h2, h3⟩
      · have := stF_plen i x h
        omega
      · have := stF_plen i c (List.mem_of_getElem? e)
        rw [h3, List.length_append, List.length_singleton]
        omega
/-- where the loop ends, all is found -/
theorem stF_done {i : Nat} (h : (stF adj ok root i).length ≤ i) (hi : i ≤ 1000) : stF adj ok root i = pathsF adj ok root := by
  have e := stF_stop h (1000 - i)
  rw [Nat.add_sub_cancel' hi] at e
  exact e.symm
end

/-! ### neighbours in order -/
def sortS (xs : List Str) : List Str := xs.mergeSort fun a b => !decide (sLt b a)
theorem sortS_perm (xs : List Str) : (sortS xs).Perm xs := List.mergeSort_perm xs _
theorem nlt_trans {a b c : Str} (h : ¬ sLt b a) (k : ¬ sLt c b) : ¬ sLt c a := by
  intro z
  rcases sLt_tri a b with t | t | t
  · exact k (sLt_trans z t)
  · subst t
    exact k z
  · exact h t
theorem sortS_pw (xs : List Str) : (sortS xs).Pairwise fun a b => ¬ sLt b a := by
  have := List.pairwise_mergeSort (le := fun a b : Str => !decide (sLt b a)) (fun a b c h k => by
    simp only [Bool.not_eq_true', decide_eq_false_iff_not] at h k ⊢
    exact nlt_trans h k) (fun a b => by
    rw [Bool.or_eq_true]
    simp only [Bool.not_eq_true', decide_eq_false_iff_not]
    by_cases z : sLt b a
    · exact .inr (sLt_asymm z)
    · exact .inl z) xs
  exact this.imp fun h => by
    simp only [Bool.not_eq_true', decide_eq_false_iff_not] at h
    exact h
theorem sortS_asc {xs : List Str} (nd : xs.Nodup) : Asc (sortS xs) := asc_of_sorted (sortS_pw xs) ((sortS_perm xs).nodup_iff.mpr nd)
theorem sort_uniq {xs ys : List Str} (p : ys.Perm xs) (s : ys.Pairwise fun a b => ¬ sLt b a) (nd : xs.Nodup) : ys = sortS xs :=
  asc_unique (asc_of_sorted s (p.nodup_iff.mpr nd)) (sortS_asc nd) fun z => by rw [p.mem_iff, (sortS_perm xs).mem_iff]
theorem nbrF_nodup {ns : List Str} {es : List (Str × Str)} (ok : GrOk ns es) (x : Str) : (nbrF es x).Nodup := by
  unfold nbrF
  rw [List.nodup_iff_pairwise_ne, List.pairwise_flatMap]
  have m : ∀ {e : Str × Str} {z : Str}, z ∈ (if e.1 = x then [e.2] else []) ++ (if e.2 = x then [e.1] else []) → (e.1 = x ∧ z = e.2) ∨ (e.2 = x ∧ z = e.1) := by
    intro e z h
    rcases List.mem_append.mp h with h | h
    · split at h
      · rename_i c
        exact .inl ⟨c, by simpa using h⟩
      · cases h
    · split at h
      · rename_i c
        exact .inr ⟨c, by simpa using h⟩
      · cases h
  refine ⟨fun e he => ?_, ?_⟩
  · by_cases c : e.1 = x
    · have c2 : ¬ e.2 = x := fun z => by
        have := ok.lt e he
        rw [c, z] at this
        exact sLt_irrefl _ this
      rw [if_pos c, if_neg c2]
      simp
    · rw [if_neg c]
      split <;> simp
  · have nd := List.nodup_iff_pairwise_ne.mp (ascE_nodup ok.asc)
    refine List.Pairwise.imp_of_mem (fun {e d} he hd ne => ?_) nd
    intro z hz y hy zy
    subst zy
    have le := ok.lt e he
    have ld := ok.lt d hd
    rcases m hz with ⟨a1, a2⟩ | ⟨a1, a2⟩ <;> rcases m hy with ⟨b1, b2⟩ | ⟨b1, b2⟩
    · exact ne (Prod.ext (a1.trans b1.symm) (a2.symm.trans b2))
    · rw [a1, ← a2] at le
      rw [b1, ← b2] at ld
      exact sLt_asymm le ld
    · rw [a1, ← a2] at le
      rw [b1, ← b2] at ld
      exact sLt_asymm le ld
    · exact ne (Prod.ext (a2.symm.trans b2) (a1.trans b1.symm))
def nbS (es : List (Str × Str)) (x : Str) : List Str := sortS (nbrF es x)
theorem nbS_mem {es : List (Str × Str)} {x z : Str} : z ∈ nbS es x ↔ (x, z) ∈ es ∨ (z, x) ∈ es := by
  unfold nbS
  rw [(sortS_perm _).mem_iff]
  exact mem_nbrF
theorem nbS_of {ns : List Str} {es : List (Str × Str)} {x : Str} {ys : List Str} (ok : GrOk ns es) (p : ys.Perm (nbrF es x)) (s : ys.Pairwise fun a b => ¬ sLt b a) : ys = nbS es x := sort_uniq p s (nbrF_nodup ok x)
theorem nbS_in {ns : List Str} {es : List (Str × Str)} (ok : GrOk ns es) {x y : Str} (h : y ∈ nbS es x) : y ∈ ns := by
  rcases nbS_mem.mp h with h | h
  · exact (ok.mem _ h).2
  · exact (ok.mem _ h).1
end U

/-! medians, distances -/
namespace U
open PySem PySem.Spec PyProof.Rows L2
/-- the lower median -/
def IsMed (xs : List Int) (m : Int) : Prop := ∃ ys : List Int, ys.Perm xs ∧ ys.Pairwise (fun a b => a ≤ b) ∧ ys[(xs.length - 1) / 2]? = some m
theorem countP_all {p : Int → Bool} : ∀ {xs : List Int}, (∀ x ∈ xs, p x = true) → xs.countP p = xs.length := fun h => List.countP_eq_length.mpr h
theorem countP_zero {p : Int → Bool} {xs : List Int} (h : ∀ x ∈ xs, p x = false) : xs.countP p = 0 := List.countP_eq_zero.mpr fun x hx => by rw [h x hx]; exact Bool.false_ne_true
structure Cnt (xs : List Int) (m : Int) : Prop where
  le : (xs.length - 1) / 2 + 1 ≤ xs.countP fun a => decide (a ≤ m)
  lt : xs.countP (fun a => decide (a < m)) ≤ (xs.length - 1) / 2
theorem med_cnt {xs : List Int} {m : Int} (h : IsMed xs m) : Cnt xs m := by
  obtain ⟨ys, pm, srt, hk⟩ := h
  have hl := pm.length_eq
  rw [← hl] at hk
  obtain ⟨hlt, e⟩ := List.getElem?_eq_some_iff.mp hk
  have sg := List.pairwise_iff_getElem.mp srt
  have cp : ∀ p : Int → Bool, xs.countP p = ys.countP p := fun p => (pm.countP_eq p).symm
  constructor
  · rw [cp, ← hl]
    have : (ys.take ((ys.length - 1) / 2 + 1)).countP (fun a => decide (a ≤ m)) = (ys.take ((ys.length - 1) / 2 + 1)).length := countP_all fun x hx => by
      obtain ⟨j, hj, rfl⟩ := List.mem_iff_getElem.mp hx
      rw [List.length_take] at hj
      rw [List.getElem_take, decide_eq_true_eq, ← e]
      rcases Nat.lt_or_ge j ((ys.length - 1) / 2) with c | c
      · exact sg _ _ _ _ c
      · have : j = (ys.length - 1) / 2 := by omega
        subst this
        exact Int.le_refl _
    have h2 : ys.countP (fun a => decide (a ≤ m)) = (ys.take ((ys.length - 1) / 2 + 1)).countP (fun a => decide (a ≤ m)) + (ys.drop ((ys.length - 1) / 2 + 1)).countP (fun a => decide (a ≤ m)) := by
      rw [← List.countP_append, List.take_append_drop]
    rw [h2, this, List.length_take]
    omega
  · rw [cp, ← hl]
    have : (ys.drop ((ys.length - 1) / 2)).countP (fun a => decide (a < m)) = 0 := countP_zero fun x hx => by
      obtain ⟨j, hj, rfl⟩ := List.mem_iff_getElem.mp hx
      rw [List.length_drop] at hj
      rw [List.getElem_drop, decide_eq_false_iff_not, ← e]
      rcases Nat.eq_zero_or_pos j with c | c
      · subst c
        exact Int.lt_irrefl _
      · have := sg ((ys.length - 1) / 2) ((ys.length - 1) / 2 + j) hlt (by omega) (by omega)
        omega
    have h2 : ys.countP (fun a => decide (a < m)) = (ys.take ((ys.length - 1) / 2)).countP (fun a => decide (a < m)) + (ys.drop ((ys.length - 1) / 2)).countP (fun a => decide (a < m)) := by
      rw [← List.countP_append, List.take_append_drop]
    rw [h2, this]
    have := List.countP_le_length (p := fun a => decide (a < m)) (l := ys.take ((ys.length - 1) / 2))
    rw [List.length_take] at this
    omega
theorem countP_map_le {α : Type} {f g : α → Int} {p q : Int → Bool} : ∀ {hs : List α}, (∀ h ∈ hs, p (f h) = true → q (g h) = true) → (hs.map f).countP p ≤ (hs.map g).countP q
  | [], _ => by simp
  | h :: hs, k => by
    rw [List.map_cons, List.map_cons, List.countP_cons, List.countP_cons]
    have ih := countP_map_le (f := f) (g := g) (p := p) (q := q) (hs := hs) fun x hx => k x (List.mem_cons_of_mem _ hx)
    have := k h List.mem_cons_self
    by_cases c : p (f h) = true
    · rw [if_pos c, if_pos (this c)]
      omega
    · rw [if_neg c]
      omega
theorem med_fit {α : Type} {hs : List α} {f g : α → Int} {m n : Int} (hm : IsMed (hs.map f) m) (hn : IsMed (hs.map g) n) (h : ∀ x ∈ hs, 0 ≤ f x - g x ∧ f x - g x ≤ 1) : 0 ≤ m - n ∧ m - n ≤ 1 := by
  obtain ⟨a1, a2⟩ := med_cnt hm
  obtain ⟨b1, b2⟩ := med_cnt hn
  rw [List.length_map] at a1 a2 b1 b2
  constructor
  · by_cases c : m < n
    · have := countP_map_le (f := f) (g := g) (p := fun a => decide (a ≤ m)) (q := fun a => decide (a < n)) (hs := hs) fun x hx e => by
        have := h x hx
        simp only [decide_eq_true_eq] at e ⊢
        omega
      omega
    · omega
  · by_cases c : n + 1 < m
    · have := countP_map_le (f := g) (g := f) (p := fun a => decide (a ≤ n)) (q := fun a => decide (a < m)) (hs := hs) fun x hx e => by
        have := h x hx
        simp only [decide_eq_true_eq] at e ⊢
        omega
      omega
    · omega
theorem fits_med {es : List (Str × Str)} {f k : Str → Int} {hs : List (Str → Int)} (a : ∀ h ∈ hs, Fits es f h) (m : ∀ e ∈ es, IsMed (hs.map fun h => h e.1) (k e.1) ∧ IsMed (hs.map fun h => h e.2) (k e.2)) : Fits es f k := by
  intro e he
  rw [fit_iff]
  split
  · rename_i c
    refine med_fit (m e he).1 (m e he).2 fun h hh => ?_
    have x := fit_iff.mp (a h hh e he)
    rw [if_pos c] at x
    exact x
  · rename_i c
    refine med_fit (m e he).2 (m e he).1 fun h hh => ?_
    have x := fit_iff.mp (a h hh e he)
    rw [if_neg c] at x
    exact x
/-! ### distances -/
def ab (x y : Int) : Int := ((x - y).natAbs : Int)
def sumab (xs : List Int) (x : Int) : Int := (xs.map fun a => ab x a).sum
theorem up_ge {m x : Int} (h : m ≤ x) : ∀ xs : List Int, (x - m) * ((xs.countP fun a => decide (a ≤ m)) : Int) - (x - m) * ((xs.length : Int) - (xs.countP fun a => decide (a ≤ m))) ≤ sumab xs x - sumab xs m
  | [] => by simp [sumab]
  | a :: xs => by
    have ih := up_ge h xs
    have e1 : sumab (a :: xs) x = ab x a + sumab xs x := by simp [sumab]
    have e2 : sumab (a :: xs) m = ab m a + sumab xs m := by simp [sumab]
    rw [e1, e2, List.countP_cons, List.length_cons]
    by_cases c : a ≤ m
    · rw [if_pos (decide_eq_true c)]
      have d : ab x a - ab m a = x - m := by unfold ab; omega
      have z1 : (x - m) * (((xs.countP fun a => decide (a ≤ m)) + 1 : Nat) : Int) = (x - m) * ((xs.countP fun a => decide (a ≤ m)) : Int) + (x - m) := by rw [Int.natCast_add, Int.mul_add]; simp
      have z2 : (x - m) * (((xs.length + 1 : Nat) : Int) - (((xs.countP fun a => decide (a ≤ m)) + 1 : Nat) : Int)) = (x - m) * ((xs.length : Int) - (xs.countP fun a => decide (a ≤ m))) := by
        congr 1
        omega
      rw [z1, z2]
      omega
    · rw [if_neg (by rw [decide_eq_true_eq]; exact c)]
      simp only [Nat.add_zero]
      have d : -(x - m) ≤ ab x a - ab m a := by unfold ab; omega
      have z2 : (x - m) * (((xs.length + 1 : Nat) : Int) - ((xs.countP fun a => decide (a ≤ m)) : Int)) = (x - m) * ((xs.length : Int) - (xs.countP fun a => decide (a ≤ m))) + (x - m) := by
        have : ((xs.length + 1 : Nat) : Int) - ((xs.countP fun a => decide (a ≤ m)) : Int) = ((xs.length : Int) - (xs.countP fun a => decide (a ≤ m))) + 1 := by omega
        rw [this, Int.mul_add, Int.mul_one]
      rw [z2]
      omega
theorem down_ge {m x : Int} (h : x ≤ m) : ∀ xs : List Int, (m - x) * ((xs.length : Int) - (xs.countP fun a => decide (a < m))) - (m - x) * ((xs.countP fun a => decide (a < m)) : Int) ≤ sumab xs x - sumab xs m
  | [] => by simp [sumab]
  | a :: xs => by
    have ih := down_ge h xs
    have e1 : sumab (a :: xs) x = ab x a + sumab xs x := by simp [sumab]
    have e2 : sumab (a :: xs) m = ab m a + sumab xs m := by simp [sumab]
    rw [e1, e2, List.countP_cons, List.length_cons]
    by_cases c : a < m
    · rw [if_pos (decide_eq_true c)]
      have d : -(m - x) ≤ ab x a - ab m a := by unfold ab; omega
      have z1 : (m - x) * (((xs.countP fun a => decide (a < m)) + 1 : Nat) : Int) = (m - x) * ((xs.countP fun a => decide (a < m)) : Int) + (m - x) := by rw [Int.natCast_add, Int.mul_add]; simp
      have z2 : (m - x) * (((xs.length + 1 : Nat) : Int) - (((xs.countP fun a => decide (a < m)) + 1 : Nat) : Int)) = (m - x) * ((xs.length : Int) - (xs.countP fun a => decide (a < m))) := by
        congr 1
        omega
      rw [z1, z2]
      omega
    · rw [if_neg (by rw [decide_eq_true_eq]; exact c)]
      simp only [Nat.add_zero]
      have d : ab x a - ab m a = m - x := by unfold ab; omega
      have z2 : (m - x) * (((xs.length + 1 : Nat) : Int) - ((xs.countP fun a => decide (a < m)) : Int)) = (m - x) * ((xs.length : Int) - (xs.countP fun a => decide (a < m))) + (m - x) := by
        have : ((xs.length + 1 : Nat) : Int) - ((xs.countP fun a => decide (a < m)) : Int) = ((xs.length : Int) - (xs.countP fun a => decide (a < m))) + 1 := by omega
        rw [this, Int.mul_add, Int.mul_one]
      rw [z2]
      omega
/-- no number is nearer than the median -/
theorem med_near {xs : List Int} {m : Int} (h : IsMed xs m) (x : Int) : sumab xs m ≤ sumab xs x := by
  obtain ⟨c1, c2⟩ := med_cnt h
  rcases Int.le_total m x with c | c
  · have u := up_ge c xs
    have : 0 ≤ (x - m) * ((((xs.countP fun a => decide (a ≤ m)) : Int)) - ((xs.length : Int) - (xs.countP fun a => decide (a ≤ m)))) := Int.mul_nonneg (by omega) (by omega)
    rw [Int.mul_sub] at this
    omega
  · have u := down_ge c xs
    have hl := List.countP_le_length (p := fun a => decide (a ≤ m)) (l := xs)
    have : 0 ≤ (m - x) * (((xs.length : Int) - (xs.countP fun a => decide (a < m))) - ((xs.countP fun a => decide (a < m)) : Int)) := Int.mul_nonneg (by omega) (by omega)
    rw [Int.mul_sub] at this
    omega
/-- the distance of two over ns -/
def dist (ns : List Str) (f g : Str → Int) : Int := (ns.map fun n => ab (f n) (g n)).sum
def total (ns : List Str) (f : Str → Int) (hs : List (Str → Int)) : Int := (hs.map fun h => dist ns f h).sum
theorem sum_add {α : Type} {F G : α → Int} : ∀ {xs : List α}, (xs.map fun x => F x + G x).sum = (xs.map F).sum + (xs.map G).sum
  | [] => rfl
  | x :: xs => by
    simp only [List.map_cons, List.sum_cons]
    rw [sum_add]
    omega
theorem sum_zero {α : Type} : ∀ {xs : List α}, (xs.map fun _ => (0 : Int)).sum = 0
  | [] => rfl
  | x :: xs => by
    simp only [List.map_cons, List.sum_cons]
    rw [sum_zero]
    rfl
theorem sum_swap {α β : Type} {F : α → β → Int} : ∀ {xs : List α} {ys : List β}, (xs.map fun x => (ys.map fun y => F x y).sum).sum = (ys.map fun y => (xs.map fun x => F x y).sum).sum
  | [], ys => by
    show (0 : Int) = (ys.map fun _ => (0 : Int)).sum
    rw [sum_zero]
  | x :: xs, ys => by
    simp only [List.map_cons, List.sum_cons]
    rw [sum_swap, ← sum_add]
theorem sum_le {α : Type} {F G : α → Int} : ∀ {xs : List α}, (∀ x ∈ xs, F x ≤ G x) → (xs.map F).sum ≤ (xs.map G).sum
  | [], _ => Int.le_refl _
  | x :: xs, h => by
    simp only [List.map_cons, List.sum_cons]
    have := sum_le (xs := xs) fun y hy => h y (List.mem_cons_of_mem _ hy)
    have := h x List.mem_cons_self
    omega
theorem total_med {ns : List Str} {k : Str → Int} {hs : List (Str → Int)} (m : ∀ n ∈ ns, IsMed (hs.map fun h => h n) (k n)) (f : Str → Int) : total ns k hs ≤ total ns f hs := by
  unfold total dist
  rw [sum_swap (F := fun (h : Str → Int) (n : Str) => ab (k n) (h n)) (xs := hs) (ys := ns), sum_swap (F := fun (h : Str → Int) (n : Str) => ab (f n) (h n)) (xs := hs) (ys := ns)]
  refine sum_le fun n hn => ?_
  have := med_near (m n hn) (f n)
  unfold sumab at this
  rw [List.map_map, List.map_map] at this
  exact this
/-- between, node by node -/
def betw (ns : List Str) (f a b : Str → Int) : Bool := ns.all fun n => decide (min (a n) (b n) ≤ f n) && decide (f n ≤ max (a n) (b n))
theorem dist_tri {f a b : Str → Int} : ∀ {ns : List Str}, dist ns a b ≤ dist ns a f + dist ns f b
  | [] => by simp [dist]
  | n :: ns => by
    have := dist_tri (f := f) (a := a) (b := b) (ns := ns)
    unfold dist at *
    simp only [List.map_cons, List.sum_cons]
    have : ab (a n) (b n) ≤ ab (a n) (f n) + ab (f n) (b n) := by unfold ab; omega
    omega
theorem betw_iff {f a b : Str → Int} : ∀ {ns : List Str}, betw ns f a b = decide (dist ns a f + dist ns f b = dist ns a b)
  | [] => by simp [betw, dist]
  | n :: ns => by
    have ih := betw_iff (f := f) (a := a) (b := b) (ns := ns)
    have tr := dist_tri (f := f) (a := a) (b := b) (ns := ns)
    have e : betw (n :: ns) f a b = ((decide (min (a n) (b n) ≤ f n) && decide (f n ≤ max (a n) (b n))) && betw ns f a b) := rfl
    rw [e, ih]
    have d1 : ∀ g h : Str → Int, dist (n :: ns) g h = ab (g n) (h n) + dist ns g h := fun g h => by simp [dist]
    rw [d1, d1, d1]
    generalize dist ns a f = p at *
    generalize dist ns f b = q at *
    generalize dist ns a b = r at *
    rw [Bool.eq_iff_iff]
    simp only [Bool.and_eq_true, decide_eq_true_eq]
    unfold ab
    omega
end U

/-! comprehensions, locks, statements that are never reached: their readings -/
namespace U
open PySem PySem.Spec PyProof.Rows L2
/-- f(e, .., k = v, ..): the keywords in the parameters' order, behind the rest -/
structure CalK (P : Program) (w : World) (K : PySem.W.Frag) (mg : Str → Option Value) (base : Heap) (CX : CXT) (k : Nat) (x : Str) (np : Nat) (ks : List Str) (sp : Sp) : Prop where
  ex : ∃ (f : Addr) (fd : FuncData) (ps : List Str), FnG P w K mg base CX k f fd ps sp ∧ mg x = some (.ref f) ∧ PySem.W.keepIn K (.ref f) = true ∧
    ∀ us ws : List Value, us.length = np → ws.length = ks.length → bindArgs fd ⟨us, ks.zip ws⟩ = pure (ps.zip (us ++ ws))
def tCK (sp : Sp) (np nk : Nat) (E : XK) (t tk : TA) : TE := fun σ H Q => t σ H fun vs H1 => vs.length = np ∧ tk σ H1 fun zs H2 => zs.length = nk ∧ sp (vs ++ zs) H2 Q E
theorem vals_app {vs zs : List V} {us ws : List Value} (a : Vals vs us) (b : Vals zs ws) : Vals (vs ++ zs) (us ++ ws) := a.append b
theorem pe_cK {X : Cx} {CX : L2.CXT} {k j : Nat} {x : Str} {np : Nat} {ks : List Str} {sp : Sp} {E : XK} {e : Expr} {es : List Expr} {kws : List Keyword} {t tk : TA} {p pos : Pos} (c : CalK X.prog X.w X.K X.mg X.base CX k x np ks sp) (hr : Rm j X.A) (hk : k ≤ j) (hg : Gl X x) (hx : Passes CX X E)
    (ha : PA X (e :: es) t) (hkw : PK X kws tk) (hall : (backToKw pos (keywordEach kws X.env)).all (·.1.isSome) = true := by rfl) (hks : (backToKw pos (keywordEach kws X.env)).filterMap (·.1) = ks := by rfl)
    (hdb : (x == ("__debug__" : Str)) = false := by decide) (he : starEach (e :: es) X.env = (false, eval e X.env) :: starEach es X.env := by rfl)
    (hpl : ((backTo pos (starEach (e :: es) X.env)).any (·.1) || (backToKw pos (keywordEach kws X.env)).any (·.1.isNone)) = false := by rfl) :
    PE X (.Call (.Name x p) (e :: es) kws pos) (tCK sp np ks.length E t tk) := by
  obtain ⟨f, fd, ps, F, hm, kp, b⟩ := c.ex
  refine ⟨fun pins s σ H Q I h => wpAny_Call_Name_kw (ld_glob I hg hm ?_ hdb)⟩
  refine PySem.W.callWith_KW (h₀ := X.base) I.ok.mod.kin kp hall (thn (ha.run pos pins s σ H _ I h) fun us s1 ⟨vs, H1, I1, r, hn, q⟩ => ?_) hpl he
  refine thn (hkw.run pos pins s1 σ H1 _ I1 q) fun ws s2 ⟨zs, H2, I2, rz, hz, q2⟩ => ⟨I2.kIn, ?_⟩
  rw [hks]
  have bd : BindsTo s2 fd ⟨us, ks.zip ws⟩ (ps.zip (us ++ ws)) := .of_eq (b us ws (by rw [← r.length]; exact hn) (by rw [← rz.length]; exact hz))
  refine wpAny_call (codeAny_mono (F.go X.A X.stack s2 H2 ⟨us, ks.zip ws⟩ (us ++ ws) (vs ++ zs) Q E (hr.mono hk) I2.env0 bd (vals_app r rz) q2) ?_)
  intro res s' hq
  cases res with
  | error er => exact hx pins σ H2 s2 er s' I2 hq
  | ok fl =>
    cases fl with
    | ret u => exact I2.after hq
    | next => exact hq.elim
    | brk => exact hq.elim
    | cont => exact hq.elim
theorem ps_dead {X : Cx} {st : Stmt} : PS X st (fun _ _ _ => False) := ⟨fun _ _ _ _ _ _ h => h.elim⟩
def DcB (J : It) (g : TG) (tt : TT) (tk tv : TE) (vs : List Nat) (σ : L2.St) (H1 : Hp) (D : Addr) (Qd : Hp → Prop) : Prop := ∃ W : Nat → Nat → Hp → Prop, (∃ m, W 0 m (upd H1 D (.dK []))) ∧ ∀ i m H, W i m H →
  (J.stop i H ∧ Qd H) ∨ (J.go i H ∧ ∃ Nx : Hp → Prop, (∀ H', Nx H' → ∃ m', m' < m ∧ W (i + 1) m' H') ∧ ∀ x H', J.yld i H x H' → g x (wipe σ vs) H' fun σ2 H2 => wipe σ2 vs = wipe σ vs ∧ tt σ2 H2 fun b H3 =>
    if b = true then tk σ2 H3 fun y H4 => tv σ2 H4 fun z H5 => ∃ kvs k, y = kV k ∧ H5 D = some (.dK kvs) ∧ kvs.length < sizeLine ∧ Nx (upd H5 D (.dK (putK kvs k z))) else Nx H3)
section
variable {σ : L2.St} {H : Hp} {Q : VK} {D : Ends} {te td ty tv : TE} {t : TS} {g : TG} {wi : TI} {R : It → Hp → Prop} {tt : TT} {vs : List Nat} {L : Addr} {Qd : Hp → Prop} {J : It} {n : Nat} {G : Hp → Prop} {Y : Nat → Hp → V → Hp → Prop} {K : PySem.W.Frag}
theorem lcW (w : Walk J n G Y) (Pv : Nat → Hp → Prop) (h0 : Pv 0 (upd H L (.lst []))) (hG : ∀ i H, i ≤ n → Pv i H → G H)
    (hs : ∀ i x H H', i < n → Pv i H → Y i H x H' → g x (wipe σ vs) H' fun σ2 H2 => wipe σ2 vs = wipe σ vs ∧ tt σ2 H2 fun b H3 =>
      if b = true then te σ2 H3 fun y H4 => ∃ acc, H4 L = some (.lst acc) ∧ acc.length < sizeLine ∧ Pv (i + 1) (upd H4 L (.lst (acc ++ [y]))) else Pv (i + 1) H3) (hd : ∀ H, Pv n H → Qd H) : LcB J g tt te vs σ H L Qd := lc_it w Pv h0 hG hs hd
theorem dcW {tk : TE} (w : Walk J n G Y) (Pv : Nat → Hp → Prop) (h0 : Pv 0 (upd H L (.dK []))) (hG : ∀ i H, i ≤ n → Pv i H → G H)
    (hs : ∀ i x H H', i < n → Pv i H → Y i H x H' → g x (wipe σ vs) H' fun σ2 H2 => wipe σ2 vs = wipe σ vs ∧ tt σ2 H2 fun b H3 =>
      if b = true then tk σ2 H3 fun y H4 => tv σ2 H4 fun z H5 => ∃ kvs k, y = kV k ∧ H5 L = some (.dK kvs) ∧ kvs.length < sizeLine ∧ Pv (i + 1) (upd H5 L (.dK (putK kvs k z))) else Pv (i + 1) H3) (hd : ∀ H, Pv n H → Qd H) : DcB J g tt tk tv vs σ H L Qd := by
  refine ⟨fun i m H => m = n - i ∧ i ≤ n ∧ Pv i H, ⟨n, by simp, Nat.zero_le _, h0⟩, ?_⟩
  rintro i m H ⟨rfl, hi, p⟩
  have q := hG i H hi p
  by_cases hlt : i < n
  · refine .inr ⟨w.goes i H hlt q, Pv (i + 1), fun H' p' => ⟨n - (i + 1), by omega, rfl, hlt, p'⟩, fun x H' y => hs i x H H' hlt p (w.yields i H x H' hlt q y)⟩
  · have e : i = n := by omega
    subst e
    exact .inl ⟨w.stops H q, hd H p⟩
theorem rd_dc {tk : TE} (h : wi σ H fun J H1 => ∀ D, H1 D = none → DcB J g tt tk tv vs σ H1 D fun H2 => Q (.ref D) H2) : tDc wi g tt tk tv vs σ H Q := h
/-- under a lock: what the block leaves at the lock's place is the locked thing -/
theorem rd_lockE {d : Addr} {kvs : List (Key × V)} (hd : H d = some (.dK kvs)) (h : ∀ od, te σ (upd H d (.frz od (.dK kvs))) fun v H' => H' d = some (.frz od (.dK kvs)) ∧ Q v (upd H' d (.dK kvs))) : tLockE te σ H Q := ⟨d, _, hd, trivial, h⟩
theorem rd_lockS {d : Addr} {kvs : List (Key × V)} (hd : H d = some (.dK kvs)) (h : ∀ od, t ⟨fun σ' H' => H' d = some (.frz od (.dK kvs)) ∧ D.nx σ' (upd H' d (.dK kvs)), fun v H' => H' d = some (.frz od (.dK kvs)) ∧ D.rt v (upd H' d (.dK kvs)), fun σ' H' => H' d = some (.frz od (.dK kvs)) ∧ D.bk σ' (upd H' d (.dK kvs)), fun σ' H' => H' d = some (.frz od (.dK kvs)) ∧ D.ct σ' (upd H' d (.dK kvs))⟩ σ (upd H d (.frz od (.dK kvs)))) : tLock t D σ H := ⟨d, _, hd, trivial, h⟩
theorem rd_iItems (h : td σ H fun x H1 => ∃ d o kvs, x = .ref d ∧ H1 d = some (.frz o (.dK kvs)) ∧ R (Iti d o kvs) H1) : iItems td σ H R := h
theorem rd_iKeys (h : td σ H fun x H1 => ∃ d o, x = .ref d ∧ ((∃ kvs, H1 d = some (.frz o (.dK kvs)) ∧ R (Itk d o kvs) H1) ∨ ∃ kvs, H1 d = some (.frz o (.dT kvs)) ∧ R (Itkt d o kvs) H1)) : iKeys td σ H R := h
theorem rd_forI {d : Addr} {o : Obj} {kvs : List (Key × V)} {R : Addr → Obj → List (Key × V) → Prop} (hd : H d = some (.frz o (.dK kvs))) (h : R d o kvs) : ∃ d' o kvs, V.ref d = .ref d' ∧ H d' = some (.frz o (.dK kvs)) ∧ R d' o kvs := ⟨d, o, kvs, rfl, hd, h⟩
theorem rd_forK {d : Addr} {o : Obj} {kvs : List (Key × V)} {R : Addr → Obj → List (Key × V) → Prop} {R2 : Addr → Obj → List (List Key × V) → Prop} (hd : H d = some (.frz o (.dK kvs))) (h : R d o kvs) :
    ∃ d' o, V.ref d = .ref d' ∧ ((∃ kvs, H d' = some (.frz o (.dK kvs)) ∧ R d' o kvs) ∨ ∃ kvs, H d' = some (.frz o (.dT kvs)) ∧ R2 d' o kvs) := ⟨d, o, rfl, .inl ⟨kvs, hd, h⟩⟩
theorem rd_wp {vs : List Nat} {σ1 σ2 : L2.St} {P : Prop} (e : wipe σ1 vs = wipe σ2 vs) (h : P) : wipe σ1 vs = wipe σ2 vs ∧ P := ⟨e, h⟩
theorem rd_yesT {Q : Bool → Hp → Prop} (h : Q true H) : tYes σ H Q := h
theorem rd_acc {L : Addr} {acc : List V} {R : List V → Prop} (hL : H L = some (.lst acc)) (hz : acc.length < 100000) (h : R acc) : ∃ acc, H L = some (.lst acc) ∧ acc.length < sizeLine ∧ R acc := ⟨acc, hL, Nat.lt_of_lt_of_le hz (by decide), h⟩
theorem rd_accD {L : Addr} {y : V} {kvs : List (Key × V)} {k : Key} {R : List (Key × V) → Key → Prop} (hy : y = kV k) (hL : H L = some (.dK kvs)) (hz : kvs.length < 100000) (h : R kvs k) : ∃ kvs k, y = kV k ∧ H L = some (.dK kvs) ∧ kvs.length < sizeLine ∧ R kvs k := ⟨kvs, k, hy, hL, Nat.lt_of_lt_of_le hz (by decide), h⟩
theorem inV_int {v : Int} {xs : List Int} : inV (.int v) (xs.map V.int) = decide (v ∈ xs) := by
  induction xs with
  | nil => rfl
  | cons x xs ih =>
    unfold inV at ih ⊢
    rw [List.map_cons, List.any_cons, ih]
    simp only [eqV, List.mem_cons, Bool.decide_or]
    congr 1
    exact decide_eq_decide.mpr ⟨Eq.symm, Eq.symm⟩
theorem inV_str {v : Str} {xs : List Str} : inV (.str v) (xs.map V.str) = decide (v ∈ xs) := by
  induction xs with
  | nil => rfl
  | cons x xs ih =>
    unfold inV at ih ⊢
    rw [List.map_cons, List.any_cons, ih]
    simp only [eqV, List.mem_cons, Bool.decide_or]
    congr 1
    exact decide_eq_decide.mpr ⟨Eq.symm, Eq.symm⟩
theorem flat_int {xs : List Int} : (xs.map V.int).all flatV = true := by
  rw [List.all_eq_true]
  intro x hx
  obtain ⟨i, _, rfl⟩ := List.mem_map.mp hx
  rfl
theorem flat_str {xs : List Str} : (xs.map V.str).all flatV = true := by
  rw [List.all_eq_true]
  intro x hx
  obtain ⟨i, _, rfl⟩ := List.mem_map.mp hx
  rfl
theorem rd_inIL {p : Addr} {v : Int} {xs : List Int} (hs : SqL K H p (xs.map V.int)) (h : Q (.bl (decide (v ∈ xs))) H) : rInU K (.int v) (.ref p) H Q := ⟨_, .inl hs, rfl, flat_int, by rw [inV_int]; exact h⟩
theorem rd_ninIL {p : Addr} {v : Int} {xs : List Int} (hs : SqL K H p (xs.map V.int)) (h : Q (.bl (!decide (v ∈ xs))) H) : rNotInU K (.int v) (.ref p) H Q := ⟨_, .inl hs, rfl, flat_int, by rw [inV_int]; exact h⟩
theorem rd_inSL {p : Addr} {v : Str} {xs : List Str} (hs : SqL K H p (xs.map V.str)) (h : Q (.bl (decide (v ∈ xs))) H) : rInU K (.str v) (.ref p) H Q := ⟨_, .inl hs, rfl, flat_str, by rw [inV_str]; exact h⟩
theorem rd_ninSL {p : Addr} {v : Str} {xs : List Str} (hs : SqL K H p (xs.map V.str)) (h : Q (.bl (!decide (v ∈ xs))) H) : rNotInU K (.str v) (.ref p) H Q := ⟨_, .inl hs, rfl, flat_str, by rw [inV_str]; exact h⟩
theorem rd_inST {p : Addr} {v : Str} {xs : List Str} (hs : SqT K H p (xs.map V.str)) (h : Q (.bl (decide (v ∈ xs))) H) : rInU K (.str v) (.ref p) H Q := ⟨_, .inr hs, rfl, flat_str, by rw [inV_str]; exact h⟩
theorem rd_ninST {p : Addr} {v : Str} {xs : List Str} (hs : SqT K H p (xs.map V.str)) (h : Q (.bl (!decide (v ∈ xs))) H) : rNotInU K (.str v) (.ref p) H Q := ⟨_, .inr hs, rfl, flat_str, by rw [inV_str]; exact h⟩
theorem rd_catL {p q : Addr} {xs ys : List V} (h1 : H p = some (.lst xs)) (h2 : H q = some (.lst ys)) (hz : xs.length + ys.length ≤ 100000) (h : nL (xs ++ ys) H Q) : rAddU K (.ref p) (.ref q) H Q := .inl ⟨xs, ys, h1, h2, Nat.le_trans hz (by decide), h⟩
theorem GrAt.same {H' : Hp} {g n e : Addr} {ns : List Str} {es : List (Addr × Str × Str)} (h : GrAt H g n e ns es) (s : Same H H') : GrAt H' g n e ns es :=
  ⟨s _ _ h.top, s _ _ h.nodes, s _ _ h.edges, fun x hx => s _ _ (h.pairs x hx)⟩
theorem GrAt.but {H' : Hp} {p g n e : Addr} {ys : List V} {ns : List Str} {es : List (Addr × Str × Str)} (h : GrAt H g n e ns es) (hp : H p = some (.lst ys)) (b : But p H H') : GrAt H' g n e ns es := by
  have k : ∀ {a : Addr} {xs : List V}, H a = some (.tup xs) → H' a = some (.tup xs) := fun {a xs} ha => b _ _ (ne_of ha hp (by intro z; cases z)) ha
  exact ⟨k h.top, k h.nodes, k h.edges, fun x hx => k (h.pairs x hx)⟩
theorem But.dK {H' : Hp} {p d : Addr} {ys : List V} {kvs : List (Key × V)} (b : But p H H') (hp : H p = some (.lst ys)) (h : H d = some (.dK kvs)) : H' d = some (.dK kvs) := b _ _ (ne_of h hp (by intro z; cases z)) h
theorem But.tup {H' : Hp} {p d : Addr} {ys xs : List V} (b : But p H H') (hp : H p = some (.lst ys)) (h : H d = some (.tup xs)) : H' d = some (.tup xs) := b _ _ (ne_of h hp (by intro z; cases z)) h
theorem same_put {H1 : Hp} {a : Addr} {o : HO} (s : Same H H1) (n : H a = none) : Same H (upd H1 a o) := fun c u h => at_upd (ne_of_none h n) (s c u h)
theorem same_add {H1 : Hp} {a : Addr} {o : HO} (s : Same H H1) (n : H1 a = none) : Same H (upd H1 a o) := fun c u h => at_upd (ne_of_none (s c u h) n) (s c u h)
/-- xs != [], whatever data -/
theorem rd_neNilD {p q : Addr} {xs : List V} {ds : List PyData} (hp : SqL K H p xs) (hd : DpAll K H xs ds) (hq : SqL K H q []) (ok : PyData.canLayAll0 ds = true) (dep : PyData.depthAll ds ≤ 60) (h : Q (.bl (!xs.isEmpty)) H) : rNeU K (.ref p) (.ref q) H Q := by
  refine ⟨_, _, .lst hp hd, .lst hq .nil, ?_, by decide, ?_⟩
  · unfold SeqAt.shaped
    rw [PyData.canLay0, ok, PyData.depth, decide_eq_true (by omega)]
    rfl
  · have : PyData.eqv (.list ds) (.list []) = xs.isEmpty := by
      cases hd with
      | nil => simp [PyData.eqv, PyData.eqvAll]
      | cons _ _ => simp [PyData.eqv, PyData.eqvAll]
    rw [this]
    exact h
theorem rd_isi {x : V} {n : String} {a t : Ty} (h1 : TyIs K H x a) (h2 : tyOf n = some t) (h : Q (.bl (isT a t)) H) : rIsiU K [x, .ty n] H Q := ⟨a, t, h1, h2, h⟩
theorem rd_din (h : ty σ H fun y H1 => td σ H1 fun x H2 => ∃ a o, x = .ref a ∧ DGet H2 a y o ∧ Q (.bl o.isSome) H2) : tDIn ty td σ H Q := h
theorem rd_dnin (h : ty σ H fun y H1 => td σ H1 fun x H2 => ∃ a o, x = .ref a ∧ DGet H2 a y o ∧ Q (.bl (!o.isSome)) H2) : tDNotIn ty td σ H Q := h
theorem rd_din1 {p : Addr} {kvs : List (Key × V)} {k : Key} {y : V} {R : Option V → Prop} (hs : Rd H p (.dK kvs)) (hy : y = kV k) (h : R (valV kvs k)) : ∃ a o, V.ref p = .ref a ∧ DGet H a y o ∧ R o := ⟨p, _, rfl, .inl ⟨kvs, k, hs, hy, rfl⟩, h⟩
/-- two lists of other lengths -/
def rEqLen (K : PySem.W.Frag) : R2 := fun x y H Q => ∃ a b xs ys, x = .ref a ∧ y = .ref b ∧ SqL K H a xs ∧ SqL K H b ys ∧ xs.length ≠ ys.length ∧ Q (.bl false) H
theorem kEqLen {X : Cx} (K : PySem.W.Frag) (hK : X.K = K) (hu : X.A.units < cLine) : OpR X (compareOp .Eq) (rEqLen K) := by
  subst hK
  intro pins s σ H x y v u Q I rx ry h
  obtain ⟨a, b, xs, ys, rfl, rfl, h1, h2, hn, q⟩ := h
  cases rx
  cases ry
  obtain ⟨i1, v1, p1, _⟩ := I.list h1
  obtain ⟨i2, v2, p2, _⟩ := I.list h2
  have l1 := v1.length
  have l2 := v2.length
  exact SeqAt.RcAt.lists_lengths p1.isList p2.isList (by simp only [List.size_toArray, bne_iff_ne, ne_eq]; omega) hu X.prog X.w _ _ ⟨.bl false, H, I, rfl, q⟩
theorem rd_eqLen {p q : Addr} {xs ys : List V} (h1 : SqL K H p xs) (h2 : SqL K H q ys) (n : xs.length ≠ ys.length) (h : Q (.bl false) H) : rEqLen K (.ref p) (.ref q) H Q := ⟨p, q, xs, ys, rfl, rfl, h1, h2, n, h⟩
/-- sorted(a list of numbers) -/
theorem rd_sortI {p : Addr} {xs : List Int} (hs : SqL K H p (xs.map V.int)) (hl : xs.length ≤ 100000) (k : ∀ ys : List Int, ys.Perm xs → ys.Pairwise (fun a b => a ≤ b) → nL (ys.map V.int) H Q) : rSortU K [.ref p] H Q := by
  refine ⟨xs.map fun x => (V.int x, PyData.int x), ?_, ⟨?_, ?_, ?_, ?_, ?_⟩, ?_⟩
  · rw [List.map_map]
    exact hs
  · intro b hb
    obtain ⟨x, _, rfl⟩ := List.mem_map.mp hb
    exact .int x
  · rw [List.map_map]
    exact PySem.W.AllAlike.of (enc := PyData.int) fun a b => by simp [PySem.W.alike]
  · rw [List.map_map]
    exact PySem.W.Sortable.others (enc := PyData.int) fun b => ⟨by simp, by simp⟩
  · intro b hb
    obtain ⟨x, _, rfl⟩ := List.mem_map.mp hb
    simp [PyData.depth]
  · rw [List.length_map]
    omega
  · intro cs pc sc
    obtain ⟨ys, py, rfl⟩ := perm_of_map pc
    rw [List.map_map]
    refine k ys py ?_
    rw [List.pairwise_map] at sc
    refine sc.imp fun {a b} z => ?_
    have z' : PySem.W.dataLt (PyData.int b) (PyData.int a) = false := z
    rw [PySem.W.dataLt_int] at z'
    have := of_decide_eq_false z'
    omega
theorem rd_nT {A B : Prop} (h : B) : if (!true) = true then A else B := h
theorem rd_nF {A B : Prop} (h : A) : if (!false) = true then A else B := h
/-- repr of a truth value -/
def shB (b : Bool) : Str := if b then "True" else "False"
theorem shB_inj {a b : Bool} : decide (shB a = shB b) = decide (a = b) := by cases a <;> cases b <;> decide +kernel
def rReprU : List V → Hp → VK → Prop := fun xs H Q => match xs with
  | [.bl b] => Q (.str (shB b)) H
  | _ => False
theorem cRepr {X : Cx} : CallR X (.builtin "repr") rReprU := by
  intro pins s σ H xs us Q I r h
  match xs, h with
  | [.bl b], h =>
    cases r with
    | cons r rr =>
      cases rr
      cases r
      exact PySem.P.repr_of_bool ⟨.str _, H, I.tok _, ⟨_, rfl⟩, h⟩
theorem rd_reprB {b : Bool} (h : Q (.str (shB b)) H) : rReprU [.bl b] H Q := h
theorem rd_ck {sp : Sp} {E : XK} {np nk : Nat} {t tk : TA} (h : t σ H fun vs H1 => vs.length = np ∧ tk σ H1 fun zs H2 => zs.length = nk ∧ sp (vs ++ zs) H2 Q E) : tCK sp np nk E t tk σ H Q := h
theorem rd_len {vs : List V} {k : Nat} {P : Prop} (e : vs.length = k) (h : P) : vs.length = k ∧ P := ⟨e, h⟩
theorem rd_par {i j : Nat} {ta : TA} (h : ta σ H fun vs H1 => ∃ v w, vs = [v, w] ∧ D.nx ((σ.set i (some v)).set j (some w)) H1) : tPar i j ta D σ H := h
theorem rd_two {v w' : V} {R : V → V → Prop} (h : R v w') : ∃ x y, [v, w'] = [x, y] ∧ R x y := ⟨v, w', rfl, h⟩
theorem rd_wipe {P : Prop} (h : P) {σ1 σ2 : L2.St} (e : σ1 = σ2) : σ1 = σ2 ∧ P := ⟨e, h⟩
theorem rd_yes' {P : Bool → Prop} (h : P true) : tYes σ H (fun b _ => P b) := h
theorem rd_sumL {p : Addr} {ns : List Int} (hs : SqL K H p (ns.map V.int)) (h : Q (.int ns.sum) H) : rSumU K [.ref p] H Q := ⟨ns, hs, h⟩
theorem rd_allL {p : Addr} {bs : List Bool} (hs : SqL K H p (bs.map V.bl)) (h : Q (.bl (bs.all id)) H) : rAllU K [.ref p] H Q := ⟨bs, hs, h⟩
theorem rd_isB {a b : Bool} (h : Q (.bl (decide (a = b))) H) : rIsU (.bl a) (.bl b) H Q := ⟨a, rfl, h⟩
theorem rd_isNotB {a b : Bool} (h : Q (.bl (!decide (a = b))) H) : rIsNotU (.bl a) (.bl b) H Q := ⟨a, rfl, h⟩
theorem rd_daug {rd : V → V → Hp → VK → Prop} (h : td σ H fun x H1 => ty σ H1 fun y H2 => ∃ a v, x = .ref a ∧ DGet H2 a y (some v) ∧
  tv σ H2 fun y2 H3 => rd v y2 H3 fun z H4 => ∃ H5, DPut H4 a y z H5 ∧ D.nx σ H5) : sDAug td ty tv rd D σ H := h
end
end U

/-! dicts of references, double comprehensions, defaults, repr -/
namespace U
open PySem PySem.Spec PyProof.Rows L2
abbrev kvG (ns : List Str) (F : Str → V) : List (Key × V) := ns.map fun n => (Sum.inr n, F n)
def updV {α : Type} (f : Str → α) (n : Str) (v : α) : Str → α := fun m => if m = n then v else f m
theorem kvG_val : ∀ {ns : List Str} {F : Str → V} {n : Str}, n ∈ ns → valV (kvG ns F) (.inr n) = some (F n)
  | m :: ns, F, n, h => by
    by_cases e : n = m
    · subst e
      rw [kvG, List.map_cons, valV_pos rfl]
    · have e' : ¬ (Sum.inr m : Key) = Sum.inr n := fun z => e (Sum.inr.inj z).symm
      rw [kvG, List.map_cons, valV_neg e']
      refine kvG_val ?_
      rcases List.mem_cons.mp h with z | z
      · exact absurd z e
      · exact z
theorem kvG_none : ∀ {ns : List Str} {F : Str → V} {n : Str}, n ∉ ns → valV (kvG ns F) (.inr n) = none
  | [], _, _, _ => rfl
  | m :: ns, F, n, h => by
    have e' : ¬ (Sum.inr m : Key) = Sum.inr n := fun z => h (by rw [← Sum.inr.inj z]; exact List.mem_cons_self)
    rw [kvG, List.map_cons, valV_neg e']
    exact kvG_none fun z => h (List.mem_cons_of_mem _ z)
theorem kvG_new {ns : List Str} {F : Str → V} {n : Str} {v : V} (h : n ∉ ns) : putK (kvG ns F) (.inr n) v = kvG (ns ++ [n]) (updV F n v) := by
  rw [putK_new _ (kvG_none h), kvG, kvG, List.map_append]
  congr 1
  · refine List.map_congr_left fun m hm => ?_
    unfold updV
    rw [if_neg (fun e => h (by rw [← e]; exact hm))]
  · show [((Sum.inr n : Key), v)] = [(Sum.inr n, updV F n v n)]
    unfold updV
    rw [if_pos rfl]
theorem kvG_at {ns : List Str} {F : Str → V} {i : Nat} {x y : V} (hx : ((kvG ns F)[i]?.map fun kv => kV kv.1) = some x) (hy : (kvG ns F)[i]?.map Prod.snd = some y) : ∃ hi : i < ns.length, x = .str ns[i] ∧ y = F ns[i] := by
  rw [kvG, List.getElem?_map] at hx hy
  by_cases hi : i < ns.length
  · rw [List.getElem?_eq_getElem hi] at hx hy
    exact ⟨hi, (Option.some.inj hx).symm, (Option.some.inj hy).symm⟩
  · rw [List.getElem?_eq_none (by omega)] at hx
    cases hx
/-! f(e, ..) where defaults fill the rest -/
structure CalD (P : Program) (w : World) (K : PySem.W.Frag) (mg : Str → Option Value) (base : Heap) (CX : CXT) (k : Nat) (x : Str) (dvs : List V) (sp : Sp) : Prop where
  ex : ∃ (f : Addr) (fd : FuncData) (ps : List Str) (ds : List Value), FnG P w K mg base CX k f fd ps sp ∧ mg x = some (.ref f) ∧ PySem.W.keepIn K (.ref f) = true ∧ Vals dvs ds ∧ Binds K fd ps ds
def tCD (sp : Sp) (dvs : List V) (E : XK) (t : TA) : TE := fun σ H Q => t σ H fun vs H1 => sp (vs ++ dvs) H1 Q E
theorem pe_cD {X : Cx} {CX : L2.CXT} {k j : Nat} {x : Str} {dvs : List V} {sp : Sp} {E : XK} {e : Expr} {es : List Expr} {t : TA} {p pos : Pos} (c : CalD X.prog X.w X.K X.mg X.base CX k x dvs sp) (hr : Rm j X.A) (hk : k ≤ j) (hg : Gl X x) (hx : Passes CX X E) (ha : PA X (e :: es) t)
    (hdb : (x == ("__debug__" : Str)) = false := by decide) (he : starEach (e :: es) X.env = (false, eval e X.env) :: starEach es X.env := by rfl) (hpl : (backTo pos (starEach es X.env)).any (·.1) = false := by rfl) :
    PE X (.Call (.Name x p) (e :: es) [] pos) (tCD sp dvs E t) := by
  obtain ⟨f, fd, ps, ds, F, hm, kp, rd, b⟩ := c.ex
  refine ⟨fun pins s σ H Q I h => wpAny_Call_Name_kw (ld_glob I hg hm ?_ hdb)⟩
  refine PySem.W.callWith_K (h₀ := X.base) I.ok.mod.kin kp (thn (ha.run pos pins s σ H _ I h) ?_) he hpl
  rintro us s1 ⟨vs, H1, I1, r, q⟩
  refine ⟨I1.kIn, ?_⟩
  have r2 : Vals (vs ++ dvs) (us ++ ds) := r.append rd
  have count : (us ++ ds).length = ps.length := r2.length ▸ F.len _ _ _ _ q
  have bd := b s1 us I1.kIn count
  refine wpAny_call (codeAny_mono (F.go X.A X.stack s1 H1 ⟨us, []⟩ (us ++ ds) (vs ++ dvs) Q E (hr.mono hk) I1.env0 bd r2 q) ?_)
  intro res s' hq
  cases res with
  | error er => exact hx pins σ H1 s1 er s' I1 hq
  | ok fl =>
    cases fl with
    | ret u => exact I1.after hq
    | next => exact hq.elim
    | brk => exact hq.elim
    | cont => exact hq.elim
/-! two fors in a comprehension -/
def In1 (J1 : It) (g1 : TG) (tt1 : TT) (te : TE) (vs1 : List Nat) (σ2 : L2.St) (D : Addr) (H4 : Hp) (R : Hp → Prop) : Prop := ∃ W1 : Nat → Nat → Hp → Prop, (∃ m, W1 0 m H4) ∧ ∀ j k H, W1 j k H →
  (J1.stop j H ∧ R H) ∨ (J1.go j H ∧ ∃ Nx1 : Hp → Prop, (∀ H', Nx1 H' → ∃ k', k' < k ∧ W1 (j + 1) k' H') ∧ ∀ x H', J1.yld j H x H' → g1 x (wipe σ2 vs1) H' fun σ3 H5 => wipe σ3 vs1 = wipe σ2 vs1 ∧ tt1 σ3 H5 fun b H6 =>
    if b = true then te σ3 H6 fun y H7 => ∃ acc, H7 D = some (.lst acc) ∧ acc.length < sizeLine ∧ Nx1 (upd H7 D (.lst (acc ++ [y]))) else Nx1 H6)
def Lc2B (J : It) (g : TG) (tt : TT) (wi1 : TI) (g1 : TG) (tt1 : TT) (te : TE) (vs vs1 : List Nat) (σ : L2.St) (H1 : Hp) (D : Addr) (Qd : Hp → Prop) : Prop := ∃ W : Nat → Nat → Hp → Prop, (∃ m, W 0 m (upd H1 D (.lst []))) ∧ ∀ i m H, W i m H →
  (J.stop i H ∧ Qd H) ∨ (J.go i H ∧ ∃ Nx : Hp → Prop, (∀ H', Nx H' → ∃ m', m' < m ∧ W (i + 1) m' H') ∧ ∀ x H', J.yld i H x H' → g x (wipe σ vs) H' fun σ2 H2 => wipe σ2 vs = wipe σ vs ∧ tt σ2 H2 fun b H3 =>
    if b = true then wi1 σ2 H3 fun J1 H4 => In1 J1 g1 tt1 te vs1 σ2 D H4 Nx else Nx H3)
section
variable {σ : L2.St} {H : Hp} {Q : VK} {te : TE} {g g1 : TG} {wi wi1 : TI} {tt tt1 : TT} {vs vs1 : List Nat} {L : Addr} {Qd R : Hp → Prop} {J J1 : It} {n : Nat} {G : Hp → Prop} {Y : Nat → Hp → V → Hp → Prop} {K : PySem.W.Frag}
theorem rd_lc2 (h : wi σ H fun J H1 => ∀ D, H1 D = none → Lc2B J g tt wi1 g1 tt1 te vs vs1 σ H1 D fun H2 => Q (.ref D) H2) : tLc2 wi g tt wi1 g1 tt1 te vs vs1 σ H Q := h
theorem lc2W (w : Walk J n G Y) (Pv : Nat → Hp → Prop) (h0 : Pv 0 (upd H L (.lst []))) (hG : ∀ i H, i ≤ n → Pv i H → G H)
    (hs : ∀ i x H H', i < n → Pv i H → Y i H x H' → g x (wipe σ vs) H' fun σ2 H2 => wipe σ2 vs = wipe σ vs ∧ tt σ2 H2 fun b H3 =>
      if b = true then wi1 σ2 H3 fun J1 H4 => In1 J1 g1 tt1 te vs1 σ2 L H4 (Pv (i + 1)) else Pv (i + 1) H3) (hd : ∀ H, Pv n H → Qd H) : Lc2B J g tt wi1 g1 tt1 te vs vs1 σ H L Qd := by
  refine ⟨fun i m H => m = n - i ∧ i ≤ n ∧ Pv i H, ⟨n, by simp, Nat.zero_le _, h0⟩, ?_⟩
  rintro i m H ⟨rfl, hi, p⟩
  have q := hG i H hi p
  by_cases hlt : i < n
  · exact .inr ⟨w.goes i H hlt q, Pv (i + 1), fun H' p' => ⟨n - (i + 1), by omega, rfl, hlt, p'⟩, fun x H' y => hs i x H H' hlt p (w.yields i H x H' hlt q y)⟩
  · have e : i = n := by omega
    subst e
    exact .inl ⟨w.stops H q, hd H p⟩
theorem in1W (w : Walk J1 n G Y) (Pv : Nat → Hp → Prop) (h0 : Pv 0 H) (hG : ∀ i H, i ≤ n → Pv i H → G H)
    (hs : ∀ j x H H', j < n → Pv j H → Y j H x H' → g1 x (wipe σ vs1) H' fun σ3 H5 => wipe σ3 vs1 = wipe σ vs1 ∧ tt1 σ3 H5 fun b H6 =>
      if b = true then te σ3 H6 fun y H7 => ∃ acc, H7 L = some (.lst acc) ∧ acc.length < sizeLine ∧ Pv (j + 1) (upd H7 L (.lst (acc ++ [y]))) else Pv (j + 1) H6) (hd : ∀ H, Pv n H → R H) : In1 J1 g1 tt1 te vs1 σ L H R := by
  refine ⟨fun i m H => m = n - i ∧ i ≤ n ∧ Pv i H, ⟨n, by simp, Nat.zero_le _, h0⟩, ?_⟩
  rintro i m H ⟨rfl, hi, p⟩
  have q := hG i H hi p
  by_cases hlt : i < n
  · exact .inr ⟨w.goes i H hlt q, Pv (i + 1), fun H' p' => ⟨n - (i + 1), by omega, rfl, hlt, p'⟩, fun x H' y => hs i x H H' hlt p (w.yields i H x H' hlt q y)⟩
  · have e : i = n := by omega
    subst e
    exact .inl ⟨w.stops H q, hd H p⟩
theorem rd_cd {sp : Sp} {dvs : List V} {E : XK} {t : TA} (h : t σ H fun vs H1 => sp (vs ++ dvs) H1 Q E) : tCD sp dvs E t σ H Q := h
/-- d.clear() -/
theorem rd_clear {p : Addr} {kvs : List (Key × V)} (hs : H p = some (.dK kvs)) (h : Q .non (upd H p (.dK []))) : True := trivial
end
/-! repr -/
section
variable {X : Cx} {pins : List (Addr × Obj)} {σ : L2.St} {H : Hp} {s : Shared}
def encK : Key → PyData
  | .inl i => .int i
  | .inr x => .str x
/-- what repr is asked of: data, dicts of numbers among it -/
inductive Dr (K : PySem.W.Frag) (H : Hp) : V → PyData → Prop
  | of {v : V} {d : PyData} : Dp K H v d → d.hasDict = false → Dr K H v d
  | dct {a : Addr} {ns : List Str} {f : Str → Int} : H a = some (.dK (kvF ns f)) → Dr K H (.ref a) (.dict (ns.map fun n => (.str n, .int (f n))))
theorem kv_pairs {h : Heap} {f : Str → Int} : ∀ {ns : List Str} {vs : List (Key × Value)}, KV (kvF ns f) vs → PyProof.V.PairsRead h encK vs (ns.map fun n => (.str n, .int (f n))) []
  | [], vs, r => by
    cases r
    exact .nil
  | n :: ns, vs, r => by
    cases r with
    | @cons p q ps qs hpq t =>
      obtain ⟨h1, h2⟩ := hpq
      obtain ⟨k, v⟩ := q
      have h1' : (Sum.inr n : Key) = k := h1
      subst h1'
      obtain ⟨tk, rfl⟩ : ∃ t, v = Value.int (f n) t := h2
      exact .cons (k := .inr n) (as := []) (bs := []) (Reads.int _ _) (kv_pairs t)
theorem key_reads {h : Heap} {P : Program} {w : World} : ∀ (k : Key) (key : Value), (mixKind P w).is k key = true → Reads h key (encK k) [] := by
  intro k key hk
  rcases keyIs_shape hk with ⟨i, t, rfl, rfl⟩ | ⟨x, t, rfl, rfl⟩
  · exact Reads.int _ _
  · exact Reads.str _ _
end
end U
namespace U
open PySem PySem.Spec PyProof.Rows L2
/-! name = {k: v for ..}, the name a local -/
abbrev InBlk (X : Cx) (scope : Scope) (Φ : Cx → Prop) : Prop :=
  ∀ (s : Shared) (H : Hp) (C : Addr) (cl : List (Str × Addr)) (fp : List Addr), Φ (X.blk s H scope (compEnvC scope cl C X.env) fp)
section
variable {X : Cx}
theorem sw_dict {kx vx : Expr} {gs : List Comprehension} {scope : Scope} {pos py : Pos} {y : Str} {l : Nat} {env : Env}
    (hk : env.scope.kind = .function) (hy : env.scope.names.lookup y = some .local) (hl : (py.line == pos.line) = true)
    (ha : (scope.names.any fun (n, k) => n == y && (k == .local || k == .cell)) = false) :
    swapsWith (.DictComp kx vx gs scope pos) (some (.Name y py)) l env = pure true := by
  have q1 : env.kindOf y = some .local := hy
  have q2 : env.blockKind = .function := by
    unfold Env.blockKind
    rw [hk]
    rfl
  unfold swapsWith
  simp only [q1, q2, ha, hl, Expr.pos]
  rfl
theorem ps_setDc {i : Nat} {y : Str} {py : Pos} {kx vx tg iter : Expr} {ifs : List Expr} {scope : Scope} {own : List (Str × Nat)} {pos spos : Pos} {wi : TI} {g : TG} {tt : TT} {tk tv : TE}
    (hc : X.calm = true) (hN : X.N.Nodup) (hy : X.N[i]? = some y) (hyl : X.env.scope.names.lookup y = some .local)
    (hsw : swapsWith (.DictComp kx vx [⟨tg, iter, ifs, 0⟩] scope pos) (some (.Name y py)) spos.line X.env = pure true) (hi : PI X tg iter wi) (ok : BlkOk X.N X.env.scope scope own)
    (hg : InBlk X scope fun Y => PG Y tg g) (ht : InBlk X scope fun Y => PTs Y ifs tt) (hk : InBlk X scope fun Y => PE Y kx tk) (he : InBlk X scope fun Y => PE Y vx tv)
    (hs : ∀ x, foldedSetIterable iter X.env x = pure x := by intro _; rfl) :
    PS X (.Assign [.Name y py] (.DictComp kx vx [⟨tg, iter, ifs, 0⟩] scope pos) spos) (tAsg (tDc wi g tt tk tv (own.map (·.2))) (gName i)) := by
  refine ⟨fun pins s σ H D I want => ?_⟩
  rw [exec_Assign_Name_used _ _ _ _ hsw]
  refine wpAny_bind (wpAny_standAt (wpAny_bind ?_))
  have want : tDc wi g tt tk tv (own.map (·.2)) σ H fun x H1 => gName i x σ H1 D.nx := want
  show wpAny _ X.A (do
    let _ ← comprehension (.DictComp kx vx [⟨tg, iter, ifs, 0⟩] scope pos) scope X.env (firstIterPos [⟨tg, iter, ifs, 0⟩] pos) newDict false (eval iter X.env) (some (assign (.Name y py) X.env))) _ _ s
  refine wpAny_bind (thn (dc_core (Qf := fun _ s' => SP X pins D .next s') hc hN I hi ok hg ht hk he hs want fun L C s' m H' J q hn fpo => ?_) fun _ s' done => wpAny_pure (wpAny_pure done))
  show wpAny _ _ (assign (.Name y py) X.env (.ref L)) _ _ _
  refine wpAny_assign_Name (store_ok2 (v := V.ref L) J hN hy (.inl hyl) rfl (fun s2 J2 ⟨a, sb, ha⟩ => ?_) (.inr hyl))
  obtain ⟨p0, p1, p2, p3, p4, p5⟩ := fpo
  have apart : C ≠ a := by
    cases ha with
    | inl z => rw [z]; exact p1
    | inr z => exact fun e => p4 y a z e.symm
  refine ⟨m, hn.sameBut sb apart, fun h3 sb3 => ⟨_, H', J2.turned (t' := s2.toks) (fun b o hb e => (sb3.2 b hb).trans e) p0 p1 p3 p4 p5, q⟩⟩
end
end U

/-! d.update(e); lists of texts compared; the last but one -/
namespace U
open PySem PySem.Spec PyProof.Rows L2
def rDUpd : V → List V → Hp → VK → Prop := fun x vs H Q => ∃ (a b : Addr) (kvs more : List (Key × V)), x = .ref a ∧ vs = [.ref b] ∧ a ≠ b ∧ H a = some (.dK kvs) ∧ H b = some (.dK more) ∧ kvs.length + more.length ≤ 100000 ∧ Q .non (upd H a (.dK (mergeK kvs more)))
theorem mtd_update {X : Cx} : MtR X "dict.update" rDUpd := by
  intro pins s σ H x vs v us Q I rx rv h
  obtain ⟨a, b, kvs, more, rfl, rfl, hab, ha, hb, hl, q⟩ := h
  obtain rfl : v = Value.ref a := rx
  cases rv with
  | cons r rr =>
    cases rr
    cases r
    obtain ⟨la, na, vs1, rel1, d1⟩ := dk_of I.hok ha
    obtain ⟨lb, nb, vs2, rel2, d2⟩ := dk_of I.hok hb
    have l1 := rel1.length
    have l2 := rel2.length
    have big : kvs.length + more.length ≤ sizeLine := Nat.le_trans hl (by decide)
    refine call_meetsIn PySem.F.slot_dict_update d1.typeIs PySem.F.entry_dict_update (PySem.F.args_dict_update_2 _ _) (meets_dict_update (mixKind X.prog X.w) a b hab nb) ⟨vs1, vs2, d1, d2, by rw [← l1, ← l2]; exact big, fun h' dd' _ hs => ?_⟩
    have he : ∃ q, h'.get? a = some q := let ⟨q, _, _, hq, _⟩ := dd'; ⟨q, hq⟩
    exact ⟨.non, _, d_write (t' := s.toks) I (by rw [ha]; exact True.intro) hs he (dk_new (Nat.le_trans (length_mergeK more kvs) big) na (KV.merge rel2 rel1) dd'), rfl, q⟩
/-! lists of texts compared -/
theorem eqvAll_strs : ∀ (xs ys : List Str), PyData.eqvAll (xs.map PyData.str) (ys.map PyData.str) = decide (xs = ys)
  | [], [] => by simp [PyData.eqvAll]
  | [], y :: ys => by simp [PyData.eqvAll]
  | x :: xs, [] => by simp [PyData.eqvAll]
  | x :: xs, y :: ys => by
    rw [List.map_cons, List.map_cons, PyData.eqvAll, eqvAll_strs xs ys]
    by_cases e : x = y
    · subst e
      simp [PyData.eqv]
    · simp [PyData.eqv, e]
theorem canLay_strs : ∀ {xs : List Str}, (∀ x ∈ xs, PyData.strOk x = true) → PyData.canLayAll0 (xs.map PyData.str) = true
  | [], _ => by simp [PyData.canLayAll0]
  | x :: xs, h => by
    rw [List.map_cons, PyData.canLayAll0, PyData.canLay0, h x List.mem_cons_self, canLay_strs fun y hy => h y (List.mem_cons_of_mem _ hy)]
    rfl
theorem depth_strs : ∀ {xs : List Str}, PyData.depthAll (xs.map PyData.str) = 0
  | [] => by simp [PyData.depthAll]
  | x :: xs => by
    rw [List.map_cons, PyData.depthAll, PyData.depth, depth_strs]
    rfl
theorem shaped_strs {xs : List Str} (h : ∀ x ∈ xs, PyData.strOk x = true) : SeqAt.shaped (.list (xs.map PyData.str)) = true := by
  unfold SeqAt.shaped
  rw [PyData.canLay0, canLay_strs h, PyData.depth, depth_strs]
  rfl
section
variable {K : PySem.W.Frag} {H : Hp} {Q : VK} {p q : Addr} {x y : V} {d : PyData} {xs ys : List Str}
theorem rd_neSL (hp : SqL K H p (xs.map V.str)) (hq : SqL K H q (ys.map V.str)) (ox : ∀ x ∈ xs, PyData.strOk x = true) (oy : ∀ x ∈ ys, PyData.strOk x = true) (h : Q (.bl (!decide (xs = ys))) H) : rNeU K (.ref p) (.ref q) H Q := by
  refine ⟨_, _, .lst hp (dp_strs _), .lst hq (dp_strs _), shaped_strs ox, shaped_strs oy, ?_⟩
  rw [PyData.eqv, eqvAll_strs]
  exact h
theorem rd_eqSL (hp : SqL K H p (xs.map V.str)) (hq : SqL K H q (ys.map V.str)) (ox : ∀ x ∈ xs, PyData.strOk x = true) (oy : ∀ x ∈ ys, PyData.strOk x = true) (h : Q (.bl (decide (xs = ys))) H) : rEqU K (.ref p) (.ref q) H Q := by
  refine ⟨_, _, .lst hp (dp_strs _), .lst hq (dp_strs _), shaped_strs ox, shaped_strs oy, ?_⟩
  rw [PyData.eqv, eqvAll_strs]
  exact h
/-- the same data twice -/
theorem rd_neSame (hp : Dp K H (.ref p) d) (hq : Dp K H (.ref q) d) (sh : SeqAt.shaped d = true) (h : Q (.bl false) H) : rNeU K (.ref p) (.ref q) H Q := by
  refine ⟨_, _, hp, hq, sh, sh, ?_⟩
  rw [SeqAt.eqv_refl _ (SeqAt.canLay_of_shaped sh)]
  exact h
theorem rd_eqSame (hp : Dp K H (.ref p) d) (hq : Dp K H (.ref q) d) (sh : SeqAt.shaped d = true) (h : Q (.bl true) H) : rEqU K (.ref p) (.ref q) H Q := by
  refine ⟨_, _, hp, hq, sh, sh, ?_⟩
  rw [SeqAt.eqv_refl _ (SeqAt.canLay_of_shaped sh)]
  exact h
end
end U

/-! components, root paths, basis cycles: the plain law -/
namespace U
open PySem PySem.Spec PyProof.Rows L2
theorem risingS_pw : ∀ {xs : List Str} {p : Str}, risingS p xs = true → (∀ x ∈ xs, ¬ sLt x p) ∧ xs.Pairwise (fun a b => ¬ sLt b a)
  | [], _, _ => ⟨(fun x hx => nomatch hx), List.Pairwise.nil⟩
  | x :: r, p, h => by
    rw [risingS, Bool.and_eq_true, Bool.not_eq_true', ltCps_eq, decide_eq_false_iff_not] at h
    obtain ⟨h1, h2⟩ := h
    obtain ⟨k1, k2⟩ := risingS_pw h2
    refine ⟨fun y hy => ?_, List.pairwise_cons.mpr ⟨k1, k2⟩⟩
    rcases List.mem_cons.mp hy with rfl | hy
    · exact h1
    · exact nlt_trans h1 (k1 y hy)
theorem sortedS_pw : ∀ {xs : List Str}, sortedS xs = true → xs.Pairwise (fun a b => ¬ sLt b a)
  | [], _ => List.Pairwise.nil
  | x :: r, h => by
    obtain ⟨a, b⟩ := risingS_pw (show risingS x r = true from h)
    exact List.pairwise_cons.mpr ⟨a, b⟩
abbrev ptF (es : List (Str × Str)) (x : Str) : List (Str × List Str) := pathsF (nbS es) (fun _ _ => true) x
abbrev Con (es : List (Str × Str)) (x y : Str) : Prop := Reach (nbS es) (fun _ _ => true) x y
section
variable {ns : List Str} {es : List (Str × Str)} {x y : Str}
theorem con_symm (h : Con es x y) : Con es y x := by
  induction h with
  | refl => exact .refl
  | step _ m _ ih =>
    refine Reach.trans (.step .refl ?_ rfl) ih
    exact nbS_mem.mpr ((nbS_mem.mp m).symm)
theorem pt_mem (ok : GrOk ns es) (l : ns.length ≤ 1000) (hx : x ∈ ns) : y ∈ keysF (ptF es x) ↔ Con es x y :=
  ⟨fun h => stF_reach h, fun h => stF_all (by have := stF_len (ok := fun _ _ => true) (adj := nbS es) (ns := ns) (fun a _ b hb => nbS_in ok hb) hx 1000; omega) h⟩
theorem pt_nodup : (keysF (ptF es x)).Nodup := stF_nodup 1000
theorem pt_len (ok : GrOk ns es) (hx : x ∈ ns) : (ptF es x).length ≤ ns.length := stF_len (fun a _ b hb => nbS_in ok hb) hx 1000
theorem pt_in (ok : GrOk ns es) (hx : x ∈ ns) (h : y ∈ keysF (ptF es x)) : y ∈ ns := reach_mem (fun a _ b hb => nbS_in ok hb) hx (stF_reach h)
def comp (es : List (Str × Str)) (x : Str) : List Str := sortS (keysF (ptF es x))
theorem comp_mem (ok : GrOk ns es) (l : ns.length ≤ 1000) (hx : x ∈ ns) : y ∈ comp es x ↔ Con es x y := by
  unfold comp
  rw [(sortS_perm _).mem_iff, pt_mem ok l hx]
theorem comp_len (ok : GrOk ns es) (hx : x ∈ ns) : (comp es x).length ≤ ns.length := by
  unfold comp
  rw [(sortS_perm _).length_eq, List.length_map]
  exact pt_len ok hx
def compStep (es : List (Str × Str)) (cs : List (List Str)) (n : Str) : List (List Str) := if n ∈ cs.flatten then cs else cs ++ [comp es n]
def compsF (ns : List Str) (es : List (Str × Str)) : List (List Str) := ns.foldl (compStep es) []
/-- components found from the nodes ds, all in ns -/
structure Cmps (ns : List Str) (es : List (Str × Str)) (ds : List Str) (cs : List (List Str)) : Prop where
  of : ∀ c ∈ cs, ∃ r ∈ ns, c = comp es r
  nd : cs.flatten.Nodup
  all : ∀ x ∈ ds, x ∈ cs.flatten
theorem Cmps.nil : Cmps ns es [] [] := ⟨(fun c hc => nomatch hc), List.nodup_nil, (fun x hx => nomatch hx)⟩
theorem Cmps.in_ {ds : List Str} {cs : List (List Str)} (h : Cmps ns es ds cs) (ok : GrOk ns es) : ∀ x ∈ cs.flatten, x ∈ ns := fun x hx => by
  obtain ⟨c, hc, hx⟩ := List.mem_flatten.mp hx
  obtain ⟨r, hr, rfl⟩ := h.of c hc
  exact pt_in ok hr ((sortS_perm _).mem_iff.mp hx)
theorem Cmps.step {ds : List Str} {cs : List (List Str)} {n : Str} (h : Cmps ns es ds cs) (ok : GrOk ns es) (l : ns.length ≤ 1000) (hn : n ∈ ns) : Cmps ns es (ds ++ [n]) (compStep es cs n) := by
  unfold compStep
  by_cases m : n ∈ cs.flatten
  · rw [if_pos m]
    refine ⟨h.of, h.nd, fun x hx => ?_⟩
    rcases List.mem_append.mp hx with hx | hx
    · exact h.all x hx
    · rw [List.mem_singleton] at hx
      rw [hx]
      exact m
  · rw [if_neg m]
    refine ⟨fun c hc => ?_, ?_, fun x hx => ?_⟩
    · rcases List.mem_append.mp hc with hc | hc
      · exact h.of c hc
      · rw [List.mem_singleton] at hc
        exact ⟨n, hn, hc⟩
    · rw [List.flatten_append, List.nodup_append]
      refine ⟨h.nd, ?_, fun a ha b hb z => ?_⟩
      · rw [List.flatten_singleton]
        exact (sortS_perm _).nodup_iff.mpr pt_nodup
      · rw [List.flatten_singleton] at hb
        subst z
        obtain ⟨c, hc, ha⟩ := List.mem_flatten.mp ha
        obtain ⟨r, hr, rfl⟩ := h.of c hc
        have h1 := (comp_mem ok l hr).mp ha
        have h2 := (comp_mem ok l hn).mp hb
        exact m (List.mem_flatten.mpr ⟨_, hc, (comp_mem ok l hr).mpr (h1.trans (con_symm h2))⟩)
    · rw [List.flatten_append, List.flatten_singleton]
      rcases List.mem_append.mp hx with hx | hx
      · exact List.mem_append_left _ (h.all x hx)
      · rw [List.mem_singleton] at hx
        subst hx
        exact List.mem_append_right _ ((comp_mem ok l hn).mpr .refl)
theorem compsF_ok (ok : GrOk ns es) (l : ns.length ≤ 1000) : Cmps ns es ns (compsF ns es) := by
  have key : ∀ (xs ds : List Str) (cs : List (List Str)), (∀ x ∈ xs, x ∈ ns) → Cmps ns es ds cs → Cmps ns es (ds ++ xs) (xs.foldl (compStep es) cs) := by
    intro xs
    induction xs with
    | nil => intro ds cs _ h; rw [List.append_nil]; exact h
    | cons x r ih =>
      intro ds cs hx h
      have := ih (ds ++ [x]) (compStep es cs x) (fun y hy => hx y (List.mem_cons_of_mem _ hy)) (h.step ok l (hx x List.mem_cons_self))
      rw [List.append_assoc] at this
      exact this
  exact key ns [] [] (fun _ h => h) .nil
theorem Cmps.len {ds : List Str} {cs : List (List Str)} (h : Cmps ns es ds cs) (ok : GrOk ns es) : cs.flatten.length ≤ ns.length := nodup_len h.nd (h.in_ ok)
theorem comp_pos : 0 < (comp es x).length := by
  unfold comp
  rw [(sortS_perm _).length_eq, List.length_map]
  obtain ⟨r, h⟩ := stF_root (adj := nbS es) (ok := fun _ _ => true) (root := x) 1000
  show 0 < (stF (nbS es) (fun _ _ => true) x 1000).length
  rw [h]
  exact Nat.succ_pos _
/-! root paths -/
def rootsF (es : List (Str × Str)) (cs : List (List Str)) : List (Str × List Str) := cs.flatMap fun c => ptF es (c.headD Str.empty)
theorem head_in {c : List Str} (h : 0 < c.length) : c.headD Str.empty ∈ c := by
  cases c with
  | nil => cases h
  | cons x r => exact List.mem_cons_self
theorem root_keys (ok : GrOk ns es) (l : ns.length ≤ 1000) {r : Str} (hr : r ∈ ns) : (comp es r).headD Str.empty ∈ ns ∧ ∀ y, y ∈ keysF (ptF es ((comp es r).headD Str.empty)) ↔ y ∈ comp es r := by
  have h0 := head_in (comp_pos (es := es) (x := r))
  have h1 := (comp_mem ok l hr).mp h0
  have hn : (comp es r).headD Str.empty ∈ ns := reach_mem (fun a _ b hb => nbS_in ok hb) hr h1
  refine ⟨hn, fun y => ?_⟩
  rw [pt_mem ok l hn, comp_mem ok l hr]
  exact ⟨fun h => h1.trans h, fun h => (con_symm h1).trans h⟩
theorem rootsF_snoc {cs : List (List Str)} {c : List Str} : rootsF es (cs ++ [c]) = rootsF es cs ++ ptF es (c.headD Str.empty) := by
  unfold rootsF
  rw [List.flatMap_append, List.flatMap_singleton]
theorem roots_keys (ok : GrOk ns es) (l : ns.length ≤ 1000) : ∀ {cs : List (List Str)}, (∀ c ∈ cs, ∃ r ∈ ns, c = comp es r) → ∀ y, y ∈ keysF (rootsF es cs) ↔ y ∈ cs.flatten
  | [], _, y => by simp [rootsF]
  | c :: cs, h, y => by
    obtain ⟨r, hr, rfl⟩ := h c List.mem_cons_self
    have ih := roots_keys ok l (cs := cs) (fun d hd => h d (List.mem_cons_of_mem _ hd)) y
    have e : rootsF es (comp es r :: cs) = ptF es ((comp es r).headD Str.empty) ++ rootsF es cs := rfl
    rw [e, keysF, List.map_append, List.mem_append, List.flatten_cons, List.mem_append, ← ih, ← (root_keys ok l hr).2 y]
/-- a list of names, each next to its neighbours -/
def Walk2 (es : List (Str × Str)) (p : List Str) : Prop := ∀ i (h : i + 1 < p.length), (p[i], p[i + 1]) ∈ es ∨ (p[i + 1], p[i]) ∈ es
end
end U

/-! sums of slopes along walks: the plain law -/
namespace U
open PySem PySem.Spec PyProof.Rows L2
def Adj (es : List (Str × Str)) (a b : Str) : Prop := (a, b) ∈ es ∨ (b, a) ∈ es
theorem Adj.symm {es : List (Str × Str)} {a b : Str} (h : Adj es a b) : Adj es b a := Or.symm h
def Wk (es : List (Str × Str)) : List Str → Prop
  | a :: b :: r => Adj es a b ∧ Wk es (b :: r)
  | _ => True
/-- the slopes along a list -/
def psl (f : Str → Int) : List Str → List Int
  | a :: b :: r => slp f a b :: psl f (b :: r)
  | _ => []
def psum (f : Str → Int) (p : List Str) : Int := (psl f p).sum
theorem psl_len (f : Str → Int) : ∀ p : List Str, (psl f p).length = p.length - 1
  | [] => rfl
  | [_] => rfl
  | a :: b :: r => by
    rw [psl, List.length_cons, psl_len f (b :: r)]
    simp
theorem psl_at (f : Str → Int) : ∀ (p : List Str) (i : Nat) (h : i + 1 < p.length), (psl f p)[i]? = some (slp f p[i] p[i + 1])
  | a :: b :: r, 0, _ => rfl
  | a :: b :: r, i + 1, h => by
    rw [psl, List.getElem?_cons_succ, psl_at f (b :: r) i (by simp at h ⊢; omega)]
    rfl
theorem psum_cons {f : Str → Int} {a b : Str} {r : List Str} : psum f (a :: b :: r) = slp f a b + psum f (b :: r) := by
  unfold psum
  rw [psl, List.sum_cons]
theorem psum_one {f : Str → Int} {a : Str} : psum f [a] = 0 := rfl
/-- p, behind its last the rest r -/
theorem psum_join {f : Str → Int} : ∀ {p r : List Str} {x : Str}, p.getLast? = some x → psum f (p ++ r) = psum f p + psum f (x :: r)
  | [], _, _, h => nomatch h
  | [a], r, x, h => by
    have : a = x := by simpa using h
    subst this
    rw [psum_one, Int.zero_add]
    rfl
  | a :: b :: q, r, x, h => by
    have h' : (b :: q).getLast? = some x := by rw [List.getLast?_cons_cons] at h; exact h
    have ih := psum_join (f := f) (p := b :: q) (r := r) h'
    rw [List.cons_append, List.cons_append, psum_cons, psum_cons]
    rw [List.cons_append] at ih
    rw [ih]
    omega
theorem Wk.join {es : List (Str × Str)} : ∀ {p r : List Str} {x : Str}, p.getLast? = some x → Wk es p → Wk es (x :: r) → Wk es (p ++ r)
  | [], _, _, h, _, _ => nomatch h
  | [a], r, x, h, _, w => by
    have : a = x := by simpa using h
    subst this
    exact w
  | a :: b :: q, r, x, h, w1, w2 => by
    have h' : (b :: q).getLast? = some x := by rw [List.getLast?_cons_cons] at h; exact h
    exact ⟨w1.1, Wk.join (p := b :: q) h' w1.2 w2⟩
theorem Wk.snoc {es : List (Str × Str)} {p : List Str} {x b : Str} (h : p.getLast? = some x) (w : Wk es p) (a : Adj es x b) : Wk es (p ++ [b]) := w.join h ⟨a, trivial⟩
theorem Wk.left {es : List (Str × Str)} : ∀ {p r : List Str}, Wk es (p ++ r) → Wk es p
  | [], _, _ => trivial
  | [_], _, _ => trivial
  | a :: b :: q, r, w => ⟨w.1, Wk.left (p := b :: q) (r := r) w.2⟩
theorem Wk.tail {es : List (Str × Str)} {a : Str} {p : List Str} (w : Wk es (a :: p)) : Wk es p := by
  cases p with
  | nil => trivial
  | cons b r => exact w.2
theorem Wk.right {es : List (Str × Str)} : ∀ {p r : List Str}, Wk es (p ++ r) → Wk es r
  | [], _, w => w
  | a :: q, r, w => Wk.right (p := q) (r := r) (Wk.tail w)
theorem Wk.rev {es : List (Str × Str)} : ∀ {p : List Str}, Wk es p → Wk es p.reverse
  | [], _ => trivial
  | [_], _ => trivial
  | a :: b :: r, w => by
    have ih := Wk.rev (p := b :: r) w.2
    rw [List.reverse_cons]
    refine ih.snoc (x := b) ?_ w.1.symm
    rw [List.reverse_cons, List.getLast?_append]
    simp
section
variable {ns : List Str} {es : List (Str × Str)} {f : Str → Int}
theorem slp_neg (ok : EsOk ns es f) {a b : Str} (h : Adj es a b) : slp f b a = - slp f a b := by
  have ha : a ∈ ns ∧ b ∈ ns ∧ f a ≠ f b := by
    rcases h with h | h
    · exact ⟨(ok.mem _ h).1, (ok.mem _ h).2, ok.pro _ h⟩
    · exact ⟨(ok.mem _ h).2, (ok.mem _ h).1, fun z => ok.pro _ h z.symm⟩
  have t1 := ok.tri a ha.1
  have t2 := ok.tri b ha.2.1
  have ne := ha.2.2
  unfold slp
  split <;> split <;> omega
theorem slp_mod (ok : EsOk ns es f) {a b : Str} (h : Adj es a b) : slp f a b % 3 = (f b - f a) % 3 := by
  have ha : a ∈ ns ∧ b ∈ ns ∧ f a ≠ f b := by
    rcases h with h | h
    · exact ⟨(ok.mem _ h).1, (ok.mem _ h).2, ok.pro _ h⟩
    · exact ⟨(ok.mem _ h).2, (ok.mem _ h).1, fun z => ok.pro _ h z.symm⟩
  have t1 := ok.tri a ha.1
  have t2 := ok.tri b ha.2.1
  have ne := ha.2.2
  unfold slp
  split <;> omega
theorem psum_rev (ok : EsOk ns es f) : ∀ {p : List Str}, Wk es p → psum f p.reverse = - psum f p
  | [], _ => rfl
  | [_], _ => rfl
  | a :: b :: r, w => by
    have ih := psum_rev ok (p := b :: r) w.2
    have hl : (b :: r).reverse.getLast? = some b := by
      rw [List.reverse_cons, List.getLast?_append]
      simp
    rw [List.reverse_cons, psum_join hl, ih, psum_cons, psum_cons, psum_one, slp_neg ok w.1]
    omega
theorem psum_mod (ok : EsOk ns es f) : ∀ {p : List Str} {a b : Str}, Wk es p → p.head? = some a → p.getLast? = some b → psum f p % 3 = (f b - f a) % 3
  | [], _, _, _, h, _ => nomatch h
  | [x], a, b, _, h, k => by
    have h1 : x = a := by simpa using h
    have h2 : x = b := by simpa using k
    subst h1
    subst h2
    rw [psum_one]
    omega
  | x :: y :: r, a, b, w, h, k => by
    have h1 : x = a := by simpa using h
    subst h1
    have k' : (y :: r).getLast? = some b := by rw [List.getLast?_cons_cons] at k; exact k
    have ih := psum_mod ok (p := y :: r) (a := y) w.2 rfl k'
    have m := slp_mod ok w.1
    rw [psum_cons]
    omega
/-- two states apart by the numbers h -/
theorem psum_lift {g h : Str → Int} (okf : EsOk ns es f) (okg : EsOk ns es g) (t : ∀ e ∈ es, slp f e.1 e.2 - slp g e.1 e.2 = 2 * (h e.1 - h e.2)) : ∀ {p : List Str} {a b : Str}, Wk es p → p.head? = some a → p.getLast? = some b → psum f p - psum g p = 2 * (h a - h b)
  | [], _, _, _, h, _ => nomatch h
  | [x], a, b, _, h, k => by
    have h1 : x = a := by simpa using h
    have h2 : x = b := by simpa using k
    subst h1
    subst h2
    rw [psum_one, psum_one]
    omega
  | x :: y :: r, a, b, w, k1, k => by
    have h1 : x = a := by simpa using k1
    subst h1
    have k' : (y :: r).getLast? = some b := by rw [List.getLast?_cons_cons] at k; exact k
    have ih := psum_lift okf okg t (p := y :: r) (a := y) w.2 rfl k'
    rw [psum_cons, psum_cons]
    have m : slp f x y - slp g x y = 2 * (h x - h y) := by
      rcases w.1 with q | q
      · exact t _ q
      · have := t _ q
        have n1 := slp_neg okf (.inl q)
        have n2 := slp_neg okg (.inl q)
        simp only at this
        omega
    omega
theorem psum_closed (ok : EsOk ns es f) {p : List Str} {a : Str} (w : Wk es p) (h : p.head? = some a) (k : p.getLast? = some a) : psum f p % 3 = 0 := by
  rw [psum_mod ok w h k]
  omega
end
/-! ### the paths found are walks -/
theorem PathTo.wk {es : List (Str × Str)} {ok : Str → Str → Bool} {root x : Str} {p : List Str} (h : PathTo (nbS es) ok root x p) : Wk es p ∧ p.head? = some root ∧ p.getLast? = some x := by
  induction h with
  | one => exact ⟨trivial, rfl, rfl⟩
  | @snoc a b p _ m o ih =>
    obtain ⟨h1, h2, h3⟩ := ih
    refine ⟨h1.snoc h3 (nbS_mem.mp m), ?_, by simp⟩
    cases p with
    | nil => cases h2
    | cons _ _ => exact h2
/-! ### basis cycles -/
def pen (p : List Str) : List Str := (p.drop (p.length - 2)).take ((p.length - 1) - (p.length - 2))
def pth (kp : List (Str × List Str)) (x : Str) : List Str := (kp.lookup x).getD []
def isBasis (kp : List (Str × List Str)) (e : Str × Str) : Bool := !decide (pen (pth kp e.1) = [e.2]) && !decide (pen (pth kp e.2) = [e.1])
def basisF (es : List (Str × Str)) (kp : List (Str × List Str)) : List (List Str) := (es.filter (isBasis kp)).map fun e => pth kp e.1 ++ (pth kp e.2).reverse
theorem lookup_some : ∀ {kp : List (Str × List Str)} {x : Str}, x ∈ keysF kp → ∃ p, kp.lookup x = some p ∧ (x, p) ∈ kp
  | y :: r, x, h => by
    rw [List.lookup_cons]
    by_cases e : x = y.1
    · subst e
      rw [show (y.1 == y.1) = true from beq_self_eq_true _]
      exact ⟨y.2, rfl, List.mem_cons_self⟩
    · rw [show (x == y.1) = false from beq_eq_false_iff_ne.mpr e]
      have : x ∈ keysF r := by
        rcases List.mem_cons.mp h with z | z
        · exact absurd z e
        · exact z
      obtain ⟨p, h1, h2⟩ := lookup_some this
      exact ⟨p, h1, List.mem_cons_of_mem _ h2⟩
theorem lookup_uniq : ∀ {kp : List (Str × List Str)} {x : Str} {p : List Str}, (keysF kp).Nodup → (x, p) ∈ kp → kp.lookup x = some p
  | y :: r, x, p, nd, h => by
    have nd' : y.1 ∉ keysF r ∧ (keysF r).Nodup := List.nodup_cons.mp nd
    rw [List.lookup_cons]
    rcases List.mem_cons.mp h with e | h
    · rw [← e]
      rw [show (x == x) = true from beq_self_eq_true _]
    · have : x ≠ y.1 := by
        rintro rfl
        exact nd'.1 (List.mem_map_of_mem (f := (·.1)) h)
      rw [show (x == y.1) = false from beq_eq_false_iff_ne.mpr this]
      exact lookup_uniq nd'.2 h
section
variable {ns : List Str} {es : List (Str × Str)}
theorem comp_same (ok : GrOk ns es) (l : ns.length ≤ 1000) {r s x y : Str} (hr : r ∈ ns) (hs : s ∈ ns) (hx : x ∈ comp es r) (hy : y ∈ comp es s) (c : Con es x y) : comp es r = comp es s := by
  have h1 := (comp_mem ok l hr).mp hx
  have h2 := (comp_mem ok l hs).mp hy
  have rs : Con es r s := (h1.trans c).trans (con_symm h2)
  refine asc_unique (sortS_asc pt_nodup) (sortS_asc pt_nodup) fun z => ?_
  rw [comp_mem ok l hr, comp_mem ok l hs]
  exact ⟨fun h => (con_symm rs).trans h, fun h => rs.trans h⟩
/-- each node has its root path: a walk from the root of its component -/
theorem roots_path (ok : GrOk ns es) (l : ns.length ≤ 1000) {x : Str} (hx : x ∈ ns) : ∃ r ∈ ns, x ∈ comp es r ∧ PathTo (nbS es) (fun _ _ => true) ((comp es r).headD Str.empty) x (pth (rootsF es (compsF ns es)) x) := by
  have cm := compsF_ok ok l
  have hk : x ∈ keysF (rootsF es (compsF ns es)) := (roots_keys ok l cm.of x).mpr (cm.all x hx)
  obtain ⟨p, h1, h2⟩ := lookup_some hk
  have e : pth (rootsF es (compsF ns es)) x = p := by unfold pth; rw [h1]; rfl
  rw [e]
  obtain ⟨c, hc, h3⟩ := List.mem_flatMap.mp h2
  obtain ⟨r, hr, rfl⟩ := cm.of c hc
  exact ⟨r, hr, ((root_keys ok l hr).2 x).mp (List.mem_map_of_mem h3), stF_path 1000 _ h3⟩
theorem basis_ok (ok : GrOk ns es) (l : ns.length ≤ 1000) : ∀ c ∈ basisF es (rootsF es (compsF ns es)), Wk es c ∧ ∃ a, c.head? = some a ∧ c.getLast? = some a := by
  intro c hc
  obtain ⟨e, he, rfl⟩ := List.mem_map.mp hc
  have he := (List.mem_filter.mp he).1
  obtain ⟨m1, m2⟩ := ok.mem e he
  obtain ⟨r, hr, hx, p1⟩ := roots_path ok l m1
  obtain ⟨s, hs, hy, p2⟩ := roots_path ok l m2
  have cs := comp_same ok l hr hs hx hy (.step .refl (nbS_mem.mpr (.inl he)) rfl)
  rw [← cs] at p2
  obtain ⟨w1, h1, k1⟩ := p1.wk
  obtain ⟨w2, h2, k2⟩ := p2.wk
  generalize pth (rootsF es (compsF ns es)) e.1 = p at *
  generalize pth (rootsF es (compsF ns es)) e.2 = q at *
  generalize (comp es r).headD Str.empty = rt at *
  have hq : q.reverse.head? = some e.2 := by rw [List.head?_reverse]; exact k2
  have lq : q.reverse.getLast? = some rt := by rw [List.getLast?_reverse]; exact h2
  refine ⟨w1.join k1 ?_, rt, ?_, ?_⟩
  · have w3 := w2.rev
    cases e3 : q.reverse with
    | nil => rw [e3] at hq; cases hq
    | cons y t =>
      rw [e3] at hq w3
      have : y = e.2 := by simpa using hq
      subst this
      exact ⟨.inl he, w3⟩
  · rw [List.head?_append, h1]
    rfl
  · rw [List.getLast?_append, lq]
    rfl
end
end U

/-! rising cycles, feasible lifts, progress: the plain law -/
namespace U
open PySem PySem.Spec PyProof.Rows L2
def slOk (f : Str → Int) (dir : Int) (a b : Str) : Bool := decide (slp f a b = dir)
abbrev Rr (es : List (Str × Str)) (f : Str → Int) (dir : Int) (x y : Str) : Prop := Reach (nbS es) (slOk f dir) x y
/-- x is on a rising (falling) cycle -/
def CycD (es : List (Str × Str)) (f : Str → Int) (dir : Int) (x : Str) : Prop := ∃ y, Adj es y x ∧ slp f y x = dir ∧ Rr es f dir x y
abbrev Cyc (es : List (Str × Str)) (f : Str → Int) (x : Str) : Prop := CycD es f 1 x
section
variable {ns : List Str} {es : List (Str × Str)} {f : Str → Int} {dir : Int}
theorem rr_step {a b : Str} (h : Adj es a b) (k : slp f a b = dir) : Rr es f dir a b := .step .refl (nbS_mem.mpr h) (decide_eq_true k)
theorem rr_snoc {a b c : Str} (r : Rr es f dir a b) (h : Adj es b c) (k : slp f b c = dir) : Rr es f dir a c := .step r (nbS_mem.mpr h) (decide_eq_true k)
theorem rr_first {x y : Str} (r : Rr es f dir x y) : y = x ∨ ∃ z, Adj es x z ∧ slp f x z = dir ∧ Rr es f dir z y := by
  induction r with
  | refl => exact .inl rfl
  | @step a b _ m o ih =>
    have o' := of_decide_eq_true o
    have m' := nbS_mem.mp m
    rcases ih with rfl | ⟨z, h1, h2, h3⟩
    · exact .inr ⟨b, m', o', .refl⟩
    · exact .inr ⟨z, h1, h2, .step h3 m o⟩
theorem rr_last {x y : Str} (r : Rr es f dir x y) : y = x ∨ ∃ z, Adj es z y ∧ slp f z y = dir ∧ Rr es f dir x z := by
  cases r with
  | refl => exact .inl rfl
  | step r m o => exact .inr ⟨_, nbS_mem.mp m, of_decide_eq_true o, r⟩
/-- what lies on the way of a cycle is on a cycle -/
theorem cyc_on {x w y : Str} (r1 : Rr es f dir x w) (r2 : Rr es f dir w y) (h : Adj es y x) (k : slp f y x = dir) : CycD es f dir w := by
  rcases rr_last r1 with e | ⟨z, z1, z2, z3⟩
  · rw [e] at r2 ⊢
    exact ⟨y, h, k, r2⟩
  · exact ⟨z, z1, z2, (rr_snoc r2 h k).trans z3⟩
theorem adj_in (ok : EsOk ns es f) {a b : Str} (h : Adj es a b) : a ∈ ns ∧ b ∈ ns ∧ f a ≠ f b ∧ a ≠ b := by
  have m : a ∈ ns ∧ b ∈ ns ∧ f a ≠ f b := by
    rcases h with h | h
    · exact ⟨(ok.mem _ h).1, (ok.mem _ h).2, ok.pro _ h⟩
    · exact ⟨(ok.mem _ h).2, (ok.mem _ h).1, fun z => ok.pro _ h z.symm⟩
  exact ⟨m.1, m.2.1, m.2.2, fun z => m.2.2 (by rw [z])⟩
/-- a node on a cycle has no move -/
theorem cyc_still (ok : EsOk ns es f) {pn : List Str} {m : Str × Int} (l : Legal ns es f pn m) : ¬ Cyc es f m.1 := by
  rintro ⟨y, h, k, r⟩
  have ay := adj_in ok h
  rcases rr_first r with e | ⟨z, h1, h2, _⟩
  · exact ay.2.2.2 e
  have az := adj_in ok h1
  have ty := ok.tri y ay.1
  have tx := ok.tri _ ay.2.1
  have tz := ok.tri z az.2.1
  have n1 := l.nbr y (.symm h)
  have n2 := l.nbr z h1
  have n3 := l.own
  have tv := l.val
  have e1 : (f m.1 - f y) % 3 = 1 := by
    unfold slp at k
    split at k
    · assumption
    · cases k
  have e2 : (f z - f m.1) % 3 = 1 := by
    unfold slp at h2
    split at h2
    · assumption
    · cases h2
  have d1 := ay.2.2.1
  have d2 := az.2.2.1
  omega
theorem slp_off {n : Str} {v : Int} {a b : Str} (ha : a ≠ n) (hb : b ≠ n) : slp (updf f n v) a b = slp f a b := by
  unfold slp updf
  rw [if_neg ha, if_neg hb]
/-- cycles stay -/
theorem cyc_move (ok : EsOk ns es f) {pn : List Str} {m : Str × Int} (l : Legal ns es f pn m) {x : Str} (c : Cyc es f x) : Cyc es (updf f m.1 m.2) x := by
  obtain ⟨y, h, k, r⟩ := c
  have st := cyc_still ok l
  have off : ∀ w, Rr es f 1 x w → Rr es f 1 w y → w ≠ m.1 := fun w r1 r2 z => st (by rw [← z]; exact cyc_on r1 r2 h k)
  have walk : ∀ w, Rr es f 1 x w → Rr es f 1 w y → Rr es (updf f m.1 m.2) 1 x w := by
    intro w r1
    induction r1 with
    | refl => intro _; exact .refl
    | @step a b r1 mm o ih =>
      intro r2
      have o' := of_decide_eq_true o
      have m' := nbS_mem.mp mm
      have r2' : Rr es f 1 a y := (rr_step m' o').trans r2
      refine rr_snoc (ih r2') m' ?_
      rw [slp_off (off a r1 r2') (off b (.step r1 mm o) r2)]
      exact o'
  refine ⟨y, h, ?_, walk y r .refl⟩
  rw [slp_off (off y r .refl) (off x .refl r)]
  exact k
theorem legal_back (ok : EsOk ns es f) {pn : List Str} {m : Str × Int} (l : Legal ns es f pn m) : Legal ns es (updf f m.1 m.2) pn (m.1, f m.1) := by
  have own : f m.1 ≠ updf f m.1 m.2 m.1 := by
    unfold updf
    rw [if_pos rfl]
    exact fun z => l.own z.symm
  refine ⟨l.mem, l.pin, ok.tri _ l.mem, own, fun z hz => ?_⟩
  have a := adj_in ok (show Adj es m.1 z from hz)
  show f m.1 ≠ updf f m.1 m.2 z
  unfold updf
  rw [if_neg (Ne.symm a.2.2.2)]
  exact a.2.2.1
theorem updf_undo {n : Str} {v : Int} : updf (updf f n v) n (f n) = f := by
  funext x
  unfold updf
  by_cases e : x = n
  · rw [if_pos e, e]
  · rw [if_neg e, if_neg e]
theorem cyc_iff (ok : EsOk ns es f) {pn : List Str} {m : Str × Int} (l : Legal ns es f pn m) {x : Str} : Cyc es (updf f m.1 m.2) x ↔ Cyc es f x := by
  refine ⟨fun c => ?_, cyc_move ok l⟩
  have ok' := (move_keeps (f0 := f) (h := fun _ => 0) ok l fun e _ => by omega).1
  have := cyc_move ok' (legal_back ok l) c
  rw [updf_undo] at this
  exact this
/-! ### feasible lifts -/
structure Feas (ns : List Str) (es : List (Str × Str)) (f h : Str → Int) (pn : List Str) : Prop where
  fit : Fits es f h
  pin : ∀ x ∈ pn, h x = 0
  cyc : ∀ x, Cyc es f x → h x = 0
theorem fit_pm {a b : Str} : fitB f h a b = true ↔ slp f a b - 2 * (h a - h b) = 1 ∨ slp f a b - 2 * (h a - h b) = -1 := by
  rw [fit_iff]
  rcases slp_pm f a b with e | e
  · rw [if_pos e, e]
    omega
  · rw [if_neg (by rw [e]; decide), e]
    omega
/-- a move, and one less to go -/
theorem feas_move (ok : EsOk ns es f) {pn : List Str} {h : Str → Int} {m : Str × Int} (fe : Feas ns es f h pn) (l : Legal ns es f pn m) : Feas ns es (updf f m.1 m.2) (updf h m.1 (h m.1 - dlt (f m.1 - m.2))) pn := by
  have mk := (move_keeps (f0 := f) (h := fun _ => 0) ok l fun e _ => by omega).2
  have ne : ∀ x, Cyc es f x ∨ x ∈ pn → x ≠ m.1 := fun x hx z => by
    rcases hx with c | c
    · rw [z] at c
      exact cyc_still ok l c
    · rw [z] at c
      exact l.pin c
  refine ⟨fun e he => ?_, fun x hx => ?_, fun x hx => ?_⟩
  · have a := fit_pm.mp (fe.fit e he)
    have b := mk e he
    rw [fit_pm]
    have u1 : ∀ x, updf h m.1 (h m.1 - dlt (f m.1 - m.2)) x = h x - updf (fun _ => 0) m.1 (0 + dlt (f m.1 - m.2)) x := fun x => by
      unfold updf
      by_cases z : x = m.1
      · rw [if_pos z, if_pos z, z]
        omega
      · rw [if_neg z, if_neg z]
        show h x = h x - 0
        omega
    rw [u1, u1]
    omega
  · unfold updf
    rw [if_neg (ne x (.inr hx))]
    exact fe.pin x hx
  · have c := (cyc_iff ok l).mp hx
    unfold updf
    rw [if_neg (ne x (.inl c))]
    exact fe.cyc x c
/-! ### progress -/
noncomputable def anc (ns : List Str) (es : List (Str × Str)) (f : Str → Int) (dir : Int) (s : Str) : List Str := by
  classical
  exact ns.filter fun z => decide (Rr es f dir z s)
theorem cyc_of_pred (ok : EsOk ns es f) (nd : ns.Nodup) {S : Str → Prop} (sn : ∀ s, S s → s ∈ ns) (pred : ∀ s, S s → ∃ y, S y ∧ Adj es y s ∧ slp f y s = dir) : ∀ (k : Nat) (s : Str), S s → (anc ns es f dir s).length ≤ k → ∃ s, S s ∧ CycD es f dir s := by
  classical
  intro k
  induction k with
  | zero =>
    intro s hs hk
    have : s ∈ anc ns es f dir s := List.mem_filter.mpr ⟨sn s hs, decide_eq_true .refl⟩
    have := List.length_pos_of_mem this
    omega
  | succ k ih =>
    intro s hs hk
    obtain ⟨y, hy, a, e⟩ := pred s hs
    by_cases r : Rr es f dir s y
    · exact ⟨s, hs, y, a, e, r⟩
    · refine ih y hy ?_
      have ndy : (anc ns es f dir y).Nodup := List.Nodup.sublist List.filter_sublist nd
      have : (s :: anc ns es f dir y).length ≤ (anc ns es f dir s).length := nodup_len (List.nodup_cons.mpr ⟨fun z => r (of_decide_eq_true (List.mem_filter.mp z).2), ndy⟩) fun x hx => by
        rcases List.mem_cons.mp hx with rfl | hx
        · exact List.mem_filter.mpr ⟨sn x hs, decide_eq_true .refl⟩
        · obtain ⟨h1, h2⟩ := List.mem_filter.mp hx
          exact List.mem_filter.mpr ⟨h1, decide_eq_true (rr_snoc (of_decide_eq_true h2) a e)⟩
      rw [List.length_cons] at this
      omega
theorem rr_rev (ok : EsOk ns es f) {x y : Str} (r : Rr es f (-1) x y) : Rr es f 1 y x := by
  induction r with
  | refl => exact .refl
  | @step a b _ m o ih =>
    have o' := of_decide_eq_true o
    have m' := nbS_mem.mp m
    refine (rr_step m'.symm ?_).trans ih
    rw [slp_neg ok m', o']
    rfl
theorem cyc_rev (ok : EsOk ns es f) {x : Str} (c : CycD es f (-1) x) : Cyc es f x := by
  obtain ⟨y, h, k, r⟩ := c
  have r1 := rr_rev ok r
  have k1 : slp f x y = 1 := by
    rw [slp_neg ok h, k]
    rfl
  rcases rr_last r1 with e | ⟨z, z1, z2, z3⟩
  · rw [e] at h
    exact absurd rfl (adj_in ok h).2.2.2
  · exact ⟨z, z1, z2, (rr_step h.symm k1).trans z3⟩
theorem max_at {h : Str → Int} : ∀ {xs : List Str} {x : Str}, x ∈ xs → ∃ m ∈ xs, ∀ y ∈ xs, h y ≤ h m
  | [a], x, hx => ⟨a, List.mem_cons_self, fun y hy => by rw [List.mem_singleton] at hy; rw [hy]; exact Int.le_refl _⟩
  | a :: b :: r, x, _ => by
    obtain ⟨m, hm, k⟩ := max_at (h := h) (xs := b :: r) (x := b) List.mem_cons_self
    by_cases c : h a ≤ h m
    · exact ⟨m, List.mem_cons_of_mem _ hm, fun y hy => by
        rcases List.mem_cons.mp hy with rfl | hy
        · exact c
        · exact k y hy⟩
    · exact ⟨a, List.mem_cons_self, fun y hy => by
        rcases List.mem_cons.mp hy with rfl | hy
        · exact Int.le_refl _
        · have := k y hy
          omega⟩
/-- a node with a positive number, all of its neighbours above it -/
theorem up_exists (ok : EsOk ns es f) (nd : ns.Nodup) {pn : List Str} {h : Str → Int} (fe : Feas ns es f h pn) {x : Str} (hx : x ∈ ns) (h0 : 0 < h x) : ∃ n ∈ ns, 0 < h n ∧ ∀ y, Adj es n y → slp f n y = 1 := by
  obtain ⟨m, hm, k⟩ := max_at (h := h) hx
  have hm0 : 0 < h m := by
    have := k x hx
    omega
  by_cases c : ∃ n ∈ ns, h n = h m ∧ ∀ y, Adj es n y → slp f n y = 1
  · obtain ⟨n, n1, n2, n3⟩ := c
    exact ⟨n, n1, by omega, n3⟩
  exfalso
  obtain ⟨s, ⟨_, s2⟩, c2⟩ := cyc_of_pred (dir := 1) ok nd (S := fun s => s ∈ ns ∧ h s = h m) (fun s hs => hs.1) (fun s hs => by
    have : ∃ y, Adj es s y ∧ slp f s y ≠ 1 := Classical.byContradiction fun z => c ⟨s, hs.1, hs.2, fun y hy => Classical.byContradiction fun z2 => z ⟨y, hy, z2⟩⟩
    obtain ⟨y, a, ne⟩ := this
    have e : slp f s y = -1 := (slp_pm f s y).resolve_left ne
    have e2 : slp f y s = 1 := by rw [slp_neg ok a, e]; rfl
    have yn := (adj_in ok a).2.1
    refine ⟨y, ⟨yn, ?_⟩, a.symm, e2⟩
    have ky := k y yn
    have hs2 := hs.2
    rcases a with a | a
    · have := fit_pm.mp (fe.fit _ a)
      simp only [e] at this
      omega
    · have := fit_pm.mp (fe.fit _ a)
      simp only [e2] at this
      omega) _ m ⟨hm, rfl⟩ (Nat.le_refl _)
  have := fe.cyc s c2
  omega
theorem down_exists (ok : EsOk ns es f) (nd : ns.Nodup) {pn : List Str} {h : Str → Int} (fe : Feas ns es f h pn) {x : Str} (hx : x ∈ ns) (h0 : h x < 0) : ∃ n ∈ ns, h n < 0 ∧ ∀ y, Adj es n y → slp f n y = -1 := by
  obtain ⟨m, hm, k⟩ := max_at (h := fun z => - h z) hx
  have hm0 : h m < 0 := by
    have := k x hx
    omega
  by_cases c : ∃ n ∈ ns, h n = h m ∧ ∀ y, Adj es n y → slp f n y = -1
  · obtain ⟨n, n1, n2, n3⟩ := c
    exact ⟨n, n1, by omega, n3⟩
  exfalso
  obtain ⟨s, ⟨_, s2⟩, c2⟩ := cyc_of_pred (dir := -1) ok nd (S := fun s => s ∈ ns ∧ h s = h m) (fun s hs => hs.1) (fun s hs => by
    have : ∃ y, Adj es s y ∧ slp f s y ≠ -1 := Classical.byContradiction fun z => c ⟨s, hs.1, hs.2, fun y hy => Classical.byContradiction fun z2 => z ⟨y, hy, z2⟩⟩
    obtain ⟨y, a, ne⟩ := this
    have e : slp f s y = 1 := (slp_pm f s y).resolve_right ne
    have e2 : slp f y s = -1 := by rw [slp_neg ok a, e]
    have yn := (adj_in ok a).2.1
    refine ⟨y, ⟨yn, ?_⟩, a.symm, e2⟩
    have ky := k y yn
    have hs2 := hs.2
    rcases a with a | a
    · have := fit_pm.mp (fe.fit _ a)
      simp only [e] at this
      omega
    · have := fit_pm.mp (fe.fit _ a)
      simp only [e2] at this
      omega) _ m ⟨hm, rfl⟩ (Nat.le_refl _)
  have := fe.cyc s (cyc_rev ok c2)
  omega
end
end U

/-! progress moves: the plain law -/
namespace U
open PySem PySem.Spec PyProof.Rows L2
def sz (ns : List Str) (h : Str → Int) : Int := (ns.map fun n => ((h n).natAbs : Int)).sum
def Sm (ns : List Str) (h : Str → Int) : Prop := ∀ n ∈ ns, -(10 ^ 31) ≤ h n ∧ h n ≤ 10 ^ 31
def goP (f h : Str → Int) (m : Str × Int) : Bool := decide (0 < h m.1) && decide ((f m.1 - m.2) % 3 = 1) || decide (h m.1 < 0) && !decide ((f m.1 - m.2) % 3 = 1)
def progF (ns : List Str) (es : List (Str × Str)) (f h : Str → Int) (pn : List Str) : List (Str × Int) := (movesF ns es f pn).filter (goP f h)
def dirU (x : Int) : Int := if 0 < x then 1 else -1
/-- the value of a progress move -/
def pvF (f : Str → Int) (ys : List Str) (n : Str) (x : Int) : Option Int := if x ≠ 0 ∧ ∀ o ∈ ys, slp f n o = dirU x then some ((f n - dirU x) % 3) else none
def pmF (es : List (Str × Str)) (f h : Str → Int) (pn : List Str) (n : Str) : List (Str × Int) := match pvF f (nbS es n) n (h n) with
  | none => []
  | some v => if n ∈ pn then [] else [(n, v)]
theorem three {q : Int → Bool} {v0 : Int} {c : Bool} (h0 : 0 ≤ v0) (h2 : v0 ≤ 2) (h : ∀ v, 0 ≤ v → v ≤ 2 → q v = (decide (v = v0) && c)) : ([0, 1, 2] : List Int).filter q = if c = true then [v0] else [] := by
  have a := h 0 (by decide) (by decide)
  have b := h 1 (by decide) (by decide)
  have d := h 2 (by decide) (by decide)
  have e : v0 = 0 ∨ v0 = 1 ∨ v0 = 2 := by omega
  rcases e with rfl | rfl | rfl <;> cases c <;> simp_all [List.filter_cons]
section
variable {ns : List Str} {es : List (Str × Str)} {f h : Str → Int} {pn : List Str}
theorem prog_at (ok : EsOk ns es f) {n : Str} (hn : n ∈ ns) : (movesOf es f n).filter (goP f h) = match pvF f (nbS es n) n (h n) with
  | none => []
  | some v => [(n, v)] := by
  classical
  have tri := ok.tri n hn
  have nbr : ∀ o ∈ nbrF es n, 0 ≤ f o ∧ f o < 3 ∧ f n ≠ f o := fun o ho => by
    have a := adj_in ok (show Adj es n o from mem_nbrF.mp ho)
    exact ⟨(ok.tri o a.2.1).1, (ok.tri o a.2.1).2, a.2.2.1⟩
  have nbm : ∀ o, o ∈ nbS es n ↔ o ∈ nbrF es n := fun o => nbS_mem.trans mem_nbrF.symm
  have slo : ∀ o ∈ nbrF es n, ∀ d : Int, d = 1 ∨ d = -1 → (slp f n o = d ↔ f o ≠ (f n - d) % 3) := fun o ho d hd => by
    obtain ⟨a, b, c⟩ := nbr o ho
    unfold slp
    rcases hd with rfl | rfl <;> split <;> omega
  unfold movesOf
  rw [List.filter_map, List.filter_filter]
  have dd : dirU (h n) = 1 ∨ dirU (h n) = -1 := by
    unfold dirU
    split <;> simp
  rw [three (v0 := (f n - dirU (h n)) % 3) (c := decide (h n ≠ 0 ∧ ∀ o ∈ nbS es n, slp f n o = dirU (h n))) (by omega) (by omega) ?_]
  · unfold pvF
    by_cases c : h n ≠ 0 ∧ ∀ o ∈ nbS es n, slp f n o = dirU (h n)
    · rw [decide_eq_true c, if_pos rfl, if_pos c]
      rfl
    · rw [decide_eq_false c, if_neg Bool.false_ne_true, if_neg c]
      rfl
  · intro v v0 v2
    rw [Bool.eq_iff_iff, Bool.and_eq_true, Bool.and_eq_true, decide_eq_true_iff, decide_eq_true_iff]
    show (goP f h (n, v) = true ∧ freeB es f n v = true) ↔ _
    have fr : freeB es f n v = true ↔ (∀ o ∈ nbrF es n, f o ≠ v) ∧ v ≠ f n := by
      unfold freeB
      rw [Bool.not_eq_true', decide_eq_false_iff_not, List.mem_append, List.mem_singleton, List.mem_map, not_or]
      constructor
      · rintro ⟨a, b⟩
        exact ⟨fun o ho z => a ⟨o, ho, z⟩, b⟩
      · rintro ⟨a, b⟩
        exact ⟨fun ⟨o, ho, z⟩ => a o ho z, b⟩
    have go : goP f h (n, v) = true ↔ (0 < h n ∧ (f n - v) % 3 = 1) ∨ (h n < 0 ∧ ¬ (f n - v) % 3 = 1) := by
      unfold goP
      simp only [Bool.or_eq_true, Bool.and_eq_true, decide_eq_true_iff, Bool.not_eq_true', decide_eq_false_iff_not]
    rw [fr, go]
    constructor
    · rintro ⟨a, b, c⟩
      have ev : v = (f n - dirU (h n)) % 3 := by
        unfold dirU
        rcases a with a | a
        · rw [if_pos a.1]
          omega
        · rw [if_neg (by omega)]
          omega
      refine ⟨ev, by omega, fun o ho => (slo o ((nbm o).mp ho) _ dd).mpr ?_⟩
      rw [← ev]
      exact b o ((nbm o).mp ho)
    · rintro ⟨ev, c, k⟩
      refine ⟨?_, fun o ho => ?_, ?_⟩
      · unfold dirU at ev
        by_cases p : 0 < h n
        · rw [if_pos p] at ev
          left
          omega
        · rw [if_neg p] at ev
          right
          omega
      · rw [ev]
        exact (slo o ho _ dd).mp (k o ((nbm o).mpr ho))
      · rcases dd with z | z <;> rw [z] at ev <;> omega
theorem prog_eq (ok : EsOk ns es f) : ∀ {xs : List Str}, (∀ x ∈ xs, x ∈ ns) → progF xs es f h pn = xs.flatMap (pmF es f h pn)
  | [], _ => rfl
  | x :: r, hx => by
    have ih := prog_eq ok (xs := r) fun y hy => hx y (List.mem_cons_of_mem _ hy)
    unfold progF movesF at ih ⊢
    rw [List.flatMap_cons, List.filter_append, List.flatMap_cons, ih]
    congr 1
    unfold pmF
    by_cases c : x ∈ pn
    · rw [if_pos c]
      cases pvF f (nbS es x) x (h x) with
      | none => rfl
      | some v =>
        show _ = if x ∈ pn then [] else [(x, v)]
        rw [if_pos c]
        rfl
    · rw [if_neg c, prog_at ok (hx x List.mem_cons_self)]
      cases pvF f (nbS es x) x (h x) with
      | none => rfl
      | some v =>
        show _ = if x ∈ pn then [] else [(x, v)]
        rw [if_neg c]
theorem sz_zero : ∀ {ns : List Str}, sz ns h = 0 ↔ ∀ n ∈ ns, h n = 0
  | [] => ⟨(fun _ _ m => nomatch m), fun _ => rfl⟩
  | n :: r => by
    have ih := sz_zero (ns := r)
    have e : sz (n :: r) h = ((h n).natAbs : Int) + sz r h := List.sum_cons
    have p : ∀ xs : List Str, 0 ≤ sz xs h := fun xs => by
      induction xs with
      | nil => exact Int.le_refl _
      | cons x t ih =>
        have e : sz (x :: t) h = ((h x).natAbs : Int) + sz t h := List.sum_cons
        omega
    have := p r
    rw [e]
    constructor
    · intro z x hx
      rcases List.mem_cons.mp hx with rfl | hx
      · omega
      · exact ih.mp (by omega) x hx
    · intro z
      have a := z n List.mem_cons_self
      have b := ih.mpr fun x hx => z x (List.mem_cons_of_mem _ hx)
      omega
theorem prog_some (ok : EsOk ns es f) (nd : ns.Nodup) (fe : Feas ns es f h pn) : progF ns es f h pn = [] ↔ sz ns h = 0 := by
  rw [sz_zero, prog_eq ok fun _ h => h, List.flatMap_eq_nil_iff]
  have key : ∀ n ∈ ns, h n ≠ 0 → (∀ o, Adj es n o → slp f n o = dirU (h n)) → pmF es f h pn n ≠ [] := fun n hn h0 k => by
    unfold pmF pvF
    rw [if_pos ⟨h0, fun o ho => k o (nbS_mem.mp ho)⟩]
    show (if n ∈ pn then [] else [_]) ≠ []
    rw [if_neg fun z => h0 (fe.pin n z)]
    exact List.cons_ne_nil _ _
  constructor
  · intro z x hx
    have c : h x = 0 ∨ 0 < h x ∨ h x < 0 := by omega
    rcases c with c | c | c
    · exact c
    · obtain ⟨n, hn, h1, h2⟩ := up_exists ok nd fe hx c
      exact (key n hn (by omega) (fun o ho => by unfold dirU; rw [if_pos h1]; exact h2 o ho) (z n hn)).elim
    · obtain ⟨n, hn, h1, h2⟩ := down_exists ok nd fe hx c
      exact (key n hn (by omega) (fun o ho => by unfold dirU; rw [if_neg (by omega)]; exact h2 o ho) (z n hn)).elim
  · intro z x hx
    unfold pmF pvF
    rw [if_neg fun c => c.1 (z x hx)]
theorem prog_legal {m : Str × Int} (hm : m ∈ progF ns es f h pn) : Legal ns es f pn m ∧ goP f h m = true := ⟨legal_of (List.mem_filter.mp hm).1, (List.mem_filter.mp hm).2⟩
/-- the number after a progress move -/
theorem prog_dlt (ok : EsOk ns es f) {m : Str × Int} (hm : m ∈ progF ns es f h pn) : h m.1 - dlt (f m.1 - m.2) = h m.1 + (if 0 < h m.1 then -1 else 1) := by
  obtain ⟨l, g⟩ := prog_legal hm
  have go : (0 < h m.1 ∧ (f m.1 - m.2) % 3 = 1) ∨ (h m.1 < 0 ∧ ¬ (f m.1 - m.2) % 3 = 1) := by
    unfold goP at g
    simpa only [Bool.or_eq_true, Bool.and_eq_true, decide_eq_true_iff, Bool.not_eq_true', decide_eq_false_iff_not] using g
  have v := l.val
  have t := ok.tri _ l.mem
  have ne := l.own
  unfold dlt
  rcases go with ⟨a, b⟩ | ⟨a, b⟩
  · rw [if_pos a, if_neg (by omega), if_pos b]
    omega
  · have c : ¬ 0 < h m.1 := by omega
    rw [if_neg c, if_neg (by omega), if_neg b]
    omega
end
end U

/-! feasible lifts: of moves, and shifted -/
namespace U
open PySem PySem.Spec PyProof.Rows L2
theorem cnt_not {x : Str} : ∀ {ms : List (Str × Int)} {f h : Str → Int}, x ∉ ms.map (·.1) → (countF f h ms).2 x = h x
  | [], _, _, _ => rfl
  | (n, v) :: r, f, h, nx => by
    have nx' : x ≠ n ∧ x ∉ r.map (·.1) := by
      rw [List.map_cons, List.mem_cons, not_or] at nx
      exact nx
    show (countF (updf f n v) (updf h n (h n + dlt (f n - v))) r).2 x = h x
    rw [cnt_not nx'.2]
    unfold updf
    rw [if_neg nx'.1]
theorem cnt_small {n : Str} : ∀ {ms : List (Str × Int)} {f h : Str → Int}, h n - ms.length ≤ (countF f h ms).2 n ∧ (countF f h ms).2 n ≤ h n + ms.length
  | [], f, h => by simp [countF]
  | (m, v) :: r, f, h => by
    have ih := cnt_small (n := n) (ms := r) (f := updf f m v) (h := updf h m (h m + dlt (f m - v)))
    have e : countF f h ((m, v) :: r) = countF (updf f m v) (updf h m (h m + dlt (f m - v))) r := rfl
    rw [e, List.length_cons]
    have d : -1 ≤ dlt (f m - v) ∧ dlt (f m - v) ≤ 1 := by
      unfold dlt
      split
      · omega
      · split <;> omega
    have u : h n - 1 ≤ updf h m (h m + dlt (f m - v)) n ∧ updf h m (h m + dlt (f m - v)) n ≤ h n + 1 := by
      unfold updf
      by_cases z : n = m
      · rw [if_pos z, z]
        omega
      · rw [if_neg z]
        omega
    omega
section
variable {ns : List Str} {es : List (Str × Str)} {f h : Str → Int} {pn : List Str}
theorem plays_off (ok : EsOk ns es f) {ms : List (Str × Int)} {f' : Str → Int} (p : Plays ns es pn f ms f') : EsOk ns es f' ∧ (∀ x, Cyc es f' x ↔ Cyc es f x) ∧ ∀ x, (x ∈ pn ∨ Cyc es f x) → x ∉ ms.map (·.1) := by
  induction p with
  | nil => exact ⟨ok, fun _ => Iff.rfl, fun x _ z => nomatch z⟩
  | @snoc ms f' m p l ih =>
    obtain ⟨i1, i2, i3⟩ := ih
    refine ⟨(move_keeps (f0 := f') (h := fun _ => 0) i1 l fun e _ => by omega).1, fun x => (cyc_iff i1 l).trans (i2 x), fun x hx z => ?_⟩
    rw [List.map_append] at z
    rcases List.mem_append.mp z with z | z
    · exact i3 x hx z
    · have e : x = m.1 := List.mem_singleton.mp z
      rw [e] at hx
      rcases hx with hx | hx
      · exact l.pin hx
      · exact cyc_still i1 l ((i2 _).mpr hx)
theorem feas_count (ok : EsOk ns es f) {ms : List (Str × Int)} {f' : Str → Int} (p : Plays ns es pn f ms f') : Feas ns es f (countF f (fun _ => 0) ms).2 pn := by
  have o := (plays_off ok p).2.2
  exact ⟨fits_count ok p, fun x hx => cnt_not (o x (.inl hx)), fun x hx => cnt_not (o x (.inr hx))⟩
theorem feas_shift (fe : Feas ns es f h pn) {c : List Str} {by_ : Int} (cl : ∀ x y, Adj es x y → (x ∈ c ↔ y ∈ c)) (off : ∀ x ∈ c, ¬ (x ∈ pn ∨ Cyc es f x)) : Feas ns es f (fun x => if x ∈ c then h x + by_ else h x) pn := by
  refine ⟨fun e he => ?_, fun x hx => ?_, fun x hx => ?_⟩
  · have a := fit_pm.mp (fe.fit e he)
    have k := cl e.1 e.2 (.inl he)
    rw [fit_pm]
    by_cases m : e.1 ∈ c
    · rw [if_pos m, if_pos (k.mp m)]
      omega
    · rw [if_neg m, if_neg fun z => m (k.mpr z)]
      exact a
  · show (if x ∈ c then _ else _) = (0 : Int)
    rw [if_neg fun z => off x z (.inl hx)]
    exact fe.pin x hx
  · show (if x ∈ c then _ else _) = (0 : Int)
    rw [if_neg fun z => off x z (.inr hx)]
    exact fe.cyc x hx
theorem comp_closed (ok : GrOk ns es) (l : ns.length ≤ 1000) {r : Str} (hr : r ∈ ns) : ∀ x y, Adj es x y → (x ∈ comp es r ↔ y ∈ comp es r) := by
  have one : ∀ x y, Adj es x y → x ∈ comp es r → y ∈ comp es r := fun x y a h => (comp_mem ok l hr).mpr (.step ((comp_mem ok l hr).mp h) (nbS_mem.mpr a) rfl)
  exact fun x y a => ⟨one x y a, one y x a.symm⟩
theorem comp_nodup {r : Str} : (comp es r).Nodup := (sortS_perm _).nodup_iff.mpr pt_nodup
end
end U

/-! lifts performed, step by step -/
namespace U
open PySem PySem.Spec PyProof.Rows L2
/-- one less to go at n -/
def redU (h : Str → Int) (n : Str) : Str → Int := updf h n (h n + (if 0 < h n then -1 else 1))
section
variable {ns : List Str} {es : List (Str × Str)} {f h : Str → Int} {pn : List Str}
theorem sz_nil : sz [] h = 0 := rfl
theorem sz_cons {n : Str} {r : List Str} : sz (n :: r) h = ((h n).natAbs : Int) + sz r h := List.sum_cons
theorem sz_nn : ∀ {xs : List Str}, 0 ≤ sz xs h
  | [] => Int.le_refl _
  | x :: t => by
    rw [sz_cons]
    have := sz_nn (xs := t)
    omega
theorem sz_off {n : Str} {v : Int} : ∀ {xs : List Str}, n ∉ xs → sz xs (updf h n v) = sz xs h
  | [], _ => rfl
  | x :: t, nm => by
    rw [sz_cons, sz_cons, sz_off fun z => nm (List.mem_cons_of_mem _ z)]
    have : x ≠ n := fun z => nm (z ▸ List.mem_cons_self)
    unfold updf
    rw [if_neg this]
theorem sz_upd {n : Str} {v : Int} : ∀ {xs : List Str}, xs.Nodup → n ∈ xs → sz xs (updf h n v) = sz xs h - ((h n).natAbs : Int) + (v.natAbs : Int)
  | x :: t, nd, hm => by
    rw [sz_cons, sz_cons]
    rw [List.nodup_cons] at nd
    by_cases e : x = n
    · subst e
      rw [sz_off nd.1]
      unfold updf
      rw [if_pos rfl]
      omega
    · rw [sz_upd nd.2 ((List.mem_cons.mp hm).resolve_left fun z => e z.symm)]
      have : updf h n v x = h x := by
        unfold updf
        rw [if_neg e]
      rw [this]
      omega
theorem sz_red {n : Str} (nd : ns.Nodup) (hn : n ∈ ns) (h0 : h n ≠ 0) : sz ns (redU h n) = sz ns h - 1 := by
  unfold redU
  rw [sz_upd nd hn]
  split <;> omega
theorem sz_at : ∀ {xs : List Str} {n : Str}, n ∈ xs → ((h n).natAbs : Int) ≤ sz xs h
  | x :: t, n, hm => by
    rw [sz_cons]
    have := sz_nn (h := h) (xs := t)
    rcases List.mem_cons.mp hm with rfl | hm
    · omega
    · have := sz_at hm
      omega
theorem dlt_mod {d : Int} : (d - dlt d) % 3 = 0 ∧ -1 ≤ dlt d ∧ dlt d ≤ 1 := by
  unfold dlt
  split
  · omega
  · split <;> omega
/-- the moves of a lift, each the first progress move -/
inductive PerfR (ns : List Str) (es : List (Str × Str)) (pn : List Str) (f h : Str → Int) : List (Str × Int) → (Str → Int) → (Str → Int) → Prop
  | nil : PerfR ns es pn f h [] f h
  | snoc {ms : List (Str × Int)} {f' h' : Str → Int} {m : Str × Int} {r : List (Str × Int)} : PerfR ns es pn f h ms f' h' → progF ns es f' h' pn = m :: r → PerfR ns es pn f h (ms ++ [m]) (updf f' m.1 m.2) (redU h' m.1)
/-- .. or any progress move -/
inductive AnyR (ns : List Str) (es : List (Str × Str)) (pn : List Str) (f h : Str → Int) : List (Str × Int) → (Str → Int) → (Str → Int) → Prop
  | nil : AnyR ns es pn f h [] f h
  | snoc {ms : List (Str × Int)} {f' h' : Str → Int} {m : Str × Int} : AnyR ns es pn f h ms f' h' → m ∈ progF ns es f' h' pn → AnyR ns es pn f h (ms ++ [m]) (updf f' m.1 m.2) (redU h' m.1)
theorem PerfR.any {ms : List (Str × Int)} {f' h' : Str → Int} (r : PerfR ns es pn f h ms f' h') : AnyR ns es pn f h ms f' h' := by
  induction r with
  | nil => exact .nil
  | snoc _ e ih => exact .snoc ih (by rw [e]; exact List.mem_cons_self)
theorem prog_ne {m : Str × Int} (hm : m ∈ progF ns es f h pn) : h m.1 ≠ 0 := by
  have g := (prog_legal hm).2
  have go : (0 < h m.1 ∧ (f m.1 - m.2) % 3 = 1) ∨ (h m.1 < 0 ∧ ¬ (f m.1 - m.2) % 3 = 1) := by
    unfold goP at g
    simpa only [Bool.or_eq_true, Bool.and_eq_true, decide_eq_true_iff, Bool.not_eq_true', decide_eq_false_iff_not] using g
  omega
/-- a progress move: what it keeps -/
theorem prog_step (ok : EsOk ns es f) (nd : ns.Nodup) (fe : Feas ns es f h pn) {m : Str × Int} (hm : m ∈ progF ns es f h pn) :
    EsOk ns es (updf f m.1 m.2) ∧ Feas ns es (updf f m.1 m.2) (redU h m.1) pn ∧ sz ns (redU h m.1) = sz ns h - 1 ∧ ∀ n ∈ ns, (updf f m.1 m.2 n - redU h m.1 n) % 3 = (f n - h n) % 3 := by
  have lg := (prog_legal hm).1
  have e := prog_dlt ok hm
  have fe2 := feas_move ok fe lg
  rw [e] at fe2
  refine ⟨(move_keeps (f0 := f) (h := fun _ => 0) ok lg fun e _ => by omega).1, fe2, sz_red nd lg.mem (prog_ne hm), fun n hn => ?_⟩
  unfold redU
  rw [← e]
  unfold updf
  by_cases z : n = m.1
  · rw [if_pos z, if_pos z, z]
    have := dlt_mod (d := f m.1 - m.2)
    omega
  · rw [if_neg z, if_neg z]
theorem AnyR.keeps (ok : EsOk ns es f) (nd : ns.Nodup) (fe : Feas ns es f h pn) {ms : List (Str × Int)} {f' h' : Str → Int} (r : AnyR ns es pn f h ms f' h') :
    EsOk ns es f' ∧ Feas ns es f' h' pn ∧ sz ns h' + ms.length = sz ns h ∧ (∀ n ∈ ns, (f' n - h' n) % 3 = (f n - h n) % 3) ∧ Plays ns es pn f ms f' := by
  induction r with
  | nil => exact ⟨ok, fe, by simp, fun _ _ => rfl, .nil⟩
  | @snoc ms f' h' m r hm ih =>
    obtain ⟨i1, i2, i3, i4, i5⟩ := ih
    obtain ⟨s1, s2, s3, s4⟩ := prog_step i1 nd i2 hm
    refine ⟨s1, s2, ?_, fun n hn => (s4 n hn).trans (i4 n hn), .snoc i5 (prog_legal hm).1⟩
    rw [List.length_append, List.length_singleton]
    omega
/-- nothing is left: the state of the lift -/
theorem AnyR.done (ok : EsOk ns es f) (nd : ns.Nodup) (fe : Feas ns es f h pn) {ms : List (Str × Int)} {f' h' : Str → Int} (r : AnyR ns es pn f h ms f' h') (z : sz ns h' = 0) : ∀ n ∈ ns, f' n = (f n - h n) % 3 := fun n hn => by
  obtain ⟨a, _, _, b, _⟩ := r.keeps ok nd fe
  have t := a.tri n hn
  have := b n hn
  rw [sz_zero.mp z n hn] at this
  omega
/-- a lift of moves: no more than these, and the state it leads to -/
theorem plays_lift (ok : EsOk ns es f) (nd : ns.Nodup) {ms : List (Str × Int)} {f' : Str → Int} (p : Plays ns es pn f ms f') :
    EsOk ns es f' ∧ (countF f (fun _ => 0) ms).1 = f' ∧ sz ns (countF f (fun _ => 0) ms).2 ≤ ms.length ∧ ∀ n ∈ ns, f' n = (f n - (countF f (fun _ => 0) ms).2 n) % 3 := by
  induction p with
  | nil =>
    refine ⟨ok, rfl, ?_, fun n hn => ?_⟩
    · show sz ns (fun _ => 0) ≤ 0
      exact Int.le_of_eq (sz_zero.mpr fun _ _ => rfl)
    · show f n = (f n - 0) % 3
      have := ok.tri n hn
      omega
  | @snoc ms f' m p l ih =>
    obtain ⟨i1, i2, i3, i4⟩ := ih
    have ok2 := (move_keeps (f0 := f') (h := fun _ => 0) i1 l fun e _ => by omega).1
    obtain ⟨n, v⟩ := m
    rw [countF_snoc, i2]
    generalize (countF f (fun _ => 0) ms).2 = h0 at *
    have dm := dlt_mod (d := f' n - v)
    refine ⟨ok2, rfl, ?_, fun x hx => ?_⟩
    · rw [sz_upd nd l.mem, List.length_append, List.length_singleton]
      show sz ns h0 - ((h0 n).natAbs : Int) + ((h0 n + dlt (f' n - v)).natAbs : Int) ≤ _
      omega
    · have j := i4 x hx
      have t := ok2.tri x hx
      show updf f' n v x = (f x - updf h0 n (h0 n + dlt (f' n - v)) x) % 3
      have t : 0 ≤ updf f' n v x ∧ updf f' n v x < 3 := t
      unfold updf at t ⊢
      by_cases z : x = n
      · rw [if_pos z] at t ⊢
        rw [if_pos z]
        rw [z] at j ⊢
        omega
      · rw [if_neg z] at t ⊢
        rw [if_neg z]
        exact j
def plU (f : Str → Int) (ms : List (Str × Int)) : Str → Int := ms.foldl (fun f m => updf f m.1 m.2) f
def rdU (h : Str → Int) (ms : List (Str × Int)) : Str → Int := ms.foldl (fun h m => redU h m.1) h
theorem plU_snoc {ms : List (Str × Int)} {m : Str × Int} : plU f (ms ++ [m]) = updf (plU f ms) m.1 m.2 := by
  unfold plU
  rw [List.foldl_append]
  rfl
theorem rdU_snoc {ms : List (Str × Int)} {m : Str × Int} : rdU h (ms ++ [m]) = redU (rdU h ms) m.1 := by
  unfold rdU
  rw [List.foldl_append]
  rfl
theorem AnyR.ends {ms : List (Str × Int)} {f' h' : Str → Int} (r : AnyR ns es pn f h ms f' h') : f' = plU f ms ∧ h' = rdU h ms := by
  induction r with
  | nil => exact ⟨rfl, rfl⟩
  | snoc _ _ ih => exact ⟨by rw [plU_snoc, ih.1], by rw [rdU_snoc, ih.2]⟩
theorem AnyR.at {ms : List (Str × Int)} {f' h' : Str → Int} (r : AnyR ns es pn f h ms f' h') : ∀ i (hi : i < ms.length), AnyR ns es pn f h (ms.take i) (plU f (ms.take i)) (rdU h (ms.take i)) ∧ ms[i] ∈ progF ns es (plU f (ms.take i)) (rdU h (ms.take i)) pn := by
  induction r with
  | nil => exact fun i hi => absurd hi (Nat.not_lt_zero i)
  | @snoc ms f' h' m r hm ih =>
    intro i hi
    rw [List.length_append, List.length_singleton] at hi
    by_cases c : i < ms.length
    · rw [List.take_append_of_le_length (by omega), List.getElem_append_left c]
      exact ih i c
    · obtain rfl : i = ms.length := by omega
      obtain ⟨e1, e2⟩ := r.ends
      rw [List.take_append_of_le_length (Nat.le_refl _), List.take_length, List.getElem_append_right (Nat.le_refl _), ← e1, ← e2]
      simp only [Nat.sub_self, List.getElem_cons_zero]
      exact ⟨r, hm⟩
end
end U

/-! the smallest lift to a state that a feasible lift leads to: the plain law -/
namespace U
open PySem PySem.Spec PyProof.Rows L2
/-- half the differences of the slopes along a path -/
def numS (f g : Str → Int) : List Str → Int
  | a :: b :: r => (slp g a b - slp f a b) / 2 + numS f g (b :: r)
  | _ => 0
theorem numS_snoc {f g : Str → Int} : ∀ {p : List Str} {x b : Str}, p.getLast? = some x → numS f g (p ++ [b]) = numS f g p + (slp g x b - slp f x b) / 2
  | [], _, _, h => nomatch h
  | [a], x, b, h => by
    have e : a = x := by simpa using h
    subst e
    show (slp g a b - slp f a b) / 2 + 0 = 0 + (slp g a b - slp f a b) / 2
    omega
  | a :: c :: r, x, b, h => by
    have h' : (c :: r).getLast? = some x := by rw [List.getLast?_cons_cons] at h; exact h
    have i := numS_snoc (f := f) (g := g) (b := b) h'
    show (slp g a c - slp f a c) / 2 + numS f g (c :: r ++ [b]) = (slp g a c - slp f a c) / 2 + numS f g (c :: r) + _
    rw [i]
    omega
theorem numS_take {f g : Str → Int} {p : List Str} {i : Nat} (h : i + 1 < p.length) : numS f g (p.take (i + 2)) = numS f g (p.take (i + 1)) + (slp g (p[i]'(by omega)) p[i + 1] - slp f (p[i]'(by omega)) p[i + 1]) / 2 := by
  have e : p.take (i + 2) = p.take (i + 1) ++ [p[i + 1]] := by
    rw [List.take_succ (i := i + 1), List.getElem?_eq_getElem h]
    rfl
  have l : (p.take (i + 1)).getLast? = some (p[i]'(by omega)) := by
    have e2 : p.take (i + 1) = p.take i ++ [p[i]'(by omega)] := by
      rw [List.take_succ, List.getElem?_eq_getElem (show i < p.length by omega)]
      rfl
    rw [e2]
    simp only [List.getLast?_append, List.getLast?_singleton, Option.some_or]
  rw [e, numS_snoc l]
section
variable {ns : List Str} {es : List (Str × Str)} {f g h h0 : Str → Int} {pn : List Str}
theorem t_adj (okf : EsOk ns es f) (okg : EsOk ns es g) (t : ∀ e ∈ es, slp f e.1 e.2 - slp g e.1 e.2 = 2 * (h e.1 - h e.2)) {a b : Str} (k : Adj es a b) : slp f a b - slp g a b = 2 * (h a - h b) := by
  rcases k with k | k
  · exact t _ k
  · have e := t _ k
    have e1 := slp_neg okf (show Adj es b a from .inl k)
    have e2 := slp_neg okg (show Adj es b a from .inl k)
    have e : slp f b a - slp g b a = 2 * (h b - h a) := e
    omega
theorem numS_lift (okf : EsOk ns es f) (okg : EsOk ns es g) (t : ∀ e ∈ es, slp f e.1 e.2 - slp g e.1 e.2 = 2 * (h e.1 - h e.2)) : ∀ {p : List Str} {a b : Str}, Wk es p → p.head? = some a → p.getLast? = some b → numS f g p = h b - h a
  | [], _, _, _, k, _ => nomatch k
  | [x], a, b, _, k, l => by
    have h1 : x = a := by simpa using k
    have h2 : x = b := by simpa using l
    subst h1
    subst h2
    show (0 : Int) = _
    omega
  | x :: y :: r, a, b, w, k1, k => by
    have h1 : x = a := by simpa using k1
    subst h1
    have k' : (y :: r).getLast? = some b := by rw [List.getLast?_cons_cons] at k; exact k
    have ih := numS_lift okf okg t (p := y :: r) (a := y) w.2 rfl k'
    have m := t_adj okf okg t w.1
    show (slp g x y - slp f x y) / 2 + numS f g (y :: r) = _
    rw [ih]
    omega
theorem pm_mod {x y : Int} (hx : x = 1 ∨ x = -1) (hy : y = 1 ∨ y = -1) (e : x % 3 = y % 3) : x = y := by
  omega
/-- the slopes of the state that a feasible lift leads to -/
theorem feas_t (ok : EsOk ns es f) (okg : EsOk ns es g) (fe : Feas ns es f h pn) (hg : ∀ x ∈ ns, (f x - h x - g x) % 3 = 0) : ∀ e ∈ es, slp f e.1 e.2 - slp g e.1 e.2 = 2 * (h e.1 - h e.2) := fun e he => by
  have a := fit_pm.mp (fe.fit e he)
  have k : Adj es e.1 e.2 := .inl he
  obtain ⟨i1, i2, _⟩ := adj_in ok k
  have g1 := hg _ i1
  have g2 := hg _ i2
  have m1 := slp_mod ok k
  have m2 := slp_mod okg k
  have b := slp_pm g e.1 e.2
  have := pm_mod a b (by omega)
  omega
/-! ### shifts -/
def gS (h : Str → Int) (c : List Str) (k : Int) : Int := sz c fun x => h x + 3 * k
def pS (h : Str → Int) (c : List Str) (k : Int) : Int := (c.map fun x => max (h x + 3 * k) 0).sum
def nS (h : Str → Int) (c : List Str) (k : Int) : Int := (c.map fun x => max (-(h x + 3 * k)) 0).sum
theorem gS_conv (k : Int) : ∀ {c : List Str}, 2 * gS h c k ≤ gS h c (k - 1) + gS h c (k + 1)
  | [] => by simp [gS, sz]
  | x :: r => by
    have i := gS_conv k (c := r)
    unfold gS at i ⊢
    rw [sz_cons, sz_cons, sz_cons]
    omega
theorem gS_dn (k : Int) : ∀ {c : List Str}, gS h c (k - 1) - gS h c k = 3 * c.length - 2 * (pS h c k - pS h c (k - 1))
  | [] => by simp [gS, pS, sz]
  | x :: r => by
    have i := gS_dn k (c := r)
    unfold gS pS at i ⊢
    rw [sz_cons, sz_cons, List.map_cons, List.map_cons, List.sum_cons, List.sum_cons, List.length_cons]
    omega
theorem gS_up (k : Int) : ∀ {c : List Str}, gS h c (k + 1) - gS h c k = 3 * c.length - 2 * (nS h c k - nS h c (k + 1))
  | [] => by simp [gS, nS, sz]
  | x :: r => by
    have i := gS_up k (c := r)
    unfold gS nS at i ⊢
    rw [sz_cons, sz_cons, List.map_cons, List.map_cons, List.sum_cons, List.sum_cons, List.length_cons]
    omega
theorem pS_nn (k : Int) : ∀ {c : List Str}, 0 ≤ pS h c k
  | [] => by simp [pS]
  | x :: r => by
    have i := pS_nn k (c := r)
    unfold pS at i ⊢
    rw [List.map_cons, List.sum_cons]
    omega
theorem nS_nn (k : Int) : ∀ {c : List Str}, 0 ≤ nS h c k
  | [] => by simp [nS]
  | x :: r => by
    have i := nS_nn k (c := r)
    unfold nS at i ⊢
    rw [List.map_cons, List.sum_cons]
    omega
theorem gS_min {c : List Str} {k : Int} (u : gS h c k ≤ gS h c (k + 1)) (d : gS h c k ≤ gS h c (k - 1)) : ∀ j, gS h c k ≤ gS h c j := by
  have up : ∀ i : Nat, gS h c k ≤ gS h c (k + i) ∧ gS h c (k + i) ≤ gS h c (k + i + 1) := by
    intro i
    induction i with
    | zero => simpa using u
    | succ i ih =>
      have cv := gS_conv (h := h) (k + i + 1) (c := c)
      rw [show k + (i : Int) + 1 - 1 = k + i from by omega] at cv
      rw [show k + ((i + 1 : Nat) : Int) = k + i + 1 from by omega]
      omega
  have dn : ∀ i : Nat, gS h c k ≤ gS h c (k - i) ∧ gS h c (k - i) ≤ gS h c (k - i - 1) := by
    intro i
    induction i with
    | zero => simpa using d
    | succ i ih =>
      have cv := gS_conv (h := h) (k - i - 1) (c := c)
      rw [show k - (i : Int) - 1 + 1 = k - i from by omega] at cv
      rw [show k - ((i + 1 : Nat) : Int) = k - i - 1 from by omega]
      omega
  intro j
  by_cases q : k ≤ j
  · have := (up (j - k).toNat).1
    rw [show k + ((j - k).toNat : Int) = j from by omega] at this
    exact this
  · have := (dn (k - j).toNat).1
    rw [show k - ((k - j).toNat : Int) = j from by omega] at this
    exact this
/-! ### the lift found -/
def AncC (es : List (Str × Str)) (f : Str → Int) (pn : List Str) (c : List Str) : Prop := ∃ x ∈ c, x ∈ pn ∨ Cyc es f x
/-- a component is done -/
def FinC (es : List (Str × Str)) (f : Str → Int) (pn : List Str) (h0 hc : Str → Int) (c : List Str) : Prop :=
  ∃ k : Int, (∀ x ∈ c, hc x = h0 x + 3 * k) ∧ (AncC es f pn c → k = 0) ∧ (¬ AncC es f pn c → ∀ j, gS h0 c k ≤ gS h0 c j)
theorem feas_same (ok : EsOk ns es f) {h2 : Str → Int} (fe : Feas ns es f h0 pn) (f2 : Feas ns es f h2 pn) (m : ∀ x ∈ ns, (h2 x - h0 x) % 3 = 0) {a b : Str} (k : Adj es a b) : h2 a - h0 a = h2 b - h0 b := by
  obtain ⟨i1, i2, _⟩ := adj_in ok k
  have m1 := m _ i1
  have m2 := m _ i2
  have key : ∀ e ∈ es, h2 e.1 - h0 e.1 = h2 e.2 - h0 e.2 := fun e he => by
    obtain ⟨i1, i2, _⟩ := adj_in ok (show Adj es e.1 e.2 from .inl he)
    have m1 := m _ i1
    have m2 := m _ i2
    have a := fit_pm.mp (fe.fit e he)
    have b := fit_pm.mp (f2.fit e he)
    have := pm_mod a b (by omega)
    omega
  rcases k with k | k
  · exact key _ k
  · exact (key _ k).symm
theorem con_same (ok : EsOk ns es f) {h2 : Str → Int} (fe : Feas ns es f h0 pn) (f2 : Feas ns es f h2 pn) (m : ∀ x ∈ ns, (h2 x - h0 x) % 3 = 0) {a b : Str} (r : Con es a b) : h2 b - h0 b = h2 a - h0 a := by
  induction r with
  | refl => rfl
  | step r mm o ih => rw [← ih]; exact (feas_same ok fe f2 m (nbS_mem.mp mm)).symm
theorem sz_app : ∀ {a b : List Str}, sz (a ++ b) h = sz a h + sz b h
  | [], b => by rw [List.nil_append, sz_nil]; omega
  | x :: r, b => by
    rw [List.cons_append, sz_cons, sz_cons, sz_app]
    omega
theorem sz_flat {h2 : Str → Int} : ∀ {cs : List (List Str)}, (∀ c ∈ cs, sz c h ≤ sz c h2) → sz cs.flatten h ≤ sz cs.flatten h2
  | [], _ => Int.le_refl _
  | c :: r, k => by
    rw [List.flatten_cons, sz_app, sz_app]
    have a := k c List.mem_cons_self
    have b := sz_flat (cs := r) fun z hz => k z (List.mem_cons_of_mem _ hz)
    omega
theorem sz_perm {a b : List Str} (p : a.Perm b) : sz a h = sz b h := by
  induction p with
  | nil => rfl
  | cons x _ ih => rw [sz_cons, sz_cons, ih]
  | swap x y l => rw [sz_cons, sz_cons, sz_cons, sz_cons]; omega
  | trans _ _ i1 i2 => exact i1.trans i2
theorem sz_congr {h2 : Str → Int} : ∀ {c : List Str}, (∀ x ∈ c, h x = h2 x) → sz c h = sz c h2
  | [], _ => rfl
  | x :: r, k => by
    rw [sz_cons, sz_cons, k x List.mem_cons_self, sz_congr fun y hy => k y (List.mem_cons_of_mem _ hy)]
theorem sz_neg : ∀ {c : List Str}, sz c (fun x => - h x) = sz c h
  | [] => rfl
  | x :: r => by
    rw [sz_cons, sz_cons, sz_neg, Int.natAbs_neg]
theorem comps_perm (ok : GrOk ns es) (l : ns.length ≤ 1000) : (compsF ns es).flatten.Perm ns :=
  (List.perm_ext_iff_of_nodup (compsF_ok ok l).nd (asc_nodup ok.names.asc)).mpr fun x => ⟨(compsF_ok ok l).in_ ok x, (compsF_ok ok l).all x⟩
theorem fin_feas (gok : GrOk ns es) (l : ns.length ≤ 1000) (ok : EsOk ns es f) (fe : Feas ns es f h0 pn) (pin : ∀ x ∈ pn, x ∈ ns) {hc : Str → Int} (fin : ∀ c ∈ compsF ns es, FinC es f pn h0 hc c) :
    Feas ns es f hc pn ∧ (∀ x ∈ ns, (hc x - h0 x) % 3 = 0) ∧ ∀ h2, Feas ns es f h2 pn → (∀ x ∈ ns, (h2 x - h0 x) % 3 = 0) → sz ns hc ≤ sz ns h2 := by
  have co := compsF_ok gok l
  have at_ : ∀ x ∈ ns, ∃ c ∈ compsF ns es, x ∈ c ∧ ∀ y, Adj es x y → y ∈ c := fun x hx => by
    obtain ⟨c, hc, xc⟩ := List.mem_flatten.mp (co.all x hx)
    obtain ⟨r, hr, rfl⟩ := co.of c hc
    exact ⟨_, hc, xc, fun y k => (comp_closed gok l hr x y k).mp xc⟩
  refine ⟨⟨fun e he => ?_, fun x hx => ?_, fun x hx => ?_⟩, fun x hx => ?_, fun h2 f2 m => ?_⟩
  · have k : Adj es e.1 e.2 := .inl he
    obtain ⟨i1, _⟩ := adj_in ok k
    obtain ⟨c, hc', xc, cl⟩ := at_ _ i1
    obtain ⟨j, ej, _⟩ := fin c hc'
    have e1 := ej _ xc
    have e2 := ej _ (cl _ k)
    have a := fit_pm.mp (fe.fit e he)
    rw [fit_pm]
    omega
  · obtain ⟨c, hc', xc, _⟩ := at_ _ (pin x hx)
    obtain ⟨j, ej, az, _⟩ := fin c hc'
    have := az ⟨x, xc, .inl hx⟩
    have e1 := ej _ xc
    have := fe.pin x hx
    omega
  · obtain ⟨y, ky, _⟩ := id hx
    obtain ⟨c, hc', xc, _⟩ := at_ x (adj_in ok ky).2.1
    obtain ⟨j, ej, az, _⟩ := fin c hc'
    have := az ⟨x, xc, .inr hx⟩
    have e1 := ej _ xc
    have := fe.cyc x hx
    omega
  · obtain ⟨c, hc', xc, _⟩ := at_ x hx
    obtain ⟨j, ej, _⟩ := fin c hc'
    have e1 := ej _ xc
    omega
  · rw [← sz_perm (comps_perm gok l), ← sz_perm (h := h2) (comps_perm gok l)]
    refine sz_flat fun c hc' => ?_
    obtain ⟨j, ej, az, mn⟩ := fin c hc'
    obtain ⟨r, hr, rfl⟩ := co.of c hc'
    have con : ∀ x ∈ comp es r, h2 x - h0 x = h2 r - h0 r := fun x hx => con_same ok fe f2 m ((comp_mem gok l hr).mp hx)
    have mr := m r hr
    obtain ⟨i, hi⟩ : ∃ i, h2 r - h0 r = 3 * i := ⟨(h2 r - h0 r) / 3, by omega⟩
    have e1 : sz (comp es r) hc = gS h0 (comp es r) j := sz_congr ej
    have e2 : sz (comp es r) h2 = gS h0 (comp es r) i := sz_congr fun x hx => by
      have := con x hx
      omega
    rw [e1, e2]
    by_cases q : AncC es f pn (comp es r)
    · have j0 := az q
      obtain ⟨x, hx, hq⟩ := q
      have := con x hx
      have z : h2 x = 0 ∧ h0 x = 0 := by
        rcases hq with hq | hq
        · exact ⟨f2.pin x hq, fe.pin x hq⟩
        · exact ⟨f2.cyc x hq, fe.cyc x hq⟩
      have : i = 0 := by omega
      rw [j0, this]
      exact Int.le_refl _
    · exact mn q i
/-- the lift back -/
theorem feas_back (ok : EsOk ns es f) (okg : EsOk ns es g) (fe : Feas ns es f h pn) (t : ∀ e ∈ es, slp f e.1 e.2 - slp g e.1 e.2 = 2 * (h e.1 - h e.2)) (cy : ∀ x, Cyc es g x → Cyc es f x) : Feas ns es g (fun x => - h x) pn := by
  refine ⟨fun e he => ?_, fun x hx => ?_, fun x hx => ?_⟩
  · have a := t e he
    have b := slp_pm f e.1 e.2
    rw [fit_pm]
    omega
  · have := fe.pin x hx
    show - h x = 0
    omega
  · have := fe.cyc x (cy x hx)
    show - h x = 0
    omega
end
end U

/-! as many basis cycles as edges, nodes and components tell: the plain law -/
namespace U
open PySem PySem.Spec PyProof.Rows L2
section
variable {adj : Str → List Str} {ok : Str → Str → Bool} {root : Str}
/-- a path found goes on from a path found -/
theorem stF_par : ∀ i x, x ∈ stF adj ok root i → x = (root, [root]) ∨ ∃ c ∈ stF adj ok root i, x.1 ∈ adj c.1 ∧ x.2 = c.2 ++ [x.1]
  | 0, x, h => by
    rw [stF, List.mem_singleton] at h
    exact .inl h
  | i + 1, x, h => by
    obtain ⟨r, hr⟩ := stF_pre (adj := adj) (ok := ok) (root := root) i
    have up : ∀ {y}, y ∈ stF adj ok root i → y ∈ stF adj ok root (i + 1) := fun h => by rw [hr]; exact List.mem_append_left _ h
    cases e : (stF adj ok root i)[i]? with
    | none =>
      rw [stF_end e] at h
      rcases stF_par i x h with h | ⟨c, hc, h⟩
      · exact .inl h
      · exact .inr ⟨c, up hc, h⟩
    | some d =>
      rw [stF_at e] at h
      rcases addsF_mem h with h | ⟨h1, _, h3⟩
      · rcases stF_par i x h with h | ⟨c, hc, h⟩
        · exact .inl h
        · exact .inr ⟨c, up hc, h⟩
      · exact .inr ⟨d, up (List.mem_of_getElem? e), h1, h3⟩
end
section
variable {ns : List Str} {es : List (Str × Str)}
theorem roots_nodup (ok : GrOk ns es) (l : ns.length ≤ 1000) : ∀ {cs : List (List Str)}, (∀ c ∈ cs, ∃ r ∈ ns, c = comp es r) → cs.flatten.Nodup → (keysF (rootsF es cs)).Nodup
  | [], _, _ => List.nodup_nil
  | c :: cs, h, nd => by
    obtain ⟨r, hr, rfl⟩ := h c List.mem_cons_self
    have h' : ∀ d ∈ cs, ∃ r ∈ ns, d = comp es r := fun d hd => h d (List.mem_cons_of_mem _ hd)
    rw [List.flatten_cons, List.nodup_append] at nd
    have e : keysF (rootsF es (comp es r :: cs)) = keysF (ptF es ((comp es r).headD Str.empty)) ++ keysF (rootsF es cs) := List.map_append
    rw [e, List.nodup_append]
    refine ⟨pt_nodup, roots_nodup ok l h' nd.2.1, fun a ha b hb z => ?_⟩
    have h1 := ((root_keys ok l hr).2 a).mp ha
    have h2 := (roots_keys ok l h' b).mp hb
    exact nd.2.2 a h1 b h2 z
abbrev kpF (ns : List Str) (es : List (Str × Str)) : List (Str × List Str) := rootsF es (compsF ns es)
theorem kp_nodup (ok : GrOk ns es) (l : ns.length ≤ 1000) : (keysF (kpF ns es)).Nodup := roots_nodup ok l (compsF_ok ok l).of (compsF_ok ok l).nd
theorem pth_uniq (ok : GrOk ns es) (l : ns.length ≤ 1000) {x : Str} {p : List Str} (h : (x, p) ∈ kpF ns es) : pth (kpF ns es) x = p := by
  unfold pth
  rw [lookup_uniq (kp_nodup ok l) h]
  rfl
/-- x's path is that of a root, or goes on from its parent's -/
theorem pth_cases (ok : GrOk ns es) (l : ns.length ≤ 1000) {x : Str} (hx : x ∈ ns) : (pth (kpF ns es) x = [x] ∧ ∃ c ∈ compsF ns es, x = c.headD Str.empty) ∨
    ∃ y ∈ ns, Adj es y x ∧ pth (kpF ns es) x = pth (kpF ns es) y ++ [x] ∧ (pth (kpF ns es) y).getLast? = some y := by
  have cm := compsF_ok ok l
  have hk : x ∈ keysF (kpF ns es) := (roots_keys ok l cm.of x).mpr (cm.all x hx)
  obtain ⟨p, h1, h2⟩ := lookup_some hk
  rw [pth_uniq ok l h2]
  obtain ⟨c, hc, h3⟩ := List.mem_flatMap.mp h2
  obtain ⟨r, hr, rfl⟩ := cm.of c hc
  rcases stF_par 1000 _ h3 with h | ⟨d, hd, m, h⟩
  · have e1 := congrArg Prod.fst h
    have e2 := congrArg Prod.snd h
    simp only at e1 e2
    exact .inl ⟨by rw [e2, ← e1], _, hc, e1⟩
  · have hdk : (d.1, d.2) ∈ kpF ns es := List.mem_flatMap.mpr ⟨_, hc, hd⟩
    have hy : d.1 ∈ ns := by
      have := (root_keys ok l hr).1
      exact pt_in ok this (List.mem_map_of_mem hd)
    refine .inr ⟨d.1, hy, nbS_mem.mp m, ?_, ?_⟩
    · rw [pth_uniq ok l hdk]
      exact h
    · rw [pth_uniq ok l hdk]
      exact (stF_path 1000 _ hd).wk.2.2
theorem pen_snoc {p : List Str} {y x : Str} (h : p.getLast? = some y) : pen (p ++ [x]) = [y] := by
  unfold pen
  obtain ⟨q, rfl⟩ : ∃ q, p = q ++ [y] := List.getLast?_eq_some_iff.mp h
  have e1 : (q ++ [y] ++ [x]).length - 2 = q.length := by simp
  have e2 : (q ++ [y] ++ [x]).length - 1 - q.length = 1 := by simp
  rw [e1, e2, List.append_assoc, List.drop_left' rfl]
  rfl
theorem pen_one {x : Str} : pen [x] = [] := rfl
def parF (ns : List Str) (es : List (Str × Str)) (x : Str) : Str := (pen (pth (kpF ns es) x)).headD Str.empty
def innerF (ns : List Str) (es : List (Str × Str)) : List Str := ns.filter fun x => decide (2 ≤ (pth (kpF ns es) x).length)
theorem last_pos {p : List Str} {y : Str} (h : p.getLast? = some y) : 0 < p.length := by
  cases p with
  | nil => cases h
  | cons _ _ => simp
theorem inner_par (ok : GrOk ns es) (l : ns.length ≤ 1000) {x : Str} (h : x ∈ innerF ns es) : x ∈ ns ∧ pen (pth (kpF ns es) x) = [parF ns es x] ∧ Adj es (parF ns es x) x ∧ (pth (kpF ns es) x).length = (pth (kpF ns es) (parF ns es x)).length + 1 := by
  obtain ⟨hx, h2⟩ := List.mem_filter.mp h
  have h2 := of_decide_eq_true h2
  rcases pth_cases ok l hx with ⟨e, _⟩ | ⟨y, hy, a, e, k⟩
  · rw [e] at h2
    simp at h2
  · have pe := pen_snoc (x := x) k
    have py : parF ns es x = y := by
      unfold parF
      rw [e, pe]
      rfl
    rw [py, e, pe]
    exact ⟨hx, rfl, a, by simp⟩
theorem eOf_mem (ok : GrOk ns es) {a b : Str} (h : Adj es a b) : eOf a b ∈ es := by
  rcases h with h | h
  · have lt := ok.lt _ h
    unfold eOf
    rw [if_pos lt]
    exact h
  · have lt := ok.lt _ h
    unfold eOf
    rw [if_neg (sLt_asymm lt)]
    exact h
theorem eOf_swap {a b : Str} (n : a ≠ b) : eOf a b = eOf b a := by
  unfold eOf
  by_cases h : sLt a b
  · rw [if_pos h, if_neg (sLt_asymm h)]
  · rw [if_neg h, if_pos (sLt_total h (Ne.symm n))]
theorem eOf_self (ok : GrOk ns es) {e : Str × Str} (h : e ∈ es) : eOf e.1 e.2 = e := by
  unfold eOf
  rw [if_pos (ok.lt _ h)]
def treeF (ns : List Str) (es : List (Str × Str)) : List (Str × Str) := es.filter fun e => !isBasis (kpF ns es) e
theorem tree_count (ok : GrOk ns es) (l : ns.length ≤ 1000) : (treeF ns es).length = (innerF ns es).length := by
  have ndT : (treeF ns es).Nodup := List.Nodup.sublist List.filter_sublist (ascE_nodup ok.asc)
  have ndns : ns.Nodup := asc_nodup ok.names.asc
  have ndR : (innerF ns es).Nodup := List.Nodup.sublist List.filter_sublist ndns
  have adjne : ∀ {a b : Str}, Adj es a b → a ≠ b := fun {a b} h z => by
    rcases h with h | h <;> have := ok.lt _ h <;> rw [z] at this <;> exact sLt_irrefl _ this
  have inj : ∀ x ∈ innerF ns es, ∀ y ∈ innerF ns es, eOf (parF ns es x) x = eOf (parF ns es y) y → x = y := by
    intro x hx y hy e
    obtain ⟨x1, x2, x3, x4⟩ := inner_par ok l hx
    obtain ⟨y1, y2, y3, y4⟩ := inner_par ok l hy
    rcases eOf_inj e with ⟨_, h⟩ | ⟨h1, h2⟩
    · exact h
    · rw [h1] at x4
      rw [← h2] at y4
      omega
  have ndM : ((innerF ns es).map fun x => eOf (parF ns es x) x).Nodup := by
    rw [List.nodup_iff_pairwise_ne, List.pairwise_map]
    exact List.Pairwise.imp_of_mem (fun {a b} ha hb ne e => ne (inj a ha b hb e)) (List.nodup_iff_pairwise_ne.mp ndR)
  have h1 := nodup_len ndM (ys := treeF ns es) fun e he => by
    obtain ⟨x, hx, rfl⟩ := List.mem_map.mp he
    obtain ⟨x1, x2, x3, x4⟩ := inner_par ok l hx
    refine List.mem_filter.mpr ⟨eOf_mem ok x3, ?_⟩
    unfold isBasis
    rcases eOf_cases (parF ns es x) x with e | e <;> rw [e]
    · simp only [x2]
      simp
    · simp only [x2]
      simp
  have h2 := nodup_len ndT (ys := (innerF ns es).map fun x => eOf (parF ns es x) x) fun e he => by
    obtain ⟨he, hb⟩ := List.mem_filter.mp he
    obtain ⟨m1, m2⟩ := ok.mem e he
    have key : ∀ {x y : Str}, x ∈ ns → pen (pth (kpF ns es) x) = [y] → x ∈ innerF ns es ∧ parF ns es x = y := by
      intro x y hx hp
      refine ⟨List.mem_filter.mpr ⟨hx, decide_eq_true ?_⟩, by unfold parF; rw [hp]; rfl⟩
      have := congrArg List.length hp
      unfold pen at this
      rw [List.length_take, List.length_drop, List.length_singleton] at this
      omega
    unfold isBasis at hb
    rw [Bool.not_eq_true', Bool.and_eq_false_iff, Bool.not_eq_false', Bool.not_eq_false', decide_eq_true_eq, decide_eq_true_eq] at hb
    rcases hb with hb | hb
    · obtain ⟨k1, k2⟩ := key m1 hb
      refine List.mem_map.mpr ⟨e.1, k1, ?_⟩
      rw [k2, eOf_swap (adjne (.inr he)), eOf_self ok he]
    · obtain ⟨k1, k2⟩ := key m2 hb
      refine List.mem_map.mpr ⟨e.2, k1, ?_⟩
      rw [k2, eOf_self ok he]
  rw [List.length_map] at h1 h2
  omega
theorem root_count (ok : GrOk ns es) (l : ns.length ≤ 1000) : (innerF ns es).length + (compsF ns es).length = ns.length := by
  have cm := compsF_ok ok l
  have ndns : ns.Nodup := asc_nodup ok.names.asc
  have split := List.length_eq_countP_add_countP (fun x => decide (2 ≤ (pth (kpF ns es) x).length)) (l := ns)
  have e1 : (innerF ns es).length = ns.countP fun x => decide (2 ≤ (pth (kpF ns es) x).length) := by
    unfold innerF
    rw [List.countP_eq_length_filter]
  have cpos : ∀ c ∈ compsF ns es, 0 < c.length := fun c hc => by
    obtain ⟨r, _, rfl⟩ := cm.of c hc
    exact comp_pos
  have hinj : ((compsF ns es).map fun c => c.headD Str.empty).Nodup := by
    have key : ∀ cs : List (List Str), (∀ c ∈ cs, 0 < c.length) → cs.flatten.Nodup → (cs.map fun c => c.headD Str.empty).Nodup := by
      intro cs
      induction cs with
      | nil => intro _ _; exact List.nodup_nil
      | cons c r ih =>
        intro hp nd
        rw [List.flatten_cons, List.nodup_append] at nd
        rw [List.map_cons, List.nodup_cons]
        refine ⟨fun h => ?_, ih (fun d hd => hp d (List.mem_cons_of_mem _ hd)) nd.2.1⟩
        obtain ⟨d, hd, e⟩ := List.mem_map.mp h
        have h1 := head_in (hp c List.mem_cons_self)
        have h2 := head_in (hp d (List.mem_cons_of_mem _ hd))
        rw [e] at h2
        exact nd.2.2 _ h1 _ (List.mem_flatten.mpr ⟨d, hd, h2⟩) rfl
    exact key _ cpos cm.nd
  have mem : ∀ x, x ∈ (compsF ns es).map (fun c => c.headD Str.empty) ↔ x ∈ ns.filter fun x => !decide (2 ≤ (pth (kpF ns es) x).length) := by
    intro x
    rw [List.mem_map, List.mem_filter]
    constructor
    · rintro ⟨c, hc, rfl⟩
      obtain ⟨r, hr, rfl⟩ := cm.of c hc
      have hn := (root_keys ok l hr).1
      refine ⟨hn, ?_⟩
      have m : ((comp es r).headD Str.empty, [(comp es r).headD Str.empty]) ∈ kpF ns es := List.mem_flatMap.mpr ⟨_, hc, by
        obtain ⟨t, h⟩ := stF_root (adj := nbS es) (ok := fun _ _ => true) (root := (comp es r).headD Str.empty) 1000
        show _ ∈ stF (nbS es) (fun _ _ => true) _ 1000
        rw [h]
        exact List.mem_cons_self⟩
      rw [pth_uniq ok l m]
      rfl
    · rintro ⟨hx, h⟩
      rcases pth_cases ok l hx with ⟨e, c, hc, h2⟩ | ⟨y, hy, a, e, k⟩
      · exact ⟨c, hc, h2.symm⟩
      · rw [e, List.length_append, List.length_singleton, Bool.not_eq_true', decide_eq_false_iff_not] at h
        have := last_pos k
        omega
  have ndF : (ns.filter fun x => !decide (2 ≤ (pth (kpF ns es) x).length)).Nodup := List.Nodup.sublist List.filter_sublist ndns
  have a1 := nodup_len hinj fun x hx => (mem x).mp hx
  have a2 := nodup_len ndF fun x hx => (mem x).mpr hx
  rw [List.length_map] at a1 a2
  have e2 : (ns.filter fun x => !decide (2 ≤ (pth (kpF ns es) x).length)).length = ns.countP fun x => !decide (2 ≤ (pth (kpF ns es) x).length) := by
    rw [List.countP_eq_length_filter]
  have e3 : (ns.countP fun x => !decide (2 ≤ (pth (kpF ns es) x).length)) = ns.countP fun a => decide ¬decide (2 ≤ (pth (kpF ns es) a).length) = true := List.countP_congr fun x _ => by simp
  omega
theorem basis_count (ok : GrOk ns es) (l : ns.length ≤ 1000) : (basisF es (kpF ns es)).length + ns.length = es.length + (compsF ns es).length := by
  have t := tree_count ok l
  have r := root_count ok l
  unfold basisF treeF at *
  rw [List.length_map]
  have split := List.length_eq_countP_add_countP (isBasis (kpF ns es)) (l := es)
  rw [← List.countP_eq_length_filter] at t ⊢
  have e3 : (es.countP fun e => !isBasis (kpF ns es) e) = es.countP fun a => decide ¬isBasis (kpF ns es) a = true := List.countP_congr fun x _ => by simp
  omega
end
end U

/-! paths of one slope; certificates -/
namespace U
open PySem PySem.Spec PyProof.Rows L2
def SlP (es : List (Str × Str)) (f : Str → Int) (dir : Int) : List Str → Prop
  | a :: b :: r => Adj es a b ∧ slp f a b = dir ∧ SlP es f dir (b :: r)
  | _ => True
section
variable {ns : List Str} {es : List (Str × Str)} {f : Str → Int} {dir : Int}
theorem SlP.join : ∀ {p r : List Str} {x : Str}, p.getLast? = some x → SlP es f dir p → SlP es f dir (x :: r) → SlP es f dir (p ++ r)
  | [], _, _, h, _, _ => nomatch h
  | [a], r, x, h, _, k => by
    have e : a = x := by simpa using h
    subst e
    exact k
  | a :: b :: q, r, x, h, w, k => by
    have h' : (b :: q).getLast? = some x := by rw [List.getLast?_cons_cons] at h; exact h
    exact ⟨w.1, w.2.1, SlP.join h' w.2.2 k⟩
theorem SlP.snoc {p : List Str} {x b : Str} (h : p.getLast? = some x) (w : SlP es f dir p) (a : Adj es x b) (e : slp f x b = dir) : SlP es f dir (p ++ [b]) := w.join h ⟨a, e, trivial⟩
theorem SlP.tail {a : Str} {p : List Str} (w : SlP es f dir (a :: p)) : SlP es f dir p := by
  cases p with
  | nil => trivial
  | cons b r => exact w.2.2
theorem SlP.left : ∀ {p r : List Str}, SlP es f dir (p ++ r) → SlP es f dir p
  | [], _, _ => trivial
  | [a], _, _ => trivial
  | a :: b :: q, r, w => ⟨w.1, w.2.1, SlP.left (p := b :: q) w.2.2⟩
theorem SlP.wk : ∀ {p : List Str}, SlP es f dir p → Wk es p
  | [], _ => trivial
  | [a], _ => trivial
  | a :: b :: q, w => ⟨w.1, SlP.wk w.2.2⟩
theorem SlP.at : ∀ {p : List Str}, SlP es f dir p → ∀ i (h : i + 1 < p.length), Adj es p[i] p[i + 1] ∧ slp f p[i] p[i + 1] = dir
  | a :: b :: q, w, 0, _ => ⟨w.1, w.2.1⟩
  | a :: b :: q, w, i + 1, h => SlP.at (p := b :: q) w.2.2 i (by simpa using h)
theorem SlP.of : ∀ {p : List Str}, (∀ i (h : i + 1 < p.length), Adj es p[i] p[i + 1] ∧ slp f p[i] p[i + 1] = dir) → SlP es f dir p
  | [], _ => trivial
  | [a], _ => trivial
  | a :: b :: q, h => ⟨(h 0 (by simp)).1, (h 0 (by simp)).2, SlP.of fun i hi => h (i + 1) (by simpa using hi)⟩
theorem SlP.rev (ok : EsOk ns es f) : ∀ {p : List Str}, SlP es f dir p → SlP es f (-dir) p.reverse
  | [], _ => trivial
  | [a], _ => trivial
  | a :: b :: q, w => by
    have i := SlP.rev ok w.2.2
    rw [List.reverse_cons]
    refine i.snoc (x := b) ?_ w.1.symm ?_
    · rw [List.reverse_cons]
      simp only [List.getLast?_append, List.getLast?_singleton, Option.some_or]
    · rw [slp_neg ok w.1, w.2.1]
theorem PathTo.slp {x y : Str} {p : List Str} (h : PathTo (nbS es) (slOk f dir) x y p) : SlP es f dir p ∧ p.head? = some x ∧ p.getLast? = some y := by
  induction h with
  | one => exact ⟨trivial, rfl, rfl⟩
  | @snoc a b p q m o ih =>
    obtain ⟨i1, i2, i3⟩ := ih
    refine ⟨i1.snoc i3 (nbS_mem.mp m) (of_decide_eq_true o), ?_, ?_⟩
    · cases p with
      | nil => cases i2
      | cons c r => exact i2
    · simp only [List.getLast?_append, List.getLast?_singleton, Option.some_or]
/-- a rising cycle from x -/
structure CycL (ns : List Str) (es : List (Str × Str)) (f : Str → Int) (x : Str) (c : List Str) : Prop where
  sl : SlP es f 1 c
  hd : c.head? = some x
  la : c.getLast? = some x
  l2 : 2 ≤ c.length
  ln : c.length ≤ ns.length + 2
  in_ : ∀ y ∈ c, y ∈ ns
/-- one path of a certificate -/
structure CerP (ns : List Str) (es : List (Str × Str)) (f : Str → Int) (pn : List Str) (dir : Int) (x : Str) (p : List Str) : Prop where
  hd : p.head? = some x
  sl : SlP es f dir p
  ln : p.length ≤ 2 * ns.length + 20
  in_ : ∀ y ∈ p, y ∈ ns
  en : ∃ y, p.getLast? = some y ∧ (y ∈ pn ∨ y ∈ p.dropLast)
theorem sl_paths (ok : GrOk ns es) (l : ns.length ≤ 1000) {x : Str} (hx : x ∈ ns) {c : Str × List Str} (h : c ∈ pathsF (nbS es) (slOk f dir) x) : PathTo (nbS es) (slOk f dir) x c.1 c.2 ∧ c.2.length ≤ ns.length + 1 ∧ ∀ y ∈ c.2, y ∈ ns := by
  have cl : ∀ a ∈ ns, ∀ b ∈ nbS es a, b ∈ ns := fun a _ b hb => nbS_in ok hb
  have e := stF_done (adj := nbS es) (ok := slOk f dir) (root := x) (i := ns.length) (stF_len cl hx ns.length) l
  rw [← e] at h
  have p := stF_path _ _ h
  refine ⟨p, stF_plen _ _ h, ?_⟩
  generalize c.2 = q at p
  generalize c.1 = z at p
  clear h e
  induction p with
  | one => intro y hy; rw [List.mem_singleton.mp hy]; exact hx
  | @snoc a b p q m o ih =>
    intro y hy
    rcases List.mem_append.mp hy with hy | hy
    · exact ih y hy
    · rw [List.mem_singleton.mp hy]
      exact nbS_in ok m
theorem drop_last {p : List Str} {y : Str} (h : p.getLast? = some y) : p = p.dropLast ++ [y] := by
  have hn : p ≠ [] := fun z => by rw [z] at h; cases h
  have := List.dropLast_concat_getLast hn
  rw [List.getLast?_eq_getLast hn] at h
  rw [Option.some.inj h] at this
  exact this.symm
/-- a path to a pinned node -/
theorem cer_pin {pn : List Str} {x y : Str} {p : List Str} (h : PathTo (nbS es) (slOk f dir) x y p) (l : p.length ≤ ns.length + 1) (i : ∀ z ∈ p, z ∈ ns) (hy : y ∈ pn) : CerP ns es f pn dir x p := by
  obtain ⟨a, b, c⟩ := h.slp
  exact ⟨b, a, by omega, i, y, c, .inl hy⟩
/-- a path to a cycle and around it -/
theorem cer_cyc (ok : EsOk ns es f) {pn : List Str} {x y : Str} {p c : List Str} (hd : dir = 1 ∨ dir = -1) (h : PathTo (nbS es) (slOk f dir) x y p) (l : p.length ≤ ns.length + 1) (i : ∀ z ∈ p, z ∈ ns) (k : CycL ns es f y c) : CerP ns es f pn dir x (p.dropLast ++ if dir = 1 then c else c.reverse) := by
  obtain ⟨a, b, e⟩ := h.slp
  have kd : SlP es f dir (if dir = 1 then c else c.reverse) ∧ (if dir = 1 then c else c.reverse).head? = some y ∧ (if dir = 1 then c else c.reverse).getLast? = some y ∧ (if dir = 1 then c else c.reverse).length = c.length ∧ ∀ z ∈ (if dir = 1 then c else c.reverse), z ∈ ns := by
    by_cases q : dir = 1
    · rw [if_pos q, q]
      exact ⟨k.sl, k.hd, k.la, rfl, k.in_⟩
    · obtain rfl : dir = -1 := hd.resolve_left q
      rw [if_neg q]
      refine ⟨k.sl.rev ok, ?_, ?_, List.length_reverse, fun z hz => k.in_ z (List.mem_reverse.mp hz)⟩
      · rw [List.head?_reverse]
        exact k.la
      · rw [List.getLast?_reverse]
        exact k.hd
  generalize (if dir = 1 then c else c.reverse) = d at kd
  obtain ⟨d1, d2, d3, d4, d5⟩ := kd
  have dl := drop_last e
  have l2 := k.l2
  have ln := k.ln
  obtain ⟨d0, dr, rfl⟩ : ∃ d0 dr, d = d0 :: dr := by
    cases d with
    | nil => cases d2
    | cons a b => exact ⟨a, b, rfl⟩
  obtain rfl : d0 = y := by simpa using d2
  refine ⟨?_, ?_, ?_, ?_, d0, ?_, .inr ?_⟩
  · rw [dl] at b
    cases hq : p.dropLast with
    | nil => rw [hq] at b; exact b
    | cons z r => rw [hq] at b; exact b
  · have := a.join e d1
    rw [dl] at this
    rw [List.append_assoc] at this
    exact this
  · have : p.dropLast.length + 1 = p.length := by
      have := congrArg List.length dl
      rw [List.length_append, List.length_singleton] at this
      omega
    rw [List.length_append]
    omega
  · intro z hz
    rcases List.mem_append.mp hz with hz | hz
    · exact i z ((List.dropLast_sublist p).subset hz)
    · exact d5 z hz
  · rw [List.getLast?_append, d3]
    rfl
  · rw [List.dropLast_append_of_ne_nil (by simp)]
    refine List.mem_append_right _ ?_
    cases dr with
    | nil =>
      rw [d4.symm] at l2
      exact absurd l2 (by simp)
    | cons z r => exact List.mem_cons_self
end
end U

/-! the numbers along the root paths; when there is no lift: the plain law -/
namespace U
open PySem PySem.Spec PyProof.Rows L2
theorem two_numS {f g : Str → Int} : ∀ {p : List Str}, 2 * numS f g p = psum g p - psum f p
  | [] => rfl
  | [a] => rfl
  | a :: b :: r => by
    have i := two_numS (f := f) (g := g) (p := b :: r)
    have s1 := slp_pm f a b
    have s2 := slp_pm g a b
    rw [psum_cons, psum_cons]
    show 2 * ((slp g a b - slp f a b) / 2 + numS f g (b :: r)) = _
    omega
section
variable {ns : List Str} {es : List (Str × Str)} {f g h0 : Str → Int} {pn : List Str}
/-- the number that the root path gives -/
def LnF (ns : List Str) (es : List (Str × Str)) (f g : Str → Int) (x : Str) : Int :=
  (f ((pth (kpF ns es) x).headD Str.empty) - g ((pth (kpF ns es) x).headD Str.empty)) % 3 + numS f g (pth (kpF ns es) x)
theorem pth_head (gok : GrOk ns es) (l : ns.length ≤ 1000) {x : Str} (hx : x ∈ ns) : ∃ r ∈ ns, x ∈ comp es r ∧ (pth (kpF ns es) x).headD Str.empty = (comp es r).headD Str.empty ∧ (comp es r).headD Str.empty ∈ ns ∧ Wk es (pth (kpF ns es) x) ∧ (pth (kpF ns es) x).head? = some ((comp es r).headD Str.empty) ∧ (pth (kpF ns es) x).getLast? = some x := by
  obtain ⟨r, hr, hxr, p⟩ := roots_path gok l hx
  obtain ⟨w1, w2, w3⟩ := p.wk
  refine ⟨r, hr, hxr, ?_, ?_, w1, w2, w3⟩
  · show (pth (rootsF es (compsF ns es)) x).headD Str.empty = _
    rw [List.headD_eq_head?_getD, w2]
    rfl
  · exact pt_in gok hr ((sortS_perm _).mem_iff.mp (head_in comp_pos))
theorem ln_edge (gok : GrOk ns es) (l : ns.length ≤ 1000) (okf : EsOk ns es f) (okg : EsOk ns es g) (psE : ∀ c ∈ basisF es (kpF ns es), psum f c = psum g c) : ∀ e ∈ es, slp f e.1 e.2 - slp g e.1 e.2 = 2 * (LnF ns es f g e.1 - LnF ns es f g e.2) := fun e he => by
  obtain ⟨m1, m2⟩ := gok.mem e he
  obtain ⟨r, hr, hx, e1, _, w1, h1, k1⟩ := pth_head gok l m1
  obtain ⟨s, hs, hy, e2, _, w2, h2, k2⟩ := pth_head gok l m2
  have cs := comp_same gok l hr hs hx hy (.step .refl (nbS_mem.mpr (.inl he)) rfl)
  have ad : Adj es e.1 e.2 := .inl he
  have n1 := slp_neg okf ad
  have n2 := slp_neg okg ad
  unfold LnF
  rw [e1, e2, cs]
  have t1 := two_numS (f := f) (g := g) (p := pth (kpF ns es) e.1)
  have t2 := two_numS (f := f) (g := g) (p := pth (kpF ns es) e.2)
  cases hb : isBasis (kpF ns es) e with
  | true =>
    have hc : pth (kpF ns es) e.1 ++ (pth (kpF ns es) e.2).reverse ∈ basisF es (kpF ns es) := List.mem_map.mpr ⟨e, List.mem_filter.mpr ⟨he, hb⟩, rfl⟩
    have q := psE _ hc
    have rv1 := psum_rev okf w2
    have rv2 := psum_rev okg w2
    have hd : (pth (kpF ns es) e.2).reverse.head? = some e.2 := by rw [List.head?_reverse]; exact k2
    generalize (pth (kpF ns es) e.2).reverse = q2 at *
    cases q2 with
    | nil => cases hd
    | cons z r2 =>
      obtain rfl : z = e.2 := by simpa using hd
      rw [psum_join k1, psum_join k1, psum_cons, psum_cons] at q
      omega
  | false =>
    have alt : pen (pth (kpF ns es) e.1) = [e.2] ∨ pen (pth (kpF ns es) e.2) = [e.1] := by
      unfold isBasis at hb
      by_cases z : pen (pth (kpF ns es) e.1) = [e.2]
      · exact .inl z
      · by_cases z2 : pen (pth (kpF ns es) e.2) = [e.1]
        · exact .inr z2
        · rw [decide_eq_false z, decide_eq_false z2] at hb
          cases hb
    have s1 := slp_pm f e.1 e.2
    have s2 := slp_pm g e.1 e.2
    rcases alt with z | z
    · rcases pth_cases gok l m1 with ⟨c, _⟩ | ⟨y, hy', _, ep, la⟩
      · rw [c, pen_one] at z
        cases z
      · rw [ep, pen_snoc la] at z
        obtain rfl : y = e.2 := by simpa using z
        rw [ep, numS_snoc la]
        omega
    · rcases pth_cases gok l m2 with ⟨c, _⟩ | ⟨y, hy', _, ep, la⟩
      · rw [c, pen_one] at z
        cases z
      · rw [ep, pen_snoc la] at z
        obtain rfl : y = e.1 := by simpa using z
        rw [ep, numS_snoc la]
        omega
theorem ln_mod (gok : GrOk ns es) (l : ns.length ≤ 1000) (okf : EsOk ns es f) (okg : EsOk ns es g) {x : Str} (hx : x ∈ ns) : (f x - LnF ns es f g x - g x) % 3 = 0 := by
  obtain ⟨r, hr, hxr, e1, _, w1, h1, k1⟩ := pth_head gok l hx
  have t1 := two_numS (f := f) (g := g) (p := pth (kpF ns es) x)
  have p1 := psum_mod okf w1 h1 k1
  have p2 := psum_mod okg w1 h1 k1
  unfold LnF
  rw [e1]
  omega
/-- a component is done -/
def FinG (es : List (Str × Str)) (f : Str → Int) (pn : List Str) (h0 hc : Str → Int) (c : List Str) : Prop :=
  ∃ k : Int, (∀ x ∈ c, hc x = h0 x + 3 * k) ∧ (∀ x ∈ c, (x ∈ pn ∨ Cyc es f x) → hc x = 0) ∧ (¬ AncC es f pn c → gS h0 c k < gS h0 c (k - 1) ∧ gS h0 c k ≤ gS h0 c (k + 1))
theorem fit_same (okf : EsOk ns es f) (okg : EsOk ns es g) (t : ∀ e ∈ es, slp f e.1 e.2 - slp g e.1 e.2 = 2 * (h0 e.1 - h0 e.2)) {h2 : Str → Int} (f2 : Feas ns es f h2 pn) (m : ∀ x ∈ ns, (h2 x - h0 x) % 3 = 0) (m0 : ∀ x ∈ ns, (f x - h0 x - g x) % 3 = 0) {a b : Str} (r : Con es a b) : h2 b - h0 b = h2 a - h0 a := by
  have t2 := feas_t okf okg f2 fun x hx => by
    have := m x hx
    have := m0 x hx
    omega
  induction r with
  | refl => rfl
  | @step b c r mm o ih =>
    rw [← ih]
    have k : Adj es b c := nbS_mem.mp mm
    have e1 := t_adj okf okg t k
    have e2 := t_adj okf okg t2 k
    omega
theorem fin_feasG (gok : GrOk ns es) (l : ns.length ≤ 1000) (okf : EsOk ns es f) (okg : EsOk ns es g) (t : ∀ e ∈ es, slp f e.1 e.2 - slp g e.1 e.2 = 2 * (h0 e.1 - h0 e.2)) (m0 : ∀ x ∈ ns, (f x - h0 x - g x) % 3 = 0) (pin : ∀ x ∈ pn, x ∈ ns) {hc : Str → Int} (fin : ∀ c ∈ compsF ns es, FinG es f pn h0 hc c) :
    Feas ns es f hc pn ∧ (∀ x ∈ ns, (f x - hc x - g x) % 3 = 0) ∧ (∀ h2, Feas ns es f h2 pn → (∀ x ∈ ns, (f x - h2 x - g x) % 3 = 0) → sz ns hc ≤ sz ns h2) ∧ ∀ c ∈ compsF ns es, ¬ AncC es f pn c → gS hc c 0 < gS hc c (-1) ∧ gS hc c 0 ≤ gS hc c 1 := by
  have co := compsF_ok gok l
  have at_ : ∀ x ∈ ns, ∃ c ∈ compsF ns es, x ∈ c ∧ ∀ y, Adj es x y → y ∈ c := fun x hx => by
    obtain ⟨c, hc, xc⟩ := List.mem_flatten.mp (co.all x hx)
    obtain ⟨r, hr, rfl⟩ := co.of c hc
    exact ⟨_, hc, xc, fun y k => (comp_closed gok l hr x y k).mp xc⟩
  refine ⟨⟨fun e he => ?_, fun x hx => ?_, fun x hx => ?_⟩, fun x hx => ?_, fun h2 f2 m => ?_, fun c hc' na => ?_⟩
  · have k : Adj es e.1 e.2 := .inl he
    obtain ⟨i1, _⟩ := adj_in okf k
    obtain ⟨c, hc', xc, cl⟩ := at_ _ i1
    obtain ⟨j, ej, _⟩ := fin c hc'
    have e1 := ej _ xc
    have e2 := ej _ (cl _ k)
    have a := t e he
    have b := slp_pm g e.1 e.2
    rw [fit_pm]
    omega
  · obtain ⟨c, hc', xc, _⟩ := at_ _ (pin x hx)
    obtain ⟨j, ej, az, _⟩ := fin c hc'
    exact az x xc (.inl hx)
  · obtain ⟨y, ky, _⟩ := id hx
    obtain ⟨c, hc', xc, _⟩ := at_ x (adj_in okf ky).2.1
    obtain ⟨j, ej, az, _⟩ := fin c hc'
    exact az x xc (.inr hx)
  · obtain ⟨c, hc', xc, _⟩ := at_ x hx
    obtain ⟨j, ej, _⟩ := fin c hc'
    have e1 := ej _ xc
    have := m0 x hx
    omega
  · have m' : ∀ x ∈ ns, (h2 x - h0 x) % 3 = 0 := fun x hx => by
      have := m x hx
      have := m0 x hx
      omega
    rw [← sz_perm (comps_perm gok l), ← sz_perm (h := h2) (comps_perm gok l)]
    refine sz_flat fun c hc' => ?_
    obtain ⟨j, ej, az, mn⟩ := fin c hc'
    obtain ⟨r, hr, rfl⟩ := co.of c hc'
    have con : ∀ x ∈ comp es r, h2 x - h0 x = h2 r - h0 r := fun x hx => fit_same okf okg t f2 m' m0 ((comp_mem gok l hr).mp hx)
    have mr := m' r hr
    obtain ⟨i, hi⟩ : ∃ i, h2 r - h0 r = 3 * i := ⟨(h2 r - h0 r) / 3, by omega⟩
    have e1 : sz (comp es r) hc = gS h0 (comp es r) j := sz_congr ej
    have e2 : sz (comp es r) h2 = gS h0 (comp es r) i := sz_congr fun x hx => by
      have := con x hx
      omega
    rw [e1, e2]
    by_cases q : AncC es f pn (comp es r)
    · obtain ⟨x, hx, hq⟩ := q
      have j0 := az x hx hq
      have := con x hx
      have := ej x hx
      have z : h2 x = 0 := by
        rcases hq with hq | hq
        · exact f2.pin x hq
        · exact f2.cyc x hq
      have : i = j := by omega
      rw [this]
      exact Int.le_refl _
    · obtain ⟨a, b⟩ := mn q
      exact gS_min b (by omega) i
  · obtain ⟨j, ej, az, mn⟩ := fin c hc'
    obtain ⟨a, b⟩ := mn na
    have e : ∀ i, gS hc c i = gS h0 c (j + i) := fun i => sz_congr fun x hx => by
      rw [ej x hx]
      omega
    rw [e, e, e, Int.add_zero]
    exact ⟨a, b⟩
/-- no lift: a changed cycle -/
theorem no_cyc (gok : GrOk ns es) (l : ns.length ≤ 1000) (okf : EsOk ns es f) (okg : EsOk ns es g) {c : List Str} (hc : c ∈ basisF es (kpF ns es)) (d : psum f c ≠ psum g c) (h : Str → Int) (fe : Feas ns es f h pn) : ¬ ∀ x ∈ ns, (f x - h x - g x) % 3 = 0 := fun m => by
  obtain ⟨wk, a, ha, hb⟩ := basis_ok gok l c hc
  have := psum_lift okf okg (feas_t okf okg fe m) wk ha hb
  omega
/-- no lift: an anchor that would have to move -/
theorem no_node (okf : EsOk ns es f) (okg : EsOk ns es g) {x : Str} (hx : x ∈ ns) (a : x ∈ pn ∨ Cyc es f x) (d : g x ≠ f x) (h : Str → Int) (fe : Feas ns es f h pn) : ¬ ∀ x ∈ ns, (f x - h x - g x) % 3 = 0 := fun m => by
  have z : h x = 0 := by
    rcases a with q | q
    · exact fe.pin x q
    · exact fe.cyc x q
  have := m x hx
  have := okf.tri x hx
  have := okg.tri x hx
  omega
/-- no lift: two anchors -/
theorem no_path (okf : EsOk ns es f) (okg : EsOk ns es g) (t : ∀ e ∈ es, slp f e.1 e.2 - slp g e.1 e.2 = 2 * (h0 e.1 - h0 e.2)) (m0 : ∀ x ∈ ns, (f x - h0 x - g x) % 3 = 0) {x y : Str} (ax : x ∈ pn ∨ Cyc es f x) (ay : y ∈ pn ∨ Cyc es f y) (cn : Con es x y) (d : h0 y ≠ h0 x) (h : Str → Int) (fe : Feas ns es f h pn) : ¬ ∀ x ∈ ns, (f x - h x - g x) % 3 = 0 := fun m => by
  have z : ∀ x, (x ∈ pn ∨ Cyc es f x) → h x = 0 := fun x a => by
    rcases a with q | q
    · exact fe.pin x q
    · exact fe.cyc x q
  have := fit_same okf okg t fe (fun x hx => by
    have := m x hx
    have := m0 x hx
    omega) m0 cn
  have := z x ax
  have := z y ay
  omega
theorem pth_len (gok : GrOk ns es) (l : ns.length ≤ 1000) {x : Str} (hx : x ∈ ns) : (pth (kpF ns es) x).length ≤ ns.length + 1 := by
  have cm := compsF_ok gok l
  have hk : x ∈ keysF (kpF ns es) := (roots_keys gok l cm.of x).mpr (cm.all x hx)
  obtain ⟨p, h1, h2⟩ := lookup_some hk
  rw [pth_uniq gok l h2]
  obtain ⟨c, hc, h3⟩ := List.mem_flatMap.mp h2
  obtain ⟨r, hr, rfl⟩ := cm.of c hc
  have hd := (root_keys gok l hr).1
  have cl : ∀ a ∈ ns, ∀ b ∈ nbS es a, b ∈ ns := fun a _ b hb => nbS_in gok hb
  have e := stF_done (adj := nbS es) (ok := fun _ _ => true) (root := (comp es r).headD Str.empty) (i := ns.length) (stF_len cl hd ns.length) l
  have h3 : (x, p) ∈ pathsF (nbS es) (fun _ _ => true) ((comp es r).headD Str.empty) := h3
  rw [← e] at h3
  exact stF_plen _ _ h3
end
end U

/-! lifts back, lifts joined, the size of the smallest lift: the plain law -/
namespace U
open PySem PySem.Spec PyProof.Rows L2
section
variable {ns : List Str} {es : List (Str × Str)} {f g h : Str → Int} {pn : List Str} {dir : Int}
theorem psum_le {f : Str → Int} : ∀ {p : List Str}, psum f p ≤ (p.length : Int)
  | [] => by simp [psum, psl]
  | [a] => by rw [psum_one]; simp
  | a :: b :: r => by
    have i := psum_le (f := f) (p := b :: r)
    have s := slp_pm f a b
    rw [psum_cons]
    simp only [List.length_cons] at i ⊢
    omega
theorem psum_top {f : Str → Int} : ∀ {p : List Str}, Wk es p → psum f p + 1 ≤ (p.length : Int) ∨ p = [] := fun {p} => by
  induction p with
  | nil => intro _; exact .inr rfl
  | cons a r ih =>
    intro w
    cases r with
    | nil => left; rw [psum_one]; simp
    | cons b q =>
      left
      rcases ih w.2 with i | i
      · have s := slp_pm f a b
        rw [psum_cons]
        simp only [List.length_cons] at i ⊢
        omega
      · cases i
/-- all slopes are 1 where the sum is greatest -/
theorem slp_full {f : Str → Int} : ∀ {p : List Str}, Wk es p → psum f p + 1 = (p.length : Int) → SlP es f 1 p := fun {p} => by
  induction p with
  | nil => intro _ _; trivial
  | cons a r ih =>
    intro w e
    cases r with
    | nil => trivial
    | cons b q =>
      have s := slp_pm f a b
      rw [psum_cons] at e
      simp only [List.length_cons] at e
      rcases psum_top (f := f) w.2 with i | i
      · simp only [List.length_cons] at i
        have e1 : slp f a b = 1 := by omega
        exact ⟨w.1, e1, ih w.2 (by simp only [List.length_cons]; omega)⟩
      · cases i
theorem slp_sum {f : Str → Int} : ∀ {p : List Str}, SlP es f 1 p → p ≠ [] → psum f p + 1 = (p.length : Int) := fun {p} => by
  induction p with
  | nil => intro _ n; exact absurd rfl n
  | cons a r ih =>
    intro w _
    cases r with
    | nil => rw [psum_one]; rfl
    | cons b q =>
      have i := ih w.2.2 (by simp)
      rw [psum_cons, w.2.1]
      simp only [List.length_cons] at i ⊢
      omega
theorem rr_path {x y : Str} (r : Rr es f dir x y) : ∃ p, SlP es f dir p ∧ p.head? = some x ∧ p.getLast? = some y := by
  induction r with
  | refl => exact ⟨[x], trivial, rfl, rfl⟩
  | @step a b _ m o ih =>
    obtain ⟨p, i1, i2, i3⟩ := ih
    refine ⟨p ++ [b], i1.snoc i3 (nbS_mem.mp m) (of_decide_eq_true o), ?_, ?_⟩
    · cases p with
      | nil => cases i2
      | cons c r => exact i2
    · simp only [List.getLast?_append, List.getLast?_singleton, Option.some_or]
theorem path_rr : ∀ {p : List Str} {x y : Str}, SlP es f dir p → p.head? = some x → p.getLast? = some y → Rr es f dir x y := fun {p} => by
  induction p with
  | nil => intro x y _ h; cases h
  | cons a r ih =>
    intro x y w h l
    obtain rfl : a = x := by simpa using h
    cases r with
    | nil =>
      obtain rfl : a = y := by simpa using l
      exact .refl
    | cons b q =>
      have l' : (b :: q).getLast? = some y := by rw [List.getLast?_cons_cons] at l; exact l
      exact (rr_step w.1 w.2.1).trans (ih w.2.2 rfl l')
/-- cycles stay on the way of a lift -/
theorem cyc_t (okf : EsOk ns es f) (okg : EsOk ns es g) (t : ∀ e ∈ es, slp f e.1 e.2 - slp g e.1 e.2 = 2 * (h e.1 - h e.2)) {x : Str} (c : Cyc es g x) : Cyc es f x := by
  obtain ⟨y, k, e, r⟩ := c
  obtain ⟨p, p1, p2, p3⟩ := rr_path r
  have q1 := p1.snoc p3 k e
  have la : (p ++ [x]).getLast? = some x := by simp only [List.getLast?_append, List.getLast?_singleton, Option.some_or]
  have hd : (p ++ [x]).head? = some x := by
    cases p with
    | nil => cases p2
    | cons c r => exact p2
  have e1 := psum_lift okf okg t q1.wk hd la
  have e2 := slp_sum q1 (by simp)
  have q2 := slp_full (f := f) q1.wk (by omega)
  refine ⟨y, k, ?_, path_rr q2.left p2 p3⟩
  have pl : 0 < p.length := by
    cases p with
    | nil => cases p2
    | cons c r => simp
  have := (q2.at (p.length - 1) (by rw [List.length_append, List.length_singleton]; omega)).2
  have a1 : (p ++ [x])[p.length - 1]'(by rw [List.length_append]; omega) = y := by
    rw [List.getElem_append_left (by omega)]
    have := p3
    rw [List.getLast?_eq_getElem?, List.getElem?_eq_getElem (by omega)] at this
    exact Option.some.inj this
  have a2 : (p ++ [x])[p.length - 1 + 1]'(by rw [List.length_append, List.length_singleton]; omega) = x := by
    rw [List.getElem_append_right (by omega)]
    simp
  rw [a1, a2] at this
  exact this
/-- a feasible lift leads from f to g -/
def Lft (ns : List Str) (es : List (Str × Str)) (f g : Str → Int) (pn : List Str) (h : Str → Int) : Prop := Feas ns es f h pn ∧ ∀ x ∈ ns, (f x - h x - g x) % 3 = 0
theorem Lft.back (okf : EsOk ns es f) (okg : EsOk ns es g) (l : Lft ns es f g pn h) : Lft ns es g f pn fun x => - h x := by
  have t := feas_t okf okg l.1 l.2
  refine ⟨feas_back okf okg l.1 t fun x c => cyc_t okf okg t c, fun x hx => ?_⟩
  have := l.2 x hx
  show (g x - - h x - f x) % 3 = 0
  omega
theorem Lft.join {k h2 : Str → Int} (okf : EsOk ns es f) (okg : EsOk ns es g) (okk : EsOk ns es k) (l : Lft ns es f g pn h) (m : Lft ns es g k pn h2) : Lft ns es f k pn fun x => h x + h2 x := by
  have t := feas_t okf okg l.1 l.2
  have tb := feas_t okg okf (l.back okf okg).1 (l.back okf okg).2
  refine ⟨⟨fun e he => ?_, fun x hx => ?_, fun x hx => ?_⟩, fun x hx => ?_⟩
  · have a := t e he
    have b := fit_pm.mp (m.1.fit e he)
    rw [fit_pm]
    omega
  · have := l.1.pin x hx
    have := m.1.pin x hx
    omega
  · have := l.1.cyc x hx
    have := m.1.cyc x (cyc_t (h := fun x => - h x) okg okf tb hx)
    omega
  · have := l.2 x hx
    have := m.2 x hx
    show (f x - (h x + h2 x) - k x) % 3 = 0
    omega
theorem no_back (okf : EsOk ns es f) (okg : EsOk ns es g) (n : ∀ h, ¬ Lft ns es f g pn h) : ∀ h, ¬ Lft ns es g f pn h := fun _ l => n _ (l.back okg okf)
theorem adj_near (ok : EsOk ns es f) (fe : Feas ns es f h pn) {a b : Str} (k : Adj es a b) : -1 ≤ h a - h b ∧ h a - h b ≤ 1 := by
  have key : ∀ e ∈ es, -1 ≤ h e.1 - h e.2 ∧ h e.1 - h e.2 ≤ 1 := fun e he => by
    have a := fit_pm.mp (fe.fit e he)
    have b := slp_pm f e.1 e.2
    omega
  rcases k with k | k
  · exact key _ k
  · have z : -1 ≤ h b - h a ∧ h b - h a ≤ 1 := key _ k
    omega
theorem wk_near (ok : EsOk ns es f) (fe : Feas ns es f h pn) : ∀ {p : List Str} {a b : Str}, Wk es p → p.head? = some a → p.getLast? = some b → -(p.length : Int) + 1 ≤ h a - h b ∧ h a - h b ≤ (p.length : Int) - 1 := fun {p} => by
  induction p with
  | nil => intro a b _ h; cases h
  | cons x r ih =>
    intro a b w h1 l
    obtain rfl : x = a := by simpa using h1
    cases r with
    | nil =>
      obtain rfl : x = b := by simpa using l
      simp
    | cons y q =>
      have l' : (y :: q).getLast? = some b := by rw [List.getLast?_cons_cons] at l; exact l
      have i := ih w.2 rfl l'
      have n := adj_near ok fe w.1
      simp only [List.length_cons] at i ⊢
      omega
theorem comp_near (gok : GrOk ns es) (l : ns.length ≤ 1000) (ok : EsOk ns es f) (fe : Feas ns es f h pn) {r x : Str} (hr : r ∈ ns) (hx : x ∈ comp es r) : -(ns.length : Int) ≤ h r - h x ∧ h r - h x ≤ ns.length := by
  have cn := (comp_mem gok l hr).mp hx
  have hk : x ∈ keysF (ptF es r) := (pt_mem gok l hr).mpr cn
  obtain ⟨p, h1, h2⟩ := lookup_some hk
  have cl : ∀ a ∈ ns, ∀ b ∈ nbS es a, b ∈ ns := fun a _ b hb => nbS_in gok hb
  have e := stF_done (adj := nbS es) (ok := fun _ _ => true) (root := r) (i := ns.length) (stF_len cl hr ns.length) l
  have h2 : (x, p) ∈ pathsF (nbS es) (fun _ _ => true) r := h2
  rw [← e] at h2
  have pl : p.length ≤ ns.length + 1 := stF_plen _ _ h2
  have pp : PathTo (nbS es) (fun _ _ => true) r x p := stF_path _ _ h2
  obtain ⟨w1, w2, w3⟩ := pp.wk
  have := wk_near ok fe w1 w2 w3
  omega
theorem sz_bd {b : Int} : ∀ {c : List Str}, (∀ x ∈ c, -b ≤ h x ∧ h x ≤ b) → sz c h ≤ b * c.length
  | [], _ => by rw [sz_nil]; simp
  | x :: r, k => by
    have i := sz_bd (c := r) fun y hy => k y (List.mem_cons_of_mem _ hy)
    have c := k x List.mem_cons_self
    rw [sz_cons, List.length_cons]
    have e : b * ((r.length + 1 : Nat) : Int) = b * (r.length : Int) + b := by
      rw [Int.natCast_add, Int.mul_add]
      simp
    omega
theorem sz_flatb {b : Int} : ∀ {cs : List (List Str)}, (∀ c ∈ cs, sz c h ≤ b * c.length) → sz cs.flatten h ≤ b * cs.flatten.length
  | [], _ => by simp [sz]
  | c :: r, k => by
    have i := sz_flatb (cs := r) fun c' hc => k c' (List.mem_cons_of_mem _ hc)
    have a := k c List.mem_cons_self
    rw [List.flatten_cons, sz_app, List.length_append]
    have e : b * ((c.length + r.flatten.length : Nat) : Int) = b * (c.length : Int) + b * (r.flatten.length : Int) := by
      rw [Int.natCast_add, Int.mul_add]
    omega
/-- the smallest lift is small -/
theorem lift_small (gok : GrOk ns es) (l : ns.length ≤ 1000) (ok : EsOk ns es f) (fe : Feas ns es f h pn) (mn : ∀ c ∈ compsF ns es, ¬ AncC es f pn c → gS h c 0 < gS h c (-1) ∧ gS h c 0 ≤ gS h c 1) : sz ns h ≤ ((ns.length : Int) + 1) * ns.length := by
  have co := compsF_ok gok l
  rw [← sz_perm (comps_perm gok l)]
  have := sz_flatb (h := h) (b := (ns.length : Int) + 1) (cs := compsF ns es) fun c hc => by
    obtain ⟨r, hr, rfl⟩ := co.of c hc
    by_cases q : AncC es f pn (comp es r)
    · obtain ⟨a, ha, hq⟩ := q
      have z : h a = 0 := by
        rcases hq with hq | hq
        · exact fe.pin a hq
        · exact fe.cyc a hq
      have an : a ∈ ns := pt_in gok hr ((sortS_perm _).mem_iff.mp ha)
      have ea : comp es a = comp es r := comp_same gok l an hr ((comp_mem gok l an).mpr .refl) ha .refl
      refine sz_bd fun x hx => ?_
      have := comp_near gok l ok fe an (x := x) (by rw [ea]; exact hx)
      omega
    · obtain ⟨m1, m2⟩ := mn _ hc q
      have m := gS_min (h := h) (c := comp es r) (k := 0) m2 (by rw [show (0 : Int) - 1 = -1 from rfl]; omega) (-((h r + 1) / 3))
      have e0 : sz (comp es r) h = gS h (comp es r) 0 := sz_congr fun x _ => by omega
      have b := sz_bd (h := fun x => h x + 3 * (-((h r + 1) / 3))) (b := (ns.length : Int) + 1) (c := comp es r) fun x hx => by
        have := comp_near gok l ok fe hr hx
        omega
      have e1 : gS h (comp es r) (-((h r + 1) / 3)) = sz (comp es r) (fun x => h x + 3 * (-((h r + 1) / 3))) := rfl
      omega
  rw [(comps_perm gok l).length_eq] at this
  exact this
end
end U

/-! rounds of progress moves: the plain law -/
namespace U
open PySem PySem.Spec PyProof.Rows L2
section
variable {ns : List Str} {es : List (Str × Str)} {f h : Str → Int} {pn : List Str}
theorem prog_iff (ok : EsOk ns es f) {m : Str × Int} : m ∈ progF ns es f h pn ↔ m.1 ∈ ns ∧ m.1 ∉ pn ∧ h m.1 ≠ 0 ∧ (∀ o, Adj es m.1 o → slp f m.1 o = dirU (h m.1)) ∧ m.2 = (f m.1 - dirU (h m.1)) % 3 := by
  rw [prog_eq ok fun _ h => h, List.mem_flatMap]
  constructor
  · rintro ⟨x, hx, hm⟩
    unfold pmF pvF at hm
    by_cases c : h x ≠ 0 ∧ ∀ o ∈ nbS es x, slp f x o = dirU (h x)
    · rw [if_pos c] at hm
      have hm : m ∈ (if x ∈ pn then [] else [(x, (f x - dirU (h x)) % 3)]) := hm
      split at hm
      · cases hm
      · rename_i np
        obtain rfl := List.mem_singleton.mp hm
        exact ⟨hx, np, c.1, fun o ho => c.2 o (nbS_mem.mpr ho), rfl⟩
    · rw [if_neg c] at hm
      cases hm
  · rintro ⟨a, b, c, d, e⟩
    refine ⟨m.1, a, ?_⟩
    unfold pmF pvF
    rw [if_pos ⟨c, fun o ho => d o (nbS_mem.mp ho)⟩]
    show m ∈ (if m.1 ∈ pn then [] else [(m.1, (f m.1 - dirU (h m.1)) % 3)])
    rw [if_neg b, ← e]
    exact List.mem_singleton.mpr rfl
theorem pm_shape {x : Str} : pmF es f h pn x = [] ∨ pmF es f h pn x = [(x, (f x - dirU (h x)) % 3)] := by
  unfold pmF pvF
  by_cases c : h x ≠ 0 ∧ ∀ o ∈ nbS es x, slp f x o = dirU (h x)
  · rw [if_pos c]
    show (if x ∈ pn then [] else [(x, (f x - dirU (h x)) % 3)]) = [] ∨ (if x ∈ pn then [] else [(x, (f x - dirU (h x)) % 3)]) = _
    split
    · exact .inl rfl
    · exact .inr rfl
  · rw [if_neg c]
    exact .inl rfl
theorem pm_nodup : ∀ {xs : List Str}, xs.Nodup → ((xs.flatMap (pmF es f h pn)).map (·.1)).Nodup ∧ ∀ y ∈ (xs.flatMap (pmF es f h pn)).map (·.1), y ∈ xs
  | [], _ => ⟨List.nodup_nil, fun y h => nomatch h⟩
  | x :: r, nd => by
    have nd' := List.nodup_cons.mp nd
    obtain ⟨i1, i2⟩ := pm_nodup nd'.2
    rw [List.flatMap_cons, List.map_append]
    rcases pm_shape (es := es) (f := f) (h := h) (pn := pn) (x := x) with e | e
    · rw [e]
      exact ⟨i1, fun y hy => List.mem_cons_of_mem _ (i2 y hy)⟩
    · rw [e]
      refine ⟨List.nodup_cons.mpr ⟨fun z => nd'.1 (i2 x z), i1⟩, fun y hy => ?_⟩
      rcases List.mem_cons.mp hy with z | z
      · rw [z]
        exact List.mem_cons_self
      · exact List.mem_cons_of_mem _ (i2 y z)
theorem prog_nodup (ok : EsOk ns es f) (nd : ns.Nodup) : ((progF ns es f h pn).map (·.1)).Nodup := by
  rw [prog_eq ok fun _ h => h]
  exact (pm_nodup nd).1
/-- numbers of neighbors differ by one at most -/
theorem fe_near (ok : EsOk ns es f) (fe : Feas ns es f h pn) {a b : Str} (k : Adj es a b) : slp f a b - 2 * (h a - h b) = 1 ∨ slp f a b - 2 * (h a - h b) = -1 := by
  rcases k with k | k
  · exact fit_pm.mp (fe.fit _ k)
  · have e := fit_pm.mp (fe.fit _ k)
    have s := slp_neg ok (show Adj es b a from .inl k)
    have e : slp f b a - 2 * (h b - h a) = 1 ∨ slp f b a - 2 * (h b - h a) = -1 := e
    omega
theorem prog_apart (ok : EsOk ns es f) (fe : Feas ns es f h pn) {a b : Str × Int} (ha : a ∈ progF ns es f h pn) (hb : b ∈ progF ns es f h pn) : ¬ Adj es a.1 b.1 := fun k => by
  obtain ⟨_, _, a3, a4, _⟩ := (prog_iff ok).mp ha
  obtain ⟨_, _, b3, b4, _⟩ := (prog_iff ok).mp hb
  have e1 := a4 _ k
  have e2 := b4 _ k.symm
  have e3 := slp_neg ok k
  have e4 := fe_near ok fe k
  unfold dirU at e1 e2
  split at e1 <;> split at e2 <;> omega
theorem prog_after (ok : EsOk ns es f) (nd : ns.Nodup) (fe : Feas ns es f h pn) {a b : Str × Int} (ha : a ∈ progF ns es f h pn) (hb : b ∈ progF ns es f h pn) (ne : b.1 ≠ a.1) : b ∈ progF ns es (updf f a.1 a.2) (redU h a.1) pn := by
  obtain ⟨ok', _⟩ := prog_step ok nd fe ha
  obtain ⟨b1, b2, b3, b4, b5⟩ := (prog_iff ok).mp hb
  have u1 : updf f a.1 a.2 b.1 = f b.1 := if_neg ne
  have u2 : redU h a.1 b.1 = h b.1 := if_neg ne
  refine (prog_iff ok').mpr ⟨b1, b2, by rw [u2]; exact b3, fun o ho => ?_, by rw [u1, u2]; exact b5⟩
  have no : o ≠ a.1 := fun z => prog_apart ok fe hb ha (by rw [← z]; exact ho)
  rw [slp_off ne no, u2]
  exact b4 o ho
theorem AnyR.trans {ms ms2 : List (Str × Int)} {f' h' f2 h2 : Str → Int} (a : AnyR ns es pn f h ms f' h') (b : AnyR ns es pn f' h' ms2 f2 h2) : AnyR ns es pn f h (ms ++ ms2) f2 h2 := by
  induction b with
  | nil => rw [List.append_nil]; exact a
  | snoc _ hm ih => rw [← List.append_assoc]; exact .snoc ih hm
/-- progress moves of one point, one after another -/
theorem round_any (ok : EsOk ns es f) (nd : ns.Nodup) (fe : Feas ns es f h pn) {ms : List (Str × Int)} (all : ∀ m ∈ ms, m ∈ progF ns es f h pn) (ndm : (ms.map (·.1)).Nodup) : ∀ i, i ≤ ms.length →
    AnyR ns es pn f h (ms.take i) (plU f (ms.take i)) (rdU h (ms.take i)) ∧ ∀ b ∈ progF ns es f h pn, b.1 ∉ (ms.take i).map (·.1) → b ∈ progF ns es (plU f (ms.take i)) (rdU h (ms.take i)) pn := by
  intro i
  induction i with
  | zero => exact fun _ => ⟨.nil, fun b hb _ => hb⟩
  | succ i ih =>
    intro hi
    obtain ⟨r, k⟩ := ih (by omega)
    have tk : ms.take (i + 1) = ms.take i ++ [ms[i]] := by
      rw [List.take_succ, List.getElem?_eq_getElem (by omega)]
      rfl
    have hm := all _ (List.getElem_mem (by omega : i < ms.length))
    have nin : ms[i].1 ∉ (ms.take i).map (·.1) := fun z => by
      rw [List.nodup_iff_pairwise_ne, List.pairwise_iff_getElem] at ndm
      obtain ⟨j, hj, e⟩ := List.mem_iff_getElem.mp z
      rw [List.getElem_map, List.getElem_take] at e
      rw [List.length_map, List.length_take] at hj
      have := ndm j i (by rw [List.length_map]; omega) (by rw [List.length_map]; omega) (by omega)
      rw [List.getElem_map, List.getElem_map] at this
      exact this e
    have hm' := k _ hm nin
    obtain ⟨ok', fe', _⟩ := r.keeps ok nd fe
    rw [tk, plU_snoc, rdU_snoc]
    refine ⟨.snoc r hm', fun b hb nb => ?_⟩
    rw [List.map_append, List.mem_append, not_or] at nb
    exact prog_after ok' nd fe' hm' (k b hb nb.1) fun z => nb.2 (by rw [z]; exact List.mem_singleton.mpr rfl)
theorem round_all (ok : EsOk ns es f) (nd : ns.Nodup) (fe : Feas ns es f h pn) : AnyR ns es pn f h (progF ns es f h pn) (plU f (progF ns es f h pn)) (rdU h (progF ns es f h pn)) := by
  have := (round_any ok nd fe (ms := progF ns es f h pn) (fun _ h => h) (prog_nodup ok nd) _ (Nat.le_refl _)).1
  rw [List.take_length] at this
  exact this
/-- rounds that are each all progress moves -/
inductive RoundR (ns : List Str) (es : List (Str × Str)) (pn : List Str) (f h : Str → Int) : List (List (Str × Int)) → (Str → Int) → (Str → Int) → Prop
  | nil : RoundR ns es pn f h [] f h
  | snoc {rs : List (List (Str × Int))} {f' h' : Str → Int} : RoundR ns es pn f h rs f' h' → progF ns es f' h' pn ≠ [] → RoundR ns es pn f h (rs ++ [progF ns es f' h' pn]) (plU f' (progF ns es f' h' pn)) (rdU h' (progF ns es f' h' pn))
theorem RoundR.any (ok : EsOk ns es f) (nd : ns.Nodup) (fe : Feas ns es f h pn) {rs : List (List (Str × Int))} {f' h' : Str → Int} (r : RoundR ns es pn f h rs f' h') : AnyR ns es pn f h rs.flatten f' h' := by
  induction r with
  | nil => exact .nil
  | @snoc rs f' h' r ne ih =>
    obtain ⟨ok', fe', _⟩ := ih.keeps ok nd fe
    rw [List.flatten_append]
    have := ih.trans (round_all ok' nd fe')
    simpa using this
theorem RoundR.len (ok : EsOk ns es f) (nd : ns.Nodup) (fe : Feas ns es f h pn) {rs : List (List (Str × Int))} {f' h' : Str → Int} (r : RoundR ns es pn f h rs f' h') : (rs.length : Int) + sz ns h' ≤ sz ns h := by
  induction r with
  | nil => simp
  | @snoc rs f' h' r ne ih =>
    obtain ⟨ok', fe', _⟩ := (r.any ok nd fe).keeps ok nd fe
    obtain ⟨_, _, s, _⟩ := (round_all ok' nd fe').keeps ok' nd fe'
    have : 0 < (progF ns es f' h' pn).length := List.length_pos_iff.mpr ne
    rw [List.length_append, List.length_singleton]
    omega
theorem RoundR.at {rs : List (List (Str × Int))} {f' h' : Str → Int} (r : RoundR ns es pn f h rs f' h') : ∀ i (hi : i < rs.length), ∃ f1 h1, RoundR ns es pn f h (rs.take i) f1 h1 ∧ rs[i] = progF ns es f1 h1 pn ∧ progF ns es f1 h1 pn ≠ [] ∧ RoundR ns es pn f h (rs.take (i + 1)) (plU f1 rs[i]) (rdU h1 rs[i]) := by
  induction r with
  | nil => exact fun i hi => absurd hi (Nat.not_lt_zero i)
  | @snoc rs f' h' r ne ih =>
    intro i hi
    rw [List.length_append, List.length_singleton] at hi
    by_cases c : i < rs.length
    · obtain ⟨f1, h1, a, b, d, e⟩ := ih i c
      refine ⟨f1, h1, ?_⟩
      rw [List.take_append_of_le_length (by omega), List.getElem_append_left c, List.take_append_of_le_length (by omega)]
      exact ⟨a, b, d, e⟩
    · obtain rfl : i = rs.length := by omega
      refine ⟨f', h', ?_⟩
      rw [List.take_append_of_le_length (Nat.le_refl _), List.take_length, List.getElem_append_right (Nat.le_refl _), List.take_of_length_le (by rw [List.length_append]; exact Nat.le_refl _)]
      simp only [Nat.sub_self, List.getElem_cons_zero]
      exact ⟨r, trivial, ne, .snoc r ne⟩
theorem RoundR.ends {rs : List (List (Str × Int))} {f' h' : Str → Int} (r : RoundR ns es pn f h rs f' h') : f' = plU f rs.flatten ∧ h' = rdU h rs.flatten := by
  induction r with
  | nil => exact ⟨rfl, rfl⟩
  | @snoc rs f' h' r ne ih =>
    obtain ⟨e1, e2⟩ := ih
    constructor
    · conv => lhs; rw [show plU f' = plU (plU f rs.flatten) from by rw [← e1]]
      unfold plU
      simp [List.foldl_append]
    · conv => lhs; rw [show rdU h' = rdU (rdU h rs.flatten) from by rw [← e2]]
      unfold rdU
      simp [List.foldl_append]
/-- the progress move of one node -/
theorem prog_one (ok : EsOk ns es f) {x : Str} (hx : x ∈ ns) {v : Int} (hv : v = if 0 < h x then (f x + 2) % 3 else (f x + 1) % 3) {q : List Int} (hq : q = if x ∈ pn then [] else ([0, 1, 2] : List Int).filter (freeB es f x)) :
    progF [x] es f h pn = if h x ≠ 0 ∧ v ∈ q then [(x, v)] else [] := by
  have e : progF [x] es f h pn = pmF es f h pn x := by
    rw [prog_eq ok (fun y hy => by rw [List.mem_singleton.mp hy]; exact hx), List.flatMap_cons, List.flatMap_nil, List.append_nil]
  have tri := ok.tri x hx
  have hd : v = (f x - dirU (h x)) % 3 := by
    rw [hv]
    unfold dirU
    split <;> omega
  have mem : (x, v) ∈ progF [x] es f h pn ↔ h x ≠ 0 ∧ v ∈ q := by
    have g : goP f h (x, v) = true ↔ h x ≠ 0 := by
      have : goP f h (x, v) = true ↔ (0 < h x ∧ (f x - v) % 3 = 1) ∨ (h x < 0 ∧ ¬ (f x - v) % 3 = 1) := by
        unfold goP
        simp only [Bool.or_eq_true, Bool.and_eq_true, decide_eq_true_iff, Bool.not_eq_true', decide_eq_false_iff_not]
      rw [this]
      constructor
      · omega
      · intro z
        by_cases c : 0 < h x
        · rw [if_pos c] at hv
          left
          omega
        · rw [if_neg c] at hv
          right
          omega
    unfold progF
    rw [List.mem_filter, g, And.comm]
    refine and_congr Iff.rfl ?_
    unfold movesF
    rw [List.flatMap_cons, List.flatMap_nil, List.append_nil, hq]
    split
    · simp
    · unfold movesOf
      rw [List.mem_map]
      constructor
      · rintro ⟨w, hw, z⟩
        rw [← (Prod.mk.inj z).2]
        exact hw
      · intro z
        exact ⟨v, z, rfl⟩
  rcases pm_shape (es := es) (f := f) (h := h) (pn := pn) (x := x) with p | p
  · rw [e, p, if_neg]
    intro z
    have := mem.mpr z
    rw [e, p] at this
    cases this
  · rw [e, p, ← hd, if_pos]
    refine mem.mp ?_
    rw [e, p, ← hd]
    exact List.mem_singleton.mpr rfl
theorem prog_app {a b : List Str} : progF (a ++ b) es f h pn = progF a es f h pn ++ progF b es f h pn := by
  unfold progF movesF
  rw [List.flatMap_append, List.filter_append]
end
end U

/-! all states that can be reached, found breadth-first: the plain law -/
namespace U
open PySem PySem.Spec PyProof.Rows L2
section
variable {ns : List Str} {es : List (Str × Str)} {f g h : Str → Int} {pn : List Str}
/-- the states found so far, the first at of them done -/
structure RchS (ns : List Str) (es : List (Str × Str)) (pn : List Str) (f : Str → Int) (ss : List (List Int × Nat)) (at_ : Nat) : Prop where
  nd : (ss.map (·.1)).Nodup
  ok : ∀ s ∈ ss, ∃ ms f', Plays ns es pn f ms f' ∧ ms.length = s.2 ∧ s.1 = ns.map f'
  z : ∃ r, ss = (ns.map f, 0) :: r
  mono : ∀ i j (hi : i ≤ j) (hj : j < ss.length), (ss[i]'(Nat.lt_of_le_of_lt hi hj)).2 ≤ ss[j].2
  top : ∀ (h : at_ < ss.length) j (hj : j < ss.length), ss[j].2 ≤ ss[at_].2 + 1
  cl : ∀ i (h : i < ss.length), i < at_ → ∀ f1, EsOk ns es f1 → ss[i].1 = ns.map f1 → ∀ m, Legal ns es f1 pn m → ∃ k, k ≤ ss[i].2 + 1 ∧ (ns.map (updf f1 m.1 m.2), k) ∈ ss
theorem RchS.start : RchS ns es pn f [(ns.map f, 0)] 0 := by
  refine ⟨by simp, fun s hs => ?_, ⟨[], rfl⟩, fun i j hi hj => ?_, fun h j hj => ?_, fun i h hi => absurd hi (Nat.not_lt_zero _)⟩
  · rw [List.mem_singleton.mp hs]
    exact ⟨[], f, .nil, rfl, rfl⟩
  · have : j = 0 := by
      have : j < 1 := hj
      omega
    subst this
    have : i = 0 := by omega
    subst this
    exact Nat.le_refl _
  · have : j = 0 := by
      have : j < 1 := hj
      omega
    subst this
    exact Nat.zero_le _
/-- one more -/
theorem RchS.add {ss : List (List Int × Nat)} {a : Nat} (r : RchS ns es pn f ss a) (ha : a < ss.length) {f1 : Str → Int} (e1 : ss[a].1 = ns.map f1) (ok1 : EsOk ns es f1) {m : Str × Int} (lg : Legal ns es f1 pn m) (new : ns.map (updf f1 m.1 m.2) ∉ ss.map (·.1)) :
    RchS ns es pn f (ss ++ [(ns.map (updf f1 m.1 m.2), ss[a].2 + 1)]) a := by
  have at1 : ∀ j (hj : j < ss.length) (hj2 : j < (ss ++ [(ns.map (updf f1 m.1 m.2), ss[a].2 + 1)]).length), (ss ++ [(ns.map (updf f1 m.1 m.2), ss[a].2 + 1)])[j] = ss[j] := fun j hj _ => List.getElem_append_left hj
  have at2 : ∀ j (hj2 : j < (ss ++ [(ns.map (updf f1 m.1 m.2), ss[a].2 + 1)]).length), ¬ j < ss.length → (ss ++ [(ns.map (updf f1 m.1 m.2), ss[a].2 + 1)])[j] = (ns.map (updf f1 m.1 m.2), ss[a].2 + 1) := fun j hj2 hn => by
    rw [List.length_append, List.length_singleton] at hj2
    have : j = ss.length := by omega
    subst this
    rw [List.getElem_append_right (Nat.le_refl _)]
    simp
  obtain ⟨r0, ez⟩ := r.z
  refine ⟨?_, fun s hs => ?_, ⟨r0 ++ [(ns.map (updf f1 m.1 m.2), ss[a].2 + 1)], congrArg (fun l => l ++ [(ns.map (updf f1 m.1 m.2), ss[a].2 + 1)]) ez⟩, fun i j hi hj => ?_, fun h j hj => ?_, fun i h hi g1 og eg m' lm => ?_⟩
  · rw [List.map_append, List.nodup_append]
    refine ⟨r.nd, by simp, fun x hx y hy e => ?_⟩
    rw [List.map_cons, List.map_nil, List.mem_singleton] at hy
    rw [e, hy] at hx
    exact new hx
  · rcases List.mem_append.mp hs with hs | hs
    · exact r.ok s hs
    · rw [List.mem_singleton.mp hs]
      obtain ⟨ms, f', p, l, e⟩ := r.ok _ (List.getElem_mem ha)
      have ag := e.symm.trans e1
      rw [List.map_inj_left] at ag
      have lg' : Legal ns es f' pn m := ⟨lg.mem, lg.pin, lg.val, by rw [ag _ lg.mem]; exact lg.own, fun z hz => by
        have : z ∈ ns := by
          rcases hz with hz | hz
          · exact (ok1.mem _ hz).2
          · exact (ok1.mem _ hz).1
        rw [ag z this]
        exact lg.nbr z hz⟩
      refine ⟨_, _, p.snoc lg', by rw [List.length_append, l]; rfl, ?_⟩
      show ns.map (updf f1 m.1 m.2) = ns.map (updf f' m.1 m.2)
      have ee := e.symm.trans e1
      rw [List.map_inj_left] at ee
      refine List.map_congr_left fun x hx => ?_
      unfold updf
      rw [ee x hx]
  · by_cases q : j < ss.length
    · rw [at1 j q hj, at1 i (by omega) (by omega)]
      exact r.mono i j hi q
    · rw [at2 j hj q]
      by_cases q2 : i < ss.length
      · rw [at1 i q2 (by omega)]
        exact r.top ha i q2
      · rw [at2 i (by omega) q2]
        exact Nat.le_refl _
  · rw [at1 a ha h]
    by_cases q : j < ss.length
    · rw [at1 j q hj]
      exact r.top ha j q
    · rw [at2 j hj q]
      exact Nat.le_refl _
  · have q : i < ss.length := by omega
    rw [at1 i q h] at eg ⊢
    obtain ⟨k, k1, k2⟩ := r.cl i q hi g1 og eg m' lm
    exact ⟨k, k1, List.mem_append_left _ k2⟩
/-- one is done -/
theorem RchS.done {ss : List (List Int × Nat)} {a : Nat} (r : RchS ns es pn f ss a) (ha : a < ss.length) (all : ∀ f1, EsOk ns es f1 → ss[a].1 = ns.map f1 → ∀ m, Legal ns es f1 pn m → ∃ k, k ≤ ss[a].2 + 1 ∧ (ns.map (updf f1 m.1 m.2), k) ∈ ss) : RchS ns es pn f ss (a + 1) :=
  ⟨r.nd, r.ok, r.z, r.mono, fun h j hj => Nat.le_trans (r.top ha j hj) (Nat.add_le_add_right (r.mono a (a + 1) (Nat.le_succ _) h) 1), fun i h hi f1 o1 e1 m lm => by
    by_cases q : i = a
    · subst q
      exact all f1 o1 e1 m lm
    · exact r.cl i h (by omega) f1 o1 e1 m lm⟩
/-- all that moves reach is found, at its distance -/
theorem RchS.all {ss : List (List Int × Nat)} (r : RchS ns es pn f ss ss.length) (okf : EsOk ns es f) (nd : ns.Nodup) {ms : List (Str × Int)} {f' : Str → Int} (p : Plays ns es pn f ms f') : ∃ k, k ≤ ms.length ∧ (ns.map f', k) ∈ ss := by
  induction p with
  | nil =>
    obtain ⟨r0, e⟩ := r.z
    exact ⟨0, Nat.le_refl _, by rw [e]; exact List.mem_cons_self⟩
  | @snoc ms f1 m p lg ih =>
    obtain ⟨k, k1, k2⟩ := ih
    obtain ⟨ok1, _⟩ := plays_lift okf nd p
    obtain ⟨i, hi, e⟩ := List.mem_iff_getElem.mp k2
    obtain ⟨k', q1, q2⟩ := r.cl i hi hi f1 ok1 (by rw [e]) m lg
    rw [e] at q1
    refine ⟨k', ?_, q2⟩
    rw [List.length_append, List.length_singleton]
    have : k' ≤ k + 1 := q1
    omega
/-- a feasible lift is played, one move for each unit -/
theorem lft_plays (okf : EsOk ns es f) (okg : EsOk ns es g) (nd : ns.Nodup) (l : Lft ns es f g pn h) : ∃ ms f', Plays ns es pn f ms f' ∧ (ms.length : Int) = sz ns h ∧ ∀ x ∈ ns, f' x = g x := by
  have key : ∀ (n : Nat) (ms : List (Str × Int)) (f' h' : Str → Int), AnyR ns es pn f h ms f' h' → sz ns h' = n → ∃ ms f' h', AnyR ns es pn f h ms f' h' ∧ sz ns h' = 0 := by
    intro n
    induction n with
    | zero => exact fun ms f' h' r e => ⟨ms, f', h', r, e⟩
    | succ n ih =>
      intro ms f' h' r e
      obtain ⟨ok', fe', _, _, _⟩ := r.keeps okf nd l.1
      cases ep : progF ns es f' h' pn with
      | nil =>
        have := (prog_some ok' nd fe').mp ep
        omega
      | cons m0 r0 =>
        have hm : m0 ∈ progF ns es f' h' pn := by rw [ep]; exact List.mem_cons_self
        have s := (prog_step ok' nd fe' hm).2.2.1
        exact ih _ _ _ (.snoc r hm) (by omega)
  have s0 := sz_nn (xs := ns) (h := h)
  obtain ⟨ms, f', h', r, z⟩ := key (sz ns h).toNat [] f h .nil (by omega)
  obtain ⟨_, _, szl, _, pl⟩ := r.keeps okf nd l.1
  have fin := r.done okf nd l.1 z
  refine ⟨ms, f', pl, by omega, fun x hx => ?_⟩
  rw [fin x hx]
  have := l.2 x hx
  have := okg.tri x hx
  omega
/-- what is found is what lifts reach -/
theorem RchS.lft {ss : List (List Int × Nat)} (r : RchS ns es pn f ss ss.length) (okf : EsOk ns es f) (okg : EsOk ns es g) (nd : ns.Nodup) : ns.map g ∈ ss.map (·.1) ↔ ∃ h, Lft ns es f g pn h := by
  constructor
  · intro hm
    obtain ⟨s, hs, e⟩ := List.mem_map.mp hm
    obtain ⟨ms, f', p, _, e2⟩ := r.ok s hs
    have eq := e2.symm.trans e
    rw [List.map_inj_left] at eq
    obtain ⟨_, _, _, q⟩ := plays_lift okf nd p
    refine ⟨_, feas_count okf p, fun x hx => ?_⟩
    have a := q x hx
    have b := eq x hx
    omega
  · rintro ⟨h, l⟩
    obtain ⟨ms, f', p, _, e⟩ := lft_plays okf okg nd l
    obtain ⟨k, _, hk⟩ := r.all okf nd p
    have : ns.map f' = ns.map g := List.map_congr_left e
    rw [this] at hk
    exact List.mem_map_of_mem (f := (·.1)) hk
end
end U

/-! dicts whose keys are tuples of numbers; tuples of three values -/
namespace U
open PySem PySem.Spec PyProof.Rows L2
def rK (ss : List (List Int × Nat)) : List (List Key × V) := ss.map fun s => (s.1.map Sum.inl, V.int s.2)
theorem inl_inj : ∀ {xs ys : List Int}, xs.map (Sum.inl : Int → Key) = ys.map Sum.inl → xs = ys
  | [], [], _ => rfl
  | [], _ :: _, h => nomatch h
  | _ :: _, [], h => nomatch h
  | x :: xs, y :: ys, h => by
    rw [List.map_cons, List.map_cons] at h
    obtain ⟨a, b⟩ := List.cons.inj h
    rw [Sum.inl.inj a, inl_inj b]
theorem rK_none : ∀ {ss : List (List Int × Nat)} {s : List Int}, s ∉ ss.map (·.1) → valV (rK ss) (s.map Sum.inl) = none
  | [], _, _ => rfl
  | a :: r, s, h => by
    have e' : ¬ (a.1.map (Sum.inl : Int → Key)) = s.map Sum.inl := fun z => h (by rw [← inl_inj z]; exact List.mem_cons_self)
    rw [rK, List.map_cons, valV_neg e']
    exact rK_none fun z => h (List.mem_cons_of_mem _ z)
theorem rK_val : ∀ {ss : List (List Int × Nat)} {s : List Int} {k : Nat}, (ss.map (·.1)).Nodup → (s, k) ∈ ss → valV (rK ss) (s.map Sum.inl) = some (.int k)
  | a :: r, s, k, nd, h => by
    rw [List.map_cons, List.nodup_cons] at nd
    rw [rK, List.map_cons]
    rcases List.mem_cons.mp h with e | h
    · rw [← e, valV_pos rfl]
    · have e' : ¬ (a.1.map (Sum.inl : Int → Key)) = s.map Sum.inl := fun z => nd.1 (by rw [inl_inj z]; exact List.mem_map_of_mem (f := (·.1)) h)
      rw [valV_neg e']
      exact rK_val nd.2 h
theorem rK_new {ss : List (List Int × Nat)} {s : List Int} {k : Nat} (h : s ∉ ss.map (·.1)) : putK (rK ss) (s.map Sum.inl) (.int k) = rK (ss ++ [(s, k)]) := by
  rw [putK_new _ (rK_none h), rK, rK, List.map_append]
  rfl
def allT : Nat → List (List Int)
  | 0 => [[]]
  | n + 1 => (allT n).flatMap fun s => [0 :: s, 1 :: s, 2 :: s]
theorem allT_len : ∀ n, (allT n).length = 3 ^ n
  | 0 => rfl
  | n + 1 => by
    have key : ∀ xs : List (List Int), (xs.flatMap fun s => [0 :: s, 1 :: s, 2 :: s]).length = 3 * xs.length := by
      intro xs
      induction xs with
      | nil => rfl
      | cons x r ih =>
        rw [List.flatMap_cons, List.length_append, ih, List.length_cons]
        simp only [List.length_cons, List.length_nil]
        omega
    rw [allT, key, allT_len n, Nat.pow_succ, Nat.mul_comm]
theorem allT_mem : ∀ {n : Nat} {s : List Int}, s.length = n → (∀ v ∈ s, 0 ≤ v ∧ v < 3) → s ∈ allT n
  | 0, [], _, _ => List.mem_singleton.mpr rfl
  | n + 1, v :: s, h, b => by
    have ih := allT_mem (s := s) (Nat.succ.inj h) fun w hw => b w (List.mem_cons_of_mem _ hw)
    refine List.mem_flatMap.mpr ⟨s, ih, ?_⟩
    have := b v List.mem_cons_self
    have : v = 0 ∨ v = 1 ∨ v = 2 := by omega
    rcases this with rfl | rfl | rfl <;> simp
theorem tup_upd : ∀ {ns : List Str} {f : Str → Int} {v : Int} {i : Nat} (hi : i < ns.length), ns.Nodup → (ns.map f).take i ++ [v] ++ (ns.map f).drop (i + 1) = ns.map (updf f ns[i] v)
  | x :: r, f, v, 0, _, nd => by
    rw [List.nodup_cons] at nd
    rw [List.map_cons, List.map_cons, List.take_zero, List.nil_append, List.drop_succ_cons, List.drop_zero]
    have e1 : updf f (x :: r)[0] v x = v := by unfold updf; exact if_pos rfl
    have e2 : r.map (updf f (x :: r)[0] v) = r.map f := List.map_congr_left fun y hy => by
      unfold updf
      exact if_neg fun z => nd.1 (by rw [← show y = x from z]; exact hy)
    rw [e1, e2]
    rfl
  | x :: r, f, v, i + 1, hi, nd => by
    rw [List.nodup_cons] at nd
    have hi2 : i < r.length := Nat.lt_of_succ_lt_succ hi
    have ih := tup_upd (f := f) (v := v) hi2 nd.2
    rw [List.map_cons, List.map_cons, List.take_succ_cons, List.drop_succ_cons]
    have e1 : updf f (x :: r)[i + 1] v x = f x := by
      unfold updf
      exact if_neg fun z => nd.1 (by rw [show x = r[i] from z]; exact List.getElem_mem hi2)
    rw [e1]
    show f x :: ((r.map f).take i ++ [v] ++ (r.map f).drop (i + 1)) = f x :: _
    rw [ih]
    rfl
theorem legal_congr {ns : List Str} {es : List (Str × Str)} {pn : List Str} {f g : Str → Int} (ok : EsOk ns es f) (ag : ∀ x ∈ ns, g x = f x) {m : Str × Int} (lg : Legal ns es f pn m) : Legal ns es g pn m := ⟨lg.mem, lg.pin, lg.val, by rw [ag _ lg.mem]; exact lg.own, fun z hz => by
  have : z ∈ ns := by
    rcases hz with hz | hz
    · exact (ok.mem _ hz).2
    · exact (ok.mem _ hz).1
  rw [ag z this]
  exact lg.nbr z hz⟩
theorem RchS.done1 {ns : List Str} {es : List (Str × Str)} {pn : List Str} {f f1 : Str → Int} {ss : List (List Int × Nat)} {a : Nat} (r : RchS ns es pn f ss a) (ha : a < ss.length) (e1 : ss[a].1 = ns.map f1) (all : ∀ m, Legal ns es f1 pn m → ∃ k, k ≤ ss[a].2 + 1 ∧ (ns.map (updf f1 m.1 m.2), k) ∈ ss) : RchS ns es pn f ss (a + 1) := by
  refine r.done ha fun f2 o2 e2 m lm => ?_
  have ag := e1.symm.trans e2
  rw [List.map_inj_left] at ag
  obtain ⟨k, k1, k2⟩ := all m (legal_congr o2 ag lm)
  refine ⟨k, k1, ?_⟩
  have : ns.map (updf f2 m.1 m.2) = ns.map (updf f1 m.1 m.2) := List.map_congr_left fun x hx => by
    unfold updf
    rw [ag x hx]
  rw [this]
  exact k2
/-- few states -/
theorem RchS.few {ns : List Str} {es : List (Str × Str)} {pn : List Str} {f : Str → Int} {ss : List (List Int × Nat)} {a : Nat} (r : RchS ns es pn f ss a) (okf : EsOk ns es f) (nd : ns.Nodup) (n7 : ns.length ≤ 7) : ss.length ≤ 2187 := by
  have := nodup_len (ys := allT ns.length) r.nd fun s hs => by
    obtain ⟨t, ht, rfl⟩ := List.mem_map.mp hs
    obtain ⟨ms, f', p, _, e⟩ := r.ok t ht
    obtain ⟨ok', _⟩ := plays_lift okf nd p
    rw [e]
    refine allT_mem (List.length_map _) fun v hv => ?_
    obtain ⟨x, hx, rfl⟩ := List.mem_map.mp hv
    exact ok'.tri x hx
  rw [List.length_map, allT_len] at this
  have : 3 ^ ns.length ≤ 3 ^ 7 := Nat.pow_le_pow_right (by decide) n7
  omega
end U

/-! slices and sums of tuples, the tuple itself told -/
namespace Law
open PySem PySem.Spec PyProof.Rows L2 U
theorem rd_slTH {K : PySem.W.Frag} {H : Hp} {Q : VK} {p : Addr} {xs : List V} {lo hi : Option Int} (hs : H p = some (.tup xs)) (h : ∀ (a : Addr) (H' : Hp), Same H H' → H' a = some (.tup (cutV xs lo hi)) → Q (.ref a) H') : rSlU K (.ref p) lo hi H Q := by
  refine .inr ⟨p, xs, rfl, SqT.of hs, fun hw => ?_, fun _ a fa => h a _ (Same.new fa) upd_same⟩
  refine h p H (fun b o h => h) ?_
  have e : cutV xs lo hi = xs := by
    unfold cutV
    rw [hw.1, hw.2]
    simp
  rw [e]
  exact hs
theorem rd_catTH {K : PySem.W.Frag} {H : Hp} {Q : VK} {p q : Addr} {xs ys : List V} (hp : H p = some (.tup xs)) (hq : H q = some (.tup ys)) (hz : xs.length + ys.length ≤ 100000) (h : ∀ (a : Addr) (H' : Hp), Same H H' → H' a = some (.tup (xs ++ ys)) → Q (.ref a) H') : rAddU K (.ref p) (.ref q) H Q := by
  refine .inr ⟨p, q, xs, ys, rfl, rfl, SqT.of hp, SqT.of hq, Nat.le_trans hz (by decide), fun e => ?_, fun _ e => ?_, fun _ _ a fa => h a _ (Same.new fa) upd_same⟩
  · refine h q H (fun b o h => h) ?_
    rw [e]
    exact hq
  · refine h p H (fun b o h => h) ?_
    rw [e, List.append_nil]
    exact hp
theorem tupK {s : List Int} : (s.map (Sum.inl : Int → Key)).map kV = s.map V.int := by
  rw [List.map_map]
  rfl
end Law

/-! repr of a list of data, dicts among it -/
namespace U
open PySem PySem.Spec PyProof.Rows L2
mutual
def tupOnly : PyData → Bool
  | .none | .bool _ | .int _ | .str _ => true
  | .tuple xs => tupOnlyAll xs
  | .list _ | .dict _ => false
def tupOnlyAll : List PyData → Bool
  | [] => true
  | x :: xs => tupOnly x && tupOnlyAll xs
end
mutual
theorem reads_nil {h : Heap} : ∀ (d : PyData) (v : Value) (as : List Addr), Reads h v d as → tupOnly d = true → as = []
  | .none, _, _, r, _ => by cases r; rfl
  | .bool _, _, _, r, _ => by cases r; rfl
  | .int _, _, _, r, _ => by cases r; rfl
  | .str _, _, _, r, _ => by cases r; rfl
  | .tuple xs, _, _, r, t => by
    cases r with
    | tuple h1 h2 h3 h4 => exact readsAll_nil xs _ _ h4 (by simpa [tupOnly] using t)
  | .list _, _, _, _, t => by simp [tupOnly] at t
  | .dict _, _, _, _, t => by simp [tupOnly] at t
theorem readsAll_nil {h : Heap} : ∀ (ds : List PyData) (vs : List Value) (as : List Addr), ReadsAll h vs ds as → tupOnlyAll ds = true → as = []
  | [], _, _, r, _ => by cases r; rfl
  | d :: ds, _, _, r, t => by
    rw [tupOnlyAll, Bool.and_eq_true] at t
    cases r with
    | cons r1 r2 => rw [reads_nil d _ _ r1 t.1, readsAll_nil ds _ _ r2 t.2]; rfl
end
/-- an item of the list: data of tuples, or a dict of numbers -/
inductive Di (K : PySem.W.Frag) (H : Hp) : V → PyData → Prop
  | of {v : V} {d : PyData} : Dp K H v d → tupOnly d = true → Di K H v d
  | dct {a : Addr} {ns : List Str} {f : Str → Int} : H a = some (.dK (kvF ns f)) → Di K H (.ref a) (.dict (ns.map fun n => (.str n, .int (f n))))
inductive DiAll (K : PySem.W.Frag) (H : Hp) : List V → List PyData → Prop
  | nil : DiAll K H [] []
  | cons {v : V} {vs : List V} {d : PyData} {ds : List PyData} : Di K H v d → DiAll K H vs ds → DiAll K H (v :: vs) (d :: ds)
structure Shows (d : PyData) : Prop where
  sh : d.showable = true
  lv : d.leavesShort 13 = true
  bk : d.bulk ≤ 2 ^ 20
  dp : d.depth ≤ 50
def rReprL (K : PySem.W.Frag) : List V → Hp → VK → Prop := fun xs H Q => match xs with
  | [.ref a] => (∃ xs ds, H a = some (.lst xs) ∧ (a == sysModules) = false ∧ DiAll K H xs ds ∧ Shows (.list ds) ∧ Q (.str (PyData.list ds).shown) H) ∨
      ∃ d, Dp K H (.ref a) d ∧ d.hasDict = false ∧ Shows d ∧ Q (.str d.shown) H
  | _ => False
section
variable {X : Cx} {pins : List (Addr × Obj)} {σ : L2.St} {H : Hp} {s : Shared}
theorem Di.reads (I : Inv X pins σ H s) {v : V} {d : PyData} {u : Value} (h : Di X.K H v d) (r : RelV v u) : ∃ as, Reads s.heap u d as ∧ sysModules ∉ as := by
  cases h with
  | of h t =>
    obtain ⟨as, q⟩ := Dp.reads I _ _ _ h r
    have := reads_nil _ _ _ q t
    subst this
    exact ⟨_, q, List.not_mem_nil⟩
  | dct h =>
    cases r
    obtain ⟨_, hd, vs, rel, dd⟩ := dk_of I.hok h
    refine ⟨_, PyProof.V.reads_dictOf key_reads dd (kv_pairs rel), ?_⟩
    intro z
    rw [List.mem_singleton] at z
    rw [z] at hd
    simp at hd
theorem DiAll.reads (I : Inv X pins σ H s) : ∀ {vs : List V} {ds : List PyData} {us : List Value}, DiAll X.K H vs ds → Vals vs us → ∃ as, ReadsAll s.heap us ds as ∧ sysModules ∉ as
  | [], _, _, h, r => by
    cases h
    cases r
    exact ⟨_, .nil, List.not_mem_nil⟩
  | v :: vs, _, _, h, r => by
    cases h with
    | cons h1 h2 =>
      cases r with
      | cons r1 r2 =>
        obtain ⟨as, q1, n1⟩ := h1.reads I r1
        obtain ⟨bs, q2, n2⟩ := DiAll.reads I h2 r2
        exact ⟨_, .cons q1 q2, fun z => (List.mem_append.mp z).elim n1 n2⟩
theorem kReprL (K : PySem.W.Frag) (hK : X.K = K) (hg : X.A.guards = some []) (hu : X.A.units + 64 < cLine) : CallR X (.builtin "repr") (rReprL K) := by
  subst hK
  intro pins s σ H xs us Q I r h
  match xs, h with
  | [.ref a], h =>
    cases r with
    | cons r rr =>
      cases rr
      cases r
      have fin : ∀ (d : PyData) (as : List Addr), Reads s.heap (.ref a) d as → (d.hasDict = true → sysModules ∉ as) → Shows d → Q (.str d.shown) H → wpAny (model X.prog X.w) X.A (call (.builtin "repr") [.ref a]) (EP X pins σ Q) X.xe s := by
        intro d as rd hsm S q
        have hdp := S.dp
        refine PySem.repr_of_reads' rd S.sh hsm hg (by omega) (fun b o e => e) (fun h' u tk hk => ⟨.str d.shown, H, I.kept (t' := tk) hk, ⟨_, rfl⟩, q⟩) (PyData.shown_fits_bulk (by decide) (by decide) S.lv S.bk)
      rcases h with ⟨xs, ds, ha, hn, hd, S, q⟩ | ⟨d, hd, hx, S, q⟩
      · obtain ⟨its, rv, ⟨o, n, ho, hc, _, hdat⟩, _⟩ := I.list (SqL.of ha)
        obtain ⟨as, ra, na⟩ := hd.reads I rv
        refine fin _ _ (Reads.list ho hc hdat (by simpa using ra)) (fun _ z => ?_) S q
        rcases List.mem_cons.mp z with z | z
        · rw [← z] at hn
          simp at hn
        · exact na z
      · obtain ⟨as, ra⟩ := Dp.reads I d _ _ hd rfl
        exact fin d as ra (fun z => by rw [hx] at z; cases z) S q
/-- a list display: its place is not that of the modules' table -/
def tLstS (t : TA) : TE := fun σ H Q => t σ H fun xs H1 => xs.length ≤ sizeLine ∧ ∀ p, H1 p = none → (p == sysModules) = false → Q (.ref p) (upd H1 p (.lst xs))
theorem pe_lstS {es : List Expr} {t : TA} {pos : Pos} (h : PA X es t) : PE X (.List es pos) (tLstS t) := by
  refine ⟨fun pins s σ H Q I hq => ?_⟩
  refine wpAny_List_spliced (thn (h.run pos pins s σ H _ I hq) fun us s1 ⟨xs, H1, I1, r, z, q⟩ => ⟨by rw [← r.length]; exact z, ?_⟩)
  have hf : H1 s1.heap.objs.size = none := I1.hok.fresh (Nat.le_refl _)
  have hb := I1.big
  refine ⟨.ref s1.heap.objs.size, upd H1 s1.heap.objs.size (.lst xs), I1.laid (t' := s1.toks) (fun b u e => Heap.get?_push_of_some _ e) (Nat.le_refl _) ?_, rfl, q _ hf (beq_eq_false_iff_ne.mpr (Ne.symm (Nat.ne_of_lt hb)))⟩
  exact ⟨z, us, 0, r, Heap.get?_push_size _ rfl⟩
end
/-! the shapes -/
abbrev dStrs (ns : List Str) : PyData := .tuple (ns.map PyData.str)
abbrev dGr (ns : List Str) (es : List (Str × Str)) : PyData := .tuple [dStrs ns, .tuple (es.map fun e => .tuple [.str e.1, .str e.2])]
abbrev dSt (ord : List Str) (f : Str → Int) : PyData := .dict (ord.map fun n => (.str n, .int (f n)))
abbrev dMv (ms : List (Str × Int)) : PyData := .list (ms.map fun m => .tuple [.str m.1, .int m.2])
theorem IsName.lv {z : Str} (h : IsName z) : (PyData.str z).leavesShort 13 = true := by
  rw [PyData.leavesShort, List.all_eq_true]
  intro x hx
  have := h.ch x hx
  rw [decide_eq_true_eq]
  omega
theorem IsName.bk {z : Str} (h : IsName z) : (PyData.str z).bulk ≤ 8 := by
  rw [PyData.bulk]
  exact h.hi
theorem lvs_strs : ∀ {ns : List Str}, (∀ n ∈ ns, IsName n) → PyData.leavesShortAll 13 (ns.map PyData.str) = true ∧ PyData.showableAll (ns.map PyData.str) = true ∧ PyData.bulkAll (ns.map PyData.str) ≤ 9 * ns.length ∧ PyData.depthAll (ns.map PyData.str) = 0
  | [], _ => by simp [PyData.leavesShortAll, PyData.showableAll, PyData.bulkAll, PyData.depthAll]
  | n :: ns, h => by
    obtain ⟨a, b, c, d⟩ := lvs_strs (ns := ns) fun x hx => h x (List.mem_cons_of_mem _ hx)
    have hn := h n List.mem_cons_self
    have := hn.bk
    simp only [List.map_cons, PyData.leavesShortAll, PyData.showableAll, PyData.bulkAll, PyData.depthAll, List.length_cons, hn.lv, a, b, d, PyData.showable, Bool.and_self, PyData.depth, true_and]
    exact ⟨by omega, rfl⟩
theorem lvs_edges : ∀ {es : List (Str × Str)}, (∀ e ∈ es, IsName e.1 ∧ IsName e.2) → PyData.leavesShortAll 13 (es.map fun e => .tuple [.str e.1, .str e.2]) = true ∧ PyData.showableAll (es.map fun e => .tuple [.str e.1, .str e.2]) = true ∧
    PyData.bulkAll (es.map fun e => .tuple [.str e.1, .str e.2]) ≤ 19 * es.length ∧ PyData.depthAll (es.map fun e => .tuple [.str e.1, .str e.2]) ≤ 1
  | [], _ => by simp [PyData.leavesShortAll, PyData.showableAll, PyData.bulkAll, PyData.depthAll]
  | e :: es, h => by
    obtain ⟨a, b, c, d⟩ := lvs_edges (es := es) fun x hx => h x (List.mem_cons_of_mem _ hx)
    obtain ⟨h1, h2⟩ := h e List.mem_cons_self
    have := h1.bk
    have := h2.bk
    simp only [List.map_cons, PyData.leavesShortAll, PyData.showableAll, PyData.bulkAll, PyData.depthAll, List.length_cons, PyData.leavesShort, PyData.showable, PyData.bulk, PyData.depth, a, b] at *
    have l1 := h1.lv
    have l2 := h2.lv
    simp only [PyData.leavesShort] at l1 l2
    rw [l1, l2]
    refine ⟨rfl, rfl, ?_, ?_⟩
    · omega
    · omega
theorem int3_lv {i : Int} (h0 : 0 ≤ i) (h1 : i < 3) : (PyData.int i).leavesShort 13 = true ∧ (PyData.int i).showable = true := by
  have : i = 0 ∨ i = 1 ∨ i = 2 := by omega
  rcases this with rfl | rfl | rfl <;> exact ⟨by decide +kernel, by decide +kernel⟩
theorem lvs_st {f : Str → Int} : ∀ {ns : List Str}, (∀ n ∈ ns, IsName n ∧ 0 ≤ f n ∧ f n < 3) → PyData.leavesShortKv 13 (ns.map fun n => (.str n, .int (f n))) = true ∧ PyData.showableKv (ns.map fun n => (.str n, .int (f n))) = true ∧
    PyData.bulkKv (ns.map fun n => (.str n, .int (f n))) ≤ 10 * ns.length ∧ PyData.depthKv (ns.map fun n => (.str n, .int (f n))) = 0
  | [], _ => by simp [PyData.leavesShortKv, PyData.showableKv, PyData.bulkKv, PyData.depthKv]
  | n :: ns, h => by
    obtain ⟨a, b, c, d⟩ := lvs_st (ns := ns) fun x hx => h x (List.mem_cons_of_mem _ hx)
    obtain ⟨h1, h2, h3⟩ := h n List.mem_cons_self
    have := h1.bk
    obtain ⟨i1, i2⟩ := int3_lv h2 h3
    have l1 := h1.lv
    simp only [List.map_cons, PyData.leavesShortKv, PyData.showableKv, PyData.bulkKv, PyData.depthKv, List.length_cons, a, b, d, i1, i2, l1, PyData.depth, Bool.and_self, PyData.bulk, true_and]
    rw [PyData.showable]
    simp only [PyData.bulk] at *
    exact ⟨rfl, by omega, rfl⟩
theorem lvs_moves : ∀ {ms : List (Str × Int)}, (∀ m ∈ ms, IsName m.1 ∧ 0 ≤ m.2 ∧ m.2 < 3) → PyData.leavesShortAll 13 (ms.map fun m => .tuple [.str m.1, .int m.2]) = true ∧ PyData.showableAll (ms.map fun m => .tuple [.str m.1, .int m.2]) = true ∧
    PyData.bulkAll (ms.map fun m => .tuple [.str m.1, .int m.2]) ≤ 11 * ms.length ∧ PyData.depthAll (ms.map fun m => .tuple [.str m.1, .int m.2]) ≤ 1 ∧ PyData.hasDictAll (ms.map fun m => .tuple [.str m.1, .int m.2]) = false
  | [], _ => by simp [PyData.leavesShortAll, PyData.showableAll, PyData.bulkAll, PyData.depthAll, PyData.hasDictAll]
  | m :: ms, h => by
    obtain ⟨a, b, c, d, e⟩ := lvs_moves (ms := ms) fun x hx => h x (List.mem_cons_of_mem _ hx)
    obtain ⟨h1, h2, h3⟩ := h m List.mem_cons_self
    have := h1.bk
    obtain ⟨i1, i2⟩ := int3_lv h2 h3
    have l1 := h1.lv
    have e1 : (PyData.tuple [.str m.1, .int m.2]).leavesShort 13 = true := by
      rw [PyData.leavesShort, PyData.leavesShortAll, PyData.leavesShortAll, PyData.leavesShortAll, l1, i1]
      rfl
    have e2 : (PyData.tuple [.str m.1, .int m.2]).showable = true := by
      rw [PyData.showable, PyData.showableAll, PyData.showableAll, PyData.showableAll, i2, PyData.showable]
      rfl
    have e3 : (PyData.tuple [.str m.1, .int m.2]).bulk ≤ 10 := by
      simp only [PyData.bulk, PyData.bulkAll] at *
      omega
    have e4 : (PyData.tuple [.str m.1, .int m.2]).depth = 1 := by simp [PyData.depth, PyData.depthAll]
    have e5 : (PyData.tuple [.str m.1, .int m.2]).hasDict = false := by simp [PyData.hasDict, PyData.hasDictAll]
    rw [List.map_cons, PyData.leavesShortAll, PyData.showableAll, PyData.bulkAll, PyData.depthAll, PyData.hasDictAll, List.length_cons, e1, e2, e4, e5, a, b, e]
    exact ⟨rfl, rfl, by omega, by omega, rfl⟩
theorem shows_moves {ms : List (Str × Int)} (h : ∀ m ∈ ms, IsName m.1 ∧ 0 ≤ m.2 ∧ m.2 < 3) (l : ms.length ≤ 2000) : Shows (dMv ms) ∧ (dMv ms).hasDict = false := by
  obtain ⟨a, b, c, d, e⟩ := lvs_moves h
  refine ⟨⟨by rw [PyData.showable]; exact b, by rw [PyData.leavesShort]; exact a, ?_, ?_⟩, by rw [PyData.hasDict]; exact e⟩
  · rw [PyData.bulk]
    omega
  · rw [PyData.depth]
    omega
theorem shows_all {ns ord pn : List Str} {es : List (Str × Str)} {f : Str → Int} (h1 : ∀ n ∈ ns, IsName n) (h2 : ∀ e ∈ es, IsName e.1 ∧ IsName e.2) (h3 : ∀ n ∈ ord, IsName n ∧ 0 ≤ f n ∧ f n < 3) (h4 : ∀ n ∈ pn, IsName n)
    (l1 : ns.length ≤ 100) (l2 : es.length ≤ 1000) (l3 : ord.length ≤ 100) (l4 : pn.length ≤ 100) : Shows (.list [dGr ns es, dSt ord f, dStrs pn]) := by
  obtain ⟨a1, b1, c1, d1⟩ := lvs_strs h1
  obtain ⟨a2, b2, c2, d2⟩ := lvs_edges h2
  obtain ⟨a3, b3, c3, d3⟩ := lvs_st h3
  obtain ⟨a4, b4, c4, d4⟩ := lvs_strs h4
  refine ⟨?_, ?_, ?_, ?_⟩
  · simp [PyData.showable, PyData.showableAll, b1, b2, b3, b4]
  · simp [PyData.leavesShort, PyData.leavesShortAll, a1, a2, a3, a4]
  · simp only [PyData.bulk, PyData.bulkAll]
    omega
  · simp only [PyData.depth, PyData.depthAll]
    omega
end U

/-! exceptions that outlive their handler; own classes over own classes -/
namespace U
open PySem PySem.Spec PyProof.Rows L2
/-- at a: an exception of the class cls, its dict at d -/
def exk (a : Addr) (cls : Value) (d : Option Addr) : HO := .ext fun h => ∃ oe vs, h.get? a = some oe ∧ Zc cls d oe ∧ oe.data = .fields vs
theorem exk_ok {P : Program} {w : World} {H : Hp} {h : Heap} {a : Addr} {cls : Value} {d : Option Addr} {oe : Obj} {vs : Array Value} (e : h.get? a = some oe) (z : Zc cls d oe) (f : oe.data = .fields vs) : ObjOk P w H h a (exk a cls d) := by
  refine ⟨⟨oe, vs, e, z, f⟩, ⟨_, e⟩, fun h1 h2 t k => ?_⟩
  obtain ⟨o2, v2, e2, z2, f2⟩ := t
  exact ⟨o2, v2, k _ e2, z2, f2⟩
theorem exk_at {P : Program} {w : World} {H : Hp} {h : Heap} {a : Addr} {cls : Value} {d : Option Addr} (hok : HOk P w H h) (e : H a = some (exk a cls d)) : ∃ oe vs, h.get? a = some oe ∧ Zc cls d oe ∧ oe.data = .fields vs := by
  have t : ObjOk P w H h a (.ext fun h => ∃ oe vs, h.get? a = some oe ∧ Zc cls d oe ∧ oe.data = .fields vs) := hok a _ e
  exact t.1
section
variable {X : Cx} {pins : List (Addr × Obj)} {σ : L2.St} {H : Hp} {sI s' : Shared} {B : Heap} {a : Addr} {cls : Value} {d : Option Addr} {oe : Obj} {vs : Array Value}
/-- back on the ground, the exception tracked -/
theorem landed_k (I : Inv X pins σ H sI) (nb : ∀ b o, sI.heap.get? b = some o → b ∉ frs X.stack → B.get? b = some o) (st : B.StaysIn s'.heap) (up : sI.heap.UpToSlots s'.heap) (os : s'.os = sI.os) (ag : AllBare s'.gens)
    (hB : B.get? a = none) (nfr : a ∉ frs X.stack) (na : H a = none) (he : s'.heap.get? a = some oe) (hz : Zc cls d oe) (hd : oe.data = .fields vs) : Inv X pins σ (upd H a (exk a cls d)) s' := by
  have fr : ∀ b ∈ frs X.stack, ∀ o, sI.heap.get? b = some o → ∃ sl, s'.heap.get? b = some { o with slots := sl } := by
    intro b hb o e
    obtain ⟨_, o1, e1, h1⟩ := I.stack.mem hb
    rw [e] at e1
    cases e1
    exact up b o e h1
  have sIa : ∀ o, sI.heap.get? a ≠ some o := fun o e => by
    rw [nb a o e nfr] at hB
    cases hB
  have ok1 : HOk X.prog X.w H s'.heap := (I.inGround nb).kept st
  have ok2 : HOk X.prog X.w (upd H a (exk a cls d)) s'.heap := by
    intro b o e
    by_cases hb : b = a
    · subst hb
      rw [upd_same] at e
      cases e
      exact exk_ok he hz hd
    · rw [upd_ne hb] at e
      exact (ok1 b o e).stay (fun c v _ q => q) (fun c q => at_upd (ne_of_none q na) q) fun c xs q => at_upd (ne_of_none q na) q
  have J := I.call (ch := []) (h' := s'.heap) (g' := s'.gens) (t' := s'.toks) (d' := s'.drawn) (H' := upd H a (exk a cls d))
    { keep := fun b o e _ hb _ => st b o (nb b o e hb)
      slot := fun b o e _ hb _ => fr b hb o e
      free := fun b o e n _ => no_upd (fun z => sIa o (by rw [← z]; exact e)) n
      there := fun b o e _ => by
        by_cases hb : b ∈ frs X.stack
        · obtain ⟨sl, q⟩ := fr b hb o e
          exact ⟨_, q⟩
        · exact ⟨o, st b o (nb b o e hb)⟩
      tups := fun _ _ e => at_upd (ne_of_none e na) e
      frzs := fun _ _ _ e => at_upd (ne_of_none e na) e
      tbls := fun b ps e => ⟨#[], by rw [at_upd (ne_of_none e na) e]; simp⟩ } ok2 ag (fun _ z => nomatch z)
  obtain ⟨b1, b2, b3, b4, b5⟩ := s'
  have e5 : b5 = sI.os := os
  subst e5
  exact J
end
/-- the wish of 'except x as n', the exception tracked: slot i is n's -/
def wKeep (K : PySem.W.Frag) (c : Value) (i : Nat) (ts : TS) (Wout : WX) (D : Ends) : WX := fun cls d σ H =>
  ∃ b, PySem.W.exmOne K cls c = some b ∧ (b = false → Wout cls d σ H) ∧
    (b = true → ∀ a, H a = none → ts { nx := fun σ1 H1 => D.nx (σ1.set i none) H1, rt := D.rt, bk := fun σ1 H1 => D.bk (σ1.set i none) H1, ct := fun σ1 H1 => D.ct (σ1.set i none) H1 } (σ.set i (some (.ref a))) (upd H a (exk a cls d)))
section
variable {X : Cx} {x n : Str} {c : Value} {i : Nat} {body suite : List Stmt} {b₀ : Stmt} {np pos pos' : Pos} {tb : WX → TS} {ts : TS} {Wout : WX}
theorem ps_try_keep (hs : X.stack = X.env :: X.outer) (hf : X.env.frame = some X.env.locals) (hN : X.N.Nodup) (hi : X.N[i]? = some n) (hln : X.env.kindOf n = some .local) (hc : L2.Names X x c) (tk : Takes X Wout)
    (hb : ∀ (W : WX) (pn : List (Addr × Obj)) (xe : Value → Shared → Prop), Takes (X.tr pn xe) W → PassesOwn (model X.prog X.w) X.A X.env xe → PSs (X.tr pn xe) body (tb W))
    (hsu : ∀ (a : Addr) (pn : List (Addr × Obj)), PSs (X.suite a pn) (b₀ :: suite) ts) :
    PS X (.Try body [.ExceptHandler (some (.Name x np)) (some n) (b₀ :: suite) pos'] [] [] pos) (fun D σ H => tb (wKeep X.K c i ts Wout D) D σ H) := by
  refine ⟨fun pins s σ H D I want => ?_⟩
  have okX := I.ok
  have frX : X.A.frames = some (X.env :: X.outer) := by rw [okX.frames, hs]
  refine wpAny_Try_except ?_
  have run := (hb (wKeep X.K c i ts Wout D) (X.pn ++ pins) (fun e t1 => wpAny (model X.prog X.w) X.A (noteFrame e X.env) (fun _ t2 => wpAny (model X.prog X.w) X.A (setFlight e none) (fun _ t3 =>
    wpAny (model X.prog X.w) X.A (handleBy e X.env [.ExceptHandler (some (.Name x np)) (some n) (b₀ :: suite) pos']) (SP X pins D) X.xe t3) X.xe t2) X.xe t1) ?_ PassesOwn.looking).run [] s σ H D (I.toTry _) want
  · refine wpAny_mono run (fun f t1 h => ?_) fun _ _ z => z
    cases f with
    | next =>
      obtain ⟨σ1, H1, J, q⟩ := h
      exact wpAny_execs_nil ⟨σ1, H1, J.ofTry okX, q⟩
    | brk =>
      obtain ⟨σ1, H1, J, q⟩ := h
      exact ⟨σ1, H1, J.ofTry okX, q⟩
    | cont =>
      obtain ⟨σ1, H1, J, q⟩ := h
      exact ⟨σ1, H1, J.ofTry okX, q⟩
    | ret v =>
      obtain ⟨v1, σ1, H1, J, r, q⟩ := h
      exact ⟨v1, σ1, H1, J.ofTry okX, r, q⟩
  · intro u t0 xx
    obtain ⟨a, B, sI, pins1, σ1, H1, cls, d, rfl, J1, nb, up, sky, na, os, ag, b, hb1, hno, hyes⟩ := xx
    have J : Inv X pins σ1 H1 sI := J1.ofTry okX
    have sky1 : Sky B (X.env :: X.outer) a (Zc cls d) X.env.locals t0.heap := by rw [← hs]; exact sky
    show wpAny (model X.prog X.w) X.A (noteFrame (.ref a) X.env) _ _ _
    refine Sky.land Zc.steady frX hf sky1 fun h3 fl3 up3 => ?_
    have J3 : Inv X pins σ1 H1 { t0 with heap := h3 } := J.landed nb fl3.1 (up.trans up3) os ag
    obtain ⟨oe3, vs3, he3, hz3, hd3⟩ := fl3.there
    have off : ∀ {h : Heap} {o : Obj} {vs : Array Value}, h.FunFrames B (X.env :: X.outer) → h.get? a = some o → o.data = .fields vs → a ∉ frs (X.env :: X.outer) := by
      intro h o vs ff e dd hm
      obtain ⟨_, o1, e1, hnf⟩ := ff.mem hm
      rw [e] at e1
      cases e1
      exact hnf _ dd
    have nfr := off fl3.2.2.1 he3 hd3
    have nL : a ≠ X.env.locals := fun z => nfr (List.mem_filterMap.mpr ⟨X.env, List.mem_cons_self, by rw [hf, z]⟩)
    have nF : a ∉ X.fs := by
      intro hm
      obtain ⟨e, he, q⟩ := List.mem_filterMap.mp hm
      exact nfr (List.mem_filterMap.mpr ⟨e, List.mem_cons_of_mem _ he, q⟩)
    have S3 := J3.suite he3 hd3 na nL nF
    refine wpAny_handleBy_cons (codeAny_handlers_test ?_) (by intro q; cases q)
    have LT : PySem.W.Looks (model X.prog X.w) h3 (typeOf (.ref a)) cls := fun A Q E s k q => wpAny_typeOf_ref (k _ _ he3) (by rw [hz3.1]; exact q)
    have LM := PySem.W.exm_one (M := model X.prog X.w) (J3.kIn) LT hb1
    have named : ∀ {Q E : Value → Shared → Prop}, Q c { t0 with heap := h3 } → wpAny (model X.prog X.w) (X.A.mark (some (.ref a))) (eval (.Name x np) X.env) Q E { t0 with heap := h3 } := by
      intro Q E q
      obtain ⟨hg, hdbg, hm | ⟨hm, hv, hnn⟩⟩ := hc
      · exact ld_glob (X := X.suite a ((a, oe3) :: (X.pn ++ pins))) S3 hg hm q hdbg
      · exact ld_blt (X := X.suite a ((a, oe3) :: (X.pn ++ pins))) S3 hg hm hv q hnn hdbg
    refine named (LM.here ?_)
    cases b with
    | false =>
      show wpAny _ X.A (handleBy (.ref a) X.env []) _ _ _
      refine wpAny_handleBy_nil ?_
      obtain ⟨k1, k2, k3, oe, vs, T, oT, ts1, he, hz, hd, h1, hr⟩ := id fl3
      unfold PySem.passOn
      refine wpAny_bind (wpAny_field he hd h1 ?_)
      rw [if_neg (show ¬ ((Value.ref T == Value.none) = true) from by simp)]
      have onward : wpAny (model X.prog X.w) X.A (setFlight (.ref a) X.env.frame) (fun _ s4 => wpAny (model X.prog X.w) X.A (throw (.ref a) : Sem Flow) (SP X pins D) X.xe s4) X.xe { t0 with heap := h3 } := by
        rw [hf]
        refine HandSPX.setFlight_upZ fl3 fun h4 hh4 up4 => wpAny_throw (tk _ _ ?_)
        exact ⟨a, B, sI, pins, σ1, H1, cls, d, rfl, J, nb, (up.trans up3).trans up4, .inr (.inr (by rw [hs]; exact hh4)), na, os, ag, hno rfl⟩
      first
        | exact wpAny_bind (wpAny_pure (wpAny_bind onward))
        | exact wpAny_bind onward
    | true =>
      refine codeAny_handlers_suite_as ?_
      refine HandSPX.lands_againZ fl3 fun h4 fl4 up4 => ?_
      obtain ⟨oe4, vs4, he4, hz4, hd4⟩ := fl4.there
      have J4 : Inv X pins σ1 (upd H1 a (exk a cls d)) { t0 with heap := h4 } := landed_k J nb fl4.1 ((up.trans up3).trans up4) os ag fl4.2.1 (by rw [hs]; exact nfr) na he4 hz4 hd4
      have S4 : Inv (X.suite a (X.pn ++ pins)) [] σ1 (upd H1 a (exk a cls d)) { t0 with heap := h4 } :=
        ⟨J4.ok.suite _ _, J4.os, J4.bare, J4.base, J4.loc, J4.cell, J4.free, J4.freeC, fun p hp => J4.pin p (by rw [List.append_nil] at hp; exact hp), J4.hok, J4.len⟩
      refine store_ok (X := X.suite a (X.pn ++ pins)) (v := .ref a) S4 hN hi (.inl hln) rfl (fun s5 S5 => ?_) (.inr hln)
      refine wpAny_mono ((hsu a (X.pn ++ pins)).run [] s5 _ _ _ S5 (hyes rfl a na)) (fun f s6 hsp => ?_) (fun _ _ z => False.elim z)
      have back : ∀ {σ6 : L2.St} {H6 : Hp}, Inv (X.suite a (X.pn ++ pins)) [] σ6 H6 s6 → Inv X pins σ6 H6 s6 := fun S =>
        ⟨okX, S.os, S.bare, S.base, S.loc, S.cell, S.free, S.freeC, fun p hp => S.pin p (List.mem_append_left _ hp), S.hok, S.len⟩
      have over : ∀ {σ6 : L2.St} {H6 : Hp} {Q : Shared → Prop}, Inv (X.suite a (X.pn ++ pins)) [] σ6 H6 s6 → (∀ s7, Inv X pins (σ6.set i none) H6 s7 → Q s7) →
          wpAny (model X.prog X.w) X.A (do bindName X.env n .none; unbindBehindTheSuite X.env n pos') (fun _ s7 => Q s7) X.xe s6 := fun S6 hq => gone_ok (back S6) hN hi hln hq
      cases f with
      | next =>
        obtain ⟨σ6, H6, S6, q6⟩ := hsp
        exact over S6 fun s7 J7 => ⟨_, _, J7, q6⟩
      | brk =>
        obtain ⟨σ6, H6, S6, q6⟩ := hsp
        exact over S6 fun s7 J7 => ⟨_, _, J7, q6⟩
      | cont =>
        obtain ⟨σ6, H6, S6, q6⟩ := hsp
        exact over S6 fun s7 J7 => ⟨_, _, J7, q6⟩
      | ret v =>
        obtain ⟨v6, σ6, H6, S6, r6, q6⟩ := hsp
        exact over S6 fun s7 J7 => ⟨_, _, _, J7, r6, q6⟩
end
/-! e.f of a tracked exception -/
def tXk (K : PySem.W.Frag) (f : Str) (te : TE) : TE := fun σ H Q => te σ H fun x H1 => ∃ (a C dd : Addr) (fs : List (Str × V)) (v : V), x = .ref a ∧ H1 a = some (exk a (.ref C) (some dd)) ∧ XfC K C ∧ PySem.W.findIn K (.ref C) f = some none ∧ H1 dd = some (.xd fs) ∧ fs.lookup f = some v ∧ Q v H1
theorem pe_xk {X : Cx} {e : Expr} {te : TE} {pos : Pos} {n : Str} (he : PE X e te) (hb : attributeBase e n X.env (eval e X.env) = eval e X.env := by rfl) : PE X (.Attribute e n pos) (tXk X.K n te) := by
  refine ⟨fun pins s σ H Q I want => attr_of hb (thn (he.run pins s σ H _ I want) fun u s1 got => ?_)⟩
  obtain ⟨x, H1, I1, rx, a, C, dd, fs, v, rfl, hk, T, hno, hdd, hl, q⟩ := got
  obtain rfl : u = Value.ref a := rx
  obtain ⟨oe, vs, h1, hz, hd⟩ := exk_at I1.hok hk
  have hx : ObjOk X.prog X.w H1 s1.heap dd (.xd fs) := I1.hok dd _ hdd
  obtain ⟨mA, hns, hr⟩ := hx
  obtain ⟨od, ho, hl2⟩ := lookIn_ns hns
  obtain ⟨u2, hu, ru⟩ := RelO.some_of (v := v) (o := mA n) (by rw [← hl]; exact hr n)
  have J : PySem.W.InstAt s1.heap a oe C (some od) := by
    refine ⟨h1, hz.1, ?_, ?_⟩
    · unfold PySem.W.notCls
      rw [hd] <;> rfl
    · rw [hz.2]
      exact ho
  exact HandSPX.exc_get I1.kIn J T.ga T.gg T.exC (PySem.W.findObj_own T.hdC hno rfl (by rw [hl2, hu])) (handed_of ru) ⟨v, H1, I1.tok _, ru, q⟩
/-! Base.__init__(self, ..), Base an own class over ValueError with no __init__ of its own -/
structure BaseI (K : PySem.W.Frag) (CB : Addr) : Prop where
  kp : PySem.W.keepIn K (.ref CB) = true
  ga : PySem.W.specialIn K (.ref CB) "__getattribute__" = some (some (.builtin "type.__getattribute__"))
  rd : PySem.W.readsIn K CB (.type "type") = true
  at_ : PySem.W.findCls K (.ref CB) (.type "type") "__init__" = some (.val (.builtin "ValueError.__init__"))
theorem pe_binit {X : Cx} {x : Str} {CB : Addr} {e : Expr} {es : List Expr} {ta : TA} {p1 p2 pos : Pos} {pl : Sem Bool} (hg : Gl X x) (hm : X.mg x = some (.ref CB)) (T : BaseI X.K CB) (ha : PA X (e :: es) ta)
    (hc : eval (.Call (.Attribute (.Name x p1) "__init__" p2) (e :: es) [] pos) X.env = (do
      let ov ← eval (.Name x p1) X.env
      standAt p2.atName
      let (f, first) ← holding [ov] (getMethod ov "__init__" pl)
      callWith pos f first (backTo pos (starEach (e :: es) X.env)) (backToKw pos (keywordEach [] X.env))) := by rfl)
    (hdb : (x == ("__debug__" : Str)) = false := by decide)
    (he : starEach (e :: es) X.env = (false, eval e X.env) :: starEach es X.env := by rfl) (hpl : (backTo pos (starEach es X.env)).any (·.1) = false := by rfl) :
    PE X (.Call (.Attribute (.Name x p1) "__init__" p2) (e :: es) [] pos) (tVeI X.K ta) := by
  refine ⟨fun pins s σ H Q I want => ?_⟩
  refine PySem.W.methodCall_KW (ld_glob I hg hm ?_ hdb) hc
  refine PySem.W.method_cls I.kIn T.ga (PySem.W.cls_value I.kIn T.rd T.at_ (by decide +kernel) ?_)
  show wpAny _ _ (callWith pos (Value.builtin "ValueError.__init__") [] (backTo pos (starEach (e :: es) X.env)) []) _ _ _
  refine PyProof.Rows.callWith_method1 (thn (ha.run pos pins _ σ H _ (I.tok _) want) fun us s1 ⟨vs, H1, I1, r1, a, C, ws, ev, hl, O, ea, q⟩ => ?_) he hpl
  subst ev
  cases r1 with
  | @cons _ u0 _ ur ra rest =>
    obtain rfl : u0 = Value.ref a := ra
    have few : ur.length ≤ sizeLine := by
      rw [← Paired.length rest, sizeLine_eq]
      omega
    exact oinit_ok O I1 ea few fun s2 J => ⟨.non, H1, J, rfl, q⟩
end U

/-! small readings that many laws want -/
namespace U
open PySem PySem.Spec PyProof.Rows L2
section
variable {K : PySem.W.Frag} {H H' : Hp} {Q : VK} {p q a : Addr} {σ : L2.St} {te td : TE} {tr : TA} {xs : List V}
theorem rd_tyD {kvs : List (Key × V)} {P : Prop} (hs : H p = some (.dK kvs)) (h : P) : tyV K "dict" (.ref p) H ∧ P := ⟨.inr (.inr (.inl ⟨rfl, .inl ⟨kvs, hs⟩⟩)), h⟩
theorem rd_clr {kvs : List (Key × V)} (hs : H p = some (.dK kvs)) (h : Q .non (upd H p (.dK []))) : rDClear (.ref p) [] H Q := ⟨p, kvs, rfl, rfl, hs, h⟩
theorem rd_neKF {ord : List Str} {f g : Str → Int} (h1 : H p = some (.dK (kvF ord f))) (h2 : H q = some (.dK (kvF ord g))) (e : ∀ n ∈ ord, f n = g n) (h : Q (.bl false) H) : rNeDA (.ref p) (.ref q) H Q := by
  refine ⟨p, q, _, _, rfl, rfl, h1, h2, by rw [List.length_map, List.length_map], fun x hx => ?_, h⟩
  obtain ⟨n, hn, rfl⟩ := List.mem_map.mp hx
  exact ⟨by rw [kvF_val hn, e n hn], rfl⟩
theorem rd_lstS {tr : TA} (h : tr σ H fun xs H1 => xs.length ≤ sizeLine ∧ ∀ p, H1 p = none → (p == sysModules) = false → Q (.ref p) (upd H1 p (.lst xs))) : tLstS tr σ H Q := h
theorem rd_revL (h : te σ H fun x H1 => ∃ a xs, x = .ref a ∧ SqL K H1 a xs ∧ ∀ p, H1 p = none → Q (.ref p) (upd H1 p (.lst xs.reverse))) : tRevL K te σ H Q := h
theorem rd_iVals {R : It → Hp → Prop} (h : td σ H fun x H1 => ∃ d o kvs, x = .ref d ∧ H1 d = some (.frz o (.dK kvs)) ∧ R (Itd d o kvs) H1) : iVals td σ H R := h
theorem rd_tXk {f : Str} (h : te σ H fun x H1 => ∃ (a C dd : Addr) (fs : List (Str × V)) (v : V), x = .ref a ∧ H1 a = some (exk a (.ref C) (some dd)) ∧ XfC K C ∧ PySem.W.findIn K (.ref C) f = some none ∧ H1 dd = some (.xd fs) ∧ fs.lookup f = some v ∧ Q v H1) : tXk K f te σ H Q := h
theorem Same.sqL (s : Same H H') (h : SqL K H a xs) : SqL K H' a xs := by
  rcases h with (h | ⟨o, h⟩) | h
  · exact .inl (.inl (s _ _ h))
  · exact .inl (.inr ⟨o, s _ _ h⟩)
  · exact .inr h
theorem seqL_keep (h : SqL K H a xs) (np : H p = none) (b : But p H H') : SqL K H' a xs := by
  rcases h with (h | ⟨o, h⟩) | h
  · exact .inl (.inl (b _ _ (ne_of_none h np) h))
  · exact .inl (.inr ⟨o, b _ _ (ne_of_none h np) h⟩)
  · exact .inr h
end
theorem lk_one {k : Str} {v : V} : List.lookup k [(k, v)] = some v := by
  have e : (k == k) = true := beq_self_eq_true k
  simp only [List.lookup, e]
theorem merge_kvF {h : Str → Int} : ∀ {b a : List Str}, (a ++ b).Nodup → mergeK (kvF a h) (kvF b h) = kvF (a ++ b) h
  | [], a, _ => by rw [List.append_nil]; rfl
  | n :: b, a, nd => by
    have nn : n ∉ a := by
      rw [List.nodup_append] at nd
      exact fun z => nd.2.2 n z n List.mem_cons_self rfl
    have e : mergeK (kvF a h) (kvF (n :: b) h) = mergeK (putK (kvF a h) (.inr n) (.int (h n))) (kvF b h) := rfl
    have u : updf h n (h n) = h := by
      funext x
      unfold updf
      by_cases z : x = n
      · rw [if_pos z, z]
      · rw [if_neg z]
    rw [e, kvF_new nn, u, merge_kvF (by rw [List.append_assoc]; exact nd), List.append_assoc]
    rfl
theorem merge_all {ns : List Str} {h : Str → Int} (nd : ns.Nodup) : mergeK [] (kvF ns h) = kvF ns h := by
  have mk := merge_kvF (a := []) (b := ns) (h := h) (by rw [List.nil_append]; exact nd)
  rw [List.nil_append] at mk
  exact mk
theorem paired_mono {α β : Type} {F G : α → β → Prop} (k : ∀ a b, F a b → G a b) : ∀ {xs : List α} {ys : List β}, Paired F xs ys → Paired G xs ys
  | _, _, .nil => .nil
  | _, _, .cons h t => .cons (k _ _ h) (paired_mono k t)
theorem kvF_app {a : List Str} {x : Str} {h : Str → Int} : kvF (a ++ [x]) h = kvF a h ++ [(.inr x, .int (h x))] := List.map_append
theorem but_lk {H2 : Hp} {d D t : Addr} {X o l : HO} (ft : H2 t = none) : But D (upd H2 d X) (upd (upd (upd H2 t o) D l) d X) := fun b o' nb hb => by
  by_cases e : b = d
  · subst e
    rw [upd_same] at hb ⊢
    exact hb
  · rw [upd_ne e] at hb ⊢
    rw [upd_ne nb]
    exact at_upd (ne_of_none hb ft) hb
theorem key_at {ns : List Str} {h : Str → Int} {j : Nat} {k1 : Key} {v1 : V} (hin : j < ns.length) (e1 : (kvF ns h)[j]? = some (k1, v1)) : k1 = .inr ns[j] ∧ v1 = .int (h ns[j]) := by
  rw [kvF, List.getElem?_map, List.getElem?_eq_getElem hin] at e1
  have := Option.some.inj e1
  exact ⟨(Prod.mk.inj this).1.symm, (Prod.mk.inj this).2.symm⟩
theorem cutV_from {xs : List V} {i : Nat} (h : i ≤ xs.length) : cutV xs (some (i : Int)) none = xs.drop i := by
  unfold cutV HT.sIx
  simp only
  rw [if_neg (by omega), Int.toNat_natCast, Nat.min_eq_left h]
  exact List.take_of_length_le (by rw [List.length_drop]; omega)
end U

namespace Law
open PySem PySem.Spec PyProof.Rows L2 U
def top (i : Nat) : Stmt := PySem.Challenge.pw_threeturned_k68_mentioned_constraints.main.body.getD i (.Pass ⟨0, 0, 0, 0⟩)
abbrev s_edge_of : Stmt := top 1
abbrev nN_edge_of : List Str := ["first", "second"]
theorem sc_edge_of : FnScope ["first", "second"] ["first", "second"] (defScope s_edge_of) := ⟨rfl, rfl, rfl, by decide +kernel, rfl, by decide +kernel, by decide +kernel⟩
abbrev s_paths_in : Stmt := top 3
abbrev nN_paths_in : List Str := ["part", "paths", "item"]
theorem sc_paths_in : FnScope ["part", "paths", "item"] ["part"] (defScope s_paths_in) := ⟨rfl, rfl, rfl, by decide +kernel, rfl, by decide +kernel, by decide +kernel⟩
abbrev s_mentioned : Stmt := top 4
abbrev nN_mentioned : List Str := ["constraints", "obstruction", "nodes", "edges", "path", "index", "node", "found", "constraint"]
theorem sc_mentioned : FnScope ["constraints", "obstruction", "nodes", "edges", "path", "index", "node", "found", "constraint"] ["constraints", "obstruction"] (defScope s_mentioned) := ⟨rfl, rfl, rfl, by decide +kernel, rfl, by decide +kernel, by decide +kernel⟩
abbrev s__law_box : Stmt := top 6
abbrev nN__law_box : List Str := ["_law_script", "_law_cell"]
theorem sc__law_box : FnScope ["_law_script", "_law_cell"] ["_law_script"] (defScope s__law_box) := ⟨rfl, rfl, rfl, by decide +kernel, rfl, by decide +kernel, by decide +kernel⟩
abbrev s__law_draw : Stmt := top 7
abbrev nN__law_draw : List Str := ["_law_source", "_law_count", "_law_cell", "_law_found"]
theorem sc__law_draw : FnScope ["_law_source", "_law_count", "_law_cell", "_law_found"] ["_law_source", "_law_count"] (defScope s__law_draw) := ⟨rfl, rfl, rfl, by decide +kernel, rfl, by decide +kernel, by decide +kernel⟩
abbrev s__law_stem : Stmt := top 8
abbrev nN__law_stem : List Str := ["_law_source", "_law_k"]
theorem sc__law_stem : FnScope ["_law_source", "_law_k"] ["_law_source"] (defScope s__law_stem) := ⟨rfl, rfl, rfl, by decide +kernel, rfl, by decide +kernel, by decide +kernel⟩
abbrev s__law_random_names : Stmt := top 9
abbrev nN__law_random_names : List Str := ["_law_source", "_law_count", "_law_front", "_law_alike", "_law_shift", "_law_step", "_law_stem_here", "_law_words", "_law_k", "_law_letter"]
theorem sc__law_random_names : FnScope ["_law_source", "_law_count", "_law_front", "_law_alike", "_law_shift", "_law_step", "_law_stem_here", "_law_words", "_law_k", "_law_letter"] ["_law_source", "_law_count"] (defScope s__law_random_names) := ⟨rfl, rfl, rfl, by decide +kernel, rfl, by decide +kernel, by decide +kernel⟩
abbrev s__law_random_problem : Stmt := top 10
abbrev nN__law_random_problem : List Str := ["_law_source", "_law_most", "_law_values", "_law_pairs", "_law_k", "_law_value", "_law_direction", "_law_near", "_law_density", "_law_words", "_law_edges", "_law_one", "_law_other", "_law_state", "_law_share", "_law_pins", "_law_word"]
theorem sc__law_random_problem : FnScope ["_law_source", "_law_most", "_law_values", "_law_pairs", "_law_k", "_law_value", "_law_direction", "_law_near", "_law_density", "_law_words", "_law_edges", "_law_one", "_law_other", "_law_state", "_law_share", "_law_pins", "_law_word"] ["_law_source", "_law_most"] (defScope s__law_random_problem) := ⟨rfl, rfl, rfl, by decide +kernel, rfl, by decide +kernel, by decide +kernel⟩
abbrev s__law_random_constraints : Stmt := top 11
abbrev nN__law_random_constraints : List Str := ["_law_source", "_law_graph", "_law_pins", "_law_most", "_law_known", "_law_node", "_law_one", "_law_other", "_law_items", "_law_k", "_law_remaining"]
theorem sc__law_random_constraints : FnScope ["_law_source", "_law_graph", "_law_pins", "_law_most", "_law_known", "_law_node", "_law_one", "_law_other", "_law_items", "_law_k", "_law_remaining"] ["_law_source", "_law_graph", "_law_pins", "_law_most"] (defScope s__law_random_constraints) := ⟨rfl, rfl, rfl, by decide +kernel, rfl, by decide +kernel, by decide +kernel⟩
abbrev s__law_paths_of : Stmt := top 12
abbrev nN__law_paths_of : List Str := ["_law_certificate"]
theorem sc__law_paths_of : FnScope ["_law_certificate"] ["_law_certificate"] (defScope s__law_paths_of) := ⟨rfl, rfl, rfl, by decide +kernel, rfl, by decide +kernel, by decide +kernel⟩
abbrev s__law_expected_mentions : Stmt := top 13
abbrev nN__law_expected_mentions : List Str := ["_law_items", "_law_certificate", "_law_found", "_law_candidate", "_law_path", "_law_sides", "_law_at", "_law_is_named"]
theorem sc__law_expected_mentions : FnScope ["_law_items", "_law_certificate", "_law_found", "_law_candidate", "_law_path", "_law_sides", "_law_at", "_law_is_named"] ["_law_items", "_law_certificate"] (defScope s__law_expected_mentions) := ⟨rfl, rfl, rfl, by decide +kernel, rfl, by decide +kernel, by decide +kernel⟩
abbrev s__law_relaxed : Stmt := top 14
abbrev nN__law_relaxed : List Str := ["_law_graph", "_law_pins", "_law_items", "_law_cut", "_law_candidate", "_law_out", "_law_new_graph", "_law_edge", "_law_node"]
theorem sc__law_relaxed : FnScope ["_law_graph", "_law_pins", "_law_items", "_law_cut", "_law_candidate", "_law_out", "_law_new_graph", "_law_edge", "_law_node"] ["_law_graph", "_law_pins", "_law_items"] (defScope s__law_relaxed) := ⟨rfl, rfl, rfl, by decide +kernel, rfl, by decide +kernel, by decide +kernel⟩
abbrev s__law_random_path : Stmt := top 15
abbrev nN__law_random_path : List Str := ["_law_source", "_law_graph", "_law_path", "_law_k", "_law_near", "_law_one"]
theorem sc__law_random_path : FnScope ["_law_source", "_law_graph", "_law_path", "_law_k", "_law_near", "_law_one"] ["_law_source", "_law_graph"] (defScope s__law_random_path) := ⟨rfl, rfl, rfl, by decide +kernel, rfl, by decide +kernel, by decide +kernel⟩
abbrev s__law_random_obstruction : Stmt := top 16
abbrev nN__law_random_obstruction : List Str := ["_law_source", "_law_graph", "_law_direction", "_law_first", "_law_last"]
theorem sc__law_random_obstruction : FnScope ["_law_source", "_law_graph", "_law_direction", "_law_first", "_law_last"] ["_law_source", "_law_graph"] (defScope s__law_random_obstruction) := ⟨rfl, rfl, rfl, by decide +kernel, rfl, by decide +kernel, by decide +kernel⟩
abbrev s_law : Stmt := top 17
abbrev nN_law : List Str := ["_law_script", "_law_source", "_law_graph", "_law_state", "_law_pins", "_law_items", "_law_certificate", "_law_saved", "_law_found"]
theorem sc_law : FnScope ["_law_script", "_law_source", "_law_graph", "_law_state", "_law_pins", "_law_items", "_law_certificate", "_law_saved", "_law_found"] ["_law_script"] (defScope s_law) := ⟨rfl, rfl, rfl, by decide +kernel, rfl, by decide +kernel, by decide +kernel⟩
end Law

namespace Law
open PySem PySem.Spec PyProof.Rows L2 U
local macro_rules | `(tactic| wtm_at "rd1") => `(tactic| first
  | with_reducible refine rd_seq ?_
  | ((with_reducible refine rd_var (v := ?vv) ?hv ?_); (case hv => exact rfl))
  | with_reducible refine rd_c ?_
  | with_reducible refine rd_cons ?_
  | with_reducible refine rd_nil ?_
  | with_reducible refine rd_op ?_
  | with_reducible refine rd_asg ?_
  | with_reducible refine rd_name ?_
  | with_reducible refine rd_c1 ?_
  | with_reducible refine rd_cb ?_
  | with_reducible refine rd_test ?_
  | with_reducible refine rd_B ?_
  | with_reducible refine rd_bl ?_
  | with_reducible refine rd_if ?_
  | with_reducible refine rd_ret ?_
  | with_reducible refine rd_drop ?_
  | with_reducible refine rd_next ?_
  | with_reducible refine rd_addI ?_
  | with_reducible refine rd_ltI ?_
  | with_reducible refine rd_eqI ?_
  | with_reducible refine rd_neI ?_
  | with_reducible refine rd_eqS ?_
  | with_reducible refine rd_neS ?_
  | with_reducible refine rd_gtI ?_
  | with_reducible refine rd_geI ?_
  | with_reducible refine rd_leI ?_
  | with_reducible refine rd_ltS ?_
  | with_reducible refine rd_subI ?_
  | ((with_reducible refine rd_modI ?hc ?_); (case hc => first | decide | omega))
  | ((with_reducible refine rd_mulI ?hc ?_); (case hc => first | exact mul_bI | exact .inl (.inr (by decide)) | exact .inl (.inl (by decide)) | exact .inl (.inr (by omega)) | exact .inl (.inl (by omega))))
  | ((with_reducible refine rd_divI ?hc ?_); (case hc => first | decide | omega))
  | ((with_reducible refine rd_powI ?hc ?_); (case hc => exact ⟨by decide, by decide, by decide⟩))
  | with_reducible refine rd_lst ?_
  | with_reducible refine rd_tup ?_
  | ((with_reducible refine rd_sz ?hv ?_); (case hv => exact rfl))
  | with_reducible refine rd_and ?_
  | with_reducible refine rd_or ?_
  | with_reducible refine rd_not ?_
  | with_reducible refine rd_andV ?_
  | with_reducible refine rd_orV ?_
  | with_reducible refine rd_notV ?_
  | with_reducible refine rd_ifE ?_
  | with_reducible refine rd_T ?_
  | with_reducible refine rd_F ?_
  | with_reducible refine rd_chain ?_
  | with_reducible refine rd_is ?_
  | with_reducible refine rd_isNot ?_
  | with_reducible refine rd_absI ?_
  | with_reducible refine rd_maxI ?_
  | with_reducible refine rd_minI ?_
  | with_reducible refine rd_intI ?_
  | with_reducible refine rd_intB ?_
  | with_reducible refine rd_sub ?_
  | with_reducible refine rd_sl ?_
  | with_reducible refine rd_noPart ?_
  | with_reducible refine rd_part ?_
  | with_reducible refine rd_exI ?_
  | with_reducible refine rd_bm ?_
  | with_reducible refine rd_bm0 ?_
  | with_reducible refine rd_un ?_
  | with_reducible refine rd_neg ?_
  | with_reducible refine rd_c2 ?_
  | with_reducible refine rd_retN ?_
  | with_reducible refine rd_break ?_
  | with_reducible refine rd_cont ?_
  | with_reducible refine rd_for ?_
  | with_reducible refine rd_rng1 ?_
  | with_reducible refine rd_rng2 ?_
  | with_reducible refine rd_iList ?_
  | with_reducible refine rd_iTup ?_
  | with_reducible refine rd_iEnum ?_
  | ((with_reducible refine rd_forR ?h0 ?h1 ?_); (case h0 => omega); (case h1 => omega))
  | with_reducible refine rd_lc ?_
  | with_reducible refine rd_gcons ?_
  | with_reducible refine rd_gnil ?_
  | with_reducible refine rd_dget ?_
  | with_reducible refine rd_dput ?_
  | with_reducible refine rd_dnew ?_
  | with_reducible refine rd_dc ?_
  | with_reducible refine rd_iItems ?_
  | with_reducible refine rd_iKeys ?_
  | with_reducible refine rd_din ?_
  | with_reducible refine rd_lc2 ?_
  | with_reducible refine rd_cd ?_
  | with_reducible refine rd_par ?_
  | with_reducible refine rd_two ?_
  | with_reducible refine rd_reprB ?_
  | with_reducible refine rd_ck ?_
  | ((with_reducible refine rd_len ?hl ?_); (case hl => exact rfl))
  | with_reducible refine rd_nT ?_
  | with_reducible refine rd_nF ?_
  | with_reducible refine rd_dnin ?_
  | with_reducible refine rd_isB ?_
  | with_reducible refine rd_isNotB ?_
  | with_reducible refine rd_daug ?_
  | with_reducible refine rd_yesT ?_
  | ((with_reducible refine rd_wp ?hw ?_); (case hw => exact rfl)))
local macro_rules | `(tactic| wtm_at "rd") => `(tactic| repeat wtm_at "rd1")
/-- the names of the world are the world's -/
structure Bt (mg : Str → Option Value) : Prop where
  len : mg "len" = none
  abs : mg "abs" = none
  max : mg "max" = none
  min : mg "min" = none
  sorted : mg "sorted" = none
  isinstance : mg "isinstance" = none
  int : mg "int" = none
  list : mg "list" = none
  tuple : mg "tuple" = none
  str : mg "str" = none
  range : mg "range" = none
  enumerate : mg "enumerate" = none
  dict : mg "dict" = none
  sum : mg "sum" = none
  all : mg "all" = none
  any : mg "any" = none
  repr : mg "repr" = none
  set : mg "set" = none
  zip : mg "zip" = none
  reversed : mg "reversed" = none
/-- a source of draws: the cells, how many are used, what is left of a great one, the seed -/
abbrev srcO (c : Addr) (pos big seed : Int) : HO := .lst [.ref c, .int pos, .int big, .int seed]
structure SrcOk (xs : List Int) (pos big seed : Int) : Prop where
  xs : ∀ x ∈ xs, 0 ≤ x
  pos : 0 ≤ pos
  big : 0 ≤ big
  s0 : 0 ≤ seed
  s1 : seed < 2147483647
def SrcAt (H : Hp) (p c : Addr) (xs : List Int) : Prop := ∃ pos big seed, H p = some (srcO c pos big seed) ∧ H c = some (.lst (xs.map V.int)) ∧ SrcOk xs pos big seed
def PoolAt (H : Hp) (p : Addr) : Prop := ∃ c xs, SrcAt H p c xs
theorem src_ne {xs : List Int} {c : Addr} {pos big seed : Int} : srcO c pos big seed ≠ .lst (xs.map V.int) := fun z => by
  match xs, HO.lst.inj z with
  | _ :: _, e => cases e
theorem PoolAt.ne {H : Hp} {p q : Addr} (h : PoolAt H p) (n : H q = none) : p ≠ q := by
  obtain ⟨c, xs, b, g, s, h, _⟩ := h
  exact ne_of_none h n
theorem PoolAt.isL {H : Hp} {p : Addr} (h : PoolAt H p) : ∃ ys, H p = some (.lst ys) := by
  obtain ⟨c, xs, b, g, s, h, _⟩ := h
  exact ⟨_, h⟩
theorem PoolAt.off {H : Hp} {p q : Addr} {xs : List Str} (h : PoolAt H p) (hq : H q = some (.lst (xs.map V.str))) : q ≠ p := by
  rintro rfl
  obtain ⟨c, ys, b, g, s, h, _⟩ := h
  rw [hq] at h
  have e := HO.lst.inj (Option.some.inj h)
  match xs, e with
  | _ :: _, e => cases e
/-- from H to H' all stays but the draws' source at p, which is one still; new things may have come -/
structure Go (p : Addr) (H H' : Hp) : Prop where
  but : But p H H'
  free : ∀ b, H' b = none → H b = none
  pool : PoolAt H' p
  cell : ∀ c pos big seed, H' p = some (srcO c pos big seed) → H c ≠ none ∧ ∃ pos big seed, H p = some (srcO c pos big seed)
theorem Go.refl {p : Addr} {H : Hp} (h : PoolAt H p) : Go p H H := ⟨But.refl, fun _ n => n, h, fun c pos big seed e => by
  obtain ⟨c', xs, b, g, s, h1, h2, _⟩ := h
  have e2 := Option.some.inj (e.symm.trans h1)
  have e3 := (List.cons.inj (HO.lst.inj e2)).1
  have e4 : c = c' := V.ref.inj e3
  subst e4
  exact ⟨(fun z => by rw [z] at h2; cases h2), _, _, _, e⟩⟩
theorem Go.trans {p : Addr} {H H1 H2 : Hp} (a : Go p H H1) (b : Go p H1 H2) : Go p H H2 := ⟨a.but.trans b.but, fun c n => a.free c (b.free c n), b.pool, fun c _ _ _ e => by
  obtain ⟨_, _, _, _, e2⟩ := b.cell c _ _ _ e
  exact a.cell c _ _ _ e2⟩
/-- an object that was not there at H is written -/
theorem Go.put {p q : Addr} {H H1 : Hp} {o : HO} (a : Go p H H1) (n : H q = none) (ne : p ≠ q) : Go p H (L2.upd H1 q o) := by
  obtain ⟨c, xs, b, g, s, h1, h2, ok⟩ := a.pool
  have nc : c ≠ q := fun z => (a.cell _ _ _ _ h1).1 (z ▸ n)
  exact ⟨fun b u h e => at_upd (ne_of_none e n) (a.but b u h e), fun c z => a.free c (new_old z), ⟨c, xs, b, g, s, at_upd ne h1, at_upd nc h2, ok⟩, fun c' _ _ _ e => a.cell c' _ _ _ ((upd_ne ne).symm.trans e)⟩
theorem Go.new {p q : Addr} {H H1 : Hp} {o : HO} (a : Go p H H1) (n : H1 q = none) : Go p H (L2.upd H1 q o) := a.put (a.free _ n) (a.pool.ne n)
theorem Go.at {p q : Addr} {H H1 : Hp} {o : HO} (a : Go p H H1) (h : H q = some o) (n : q ≠ p) : H1 q = some o := a.but q o n h
theorem Go.seqT {p a : Addr} {H H1 : Hp} {xs : List V} {K : PySem.W.Frag} (g : Go p H H1) (hp : PoolAt H p) (h : SqT K H a xs) : SqT K H1 a xs := g.but.seqT hp.isL h
theorem Go.of_same {p : Addr} {H H' : Hp} (hp : PoolAt H p) (s : Same H H') : Go p H H' := by
  obtain ⟨c, xs, b, g, sd, h1, h2, ok⟩ := hp
  refine ⟨But.of_same s, fun b n => new_of_same s n, ⟨c, xs, b, g, sd, s _ _ h1, s _ _ h2, ok⟩, fun c' _ _ _ e => ?_⟩
  have e2 := Option.some.inj (e.symm.trans (s _ _ h1))
  have e4 : c' = c := V.ref.inj (List.cons.inj (HO.lst.inj e2)).1
  subst e4
  exact ⟨(fun z => by rw [z] at h2; cases h2), _, _, _, h1⟩
theorem PoolAt.keep {p : Addr} {H H' : Hp} (h : PoolAt H p) (k : ∀ a xs, H a = some (.lst xs) → H' a = some (.lst xs)) : PoolAt H' p := by
  obtain ⟨c, xs, b, g, sd, h1, h2, ok⟩ := h
  exact ⟨c, xs, b, g, sd, k _ _ h1, k _ _ h2, ok⟩
def spBox (K : PySem.W.Frag) : Sp := fun vs H Q _ => ∃ (a : Addr) (ns : List Int), vs = [.ref a] ∧ SqL K H a (ns.map V.int) ∧ ns.length ≤ 63 ∧
  ∀ (p : Addr) (H' : Hp), Same H H' → H p = none → PoolAt H' p → Q (.ref p) H'
def spDraw : Sp := fun vs H Q _ => ∃ (p : Addr) (many : Int), vs = [.ref p, .int many] ∧ 0 < many ∧ many < 1000000 ∧ PoolAt H p ∧
  ∀ (r : Int) (H' : Hp), 0 ≤ r → r < many → Go p H H' → Q (.int r) H'
/-- _law_draw, as it is used -/
theorem use_draw {H : Hp} {p : Addr} {many : Int} {Q : VK} {E : XK} (h : PoolAt H p) (m0 : 0 < many) (m1 : many < 1000000)
    (k : ∀ (r : Int) (H' : Hp), 0 ≤ r → r < many → Go p H H' → Q (.int r) H') : spDraw [.ref p, .int many] H Q E := ⟨p, many, rfl, m0, m1, h, k⟩
section
variable {P : Program} {w : World} {K : PySem.W.Frag} {mg : Str → Option Value} {base : Heap}
theorem mul_small {i j : Int} (h : -(2 ^ 64) < j ∧ j < 2 ^ 64) : CMul i j ∨ CMulW i j := .inl (.inr h)
theorem ok_box {f : Addr} {fd : FuncData} (F : Fun K "_law_box" "_law_box" s__law_box f fd) (B : Bt mg) : FnG P w K mg base CX0 1 f fd ["_law_script"] (spBox K) := by
  refine fnG0 F sc__law_box (fun vs H Q E h => ?_) (fun cdv A outer s H vs Q E hr h => ?_)
  · obtain ⟨a, ns, rfl, _⟩ := h
    rfl
  · obtain ⟨a, ns, rfl, hs, hl, q⟩ := h
    have nd := sc__law_box.nd
    refine ⟨_, (pss_one (ps_ret (pe_lst (pa_cons (pe_lc (own := [("_law_cell", 1)]) rfl nd (ki_list K rfl (pe_slice (kSl K rfl) (pv 0) po_none (po_some pe_int))) (blkOk_by (own := [("_law_cell", 1)]) (N := nN__law_box) (sc := defScope s__law_box) (by decide +kernel)) (fun _ _ _ _ _ => (pg_name (i := 1) nd rfl (by first | exact Or.inl rfl | exact Or.inr rfl))) (fun _ _ _ _ _ => pts_nil) (fun _ _ _ _ _ => (pe_callB cAbs (by rfl) B.abs bb_abs (pa_cons (pv 1) pa_nil)))) (pa_cons pe_int (pa_cons pe_int (pa_cons pe_int pa_nil))))))), ?_⟩
    wtm_at "rd"
    refine rd_slL hs ?_
    intro t ft
    have ht := @upd_same H t (.lst (cutV (ns.map V.int) none (some 63)))
    have s1 := Same.new (o := .lst (cutV (ns.map V.int) none (some 63))) ft
    have e63 : cutV (ns.map V.int) none (some 63) = ns.map V.int := by
      unfold cutV HT.sIx
      simp only [Nat.sub_zero, List.drop_zero]
      rw [if_neg (by decide)]
      have : (ns.map V.int).length = ns.length := List.length_map _
      rw [List.take_of_length_le]
      rw [Nat.min_def]
      split <;> omega
    rw [e63] at ht s1 ⊢
    generalize upd H t (.lst (ns.map V.int)) = H1 at ht s1
    wtm_at "rd"
    refine rd_forL (SqL.of ht) ?_
    intro D fD
    refine lcL (K := K) (xs := ns.map V.int) (fun i H' => Same H1 H' ∧ H' D = some (.lst (((ns.take i).map fun z => (z.natAbs : Int)).map V.int))) ⟨Same.new fD, upd_same⟩ ?_ ?_ ?_
    · rintro i H' hi ⟨s, _⟩
      exact SqL.of (s _ _ ht)
    · rintro i y H' hy ⟨s, hD⟩
      obtain ⟨hi, rfl⟩ := map_at hy
      wtm_at "rd"
      refine rd_acc hD (by rw [List.length_map, List.length_map, List.length_take]; omega) ?_
      refine ⟨same_put s fD, ?_⟩
      rw [upd_same, show ns.take (i + 1) = ns.take i ++ [ns[i]] from by rw [List.take_succ, List.getElem?_eq_getElem hi]; rfl, List.map_append, List.map_append]
      rfl
    · rintro H2 ⟨s2, hD⟩
      rw [List.length_map, List.take_length] at hD
      wtm_at "rd"
      intro p fp
      have k := Same.new (o := srcO D 0 0 7) fp
      refine q p _ ((s1.trans s2).trans k) (new_of_same (s1.trans s2) fp) ⟨D, _, 0, 0, 7, upd_same, k _ _ hD, ⟨fun x hx => ?_, by decide, by decide, by decide, by decide⟩⟩
      obtain ⟨z, _, rfl⟩ := List.mem_map.mp hx
      omega
theorem ok_draw {f : Addr} {fd : FuncData} (F : Fun K "_law_draw" "_law_draw" s__law_draw f fd) (B : Bt mg) : FnG P w K mg base CX0 1 f fd ["_law_source", "_law_count"] spDraw := by
  refine fnG0 F sc__law_draw (fun vs H Q E h => ?_) (fun cdv A outer s H vs Q E hr h => ?_)
  · obtain ⟨p, many, rfl, _⟩ := h
    rfl
  · obtain ⟨p, many, rfl, m0, m1, hp, q⟩ := h
    have nd := sc__law_draw.nd
    have g0 := Go.refl hp
    obtain ⟨c, xs, pos, big, seed, h1, h2, ok⟩ := hp
    have ncp : c ≠ p := fun z => by
      subst z
      exact src_ne (Option.some.inj (h1.symm.trans h2))
    have set : ∀ {H1 : Hp} {pos' big' seed' pos2 big2 seed2 : Int}, Go p H H1 → H1 p = some (srcO c pos' big' seed') → H1 c = some (.lst (xs.map V.int)) → SrcOk xs pos2 big2 seed2 → Go p H (upd H1 p (srcO c pos2 big2 seed2)) ∧ upd H1 p (srcO c pos2 big2 seed2) p = some (srcO c pos2 big2 seed2) ∧ upd H1 p (srcO c pos2 big2 seed2) c = some (.lst (xs.map V.int)) := by
      intro H1 pos' big' seed' pos2 big2 seed2 g e1 e2 ok2
      refine ⟨⟨g.but.trans But.upd, fun b z => g.free b (new_old z), ⟨c, xs, _, _, _, upd_same, at_upd ncp e2, ok2⟩, fun c' _ _ _ e => ?_⟩, upd_same, at_upd ncp e2⟩
      rw [upd_same] at e
      have e4 : c = c' := V.ref.inj (List.cons.inj (HO.lst.inj (Option.some.inj e))).1
      subst e4
      exact g.cell c _ _ _ e1
    refine ⟨_, (C8.pss_cut (ps_if (PW.pt (pw_and (pt_cmpR (kEq K rfl hr.u64) (pe_ix (kIx K rfl) (pv 0) pe_int (fun _ _ => rfl)) pe_int (nomark _)) (pw_and1 (pt_cmpR uLt (pe_ix (kIx K rfl) (pv 0) pe_int (fun _ _ => rfl)) (pe_callB (kLen K rfl) (by rfl) B.len bb_len (pa_cons (pe_ix (kIx K rfl) (pv 0) pe_int (fun _ _ => rfl)) pa_nil)) (nomark _))))) (pss_cons (ps_set (i := 2) nd rfl (by first | exact Or.inl rfl | exact Or.inr rfl) (pe_ix (kIx K rfl) (pe_ix (kIx K rfl) (pv 0) pe_int (fun _ _ => rfl)) (pe_ix (kIx K rfl) (pv 0) pe_int (fun _ _ => rfl)) (fun _ _ => rfl)))
  (pss_cons (ps_asg (pe_op (kAdd K rfl) (pe_ix (kIx K rfl) (pv 0) pe_int (fun _ _ => rfl)) pe_int) (pg_sub (pv 0) pe_int set_list))
  (pss_one (ps_if (pt_cmpR uGe (pv 2) (pe_op uPow pe_int pe_int) (nomark _)) (pss_one (ps_asg (pv 2) (pg_sub (pv 0) pe_int set_list))) (pss_one (ps_asg (pe_op uMod (pe_op (kAdd K rfl) (pe_op uMul (pe_ix (kIx K rfl) (pv 0) pe_int (fun _ _ => rfl)) pe_int) (pv 2)) pe_int) (pg_sub (pv 0) pe_int set_list))))))) pss_nil)
  (pss_cons (ps_if (pt_cmpR uGt (pe_ix (kIx K rfl) (pv 0) pe_int (fun _ _ => rfl)) pe_int (nomark _)) (pss_cons (ps_set (i := 3) nd rfl (by first | exact Or.inl rfl | exact Or.inr rfl) (pe_op uMod (pe_ix (kIx K rfl) (pv 0) pe_int (fun _ _ => rfl)) (pv 1)))
  (pss_cons (ps_asg (pe_op uDiv (pe_ix (kIx K rfl) (pv 0) pe_int (fun _ _ => rfl)) (pv 1)) (pg_sub (pv 0) pe_int set_list))
  (pss_one (ps_ret (pv 3))))) pss_nil)
  (pss_cons (ps_asg (pe_op uMod (pe_op (kAdd K rfl) (pe_op uMul (pe_ix (kIx K rfl) (pv 0) pe_int (fun _ _ => rfl)) pe_int) pe_int) pe_int) (pg_sub (pv 0) pe_int set_list))
  (pss_one (ps_ret (pe_op uMod (pe_op uMod (pe_op uMul (pe_ix (kIx K rfl) (pv 0) pe_int (fun _ _ => rfl)) pe_int) pe_int) (pv 1))))))), ?_⟩
    refine ⟨fun σ' H' => ∃ (u2 u3 : Option V) (pos big seed : Int), σ' = [some (.ref p), some (.int many), u2, u3] ∧ Go p H H' ∧ H' p = some (srcO c pos big seed) ∧ H' c = some (.lst (xs.map V.int)) ∧ SrcOk xs pos big seed, ?_, ?_⟩
    · wtm_at "rd"
      refine rd_ixL (SqL.of h1) rfl ?_
      wtm_at "rd"
      refine rd_split (fun c1 => ?_) (fun c1 => ?_)
      · wtm_at "rd"
        refine rd_ixL (SqL.of h1) rfl ?_
        wtm_at "rd"
        refine rd_ixL (SqL.of h1) rfl ?_
        wtm_at "rd"
        refine rd_lenL (SqL.of h2) ?_
        rw [List.length_map]
        wtm_at "rd"
        refine rd_split (fun c2 => ?_) (fun c2 => ?_)
        · obtain ⟨k, rfl⟩ : ∃ k : Nat, pos = (k : Int) := ⟨pos.toNat, by have := ok.pos; omega⟩
          have hk : k < xs.length := by omega
          wtm_at "rd"
          refine rd_ixL (SqL.of h1) rfl ?_
          wtm_at "rd"
          refine rd_ixL (SqL.of h1) rfl ?_
          refine rd_ixL (SqL.of h2) (v := .int xs[k]) (atI_nat (by rw [List.getElem?_map, List.getElem?_eq_getElem hk]; rfl)) ?_
          have x0 := ok.xs _ (List.getElem_mem hk)
          generalize xs[k] = x at *
          wtm_at "rd"
          refine rd_ixL (SqL.of h1) rfl ?_
          wtm_at "rd"
          refine rd_setL h1 rfl ?_
          obtain ⟨g1, e1, e2⟩ := set (pos2 := (k : Int) + 1) (big2 := big) (seed2 := seed) g0 h1 h2 ⟨ok.xs, by omega, ok.big, ok.s0, ok.s1⟩
          wtm_at "rd"
          refine rd_split (fun c3 => ?_) (fun c3 => ?_)
          · wtm_at "rd"
            refine rd_setL e1 rfl ?_
            obtain ⟨g3, e3, e4⟩ := set (pos2 := (k : Int) + 1) (big2 := x) (seed2 := seed) g1 e1 e2 ⟨ok.xs, by omega, x0, ok.s0, ok.s1⟩
            exact ⟨_, _, _, _, _, rfl, g3, e3, e4, ⟨ok.xs, by omega, x0, ok.s0, ok.s1⟩⟩
          · wtm_at "rd"
            refine rd_ixL (SqL.of e1) rfl ?_
            wtm_at "rd"
            refine rd_setL e1 rfl ?_
            obtain ⟨g3, e3, e4⟩ := set (pos2 := (k : Int) + 1) (big2 := big) (seed2 := (seed * 48271 + x) % 2147483647) g1 e1 e2 ⟨ok.xs, by omega, ok.big, by omega, by omega⟩
            exact ⟨_, _, _, _, _, rfl, g3, e3, e4, ⟨ok.xs, by omega, ok.big, by omega, by omega⟩⟩
        · wtm_at "rd"
          exact ⟨_, _, _, _, _, rfl, g0, h1, h2, ok⟩
      · wtm_at "rd"
        exact ⟨_, _, _, _, _, rfl, g0, h1, h2, ok⟩
    · rintro σ' H1 ⟨u2, u3, pos, big, seed, rfl, g1, e1, e2, ok⟩
      wtm_at "rd"
      refine rd_ixL (SqL.of e1) rfl ?_
      wtm_at "rd"
      refine rd_split (fun c1 => ?_) (fun c1 => ?_)
      · wtm_at "rd"
        refine rd_ixL (SqL.of e1) rfl ?_
        wtm_at "rd"
        refine rd_ixL (SqL.of e1) rfl ?_
        wtm_at "rd"
        refine rd_setL e1 rfl ?_
        wtm_at "rd"
        exact q _ _ (Int.emod_nonneg _ (by omega)) (Int.emod_lt_of_pos _ m0) (set g1 e1 e2 ⟨ok.xs, ok.pos, Int.ediv_nonneg ok.big (by omega), ok.s0, ok.s1⟩).1
      · wtm_at "rd"
        refine rd_ixL (SqL.of e1) rfl ?_
        wtm_at "rd"
        refine rd_setL e1 rfl ?_
        obtain ⟨g3, e3, e4⟩ := set (pos2 := pos) (big2 := big) (seed2 := (seed * 48271 + 11) % 2147483647) g1 e1 e2 ⟨ok.xs, ok.pos, ok.big, by omega, by omega⟩
        wtm_at "rd"
        refine rd_ixL (SqL.of e3) rfl ?_
        wtm_at "rd"
        exact q _ _ (Int.emod_nonneg _ (by omega)) (Int.emod_lt_of_pos _ m0) g3
end
end Law

/-! the names of a random problem -/
namespace U
open PySem PySem.Spec PyProof.Rows L2
def IsTail (s : Str) : Prop := s.length ≤ 7 ∧ ∀ c ∈ s.cps.toList, 97 ≤ c ∧ c ≤ 122
open SX in
theorem tail_join {cs : List Nat} (hl : cs.length ≤ 7) (h : ∀ c ∈ cs, 97 ≤ c ∧ c ≤ 122) : IsTail (Txt.join ("" : Str) (cs.map fun c => ⟨#[c]⟩)) := by
  have e1 : (cs.map fun c => (⟨#[c]⟩ : Str)) = (cs.map fun c => [c]).map S := by
    rw [List.map_map]
    rfl
  have e2 : ∀ cs : List Nat, TL.joinL [] (cs.map fun c => [c]) = cs := by
    intro cs
    induction cs with
    | nil => rfl
    | cons a r ih =>
      cases r with
      | nil => rfl
      | cons b r => 
        show [a] ++ ([] ++ TL.joinL [] ((b :: r).map fun c => [c])) = _
        rw [ih]
        rfl
  have e3 : Txt.join ("" : Str) (cs.map fun c => ⟨#[c]⟩) = S cs := by
    rw [e1, show ("" : Str) = S [] from rfl, join_S, e2]
  rw [e3]
  exact ⟨by rw [S_len]; exact hl, by simpa [S] using h⟩
/-- a name of a random problem: the letter that tells it, in front or behind -/
def WdAt (front : Bool) (shift step : Int) (j : Nat) (w : Str) : Prop := ∃ t : Str, IsTail t ∧ w = if front = true then ⟨#[97 + (((j : Int) * step + shift) % 26).toNat]⟩ ++ t else t ++ ⟨#[97 + (((j : Int) * step + shift) % 26).toNat]⟩
theorem app_list {a b : Str} : (a ++ b).cps.toList = a.cps.toList ++ b.cps.toList := TL.tl_append a b
theorem WdAt.name {front : Bool} {shift step : Int} {j : Nat} {w : Str} (h : WdAt front shift step j w) : IsName w := by
  obtain ⟨t, ⟨tl, tc⟩, rfl⟩ := h
  have hc : 97 ≤ 97 + (((j : Int) * step + shift) % 26).toNat ∧ 97 + (((j : Int) * step + shift) % 26).toNat ≤ 122 := by omega
  generalize 97 + (((j : Int) * step + shift) % 26).toNat = c at hc
  have tl' : t.cps.toList.length ≤ 7 := by simpa [Str.length] using tl
  have len : ∀ z : Str, z.length = z.cps.toList.length := fun z => by simp [Str.length]
  split
  · refine ⟨?_, ?_, fun x hx => ?_⟩
    · rw [len, app_list, List.length_append]; show 1 ≤ 1 + _; omega
    · rw [len, app_list, List.length_append]; show 1 + _ ≤ 8; omega
    · rw [app_list] at hx
      rcases List.mem_append.mp hx with z | z
      · have : x = c := by simpa using z
        rw [this]; exact hc
      · exact tc x z
  · refine ⟨?_, ?_, fun x hx => ?_⟩
    · rw [len, app_list, List.length_append]; show 1 ≤ _ + 1; omega
    · rw [len, app_list, List.length_append]; show _ + 1 ≤ 8; omega
    · rw [app_list] at hx
      rcases List.mem_append.mp hx with z | z
      · exact tc x z
      · have : x = c := by simpa using z
        rw [this]; exact hc
theorem WdAt.inj {front : Bool} {shift step : Int} {j k : Nat} {w : Str} (hs : step = 7 ∨ step = 1 ∨ step = 3 ∨ step = 11) (hj : j < 26) (hk : k < 26) (a : WdAt front shift step j w) (b : WdAt front shift step k w) : j = k := by
  have core : 97 + (((j : Int) * step + shift) % 26).toNat = 97 + (((k : Int) * step + shift) % 26).toNat → j = k := by
    rcases hs with rfl | rfl | rfl | rfl <;> omega
  obtain ⟨t, _, e1⟩ := a
  obtain ⟨u, _, e2⟩ := b
  have e := e1.symm.trans e2
  apply core
  generalize 97 + (((j : Int) * step + shift) % 26).toNat = c at *
  generalize 97 + (((k : Int) * step + shift) % 26).toNat = d at *
  cases front with
  | true =>
    rw [if_pos rfl, if_pos rfl] at e
    have e3 := congrArg (fun z : Str => z.cps.toList) e
    simp only [app_list] at e3
    have : [c] ++ t.cps.toList = [d] ++ u.cps.toList := e3
    injection this
  | false =>
    rw [if_neg Bool.false_ne_true, if_neg Bool.false_ne_true] at e
    have e3 := congrArg (fun z : Str => z.cps.toList) e
    simp only [app_list] at e3
    have e4 : t.cps.toList ++ [c] = u.cps.toList ++ [d] := e3
    have e5 := congrArg List.getLast? e4
    simp only [List.getLast?_append, List.getLast?_singleton, Option.some_or] at e5
    exact Option.some.inj e5
/-- the words so far -/
structure Wds (front : Bool) (shift step : Int) (ws : List Str) : Prop where
  at_ : ∀ j (h : j < ws.length), WdAt front shift step j ws[j]
theorem Wds.nil {front : Bool} {shift step : Int} : Wds front shift step [] := ⟨fun j h => absurd h (Nat.not_lt_zero _)⟩
theorem Wds.snoc {front : Bool} {shift step : Int} {ws : List Str} {w : Str} (h : Wds front shift step ws) (k : WdAt front shift step ws.length w) : Wds front shift step (ws ++ [w]) := ⟨fun j hj => by
  rw [List.length_append, List.length_singleton] at hj
  by_cases z : j < ws.length
  · rw [List.getElem_append_left z]; exact h.at_ j z
  · obtain rfl : j = ws.length := by omega
    rw [List.getElem_append_right (Nat.le_refl _)]
    simpa using k⟩
theorem Wds.names {front : Bool} {shift step : Int} {ws : List Str} (h : Wds front shift step ws) (hs : step = 7 ∨ step = 1 ∨ step = 3 ∨ step = 11) (l : ws.length ≤ 26) : NamesU ws := by
  refine ⟨?_, fun y hy => ?_⟩
  · rw [List.nodup_iff_pairwise_ne, List.pairwise_iff_getElem]
    intro i j hi hj hij e
    have a := h.at_ i hi
    rw [e] at a
    have := WdAt.inj hs (by omega) (by omega) a (h.at_ j hj)
    omega
  · obtain ⟨j, hj, rfl⟩ := List.mem_iff_getElem.mp hy
    exact (h.at_ j hj).name
end U
namespace Law
open PySem PySem.Spec PyProof.Rows L2 U
local macro_rules | `(tactic| wtm_at "rd1") => `(tactic| first
  | with_reducible refine rd_seq ?_
  | ((with_reducible refine rd_var (v := ?vv) ?hv ?_); (case hv => exact rfl))
  | with_reducible refine rd_c ?_
  | with_reducible refine rd_cons ?_
  | with_reducible refine rd_nil ?_
  | with_reducible refine rd_op ?_
  | with_reducible refine rd_asg ?_
  | with_reducible refine rd_name ?_
  | with_reducible refine rd_c1 ?_
  | with_reducible refine rd_cb ?_
  | with_reducible refine rd_test ?_
  | with_reducible refine rd_B ?_
  | with_reducible refine rd_bl ?_
  | with_reducible refine rd_if ?_
  | with_reducible refine rd_ret ?_
  | with_reducible refine rd_drop ?_
  | with_reducible refine rd_next ?_
  | with_reducible refine rd_addI ?_
  | with_reducible refine rd_ltI ?_
  | with_reducible refine rd_eqI ?_
  | with_reducible refine rd_neI ?_
  | with_reducible refine rd_eqS ?_
  | with_reducible refine rd_neS ?_
  | with_reducible refine rd_gtI ?_
  | with_reducible refine rd_geI ?_
  | with_reducible refine rd_leI ?_
  | with_reducible refine rd_ltS ?_
  | with_reducible refine rd_subI ?_
  | ((with_reducible refine rd_modI ?hc ?_); (case hc => first | decide | omega))
  | ((with_reducible refine rd_mulI ?hc ?_); (case hc => first | exact mul_bI | exact .inl (.inr (by decide)) | exact .inl (.inl (by decide)) | exact .inl (.inr (by omega)) | exact .inl (.inl (by omega))))
  | ((with_reducible refine rd_divI ?hc ?_); (case hc => first | decide | omega))
  | ((with_reducible refine rd_powI ?hc ?_); (case hc => exact ⟨by decide, by decide, by decide⟩))
  | with_reducible refine rd_lst ?_
  | with_reducible refine rd_tup ?_
  | ((with_reducible refine rd_sz ?hv ?_); (case hv => exact rfl))
  | with_reducible refine rd_and ?_
  | with_reducible refine rd_or ?_
  | with_reducible refine rd_not ?_
  | with_reducible refine rd_andV ?_
  | with_reducible refine rd_orV ?_
  | with_reducible refine rd_notV ?_
  | with_reducible refine rd_ifE ?_
  | with_reducible refine rd_T ?_
  | with_reducible refine rd_F ?_
  | with_reducible refine rd_chain ?_
  | with_reducible refine rd_is ?_
  | with_reducible refine rd_isNot ?_
  | with_reducible refine rd_absI ?_
  | with_reducible refine rd_maxI ?_
  | with_reducible refine rd_minI ?_
  | with_reducible refine rd_intI ?_
  | with_reducible refine rd_intB ?_
  | with_reducible refine rd_sub ?_
  | with_reducible refine rd_sl ?_
  | with_reducible refine rd_noPart ?_
  | with_reducible refine rd_part ?_
  | with_reducible refine rd_exI ?_
  | with_reducible refine rd_bm ?_
  | with_reducible refine rd_bm0 ?_
  | with_reducible refine rd_un ?_
  | with_reducible refine rd_neg ?_
  | with_reducible refine rd_c2 ?_
  | with_reducible refine rd_retN ?_
  | with_reducible refine rd_break ?_
  | with_reducible refine rd_cont ?_
  | with_reducible refine rd_for ?_
  | with_reducible refine rd_rng1 ?_
  | with_reducible refine rd_rng2 ?_
  | with_reducible refine rd_iList ?_
  | with_reducible refine rd_iTup ?_
  | with_reducible refine rd_iEnum ?_
  | ((with_reducible refine rd_forR ?h0 ?h1 ?_); (case h0 => omega); (case h1 => omega))
  | with_reducible refine rd_lc ?_
  | with_reducible refine rd_gcons ?_
  | with_reducible refine rd_gnil ?_
  | with_reducible refine rd_dget ?_
  | with_reducible refine rd_dput ?_
  | with_reducible refine rd_dnew ?_
  | with_reducible refine rd_dc ?_
  | with_reducible refine rd_iItems ?_
  | with_reducible refine rd_iKeys ?_
  | with_reducible refine rd_din ?_
  | with_reducible refine rd_lc2 ?_
  | with_reducible refine rd_cd ?_
  | with_reducible refine rd_par ?_
  | with_reducible refine rd_two ?_
  | with_reducible refine rd_reprB ?_
  | with_reducible refine rd_ck ?_
  | ((with_reducible refine rd_len ?hl ?_); (case hl => exact rfl))
  | with_reducible refine rd_nT ?_
  | with_reducible refine rd_nF ?_
  | with_reducible refine rd_dnin ?_
  | with_reducible refine rd_isB ?_
  | with_reducible refine rd_isNotB ?_
  | with_reducible refine rd_daug ?_
  | with_reducible refine rd_yesT ?_
  | ((with_reducible refine rd_wp ?hw ?_); (case hw => exact rfl)))
local macro_rules | `(tactic| wtm_at "rd") => `(tactic| repeat wtm_at "rd1")

def spStem : Sp := fun vs H Q _ => ∃ p : Addr, vs = [.ref p] ∧ PoolAt H p ∧ ∀ (t : Str) (H' : Hp), Go p H H' → IsTail t → Q (.str t) H'
def spNamesB : Sp := fun vs H Q _ => ∃ (p : Addr) (many : Int), vs = [.ref p, .int many] ∧ 0 ≤ many ∧ many ≤ 26 ∧ PoolAt H p ∧
  ∀ (l : Addr) (ws : List Str) (H' : Hp), Go p H H' → H l = none → H' l = some (.lst (ws.map V.str)) → NamesU ws → ws.length = many.toNat → Q (.ref l) H'
abbrev spNames : Sp := spNamesB
theorem rd_join {K : PySem.W.Frag} {H : Hp} {Q : VK} {p : Addr} {cs : List Nat} (hp : SqL K H p ((cs.map fun c => (⟨#[c]⟩ : Str)).map V.str)) (hl : cs.length ≤ 100) (h : Q (.str (Txt.join ("" : Str) (cs.map fun c => ⟨#[c]⟩))) H) :
    ∃ a p', ∃ ys : List Str, V.str ("" : Str) = .str a ∧ [V.ref p] = [.ref p'] ∧ (SqL K H p' (ys.map V.str) ∨ SqT K H p' (ys.map V.str)) ∧ (ys.map (·.length)).sum + ys.length * a.length ≤ 16777216 ∧ Q (.str (Txt.join a ys)) H := by
  refine ⟨_, p, _, rfl, rfl, .inl hp, ?_, h⟩
  have e : ((cs.map fun c => (⟨#[c]⟩ : Str)).map (·.length)).sum = cs.length := by
    clear hp h hl
    induction cs with
    | nil => rfl
    | cons c r ih =>
      rw [List.map_cons, List.map_cons, List.sum_cons, ih, List.length_cons]
      show 1 + r.length = r.length + 1
      omega
  rw [e]
  show cs.length + (cs.map _).length * 0 ≤ 16777216
  omega
theorem rd_m1 {r : V → List V → Hp → VK → Prop} {to te : TE} {σ : L2.St} {H : Hp} {Q : VK} (h : to σ H fun x H1 => (∃ a, x = .str a) ∧ te σ H1 fun y H2 => r x [y] H2 Q) : tM1 r to te σ H Q := h
section
variable {P : Program} {w : World} {K : PySem.W.Frag} {mg : Str → Option Value} {base : Heap}
structure B2a (P : Program) (w : World) (K : PySem.W.Frag) (mg : Str → Option Value) (base : Heap) : Prop where
  _law_draw : Cal P w K mg base CX0 1 "_law_draw" spDraw
theorem ok_stem {f : Addr} {fd : FuncData} (F : Fun K "_law_stem" "_law_stem" s__law_stem f fd) (B : Bt mg) (C : B2a P w K mg base) : FnG P w K mg base CX0 2 f fd ["_law_source"] spStem := by
  refine fnG0 F sc__law_stem (fun vs H Q E h => ?_) (fun cdv A outer s H vs Q E hr h => ?_)
  · obtain ⟨p, rfl, _⟩ := h
    rfl
  · obtain ⟨p, rfl, hp, q⟩ := h
    have nd := sc__law_stem.nd
    refine ⟨_, (pss_one (ps_ret (pe_join pe_str (pe_lc (own := [("_law_k", 1)]) rfl nd (pi_range1 rfl B.range (pa_cons (pe_c C._law_draw hr (by decide) rfl (pa_cons (pv 0) (pa_cons pe_int pa_nil))) pa_nil)) (blkOk_by (own := [("_law_k", 1)]) (N := nN__law_stem) (sc := defScope s__law_stem) (by decide +kernel)) (fun _ _ _ _ _ => (pg_name (i := 1) nd rfl (by first | exact Or.inl rfl | exact Or.inr rfl))) (fun _ _ _ _ _ => pts_nil) (fun _ _ _ _ _ => (pe_ix (kIx K rfl) pe_str (pe_c C._law_draw hr (by decide) rfl (pa_cons (pv 0) (pa_cons pe_int pa_nil))) (fun _ _ => rfl))))))), ?_⟩
    wtm_at "rd"
    refine rd_m1 ?_
    wtm_at "rd"
    refine ⟨⟨_, rfl⟩, ?_⟩
    wtm_at "rd"
    refine use_draw hp (by decide) (by decide) fun r H1 r0 r1 g1 => ?_
    wtm_at "rd"
    intro D fD
    have npD := g1.pool.ne fD
    have fD0 := g1.free _ fD
    refine lcR (fun i H' => ∃ cs : List Nat, cs.length = i ∧ (∀ c ∈ cs, 97 ≤ c ∧ c ≤ 122) ∧ Go p H H' ∧ H' D = some (.lst ((cs.map fun c => (⟨#[c]⟩ : Str)).map V.str))) ⟨[], rfl, (fun c h => nomatch h), g1.new fD, upd_same⟩ ?_ ?_
    · rintro i H' hi ⟨cs, rfl, hc, g, hD⟩
      wtm_at "rd"
      refine use_draw g.pool (by decide) (by decide) fun d H2 d0 d1 g2 => ?_
      refine rd_ixS letters_len (letters_at d0 d1) ?_
      have hD2 := g2.at hD (Ne.symm npD)
      refine rd_acc hD2 (by rw [List.length_map, List.length_map]; omega) ?_
      refine ⟨cs ++ [97 + d.toNat], by rw [List.length_append]; rfl, fun c h => ?_, (g.trans g2).put fD0 npD, ?_⟩
      · rcases List.mem_append.mp h with h | h
        · exact hc c h
        · rw [List.mem_singleton] at h
          omega
      · rw [upd_same, List.map_append, List.map_append]
        rfl
    · rintro H' ⟨cs, hl, hc, g, hD⟩
      refine rd_join (SqL.of hD) (by omega) ?_
      wtm_at "rd"
      exact q _ _ g (tail_join (by omega) hc)
structure B2b (P : Program) (w : World) (K : PySem.W.Frag) (mg : Str → Option Value) (base : Heap) : Prop where
  _law_draw : Cal P w K mg base CX0 1 "_law_draw" spDraw
  _law_stem : Cal P w K mg base CX0 2 "_law_stem" spStem
theorem ok_namesB {f : Addr} {fd : FuncData} (F : Fun K "_law_random_names" "_law_random_names" s__law_random_names f fd) (B : Bt mg) (C : B2b P w K mg base) : FnG P w K mg base CX0 3 f fd ["_law_source", "_law_count"] spNamesB := by
  refine fnG0 F sc__law_random_names (fun vs H Q E h => ?_) (fun cdv A outer s H vs Q E hr h => ?_)
  · obtain ⟨p, many, rfl, _⟩ := h
    rfl
  · obtain ⟨p, many, rfl, m0, m1, hp, q⟩ := h
    have nd := sc__law_random_names.nd
    refine ⟨_, (pss_cons (ps_set (i := 2) nd rfl (by first | exact Or.inl rfl | exact Or.inr rfl) (pe_c C._law_draw hr (by decide) rfl (pa_cons (pv 0) (pa_cons pe_int pa_nil))))
  (pss_cons (ps_set (i := 3) nd rfl (by first | exact Or.inl rfl | exact Or.inr rfl) (pe_c C._law_draw hr (by decide) rfl (pa_cons (pv 0) (pa_cons pe_int pa_nil))))
  (pss_cons (ps_set (i := 4) nd rfl (by first | exact Or.inl rfl | exact Or.inr rfl) (pe_c C._law_draw hr (by decide) rfl (pa_cons (pv 0) (pa_cons pe_int pa_nil))))
  (pss_cons (ps_set (i := 5) nd rfl (by first | exact Or.inl rfl | exact Or.inr rfl) (pe_ix (kIx K rfl) (pe_lst (pa_cons pe_int (pa_cons pe_int (pa_cons pe_int (pa_cons pe_int pa_nil))))) (pe_c C._law_draw hr (by decide) rfl (pa_cons (pv 0) (pa_cons pe_int pa_nil))) (fun _ _ => rfl)))
  (pss_cons (ps_set (i := 6) nd rfl (by first | exact Or.inl rfl | exact Or.inr rfl) (pe_c C._law_stem hr (by decide) rfl (pa_cons (pv 0) pa_nil)))
  (pss_cons (ps_set (i := 7) nd rfl (by first | exact Or.inl rfl | exact Or.inr rfl) (pe_lst pa_nil))
  (pss_cons (ps_for PassesOwn.never rfl (pi_range1 rfl B.range (pa_cons (pv 1) pa_nil)) (pg_name (i := 8) nd rfl (by first | exact Or.inl rfl | exact Or.inr rfl)) (C8.pss_cut (ps_if (pt_cmpR uGt (pv 3) pe_int (nomark _)) (pss_one (ps_set (i := 6) nd rfl (by first | exact Or.inl rfl | exact Or.inr rfl) (pe_c C._law_stem hr (by decide) rfl (pa_cons (pv 0) pa_nil)))) pss_nil)
  (pss_cons (ps_set (i := 9) nd rfl (by first | exact Or.inl rfl | exact Or.inr rfl) (pe_ix (kIx K rfl) pe_str (pe_op uMod (pe_op (kAdd K rfl) (pe_op uMul (pv 8) (pv 5)) (pv 4)) pe_int) (fun _ _ => rfl)))
  (pss_one (ps_expr (pe_bm PySem.F.plainAttrs_list PySem.F.slot_list_append PySem.F.type_list_append mt_append (pv 7) (pa_cons (pe_ifExp (pt_cmpR (kEq K rfl hr.u64) (pv 2) pe_int (nomark _)) (pe_op (kAdd K rfl) (pv 9) (pv 6)) (pe_op (kAdd K rfl) (pv 6) (pv 9))) pa_nil)))))))
  (pss_one (ps_ret (pv 7)))))))))), ?_⟩
    wtm_at "rd"
    refine use_draw hp (by decide) (by decide) fun b H1 b0 b1 g1 => ?_
    wtm_at "rd"
    refine use_draw g1.pool (by decide) (by decide) fun alike H2 a0 a1 g => ?_
    have g2 := g1.trans g
    clear g g1
    wtm_at "rd"
    refine use_draw g2.pool (by decide) (by decide) fun shift H3 s0 s1 g => ?_
    have g3 := g2.trans g
    clear g g2
    wtm_at "rd"
    intro t ft
    have g4 := g3.new (o := .lst [.int 7, .int 1, .int 3, .int 11]) ft
    wtm_at "rd"
    refine use_draw g4.pool (by decide) (by decide) fun r H5 r0 r1 g => ?_
    have ht := g.at upd_same (g3.pool.ne ft).symm
    have g5 := g4.trans g
    clear g g4
    obtain ⟨step, hst, ist⟩ := pick4 (a := 7) (b := 1) (c := 3) (d := 11) r0 r1
    refine rd_ixL (SqL.of ht) hst ?_
    wtm_at "rd"
    refine ⟨p, rfl, g5.pool, fun t0 H6 g it0 => ?_⟩
    have g6 := g5.trans g
    clear g g5 g3 ht
    wtm_at "rd"
    intro l fl
    have npl := g6.pool.ne fl
    have fl0 := g6.free _ fl
    have g7 := g6.new (o := .lst []) fl
    wtm_at "rd"
    refine turnsR (fun i σ H' => ∃ (t : Str) (u8 u9 : Option V) (ws : List Str), σ = [some (.ref p), some (.int many), some (.int b), some (.int alike), some (.int shift), some (.int step), some (.str t), some (.ref l), u8, u9] ∧ IsTail t ∧ ws.length = i ∧ Wds (decide (b = 0)) shift step ws ∧ Go p H H' ∧ H' l = some (.lst (ws.map V.str))) ⟨t0, _, _, [], rfl, it0, rfl, Wds.nil, g7, upd_same⟩ ?_ ?_
    · rintro i σ H' hi ⟨t, u8, u9, ws, rfl, it, hwl, wd, g, hl⟩
      wtm_at "rd"
      refine ⟨fun σ' H2 => ∃ (t : Str) (u9 : Option V), σ' = [some (.ref p), some (.int many), some (.int b), some (.int alike), some (.int shift), some (.int step), some (.str t), some (.ref l), some (.int (0 + (i : Int))), u9] ∧ IsTail t ∧ Go p H H2 ∧ H2 l = some (.lst (ws.map V.str)), ?_, ?_⟩
      · wtm_at "rd"
        refine rd_split (fun c => ?_) (fun c => ?_)
        · wtm_at "rd"
          refine ⟨p, rfl, g.pool, fun t2 H2 g2 it2 => ?_⟩
          wtm_at "rd"
          exact ⟨t2, _, rfl, it2, g.trans g2, g2.at hl (Ne.symm npl)⟩
        · wtm_at "rd"
          exact ⟨t, _, rfl, it, g, hl⟩
      rintro σ' H2 ⟨t, u9, rfl, it, g, hl⟩
      have ir : 0 ≤ ((0 + (i : Int)) * step + shift) % 26 ∧ ((0 + (i : Int)) * step + shift) % 26 < 26 := by omega
      have e0 : 97 + (((0 + (i : Int)) * step + shift) % 26).toNat = 97 + (((ws.length : Int) * step + shift) % 26).toNat := by rw [hwl, Int.zero_add]
      wtm_at "rd"
      refine rd_ixS letters_len (letters_at ir.1 ir.2) ?_
      rw [e0]
      have tl := it.1
      have fin : ∀ z : Str, WdAt (decide (b = 0)) shift step ws.length z → Go p H (upd H2 l (.lst (ws.map V.str ++ [.str z]))) ∧ upd H2 l (.lst (ws.map V.str ++ [.str z])) l = some (.lst ((ws ++ [z]).map V.str)) ∧ Wds (decide (b = 0)) shift step (ws ++ [z]) := fun z hz =>
        ⟨g.put fl0 npl, by rw [upd_same, List.map_append]; rfl, wd.snoc hz⟩
      wtm_at "rd"
      refine rd_tyL hl ?_
      wtm_at "rd"
      generalize hch : (⟨#[97 + (((ws.length : Int) * step + shift) % 26).toNat]⟩ : Str) = ch
      have chl : ch.length = 1 := by rw [← hch]; rfl
      refine rd_split (fun c => ?_) (fun c => ?_)
      · wtm_at "rd"
        refine rd_addS (Nat.le_trans (Nat.add_le_add (Nat.le_of_eq chl) tl) (by decide)) ?_
        wtm_at "rd"
        refine rd_append hl (by rw [List.length_map]; omega) ?_
        obtain ⟨f1, f2, f3⟩ := fin (ch ++ t) ⟨t, it, by rw [decide_eq_true c, if_pos rfl, hch]⟩
        exact ⟨t, _, _, _, rfl, it, by rw [List.length_append, hwl]; rfl, f3, f1, f2⟩
      · wtm_at "rd"
        refine rd_addS (Nat.le_trans (Nat.add_le_add tl (Nat.le_of_eq chl)) (by decide)) ?_
        wtm_at "rd"
        refine rd_append hl (by rw [List.length_map]; omega) ?_
        obtain ⟨f1, f2, f3⟩ := fin (t ++ ch) ⟨t, it, by rw [decide_eq_false c, if_neg Bool.false_ne_true, hch]⟩
        exact ⟨t, _, _, _, rfl, it, by rw [List.length_append, hwl]; rfl, f3, f1, f2⟩
    · rintro σ H' ⟨t, u8, u9, ws, rfl, it, hwl, wd, g, hl⟩
      wtm_at "rd"
      exact q l ws H' g fl0 hl (wd.names ist (by omega)) hwl
end
end Law

/-! a pair among pairs; lists of lists of texts -/
namespace U
open PySem PySem.Spec PyProof.Rows L2
def rNinT (K : PySem.W.Frag) : R2 := fun x y H Q => ∃ (d : PyData) (ds : List PyData), Dp K H x d ∧ Dp K H y (.tuple ds) ∧ SeqAt.shaped d = true ∧ SeqAt.shaped (.tuple ds) = true ∧ Q (.bl (!ds.any fun z => PyData.eqv z d)) H
theorem kNinT {X : Cx} (K : PySem.W.Frag) (hK : X.K = K) (hu : X.A.units + 65 < cLine) : OpR X (compareOp .NotIn) (rNinT K) := by
  subst hK
  intro pins s σ H x y v u Q I rx ry ⟨d, ds, hd, he, sd, se, q⟩
  obtain ⟨_, r1⟩ := Dp.reads I _ _ _ hd rx
  obtain ⟨_, r2⟩ := Dp.reads I _ _ _ he ry
  exact SeqAt.notIn_tuple_reads r2 r1 (SeqAt.canLay_of_shaped se) (SeqAt.canLay_of_shaped sd) (room_in_shaped sd hu) ⟨.bl _, H, I, rfl, q⟩
theorem kNinL {X : Cx} (K : PySem.W.Frag) (hK : X.K = K) (hu : X.A.units + 65 < cLine) : OpR X (compareOp .NotIn) (rNotInD K) := by
  subst hK
  exact op_notInD hu
abbrev dE (e : Str × Str) : PyData := .tuple [.str e.1, .str e.2]
theorem eqv_dE {a b : Str × Str} : PyData.eqv (dE a) (dE b) = decide (a = b) := by
  obtain ⟨a1, a2⟩ := a
  obtain ⟨b1, b2⟩ := b
  rw [Bool.eq_iff_iff]
  simp [dE, PyData.eqv, PyData.eqvAll]
theorem any_dE {es : List (Str × Str)} {e : Str × Str} : ((es.map dE).any fun z => PyData.eqv z (dE e)) = decide (e ∈ es) := by
  rw [Bool.eq_iff_iff, List.any_eq_true, decide_eq_true_iff]
  constructor
  · rintro ⟨z, hz, h⟩
    obtain ⟨y, hy, rfl⟩ := List.mem_map.mp hz
    rw [eqv_dE, decide_eq_true_iff] at h
    rw [← h]
    exact hy
  · intro h
    exact ⟨_, List.mem_map_of_mem h, by rw [eqv_dE]; exact decide_eq_true rfl⟩
theorem dp_edges {K : PySem.W.Frag} {H : Hp} : ∀ {es : List (Addr × Str × Str)}, (∀ x ∈ es, SqT K H x.1 [.str x.2.1, .str x.2.2]) → DpAll K H (es.map fun x => V.ref x.1) ((es.map (·.2)).map dE)
  | [], _ => .nil
  | x :: r, h => .cons (.tup (h x List.mem_cons_self) (.cons (.str _) (.cons (.str _) .nil))) (dp_edges fun y hy => h y (List.mem_cons_of_mem _ hy))
theorem can_edges : ∀ {es : List (Str × Str)}, (∀ e ∈ es, PyData.strOk e.1 = true ∧ PyData.strOk e.2 = true) → PyData.canLayAll0 (es.map dE) = true ∧ PyData.depthAll (es.map dE) ≤ 1
  | [], _ => by simp [PyData.canLayAll0, PyData.depthAll]
  | e :: r, h => by
    obtain ⟨a, b⟩ := can_edges (es := r) fun y hy => h y (List.mem_cons_of_mem _ hy)
    obtain ⟨h1, h2⟩ := h e List.mem_cons_self
    have c : (dE e).canLay0 = true := by simp [dE, PyData.canLay0, PyData.canLayAll0, h1, h2]
    have d : (dE e).depth = 1 := by simp [dE, PyData.depth, PyData.depthAll]
    rw [List.map_cons, PyData.canLayAll0, PyData.depthAll, a, c, d]
    exact ⟨rfl, by omega⟩
theorem shaped_edge {e : Str × Str} (h : PyData.strOk e.1 = true ∧ PyData.strOk e.2 = true) : SeqAt.shaped (dE e) = true := by
  unfold SeqAt.shaped
  simp [dE, PyData.canLay0, PyData.canLayAll0, PyData.depth, PyData.depthAll, h.1, h.2]
theorem shaped_edgesT {es : List (Str × Str)} (h : ∀ e ∈ es, PyData.strOk e.1 = true ∧ PyData.strOk e.2 = true) : SeqAt.shaped (.tuple (es.map dE)) = true := by
  obtain ⟨a, b⟩ := can_edges h
  unfold SeqAt.shaped
  rw [PyData.canLay0, a, PyData.depth, decide_eq_true (by omega)]
  rfl
theorem shaped_edgesL {es : List (Str × Str)} (h : ∀ e ∈ es, PyData.strOk e.1 = true ∧ PyData.strOk e.2 = true) : SeqAt.shaped (.list (es.map dE)) = true := by
  obtain ⟨a, b⟩ := can_edges h
  unfold SeqAt.shaped
  rw [PyData.canLay0, a, PyData.depth, decide_eq_true (by omega)]
  rfl
theorem rd_ninTE {K : PySem.W.Frag} {H : Hp} {Q : VK} {p q : Addr} {e : Str × Str} {es : List (Addr × Str × Str)} (hp : SqT K H p [.str e.1, .str e.2]) (hq : SqT K H q (es.map fun x => V.ref x.1)) (pr : ∀ x ∈ es, SqT K H x.1 [.str x.2.1, .str x.2.2])
    (o1 : PyData.strOk e.1 = true ∧ PyData.strOk e.2 = true) (o2 : ∀ x ∈ es.map (·.2), PyData.strOk x.1 = true ∧ PyData.strOk x.2 = true) (h : Q (.bl (!decide (e ∈ es.map (·.2)))) H) : rNinT K (.ref p) (.ref q) H Q := by
  refine ⟨dE e, _, .tup hp (.cons (.str _) (.cons (.str _) .nil)), .tup hq (dp_edges pr), shaped_edge o1, shaped_edgesT o2, ?_⟩
  rw [any_dE]
  exact h
theorem rd_ninLE {K : PySem.W.Frag} {H : Hp} {Q : VK} {p q : Addr} {e : Str × Str} {es : List (Addr × Str × Str)} (hp : SqT K H p [.str e.1, .str e.2]) (hq : SqL K H q (es.map fun x => V.ref x.1)) (pr : ∀ x ∈ es, SqT K H x.1 [.str x.2.1, .str x.2.2])
    (o1 : PyData.strOk e.1 = true ∧ PyData.strOk e.2 = true) (o2 : ∀ x ∈ es.map (·.2), PyData.strOk x.1 = true ∧ PyData.strOk x.2 = true) (h : Q (.bl (!decide (e ∈ es.map (·.2)))) H) : rNotInD K (.ref p) (.ref q) H Q := by
  refine ⟨dE e, _, .tup hp (.cons (.str _) (.cons (.str _) .nil)), .lst hq (dp_edges pr), shaped_edge o1, shaped_edgesL o2, ?_⟩
  rw [any_dE]
  exact h
/-! lists of lists of texts -/
abbrev dLL (cs : List (List Str)) : PyData := .list (cs.map fun c => .list (c.map PyData.str))
theorem dp_LL {K : PySem.W.Frag} {H : Hp} {l : Addr} {cs : List (Addr × List Str)} (hl : SqL K H l (cs.map fun c => V.ref c.1)) (h : ∀ c ∈ cs, SqL K H c.1 (c.2.map V.str)) : Dp K H (.ref l) (dLL (cs.map (·.2))) := by
  refine .lst hl ?_
  clear hl
  induction cs with
  | nil => exact .nil
  | cons c r ih => exact .cons (.lst (h c List.mem_cons_self) (dp_strs _)) (ih fun d hd => h d (List.mem_cons_of_mem _ hd))
theorem shaped_LL {cs : List (List Str)} (h : ∀ c ∈ cs, ∀ x ∈ c, PyData.strOk x = true) : SeqAt.shaped (dLL cs) = true := by
  have key : PyData.canLayAll0 (cs.map fun c => .list (c.map PyData.str)) = true ∧ PyData.depthAll (cs.map fun c => .list (c.map PyData.str)) ≤ 1 := by
    induction cs with
    | nil => simp [PyData.canLayAll0, PyData.depthAll]
    | cons c r ih =>
      obtain ⟨a, b⟩ := ih fun d hd => h d (List.mem_cons_of_mem _ hd)
      rw [List.map_cons, PyData.canLayAll0, PyData.depthAll, PyData.canLay0, PyData.depth, canLay_strs (h c List.mem_cons_self), depth_strs, a]
      exact ⟨rfl, by omega⟩
  unfold SeqAt.shaped
  rw [dLL, PyData.canLay0, key.1, PyData.depth, decide_eq_true (by omega)]
  rfl
end U

/-! a random problem: the graph, the state, the pins -/
namespace U
open PySem PySem.Spec PyProof.Rows L2
abbrev dP (e : Int × Int) : PyData := .tuple [.int e.1, .int e.2]
theorem eqv_dP {a b : Int × Int} : PyData.eqv (dP a) (dP b) = decide (a = b) := by
  obtain ⟨a1, a2⟩ := a
  obtain ⟨b1, b2⟩ := b
  rw [Bool.eq_iff_iff]
  simp [dP, PyData.eqv, PyData.eqvAll]
theorem any_dP {es : List (Int × Int)} {e : Int × Int} : ((es.map dP).any fun z => PyData.eqv z (dP e)) = decide (e ∈ es) := by
  rw [Bool.eq_iff_iff, List.any_eq_true, decide_eq_true_iff]
  constructor
  · rintro ⟨z, hz, h⟩
    obtain ⟨y, hy, rfl⟩ := List.mem_map.mp hz
    rw [eqv_dP, decide_eq_true_iff] at h
    rw [← h]
    exact hy
  · intro h
    exact ⟨_, List.mem_map_of_mem h, by rw [eqv_dP]; exact decide_eq_true rfl⟩
theorem dp_prs {K : PySem.W.Frag} {H : Hp} : ∀ {es : List (Addr × Int × Int)}, (∀ x ∈ es, SqT K H x.1 [.int x.2.1, .int x.2.2]) → DpAll K H (es.map fun x => V.ref x.1) ((es.map (·.2)).map dP)
  | [], _ => .nil
  | x :: r, h => .cons (.tup (h x List.mem_cons_self) (.cons (.int _) (.cons (.int _) .nil))) (dp_prs fun y hy => h y (List.mem_cons_of_mem _ hy))
theorem can_prs : ∀ {es : List (Int × Int)}, PyData.canLayAll0 (es.map dP) = true ∧ PyData.depthAll (es.map dP) ≤ 1
  | [] => by simp [PyData.canLayAll0, PyData.depthAll]
  | e :: r => by
    obtain ⟨a, b⟩ := can_prs (es := r)
    have c : (dP e).canLay0 = true := by simp [dP, PyData.canLay0, PyData.canLayAll0]
    have d : (dP e).depth = 1 := by simp [dP, PyData.depth, PyData.depthAll]
    rw [List.map_cons, PyData.canLayAll0, PyData.depthAll, a, c, d]
    exact ⟨rfl, by omega⟩
theorem rd_ninLP {K : PySem.W.Frag} {H : Hp} {Q : VK} {p q : Addr} {e : Int × Int} {es : List (Addr × Int × Int)} (hp : SqT K H p [.int e.1, .int e.2]) (hq : SqL K H q (es.map fun x => V.ref x.1)) (pr : ∀ x ∈ es, SqT K H x.1 [.int x.2.1, .int x.2.2])
    (h : Q (.bl (!decide (e ∈ es.map (·.2)))) H) : rNotInD K (.ref p) (.ref q) H Q := by
  refine ⟨dP e, _, .tup hp (.cons (.int _) (.cons (.int _) .nil)), .lst hq (dp_prs pr), ?_, ?_, ?_⟩
  · unfold SeqAt.shaped
    simp [dP, PyData.canLay0, PyData.canLayAll0, PyData.depth, PyData.depthAll]
  · obtain ⟨a, b⟩ := can_prs (es := es.map (·.2))
    unfold SeqAt.shaped
    rw [PyData.canLay0, a, PyData.depth, decide_eq_true (by omega)]
    rfl
  · rw [any_dP]
    exact h
/-- values by names -/
def fV : List Str → List Int → Str → Int
  | w :: ws, v :: vs, x => if x = w then v else fV ws vs x
  | _, _, _ => 0
theorem fV_at : ∀ {ws : List Str} {vs : List Int}, ws.Nodup → ∀ (j : Nat) (h : j < ws.length) (h2 : j < vs.length), fV ws vs ws[j] = vs[j]
  | w :: ws, v :: vs, nd, 0, _, _ => if_pos rfl
  | w :: ws, v :: vs, nd, j + 1, h, h2 => by
    have nd' := List.nodup_cons.mp nd
    have h' : j < ws.length := by simpa using h
    have h2' : j < vs.length := by simpa using h2
    have ne : ws[j] ≠ w := fun z => nd'.1 (z ▸ List.getElem_mem h')
    show (if ws[j] = w then v else fV ws vs ws[j]) = vs[j]
    rw [if_neg ne]
    exact fV_at nd'.2 j h' h2'
theorem getD_l {xs ys : List Int} {i : Nat} (h : i < xs.length) : (xs ++ ys).getD i 0 = xs.getD i 0 := by
  rw [List.getD_eq_getElem?_getD, List.getD_eq_getElem?_getD, List.getElem?_append_left h]
theorem getD_end {xs : List Int} {v : Int} : (xs ++ [v]).getD xs.length 0 = v := by
  rw [List.getD_eq_getElem?_getD, List.getElem?_append_right (Nat.le_refl _), Nat.sub_self]
  rfl
/-- pairs of places, each once, with other values -/
structure PrOk (vals : List Int) (prs : List (Nat × Nat)) : Prop where
  nd : prs.Nodup
  ok : ∀ x ∈ prs, x.1 < x.2 ∧ x.2 < vals.length ∧ vals.getD x.1 0 ≠ vals.getD x.2 0
theorem PrOk.nil {vals : List Int} : PrOk vals [] := ⟨List.nodup_nil, fun x h => nomatch h⟩
theorem PrOk.val {vals : List Int} {prs : List (Nat × Nat)} {v : Int} (h : PrOk vals prs) : PrOk (vals ++ [v]) prs := ⟨h.nd, fun x hx => by
  obtain ⟨a, b, c⟩ := h.ok x hx
  refine ⟨a, by rw [List.length_append]; omega, ?_⟩
  rw [getD_l (by omega), getD_l b]
  exact c⟩
theorem PrOk.add {vals : List Int} {prs : List (Nat × Nat)} {a b : Nat} (h : PrOk vals prs) (n : (a, b) ∉ prs) (h1 : a < b) (h2 : b < vals.length) (h3 : vals.getD a 0 ≠ vals.getD b 0) : PrOk vals (prs ++ [(a, b)]) := by
  refine ⟨?_, fun x hx => ?_⟩
  · rw [List.nodup_append]
    refine ⟨h.nd, by simp, fun x hx y hy e => ?_⟩
    rw [List.mem_singleton] at hy
    subst hy
    subst e
    exact n hx
  · rcases List.mem_append.mp hx with hx | hx
    · exact h.ok x hx
    · rw [List.mem_singleton] at hx
      subst hx
      exact ⟨h1, h2, h3⟩
theorem sort2 {a b : Str} {ys : List Str} (n : a ≠ b) (p : ys.Perm [a, b]) (s : ys.Pairwise fun a b => ¬ sLt b a) : ys = [(eOf a b).1, (eOf a b).2] := by
  have l := p.length_eq
  match ys, l with
  | [y1, y2], _ =>
    have m1 : y1 ∈ [a, b] := p.mem_iff.mp List.mem_cons_self
    have m2 : y2 ∈ [a, b] := p.mem_iff.mp (List.mem_cons_of_mem _ List.mem_cons_self)
    have ndp : [y1, y2].Nodup := p.nodup_iff.mpr (by simp [n])
    have ne : y1 ≠ y2 := by simpa using ndp
    have ns : ¬ sLt y2 y1 := by
      rw [List.pairwise_cons] at s
      exact s.1 y2 (List.mem_singleton.mpr rfl)
    simp only [List.mem_cons, List.not_mem_nil, or_false] at m1 m2
    unfold eOf
    rcases m1 with rfl | rfl <;> rcases m2 with rfl | rfl
    · exact absurd rfl ne
    · rw [if_pos (sLt_total ns ne)]
    · rw [if_neg ns]
    · exact absurd rfl ne
theorem nodup_ix {xs : List Str} (nd : xs.Nodup) {i j : Nat} {hi : i < xs.length} {hj : j < xs.length} (e : xs[i] = xs[j]) : i = j := by
  have h := List.pairwise_iff_getElem.mp (List.nodup_iff_pairwise_ne.mp nd)
  rcases Nat.lt_trichotomy i j with z | z | z
  · exact absurd e (h i j hi hj z)
  · exact z
  · exact absurd e.symm (h j i hj hi z)
theorem getDU {α : Type} {xs : List α} {i : Nat} {d : α} (h : i < xs.length) : xs.getD i d = xs[i] := by
  rw [List.getD_eq_getElem?_getD, List.getElem?_eq_getElem h]
  rfl
end U
namespace Law
open PySem PySem.Spec PyProof.Rows L2 U
local macro_rules | `(tactic| wtm_at "rd1") => `(tactic| first
  | with_reducible refine rd_seq ?_
  | ((with_reducible refine rd_var (v := ?vv) ?hv ?_); (case hv => exact rfl))
  | with_reducible refine rd_c ?_
  | with_reducible refine rd_cons ?_
  | with_reducible refine rd_nil ?_
  | with_reducible refine rd_op ?_
  | with_reducible refine rd_asg ?_
  | with_reducible refine rd_name ?_
  | with_reducible refine rd_c1 ?_
  | with_reducible refine rd_cb ?_
  | with_reducible refine rd_test ?_
  | with_reducible refine rd_B ?_
  | with_reducible refine rd_bl ?_
  | with_reducible refine rd_if ?_
  | with_reducible refine rd_ret ?_
  | with_reducible refine rd_drop ?_
  | with_reducible refine rd_next ?_
  | with_reducible refine rd_addI ?_
  | with_reducible refine rd_ltI ?_
  | with_reducible refine rd_eqI ?_
  | with_reducible refine rd_neI ?_
  | with_reducible refine rd_eqS ?_
  | with_reducible refine rd_neS ?_
  | with_reducible refine rd_gtI ?_
  | with_reducible refine rd_geI ?_
  | with_reducible refine rd_leI ?_
  | with_reducible refine rd_ltS ?_
  | with_reducible refine rd_subI ?_
  | ((with_reducible refine rd_modI ?hc ?_); (case hc => first | decide | omega))
  | ((with_reducible refine rd_mulI ?hc ?_); (case hc => first | exact mul_bI | exact .inl (.inr (by decide)) | exact .inl (.inl (by decide)) | exact .inl (.inr (by omega)) | exact .inl (.inl (by omega))))
  | ((with_reducible refine rd_divI ?hc ?_); (case hc => first | decide | omega))
  | ((with_reducible refine rd_powI ?hc ?_); (case hc => exact ⟨by decide, by decide, by decide⟩))
  | with_reducible refine rd_lst ?_
  | with_reducible refine rd_tup ?_
  | ((with_reducible refine rd_sz ?hv ?_); (case hv => exact rfl))
  | with_reducible refine rd_and ?_
  | with_reducible refine rd_or ?_
  | with_reducible refine rd_not ?_
  | with_reducible refine rd_andV ?_
  | with_reducible refine rd_orV ?_
  | with_reducible refine rd_notV ?_
  | with_reducible refine rd_ifE ?_
  | with_reducible refine rd_T ?_
  | with_reducible refine rd_F ?_
  | with_reducible refine rd_chain ?_
  | with_reducible refine rd_is ?_
  | with_reducible refine rd_isNot ?_
  | with_reducible refine rd_absI ?_
  | with_reducible refine rd_maxI ?_
  | with_reducible refine rd_minI ?_
  | with_reducible refine rd_intI ?_
  | with_reducible refine rd_intB ?_
  | with_reducible refine rd_sub ?_
  | with_reducible refine rd_sl ?_
  | with_reducible refine rd_noPart ?_
  | with_reducible refine rd_part ?_
  | with_reducible refine rd_exI ?_
  | with_reducible refine rd_bm ?_
  | with_reducible refine rd_bm0 ?_
  | with_reducible refine rd_un ?_
  | with_reducible refine rd_neg ?_
  | with_reducible refine rd_c2 ?_
  | with_reducible refine rd_retN ?_
  | with_reducible refine rd_break ?_
  | with_reducible refine rd_cont ?_
  | with_reducible refine rd_for ?_
  | with_reducible refine rd_rng1 ?_
  | with_reducible refine rd_rng2 ?_
  | with_reducible refine rd_iList ?_
  | with_reducible refine rd_iTup ?_
  | with_reducible refine rd_iEnum ?_
  | ((with_reducible refine rd_forR ?h0 ?h1 ?_); (case h0 => omega); (case h1 => omega))
  | with_reducible refine rd_lc ?_
  | with_reducible refine rd_gcons ?_
  | with_reducible refine rd_gnil ?_
  | with_reducible refine rd_dget ?_
  | with_reducible refine rd_dput ?_
  | with_reducible refine rd_dnew ?_
  | with_reducible refine rd_dc ?_
  | with_reducible refine rd_iItems ?_
  | with_reducible refine rd_iKeys ?_
  | with_reducible refine rd_din ?_
  | with_reducible refine rd_lc2 ?_
  | with_reducible refine rd_cd ?_
  | with_reducible refine rd_par ?_
  | with_reducible refine rd_two ?_
  | with_reducible refine rd_reprB ?_
  | with_reducible refine rd_ck ?_
  | ((with_reducible refine rd_len ?hl ?_); (case hl => exact rfl))
  | with_reducible refine rd_nT ?_
  | with_reducible refine rd_nF ?_
  | with_reducible refine rd_dnin ?_
  | with_reducible refine rd_isB ?_
  | with_reducible refine rd_isNotB ?_
  | with_reducible refine rd_daug ?_
  | with_reducible refine rd_yesT ?_
  | ((with_reducible refine rd_wp ?hw ?_); (case hw => exact rfl)))
local macro_rules | `(tactic| wtm_at "rd") => `(tactic| repeat wtm_at "rd1")

abbrev iP (x : Nat × Nat) : Int × Int := ((x.1 : Int), (x.2 : Int))
/-- values and pairs being made -/
structure BK (H0 : Hp) (p vA pA : Addr) (vals : List Int) (prs : List (Addr × Nat × Nat)) (H : Hp) : Prop where
  go : Go p H0 H
  hv : H vA = some (.lst (vals.map V.int))
  hp : H pA = some (.lst (prs.map fun x => V.ref x.1))
  tp : ∀ x ∈ prs, H x.1 = some (.tup [.int (x.2.1 : Nat), .int (x.2.2 : Nat)])
structure BN (H0 : Hp) (p vA pA : Addr) : Prop where
  fv : H0 vA = none
  fp : H0 pA = none
  vp : vA ≠ p
  pp : pA ≠ p
  vq : vA ≠ pA
section
variable {H0 H H2 : Hp} {p vA pA : Addr} {vals : List Int} {prs : List (Addr × Nat × Nat)}
theorem PoolAt.offTB {q : Addr} {xs : List V} (h : PoolAt H p) (hq : H q = some (.tup xs)) : q ≠ p := by
  rintro rfl
  obtain ⟨ys, h⟩ := h.isL
  rw [hq] at h
  cases h
theorem BK.new (b : BK H0 p vA pA vals prs H) {t : Addr} {o : HO} (f : H t = none) : BK H0 p vA pA vals prs (upd H t o) :=
  ⟨b.go.new f, at_upd (ne_of_none b.hv f) b.hv, at_upd (ne_of_none b.hp f) b.hp, fun x hx => at_upd (ne_of_none (b.tp x hx) f) (b.tp x hx)⟩
theorem BK.step (b : BK H0 p vA pA vals prs H) (n : BN H0 p vA pA) (g : Go p H H2) : BK H0 p vA pA vals prs H2 :=
  ⟨b.go.trans g, g.at b.hv n.vp, g.at b.hp n.pp, fun x hx => g.at (b.tp x hx) (b.go.pool.offTB (b.tp x hx))⟩
theorem BK.val (b : BK H0 p vA pA vals prs H) (n : BN H0 p vA pA) {v : Int} : BK H0 p vA pA (vals ++ [v]) prs (upd H vA (.lst (vals.map V.int ++ [.int v]))) :=
  ⟨b.go.put n.fv (Ne.symm n.vp), by rw [upd_same, List.map_append]; rfl, at_upd (Ne.symm n.vq) b.hp, fun x hx => at_upd (ne_of (b.tp x hx) b.hv (by intro z; cases z)) (b.tp x hx)⟩
theorem BK.pair (b : BK H0 p vA pA vals prs H) (n : BN H0 p vA pA) {t : Addr} {x y : Nat} (ht : H t = some (.tup [.int (x : Nat), .int (y : Nat)])) : BK H0 p vA pA vals (prs ++ [(t, x, y)]) (upd H pA (.lst ((prs.map fun x => V.ref x.1) ++ [.ref t]))) :=
  ⟨b.go.put n.fp (Ne.symm n.pp), at_upd n.vq b.hv, by rw [upd_same, List.map_append]; rfl, fun z hz => by
    rcases List.mem_append.mp hz with hz | hz
    · exact at_upd (ne_of (b.tp z hz) b.hp (by intro z; cases z)) (b.tp z hz)
    · rw [List.mem_singleton] at hz
      subst hz
      exact at_upd (ne_of ht b.hp (by intro z; cases z)) ht⟩
end
theorem Go.same {p : Addr} {H H1 H2 : Hp} (a : Go p H H1) (s : Same H1 H2) : Go p H H2 := a.trans (Go.of_same a.pool s)
def PrsAt (H : Hp) (es : List (Addr × Str × Str)) : Prop := ∀ x ∈ es, H x.1 = some (.tup [.str x.2.1, .str x.2.2])
theorem PrsAt.same {H H' : Hp} {es : List (Addr × Str × Str)} (h : PrsAt H es) (s : Same H H') : PrsAt H' es := fun x hx => s _ _ (h x hx)
theorem PrsAt.go {p : Addr} {H H' : Hp} {es : List (Addr × Str × Str)} (h : PrsAt H es) (hp : PoolAt H p) (g : Go p H H') : PrsAt H' es := fun x hx => g.at (h x hx) (hp.offTB (h x hx))
theorem asc_uniq {xs ys : List Str} (a : Asc xs) (b : Asc ys) (p : xs.Perm ys) : xs = ys := p.eq_of_pairwise (fun x y _ _ h1 h2 => absurd h2 (sLt_asymm h1)) a b
/-- a random problem -/
def spProblem : Sp := fun vs H Q _ => ∃ (p : Addr) (most : Int), vs = [.ref p, .int most] ∧ PoolAt H p ∧ 0 ≤ most ∧ most ≤ 25 ∧
  ∀ (t g n e st ps : Addr) (ns ord pn : List Str) (es : List (Addr × Str × Str)) (f : Str → Int) (H' : Hp), Go p H H' → H t = none → H g = none → H st = none → H ps = none → H' t = some (.tup [.ref g, .ref st, .ref ps]) → GrAt H' g n e ns es → GrOk ns (es.map (·.2)) → ord.Perm ns → (ns.length : Int) ≤ most → es.length ≤ 1000 →
    H' st = some (.dK (kvF ord f)) → (∀ x ∈ ns, 0 ≤ f x ∧ f x < 3) → (∀ x ∈ es, f x.2.1 ≠ f x.2.2) → H' ps = some (.tup (pn.map V.str)) → (∀ x ∈ pn, x ∈ ns) → pn.length ≤ ns.length → Asc pn → Q (.ref t) H'
section
variable {P : Program} {w : World} {K : PySem.W.Frag} {mg : Str → Option Value} {base : Heap}
structure B3a (P : Program) (w : World) (K : PySem.W.Frag) (mg : Str → Option Value) (base : Heap) : Prop where
  _law_draw : Cal P w K mg base CX0 1 "_law_draw" spDraw
  _law_random_names : Cal P w K mg base CX0 3 "_law_random_names" spNamesB
theorem ok_problem {f : Addr} {fd : FuncData} (F : Fun K "_law_random_problem" "_law_random_problem" s__law_random_problem f fd) (B : Bt mg) (C : B3a P w K mg base) : FnG P w K mg base CX0 4 f fd ["_law_source", "_law_most"] spProblem := by
  refine fnG0 F sc__law_random_problem (fun vs H Q E h => ?_) (fun cdv A outer s H vs Q E hr h => ?_)
  · obtain ⟨p, most, rfl, _⟩ := h
    rfl
  · obtain ⟨p, most, rfl, hp0, m0, m1, q⟩ := h
    have nd := sc__law_random_problem.nd
    have hu := hr.u1
    have hu65 : (A.deeper (envOfC "_law_random_problem" (defScope s__law_random_problem) s.heap.objs.size f cdv)).units + 65 < cLine := by
      have := hr.u100
      omega
    refine ⟨_, (pss_cons (ps_set (i := 2) nd rfl (by first | exact Or.inl rfl | exact Or.inr rfl) (pe_lst pa_nil))
  (pss_cons (ps_set (i := 3) nd rfl (by first | exact Or.inl rfl | exact Or.inr rfl) (pe_lst pa_nil))
  (pss_cons (ps_for PassesOwn.never rfl (pi_range1 rfl B.range (pa_cons (pe_c C._law_draw hr (by decide) rfl (pa_cons (pv 0) (pa_cons (pe_op (kAdd K rfl) (pv 1) pe_int) pa_nil))) pa_nil)) (pg_name (i := 4) nd rfl (by first | exact Or.inl rfl | exact Or.inr rfl)) (pss_cons (ps_set (i := 5) nd rfl (by first | exact Or.inl rfl | exact Or.inr rfl) (pe_c C._law_draw hr (by decide) rfl (pa_cons (pv 0) (pa_cons pe_int pa_nil))))
  (pss_cons (ps_set (i := 6) nd rfl (by first | exact Or.inl rfl | exact Or.inr rfl) (pe_c C._law_draw hr (by decide) rfl (pa_cons (pv 0) (pa_cons pe_int pa_nil))))
  (C8.pss_cut (ps_if (PW.pt (pw_and (pt_cmpR uGt (pv 4) pe_int (nomark _)) (pw_and1 (pt_cmpR uGt (pv 6) pe_int (nomark _))))) (C8.pss_cut (ps_set (i := 7) nd rfl (by first | exact Or.inl rfl | exact Or.inr rfl) (pe_ifExp (pt_cmpR uLt (pv 6) pe_int (nomark _)) (pe_op uSub (pv 4) pe_int) (pe_c C._law_draw hr (by decide) rfl (pa_cons (pv 0) (pa_cons (pv 4) pa_nil)))))
  (pss_cons (ps_set (i := 5) nd rfl (by first | exact Or.inl rfl | exact Or.inr rfl) (pe_op uMod (pe_op (kAdd K rfl) (pe_op (kAdd K rfl) (pe_ix (kIx K rfl) (pv 2) (pv 7) (fun _ _ => rfl)) pe_int) (pe_op uMod (pv 5) pe_int)) pe_int))
  (pss_one (ps_expr (pe_bm PySem.F.plainAttrs_list PySem.F.slot_list_append PySem.F.type_list_append mt_append (pv 3) (pa_cons (pe_tup (pa_cons (pv 7) (pa_cons (pv 4) pa_nil))) pa_nil)))))) pss_nil)
  (pss_one (ps_expr (pe_bm PySem.F.plainAttrs_list PySem.F.slot_list_append PySem.F.type_list_append mt_append (pv 2) (pa_cons (pv 5) pa_nil))))))))
  (pss_cons (ps_set (i := 8) nd rfl (by first | exact Or.inl rfl | exact Or.inr rfl) (pe_c C._law_draw hr (by decide) rfl (pa_cons (pv 0) (pa_cons pe_int pa_nil))))
  (pss_cons (ps_for PassesOwn.never rfl (pi_range1 rfl B.range (pa_cons (pe_callB (kLen K rfl) (by rfl) B.len bb_len (pa_cons (pv 2) pa_nil)) pa_nil)) (pg_name (i := 4) nd rfl (by first | exact Or.inl rfl | exact Or.inr rfl)) (pss_one (ps_for PassesOwn.never rfl (pi_range1 rfl B.range (pa_cons (pv 4) pa_nil)) (pg_name (i := 7) nd rfl (by first | exact Or.inl rfl | exact Or.inr rfl)) (pss_one (ps_if (PW.pt (pw_and (pt_cmpR (kNinL K rfl hu65) (pe_tup (pa_cons (pv 7) (pa_cons (pv 4) pa_nil))) (pv 3) rfl) (pw_and (pt_cmpR (kNe K rfl hr.u64) (pe_ix (kIx K rfl) (pv 2) (pv 7) (fun _ _ => rfl)) (pe_ix (kIx K rfl) (pv 2) (pv 4) (fun _ _ => rfl)) (nomark _)) (pw_and1 (pt_cmpR uLt (pe_c C._law_draw hr (by decide) rfl (pa_cons (pv 0) (pa_cons pe_int pa_nil))) (pv 8) (nomark _)))))) (pss_one (ps_expr (pe_bm PySem.F.plainAttrs_list PySem.F.slot_list_append PySem.F.type_list_append mt_append (pv 3) (pa_cons (pe_tup (pa_cons (pv 7) (pa_cons (pv 4) pa_nil))) pa_nil)))) pss_nil)))))
  (pss_cons (ps_set (i := 9) nd rfl (by first | exact Or.inl rfl | exact Or.inr rfl) (pe_c C._law_random_names hr (by decide) rfl (pa_cons (pv 0) (pa_cons (pe_callB (kLen K rfl) (by rfl) B.len bb_len (pa_cons (pv 2) pa_nil)) pa_nil))))
  (pss_cons (ps_set (i := 10) nd rfl (by first | exact Or.inl rfl | exact Or.inr rfl) (pe_callB (kSorted K rfl hr.u64) (by rfl) B.sorted bb_sorted (pa_cons (pe_lc (own := [("_law_one", 11), ("_law_other", 12)]) rfl nd (ki_list K rfl (pv 3)) (blkOk_by (own := [("_law_one", 11), ("_law_other", 12)]) (N := nN__law_random_problem) (sc := defScope s__law_random_problem) (by decide +kernel)) (fun _ _ _ _ _ => (kg_tup (n := 2) K rfl rfl (pgs_cons (pg_name (i := 11) nd rfl (by first | exact Or.inl rfl | exact Or.inr rfl)) (pgs_cons (pg_name (i := 12) nd rfl (by first | exact Or.inl rfl | exact Or.inr rfl)) pgs_nil)))) (fun _ _ _ _ _ => pts_nil) (fun _ _ _ _ _ => (pe_callTy (kTuple K rfl) (by rfl) B.tuple bb_tuple (pa_cons (pe_callB (kSorted K rfl hr.u64) (by rfl) B.sorted bb_sorted (pa_cons (pe_lst (pa_cons (pe_ix (kIx K rfl) (pv 9) (pv 11) (fun _ _ => rfl)) (pa_cons (pe_ix (kIx K rfl) (pv 9) (pv 12) (fun _ _ => rfl)) pa_nil))) pa_nil)) pa_nil)))) pa_nil)))
  (pss_cons (ps_set (i := 13) nd rfl (by first | exact Or.inl rfl | exact Or.inr rfl) pe_dnewK)
  (pss_cons (ps_for PassesOwn.never rfl (pi_range1 rfl B.range (pa_cons (pe_callB (kLen K rfl) (by rfl) B.len bb_len (pa_cons (pv 9) pa_nil)) pa_nil)) (pg_name (i := 4) nd rfl (by first | exact Or.inl rfl | exact Or.inr rfl)) (pss_one (ps_dput hu (pv 13) (pe_ix (kIx K rfl) (pv 9) (pv 4) (fun _ _ => rfl)) (pe_ix (kIx K rfl) (pv 2) (pv 4) (fun _ _ => rfl)) rfl)))
  (pss_cons (ps_set (i := 14) nd rfl (by first | exact Or.inl rfl | exact Or.inr rfl) (pe_c C._law_draw hr (by decide) rfl (pa_cons (pv 0) (pa_cons pe_int pa_nil))))
  (pss_cons (ps_setLc (i := 15) (own := [("_law_word", 16)]) rfl nd rfl rfl (sw_true rfl rfl rfl (by decide +kernel)) (ki_list K rfl (pe_callB (kSorted K rfl hr.u64) (by rfl) B.sorted bb_sorted (pa_cons (pv 9) pa_nil))) (blkOk_by (own := [("_law_word", 16)]) (N := nN__law_random_problem) (sc := defScope s__law_random_problem) (by decide +kernel)) (fun _ _ _ _ _ => (pg_name (i := 16) nd rfl (by first | exact Or.inl rfl | exact Or.inr rfl))) (fun _ _ _ _ _ => (pts_one (PW.pt (pw_and (pt_cmpR uGt (pv 14) pe_int (nomark _)) (pw_and1 (pt_cmpR (kEq K rfl hr.u64) (pe_c C._law_draw hr (by decide) rfl (pa_cons (pv 0) (pa_cons pe_int pa_nil))) pe_int (nomark _))))))) (fun _ _ _ _ _ => (pv 16)))
  (pss_one (ps_ret (pe_tup (pa_cons (pe_tup (pa_cons (pe_callTy (kTuple K rfl) (by rfl) B.tuple bb_tuple (pa_cons (pe_callB (kSorted K rfl hr.u64) (by rfl) B.sorted bb_sorted (pa_cons (pv 9) pa_nil)) pa_nil)) (pa_cons (pe_callTy (kTuple K rfl) (by rfl) B.tuple bb_tuple (pa_cons (pv 10) pa_nil)) pa_nil))) (pa_cons (pv 13) (pa_cons (pe_callTy (kTuple K rfl) (by rfl) B.tuple bb_tuple (pa_cons (pv 15) pa_nil)) pa_nil))))))))))))))))), ?_⟩
    wtm_at "rd"
    intro vA fvA
    have g1 := (Go.refl hp0).new (o := .lst []) fvA
    have hvA := @upd_same H vA (.lst [])
    have nvp := hp0.ne fvA
    generalize upd H vA (.lst []) = H1 at g1 hvA
    wtm_at "rd"
    intro pA fpA
    have bn : BN H p vA pA := ⟨fvA, g1.free _ fpA, Ne.symm nvp, Ne.symm (g1.pool.ne fpA), ne_of_none hvA fpA⟩
    have b2 : BK H p vA pA [] [] (upd H1 pA (.lst [])) := ⟨g1.new fpA, at_upd (ne_of_none hvA fpA) hvA, upd_same, fun x h => nomatch h⟩
    generalize upd H1 pA (.lst []) = H2 at b2
    clear fpA hvA g1 fvA
    wtm_at "rd"
    refine use_draw b2.go.pool (by omega) (by omega) fun many H3 c0 c1 g => ?_
    have b3 := b2.step bn g
    clear b2 g
    wtm_at "rd"
    refine turnsR (fun i σ H' => ∃ (vals : List Int) (prs : List (Addr × Nat × Nat)) (us : List (Option V)), us.length = 13 ∧ σ = some (.ref p) :: some (.int most) :: some (.ref vA) :: some (.ref pA) :: us ∧ BK H p vA pA vals prs H' ∧ vals.length = i ∧ (∀ v ∈ vals, 0 ≤ v ∧ v < 3) ∧ PrOk vals (prs.map (·.2)) ∧ prs.length ≤ i) ⟨[], [], _, by decide, rfl, b3, rfl, (fun v h => nomatch h), .nil, Nat.le_refl _⟩ ?_ ?_
    · rintro i σ H' hi ⟨vals, prs, us, lu, rfl, bk, hvl, v3, po, pl⟩
      obtain ⟨u4, u5, u6, u7, u8, u9, u10, u11, u12, u13, u14, u15, u16, rfl⟩ : ∃ u4 u5 u6 u7 u8 u9 u10 u11 u12 u13 u14 u15 u16, us = [u4, u5, u6, u7, u8, u9, u10, u11, u12, u13, u14, u15, u16] := by
        match us, lu with
        | [u4, u5, u6, u7, u8, u9, u10, u11, u12, u13, u14, u15, u16], _ => exact ⟨_, _, _, _, _, _, _, _, _, _, _, _, _, rfl⟩
      wtm_at "rd"
      refine use_draw bk.go.pool (by decide) (by decide) fun v Ha v0 v1 g => ?_
      have bk := bk.step bn g
      wtm_at "rd"
      refine use_draw bk.go.pool (by decide) (by decide) fun d Hb d0 d1 g => ?_
      have bk := bk.step bn g
      wtm_at "rd"
      refine ⟨fun σ' H2 => ∃ (v' : Int) (u7 : Option V) (prs' : List (Addr × Nat × Nat)), σ' = [some (.ref p), some (.int most), some (.ref vA), some (.ref pA), some (.int (0 + (i : Int))), some (.int v'), some (.int d), u7, u8, u9, u10, u11, u12, u13, u14, u15, u16] ∧ BK H p vA pA vals prs' H2 ∧ 0 ≤ v' ∧ v' < 3 ∧ PrOk (vals ++ [v']) (prs'.map (·.2)) ∧ prs'.length ≤ i + 1, ?_, ?_⟩
      · wtm_at "rd"
        refine rd_split (fun c1 => ?_) (fun c1 => ?_)
        · wtm_at "rd"
          refine rd_split (fun c2 => ?_) (fun c2 => ?_)
          · wtm_at "rd"
            refine ⟨fun σ' H2 => ∃ j : Nat, j < i ∧ σ' = [some (.ref p), some (.int most), some (.ref vA), some (.ref pA), some (.int (0 + (i : Int))), some (.int v), some (.int d), some (.int j), u8, u9, u10, u11, u12, u13, u14, u15, u16] ∧ BK H p vA pA vals prs H2, ?_, ?_⟩
            · wtm_at "rd"
              refine rd_split (fun c3 => ?_) (fun c3 => ?_)
              · wtm_at "rd"
                exact ⟨i - 1, by omega, by rw [show (0 + (i : Int) - 1) = ((i - 1 : Nat) : Int) from by omega]; rfl, bk⟩
              · wtm_at "rd"
                refine use_draw bk.go.pool (by omega) (by omega) fun r Hc r0 r1 g => ?_
                exact ⟨r.toNat, by omega, by rw [show r = (r.toNat : Int) from by omega]; rfl, bk.step bn g⟩
            rintro σ' Hc ⟨j, hj, rfl, bk⟩
            have hjv : j < vals.length := by omega
            wtm_at "rd"
            refine rd_ixL (SqL.of bk.hv) (v := .int vals[j]) (atI_nat (by rw [List.getElem?_map, List.getElem?_eq_getElem hjv]; rfl)) ?_
            have vj := v3 _ (List.getElem_mem hjv)
            have eg : vals.getD j 0 = vals[j] := getDU hjv
            generalize vals[j] = x at *
            wtm_at "rd"
            refine rd_tyL bk.hp ?_
            wtm_at "rd"
            intro t ft
            have e0 : (0 + (i : Int)) = (i : Int) := Int.zero_add _
            rw [e0]
            have bk := bk.new (o := .tup [.int (j : Nat), .int (i : Nat)]) ft
            have ht := @upd_same Hc t (.tup [.int (j : Nat), .int (i : Nat)])
            generalize upd Hc t (.tup [.int (j : Nat), .int (i : Nat)]) = Hd at bk ht
            wtm_at "rd"
            refine rd_append bk.hp (by rw [List.length_map]; omega) ?_
            refine ⟨_, _, prs ++ [(t, j, i)], rfl, bk.pair bn ht, by omega, by omega, ?_, by rw [List.length_append]; exact Nat.add_le_add_right pl 1⟩
            rw [List.map_append]
            refine po.val.add (fun z => ?_) hj (by rw [List.length_append, hvl]; exact Nat.lt_succ_self _) ?_
            · obtain ⟨_, z2, _⟩ := po.ok _ z
              omega
            · rw [getD_l hjv, eg, ← hvl, getD_end]
              omega
          · wtm_at "rd"
            exact ⟨_, _, _, rfl, bk, v0, v1, po.val, by omega⟩
        · wtm_at "rd"
          exact ⟨_, _, _, rfl, bk, v0, v1, po.val, by omega⟩
      rintro σ' Hc ⟨v', u7, prs', rfl, bk, v0', v1', po', pl'⟩
      wtm_at "rd"
      refine rd_tyL bk.hv ?_
      wtm_at "rd"
      refine rd_append bk.hv (by rw [List.length_map]; omega) ?_
      refine ⟨vals ++ [v'], prs', _, by rfl, rfl, bk.val bn, by rw [List.length_append, hvl]; rfl, fun z hz => ?_, po', pl'⟩
      rcases List.mem_append.mp hz with hz | hz
      · exact v3 z hz
      · rw [List.mem_singleton] at hz
        omega
    rintro σ H4 ⟨vals, prs, us, lu, rfl, bk, hvl, v3, po, pl⟩
    obtain ⟨u4, u5, u6, u7, u8, u9, u10, u11, u12, u13, u14, u15, u16, rfl⟩ : ∃ u4 u5 u6 u7 u8 u9 u10 u11 u12 u13 u14 u15 u16, us = [u4, u5, u6, u7, u8, u9, u10, u11, u12, u13, u14, u15, u16] := by
      match us, lu with
      | [u4, u5, u6, u7, u8, u9, u10, u11, u12, u13, u14, u15, u16], _ => exact ⟨_, _, _, _, _, _, _, _, _, _, _, _, _, rfl⟩
    have vl25 : vals.length ≤ 25 := by omega
    wtm_at "rd"
    refine use_draw bk.go.pool (by decide) (by decide) fun dens Ha _ _ g => ?_
    have bk := bk.step bn g
    wtm_at "rd"
    refine rd_lenL (SqL.of bk.hv) ?_
    rw [List.length_map]
    wtm_at "rd"
    refine turnsR (fun i σ H' => ∃ (prs : List (Addr × Nat × Nat)) (u4 u7 : Option V), σ = [some (.ref p), some (.int most), some (.ref vA), some (.ref pA), u4, u5, u6, u7, some (.int dens), u9, u10, u11, u12, u13, u14, u15, u16] ∧ BK H p vA pA vals prs H' ∧ PrOk vals (prs.map (·.2)) ∧ prs.length ≤ 25 + 25 * i) ⟨prs, _, _, rfl, bk, po, by omega⟩ ?_ ?_
    · rintro i σ H' hi ⟨prs, u4, u7, rfl, bk, po, pl⟩
      have hi : i < vals.length := by omega
      wtm_at "rd"
      refine turnsR (fun j σ H' => ∃ (prs : List (Addr × Nat × Nat)) (u7 : Option V), σ = [some (.ref p), some (.int most), some (.ref vA), some (.ref pA), some (.int (0 + (i : Int))), u5, u6, u7, some (.int dens), u9, u10, u11, u12, u13, u14, u15, u16] ∧ BK H p vA pA vals prs H' ∧ PrOk vals (prs.map (·.2)) ∧ prs.length ≤ 25 + 25 * i + j) ⟨prs, _, rfl, bk, po, by omega⟩ ?_ ?_
      · rintro j σ H' hj ⟨prs, u7, rfl, bk, po, pl⟩
        have hj : j < i := by omega
        have hjv : j < vals.length := by omega
        have e0 : (0 + (i : Int)) = (i : Int) := Int.zero_add _
        have e1 : (0 + (j : Int)) = (j : Int) := Int.zero_add _
        rw [e0, e1]
        wtm_at "rd"
        intro t ft
        have bk := bk.new (o := .tup [.int (j : Nat), .int (i : Nat)]) ft
        have ht := @upd_same H' t (.tup [.int (j : Nat), .int (i : Nat)])
        generalize upd H' t (.tup [.int (j : Nat), .int (i : Nat)]) = Hb at bk ht
        wtm_at "rd"
        refine rd_ninLP (K := K) (e := ((j : Int), (i : Int))) (es := prs.map fun x => (x.1, iP x.2)) (SqT.of ht) (SqL.of (by rw [List.map_map]; exact bk.hp)) (fun x hx => by
          obtain ⟨y, hy, rfl⟩ := List.mem_map.mp hx
          exact SqT.of (bk.tp y hy)) ?_
        have emem : (((j : Int), (i : Int)) ∈ (prs.map fun x => (x.1, iP x.2)).map (·.2)) ↔ (j, i) ∈ prs.map (·.2) := by
          rw [List.map_map]
          constructor
          · intro z
            obtain ⟨y, hy, e⟩ := List.mem_map.mp z
            have e' : iP y.2 = ((j : Int), (i : Int)) := e
            have a1 := congrArg Prod.fst e'
            have a2 := congrArg Prod.snd e'
            have b1 : y.2.1 = j := by have : (y.2.1 : Int) = (j : Int) := a1; omega
            have b2 : y.2.2 = i := by have : (y.2.2 : Int) = (i : Int) := a2; omega
            exact List.mem_map.mpr ⟨y, hy, Prod.ext b1 b2⟩
          · intro z
            obtain ⟨y, hy, e⟩ := List.mem_map.mp z
            refine List.mem_map.mpr ⟨y, hy, ?_⟩
            show iP y.2 = _
            rw [e]
        wtm_at "rd"
        refine rd_nsplit (fun c1 => ?_) (fun c1 => ?_)
        · wtm_at "rd"
          refine rd_ixL (SqL.of bk.hv) (v := .int vals[j]) (atI_nat (by rw [List.getElem?_map, List.getElem?_eq_getElem hjv]; rfl)) ?_
          wtm_at "rd"
          refine rd_ixL (SqL.of bk.hv) (v := .int vals[i]) (atI_nat (by rw [List.getElem?_map, List.getElem?_eq_getElem hi]; rfl)) ?_
          wtm_at "rd"
          refine rd_nsplit (fun c2 => ?_) (fun c2 => ?_)
          · wtm_at "rd"
            refine use_draw bk.go.pool (by decide) (by decide) fun r Hc _ _ g => ?_
            have bk2 := bk.step bn g
            have ht2 := g.at ht (bk.go.pool.offTB ht)
            wtm_at "rd"
            refine rd_split (fun c3 => ?_) (fun c3 => ?_)
            · wtm_at "rd"
              refine rd_tyL bk2.hp ?_
              wtm_at "rd"
              intro t2 ft2
              have bk3 := bk2.new (o := .tup [.int (j : Nat), .int (i : Nat)]) ft2
              have ht3 := @upd_same Hc t2 (.tup [.int (j : Nat), .int (i : Nat)])
              generalize upd Hc t2 (.tup [.int (j : Nat), .int (i : Nat)]) = Hd at bk3 ht3
              wtm_at "rd"
              refine rd_append bk3.hp (by rw [List.length_map]; omega) ?_
              refine ⟨prs ++ [(t2, j, i)], _, rfl, bk3.pair bn ht3, ?_, by rw [List.length_append, List.length_singleton]; omega⟩
              rw [List.map_append]
              refine po.add (fun z => c1 (emem.mpr z)) hj hi ?_
              rw [getDU hjv, getDU hi]
              exact c2
            · wtm_at "rd"
              exact ⟨_, _, rfl, bk2, po, by omega⟩
          · wtm_at "rd"
            exact ⟨_, _, rfl, bk, po, by omega⟩
        · wtm_at "rd"
          exact ⟨_, _, rfl, bk, po, by omega⟩
      · rintro σ H' ⟨prs, u7, rfl, bk, po, pl⟩
        exact ⟨prs, _, _, rfl, bk, po, by omega⟩
    rintro σ H5 ⟨prs, u4, u7, rfl, bk, po, pl⟩
    have pl : prs.length ≤ 700 := by omega
    wtm_at "rd"
    refine rd_lenL (SqL.of bk.hv) ?_
    rw [List.length_map]
    wtm_at "rd"
    refine ⟨p, _, rfl, by omega, by omega, bk.go.pool, fun wA ws H6 g fwA hwA nu lw => ?_⟩
    have nwp := (bk.go.pool.ne fwA).symm
    have bk := bk.step bn g
    have lw : ws.length = vals.length := by omega
    clear g fwA
    wtm_at "rd"
    refine rd_forL (SqL.of bk.hp) ?_
    intro D fD
    refine lcL (K := K) (xs := prs.map fun x => V.ref x.1) (fun i H' => ∃ es : List (Addr × Str × Str), Same H6 H' ∧ H' D = some (.lst (es.map fun x => V.ref x.1)) ∧ PrsAt H' es ∧ es.map (·.2) = ((prs.take i).map fun x => eOf (ws.getD x.2.1 "") (ws.getD x.2.2 ""))) ⟨[], Same.new fD, upd_same, (fun x h => nomatch h), rfl⟩ ?_ ?_ ?_
    · rintro i H' hi ⟨es, sb, _⟩
      exact SqL.of (sb _ _ bk.hp)
    · rintro i y H' hy ⟨es, sb, hD, tp, em⟩
      obtain ⟨hi, rfl⟩ := map_at hy
      have pin := List.getElem_mem hi
      have ht := sb _ _ (bk.tp _ pin)
      have tk : prs.take (i + 1) = prs.take i ++ [prs[i]] := by
        rw [List.take_succ, List.getElem?_eq_getElem hi]
        rfl
      have le : es.length ≤ 700 := by
        have := congrArg List.length em
        rw [List.length_map, List.length_map, List.length_take] at this
        omega
      obtain ⟨x1, x2, x3⟩ := po.ok _ (List.mem_map_of_mem (f := fun x : Addr × Nat × Nat => x.2) pin)
      rcases hx : prs[i] with ⟨xa, a, b⟩
      rw [hx] at ht x1 x2 x3 tk
      dsimp only at ht x1 x2 x3 ⊢
      have ha : a < ws.length := by rw [lw]; exact Nat.lt_trans x1 x2
      have hb : b < ws.length := by rw [lw]; exact x2
      have ne : ws[a] ≠ ws[b] := fun z => by
        have := nodup_ix nu.nd z
        have x1 : a < b := x1
        omega
      refine rd_unp (SqT.of (xs := [.int (a : Nat), .int (b : Nat)]) ht) rfl ?_
      wtm_at "rd"
      refine rd_ixL (SqL.of (sb _ _ hwA)) (v := .str ws[a]) (atI_nat (by rw [List.getElem?_map, List.getElem?_eq_getElem ha]; rfl)) ?_
      wtm_at "rd"
      refine rd_ixL (SqL.of (sb _ _ hwA)) (v := .str ws[b]) (atI_nat (by rw [List.getElem?_map, List.getElem?_eq_getElem hb]; rfl)) ?_
      wtm_at "rd"
      intro t1 ft1
      have k1 := Same.new (o := .lst [.str ws[a], .str ws[b]]) ft1
      wtm_at "rd"
      refine rd_sortS (xs := [ws[a], ws[b]]) (SqL.of upd_same) (by show 2 ≤ 100000; decide) ?_
      intro ys py sy t2 ft2
      have k2 := Same.new (o := .lst (ys.map V.str)) ft2
      wtm_at "rd"
      refine rd_tupleL (SqL.of upd_same) ?_
      intro t3 ft3
      have k3 := Same.new (o := .tup (ys.map V.str)) ft3
      have sA := (k1.trans k2).trans k3
      have h3 := @upd_same (upd (upd H' t1 (.lst [.str ws[a], .str ws[b]])) t2 (.lst (ys.map V.str))) t3 (.tup (ys.map V.str))
      generalize upd (upd (upd H' t1 (.lst [.str ws[a], .str ws[b]])) t2 (.lst (ys.map V.str))) t3 (.tup (ys.map V.str)) = Ha at sA h3
      rw [sort2 ne py sy] at h3
      refine rd_acc (sA _ _ hD) (by rw [List.length_map]; omega) ?_
      have hDa := sA _ _ hD
      refine ⟨es ++ [(t3, eOf ws[a] ws[b])], same_put (sb.trans sA) fD, by rw [upd_same, List.map_append]; rfl, fun z hz => ?_, ?_⟩
      · rcases List.mem_append.mp hz with hz | hz
        · exact at_upd (ne_of (sA _ _ (tp z hz)) hDa (by intro z; cases z)) (sA _ _ (tp z hz))
        · rw [List.mem_singleton] at hz
          subst hz
          exact at_upd (ne_of h3 hDa (by intro z; cases z)) h3
      · rw [tk, List.map_append, List.map_append, em]
        show _ = _ ++ [eOf (ws.getD a "") (ws.getD b "")]
        rw [getDU ha, getDU hb]
        rfl
    rintro H7 ⟨es, s7, hD, tp, em⟩
    rw [List.length_map, List.take_length] at em
    have el : es.length ≤ 700 := by
      have := congrArg List.length em
      rw [List.length_map, List.length_map] at this
      omega
    have g7 := bk.go.same s7
    have hw := s7 _ _ hwA
    have hv := s7 _ _ bk.hv
    clear hwA bk s7 fD
    wtm_at "rd"
    refine rd_sortE (SqL.of hD) (fun x hx => SqT.of (tp x hx)) (by omega) ?_
    intro es2 pe se
    have tp : PrsAt H7 es2 := fun x hx => tp x (pe.mem_iff.mp hx)
    intro eA feA
    have nep := (g7.pool.ne feA).symm
    have k := Same.new (o := .lst (es2.map fun x => V.ref x.1)) feA
    have he := @upd_same H7 eA (.lst (es2.map fun x => V.ref x.1))
    have hw := k _ _ hw
    have hv := k _ _ hv
    have tp := tp.same k
    have g7 := g7.same k
    generalize upd H7 eA (.lst (es2.map fun x => V.ref x.1)) = H8 at he hw hv tp g7
    clear k feA hD
    wtm_at "rd"
    intro stA fst
    have nsp := (g7.pool.ne fst).symm
    have nws := ne_of_none hw fst
    have nvs := ne_of_none hv fst
    have nes := ne_of_none he fst
    have fst0 := g7.free _ fst
    have k := Same.new (o := .dK []) fst
    have hs := @upd_same H8 stA (.dK [])
    have hw := k _ _ hw
    have hv := k _ _ hv
    have he := k _ _ he
    have tp := tp.same k
    have g7 := g7.same k
    generalize upd H8 stA (.dK []) = H9 at he hw hv tp g7 hs
    clear k fst
    wtm_at "rd"
    refine rd_lenL (SqL.of hw) ?_
    rw [List.length_map]
    wtm_at "rd"
    refine turnsR (fun i σ H' => ∃ u4 : Option V, σ = [some (.ref p), some (.int most), some (.ref vA), some (.ref pA), u4, u5, u6, u7, some (.int dens), some (.ref wA), some (.ref eA), u11, u12, some (.ref stA), u14, u15, u16] ∧ Go p H H' ∧ But stA H9 H' ∧ H' stA = some (.dK (kvF (ws.take i) (fV ws vals)))) ⟨_, rfl, g7, But.refl, hs⟩ ?_ ?_
    · rintro i σ H' hi ⟨u4, rfl, g, bt, hs⟩
      have hi : i < ws.length := by omega
      have hiv : i < vals.length := by omega
      have e0 : (0 + (i : Int)) = (i : Int) := Int.zero_add _
      rw [e0]
      wtm_at "rd"
      refine rd_ixL (SqL.of (bt _ _ nvs hv)) (v := .int vals[i]) (atI_nat (by rw [List.getElem?_map, List.getElem?_eq_getElem hiv]; rfl)) ?_
      wtm_at "rd"
      refine rd_ixL (SqL.of (bt _ _ nws hw)) (v := .str ws[i]) (atI_nat (by rw [List.getElem?_map, List.getElem?_eq_getElem hi]; rfl)) ?_
      refine rd_dset hs (k := .inr ws[i]) rfl (by rw [List.length_map, List.length_take]; omega) ?_
      refine ⟨_, rfl, g.put fst0 (Ne.symm nsp), bt.trans But.upd, ?_⟩
      have nin : ws[i] ∉ ws.take i := fun z => by
        obtain ⟨j, hj, e⟩ := List.mem_iff_getElem.mp z
        rw [List.getElem_take] at e
        rw [List.length_take] at hj
        have := nodup_ix nu.nd e
        omega
      rw [upd_same, kvF_new nin, show ws.take (i + 1) = ws.take i ++ [ws[i]] from by rw [List.take_succ, List.getElem?_eq_getElem hi]; rfl]
      congr 2
      refine kvF_congr fun x hx => ?_
      unfold updf
      split
      · rename_i c
        rw [c]
        exact (fV_at nu.nd i hi hiv).symm
      · rfl
    rintro σ H10 ⟨u4, rfl, g, bt, hs⟩
    rw [show ((ws.length : Int)).toNat = ws.length from rfl, List.take_length] at hs
    have hw := bt _ _ nws hw
    have he := bt _ _ nes he
    have tp : PrsAt H10 es2 := fun x hx => bt _ _ (ne_of (tp x hx) (by assumption) (by intro z; cases z)) (tp x hx)
    clear bt hv
    wtm_at "rd"
    refine use_draw g.pool (by decide) (by decide) fun share H11 _ _ gd => ?_
    have hw := gd.at hw nwp
    have he := gd.at he nep
    have hs := gd.at hs nsp
    have tp := tp.go g.pool gd
    have g := g.trans gd
    clear gd
    wtm_at "rd"
    refine rd_sortS (SqL.of hw) (by omega) ?_
    intro ns1 pn1 sn1 l1 fl1
    have nl1 := (g.pool.ne fl1).symm
    have k := Same.new (o := .lst (ns1.map V.str)) fl1
    have hl1 := @upd_same H11 l1 (.lst (ns1.map V.str))
    have hw := k _ _ hw
    have he := k _ _ he
    have hs := k _ _ hs
    have tp := tp.same k
    have g := g.same k
    generalize upd H11 l1 (.lst (ns1.map V.str)) = H12 at hl1 hw he hs tp g
    clear k fl1
    wtm_at "rd"
    refine rd_forL (SqL.of hl1) ?_
    intro D2 fD2
    have nD2p := g.pool.ne fD2
    refine lcL (K := K) (xs := ns1.map V.str) (fun i H' => ∃ pn : List Str, pn.Sublist (ns1.take i) ∧ Go p H12 H' ∧ H' D2 = some (.lst (pn.map V.str))) ⟨[], .slnil, (Go.refl g.pool).new fD2, upd_same⟩ ?_ ?_ ?_
    · rintro i H' hi ⟨pn, _, ga, _⟩
      exact SqL.of (ga.at hl1 nl1)
    · rintro i y H' hy ⟨pn, sl, ga, hD2⟩
      obtain ⟨hi, rfl⟩ := map_at hy
      have lp := sl.length_le
      rw [List.length_take] at lp
      have ln1 := pn1.length_eq
      have tk : ns1.take (i + 1) = ns1.take i ++ [ns1[i]] := by
        rw [List.take_succ, List.getElem?_eq_getElem hi]
        rfl
      have skip : pn.Sublist (ns1.take (i + 1)) := by
        rw [tk]
        exact sl.trans (List.sublist_append_left _ _)
      wtm_at "rd"
      refine rd_split (fun c1 => ?_) (fun c1 => ?_)
      · wtm_at "rd"
        refine use_draw ga.pool (by decide) (by decide) fun r Hb _ _ gb => ?_
        have hD3 := gb.at hD2 (Ne.symm nD2p)
        have gc := ga.trans gb
        wtm_at "rd"
        refine rd_split (fun c2 => ?_) (fun c2 => ?_)
        · wtm_at "rd"
          refine rd_acc hD3 (by rw [List.length_map]; omega) ?_
          refine ⟨pn ++ [ns1[i]], ?_, gc.put fD2 nD2p, by rw [upd_same, List.map_append]; rfl⟩
          rw [tk]
          exact sl.append (List.Sublist.refl _)
        · exact ⟨pn, skip, gc, hD3⟩
      · wtm_at "rd"
        exact ⟨pn, skip, ga, hD2⟩
    rintro H13 ⟨pn, sl, ga, hD2⟩
    rw [List.length_map, List.take_length] at sl
    have hw := ga.at hw nwp
    have he := ga.at he nep
    have hs := ga.at hs nsp
    have tp := tp.go g.pool ga
    have g := g.trans ga
    clear ga hl1 fD2
    wtm_at "rd"
    refine rd_sortS (SqL.of hw) (by omega) ?_
    intro ns pn2 sn
    intro l2 fl2
    have kl2 := Same.new (o := .lst (ns.map V.str)) fl2
    have hl2 := @upd_same H13 l2 (.lst (ns.map V.str))
    have he := kl2 _ _ he
    have hs := kl2 _ _ hs
    have hD2 := kl2 _ _ hD2
    have tp := tp.same kl2
    have g := g.same kl2
    generalize upd H13 l2 (.lst (ns.map V.str)) = H14 at hl2 he hs hD2 tp g
    clear kl2 fl2
    wtm_at "rd"
    refine rd_tupleL (SqL.of hl2) ?_
    intro n fn
    have kn := Same.new (o := .tup (ns.map V.str)) fn
    have hn := @upd_same H14 n (.tup (ns.map V.str))
    have he := kn _ _ he
    have hs := kn _ _ hs
    have hD2 := kn _ _ hD2
    have tp := tp.same kn
    have g := g.same kn
    generalize upd H14 n (.tup (ns.map V.str)) = H15 at hn he hs hD2 tp g
    clear kn fn
    wtm_at "rd"
    refine rd_tupleL (SqL.of he) ?_
    intro e fe
    have ke := Same.new (o := .tup (es2.map fun x => V.ref x.1)) fe
    have he := @upd_same H15 e (.tup (es2.map fun x => V.ref x.1))
    have hn := ke _ _ hn
    have hs := ke _ _ hs
    have hD2 := ke _ _ hD2
    have tp := tp.same ke
    have g := g.same ke
    generalize upd H15 e (.tup (es2.map fun x => V.ref x.1)) = H16 at he hn hs hD2 tp g
    clear ke fe
    wtm_at "rd"
    intro gr fgr
    have fgr0 := g.free _ fgr
    have k := Same.new (o := .tup [.ref n, .ref e]) fgr
    have hgr := @upd_same H16 gr (.tup [.ref n, .ref e])
    have hn := k _ _ hn
    have he := k _ _ he
    have hs := k _ _ hs
    have hD2 := k _ _ hD2
    have tp := tp.same k
    have g := g.same k
    generalize upd H16 gr (.tup [.ref n, .ref e]) = H17 at hgr hn he hs hD2 tp g
    clear k fgr
    wtm_at "rd"
    refine rd_tupleL (SqL.of hD2) ?_
    intro ps fps
    have fps0 := g.free _ fps
    have k := Same.new (o := .tup (pn.map V.str)) fps
    have hps := @upd_same H17 ps (.tup (pn.map V.str))
    have hn := k _ _ hn
    have he := k _ _ he
    have hs := k _ _ hs
    have hgr := k _ _ hgr
    have tp := tp.same k
    have g := g.same k
    generalize upd H17 ps (.tup (pn.map V.str)) = H18 at hps hgr hn he hs tp g
    clear k fps
    wtm_at "rd"
    intro t ft
    have ft0 := g.free _ ft
    have k := Same.new (o := .tup [.ref gr, .ref stA, .ref ps]) ft
    have ht := @upd_same H18 t (.tup [.ref gr, .ref stA, .ref ps])
    have hn := k _ _ hn
    have he := k _ _ he
    have hs := k _ _ hs
    have hgr := k _ _ hgr
    have hps := k _ _ hps
    have tp := tp.same k
    have g := g.same k
    generalize upd H18 t (.tup [.ref gr, .ref stA, .ref ps]) = H19 at ht hps hgr hn he hs tp g
    clear k ft
    have nn := nu.perm pn2
    have nn1 := nu.perm pn1
    have inE : ∀ x ∈ es2, ∃ a b, ∃ (ha : a < ws.length) (hb : b < ws.length), a < b ∧ x.2 = eOf ws[a] ws[b] ∧ fV ws vals ws[a] ≠ fV ws vals ws[b] := fun x hx => by
      have m := List.mem_map_of_mem (f := fun x : Addr × Str × Str => x.2) (pe.mem_iff.mp hx)
      rw [em] at m
      obtain ⟨y, hy, e⟩ := List.mem_map.mp m
      obtain ⟨x1, x2, x3⟩ := po.ok _ (List.mem_map_of_mem (f := fun x : Addr × Nat × Nat => x.2) hy)
      have ha : y.2.1 < ws.length := by rw [lw]; exact Nat.lt_trans x1 x2
      have hb : y.2.2 < ws.length := by rw [lw]; exact x2
      refine ⟨y.2.1, y.2.2, ha, hb, x1, ?_, ?_⟩
      · have e' : eOf (ws.getD y.2.1 "") (ws.getD y.2.2 "") = x.2 := e
        rw [getDU ha, getDU hb] at e'
        exact e'.symm
      · rw [fV_at nu.nd _ ha (by omega), fV_at nu.nd _ hb x2, ← getDU (d := (0 : Int)) (by omega : y.2.1 < vals.length), ← getDU (d := (0 : Int)) x2]
        exact x3
    have pe2 : (es2.map (·.2)).Perm (es.map (·.2)) := pe.map _
    have ndE : (es.map (·.2)).Nodup := by
      rw [em, List.nodup_iff_pairwise_ne, List.pairwise_map]
      have h := po.nd
      rw [List.nodup_iff_pairwise_ne, List.pairwise_map] at h
      refine (List.Pairwise.and_mem.mp h).imp ?_
      intro x y ⟨hx, hy, ne⟩ e
      obtain ⟨x1, x2, x3⟩ := po.ok _ (List.mem_map_of_mem (f := fun x : Addr × Nat × Nat => x.2) hx)
      obtain ⟨y1, y2, y3⟩ := po.ok _ (List.mem_map_of_mem (f := fun x : Addr × Nat × Nat => x.2) hy)
      have hxa : x.2.1 < ws.length := by rw [lw]; exact Nat.lt_trans x1 x2
      have hxb : x.2.2 < ws.length := by rw [lw]; exact x2
      have hya : y.2.1 < ws.length := by rw [lw]; exact Nat.lt_trans y1 y2
      have hyb : y.2.2 < ws.length := by rw [lw]; exact y2
      rw [getDU hxa, getDU hxb, getDU hya, getDU hyb] at e
      rcases eOf_inj e with ⟨e1, e2⟩ | ⟨e1, e2⟩
      · have a1 := nodup_ix nu.nd e1
        have a2 := nodup_ix nu.nd e2
        exact ne (Prod.ext a1 a2)
      · have a1 := nodup_ix nu.nd e1
        have a2 := nodup_ix nu.nd e2
        omega
    have asc2 : Asc ns := asc_of_sorted sn nn.nd
    have asc1 : Asc ns1 := asc_of_sorted sn1 nn1.nd
    refine q t gr n e stA ps ns ws pn es2 (fV ws vals) _ g ft0 fgr0 fst0 fps0 ht ⟨hgr, hn, he, tp⟩ ⟨⟨asc2, nn.ok⟩, ?_, ?_, ?_⟩ pn2.symm (by rw [pn2.length_eq]; omega) (by rw [pe.length_eq]; omega) hs (fun x hx => ?_) (fun x hx => ?_) hps (fun x hx => pn2.mem_iff.mpr (pn1.mem_iff.mp (sl.mem hx))) (by have := sl.length_le; rw [pn1.length_eq] at this; rw [pn2.length_eq]; exact this) (asc1.sublist sl)
    · refine ascE_of_sorted ?_ (pe2.nodup_iff.mpr ndE)
      rw [List.pairwise_map]
      exact se
    · intro y hy
      obtain ⟨x, hx, rfl⟩ := List.mem_map.mp hy
      obtain ⟨a, b, ha, hb, h1, h2, h3⟩ := inE x hx
      rw [h2]
      exact eOf_lt fun z => h3 (by rw [z])
    · intro y hy
      obtain ⟨x, hx, rfl⟩ := List.mem_map.mp hy
      obtain ⟨a, b, ha, hb, h1, h2, h3⟩ := inE x hx
      rw [h2]
      have m1 := pn2.mem_iff.mpr (List.getElem_mem ha)
      have m2 := pn2.mem_iff.mpr (List.getElem_mem hb)
      rcases eOf_cases ws[a] ws[b] with z | z <;> rw [z]
      · exact ⟨m1, m2⟩
      · exact ⟨m2, m1⟩
    · obtain ⟨j, hj, rfl⟩ := List.mem_iff_getElem.mp (pn2.mem_iff.mp hx)
      rw [fV_at nu.nd j hj (by omega)]
      exact v3 _ (List.getElem_mem _)
    · obtain ⟨a, b, ha, hb, h1, h2, h3⟩ := inE x hx
      rw [h2]
      rcases eOf_cases ws[a] ws[b] with z | z <;> rw [z]
      · exact h3
      · exact Ne.symm h3
end
end Law

/-! tuples of numbers compared; a pair in a tuple of pairs; numbers == [] -/
namespace U
open PySem PySem.Spec PyProof.Rows L2
def rInT (K : PySem.W.Frag) : R2 := fun x y H Q => ∃ (d : PyData) (ds : List PyData), Dp K H x d ∧ Dp K H y (.tuple ds) ∧ SeqAt.shaped d = true ∧ SeqAt.shaped (.tuple ds) = true ∧ Q (.bl (ds.any fun z => PyData.eqv z d)) H
theorem kInT {X : Cx} (K : PySem.W.Frag) (hK : X.K = K) (hu : X.A.units + 65 < cLine) : OpR X (compareOp .In) (rInT K) := by
  subst hK
  intro pins s σ H x y v u Q I rx ry ⟨d, ds, hd, he, sd, se, q⟩
  obtain ⟨_, r1⟩ := Dp.reads I _ _ _ hd rx
  obtain ⟨_, r2⟩ := Dp.reads I _ _ _ he ry
  exact SeqAt.in_tuple_reads r2 r1 (SeqAt.canLay_of_shaped se) (SeqAt.canLay_of_shaped sd) (room_in_shaped sd hu) ⟨.bl _, H, I, rfl, q⟩
theorem rd_inTE {K : PySem.W.Frag} {H : Hp} {Q : VK} {p q : Addr} {e : Str × Str} {es : List (Addr × Str × Str)} (hp : SqT K H p [.str e.1, .str e.2]) (hq : SqT K H q (es.map fun x => V.ref x.1)) (pr : ∀ x ∈ es, SqT K H x.1 [.str x.2.1, .str x.2.2])
    (o1 : PyData.strOk e.1 = true ∧ PyData.strOk e.2 = true) (o2 : ∀ x ∈ es.map (·.2), PyData.strOk x.1 = true ∧ PyData.strOk x.2 = true) (h : Q (.bl (decide (e ∈ es.map (·.2)))) H) : rInT K (.ref p) (.ref q) H Q := by
  refine ⟨dE e, _, .tup hp (.cons (.str _) (.cons (.str _) .nil)), .tup hq (dp_edges pr), shaped_edge o1, shaped_edgesT o2, ?_⟩
  rw [any_dE]
  exact h
theorem canI : ∀ xs : List Int, PyData.canLayAll0 (xs.map PyData.int) = true ∧ PyData.depthAll (xs.map PyData.int) = 0
  | [] => by simp [PyData.canLayAll0, PyData.depthAll]
  | x :: r => by simp [PyData.canLayAll0, PyData.depthAll, PyData.canLay0, PyData.depth, (canI r).1, (canI r).2]
theorem shapedIT (xs : List Int) : SeqAt.shaped (.tuple (xs.map PyData.int)) = true := by
  unfold SeqAt.shaped
  rw [PyData.canLay0, (canI xs).1, PyData.depth, (canI xs).2]
  rfl
theorem shapedIL (xs : List Int) : SeqAt.shaped (.list (xs.map PyData.int)) = true := by
  unfold SeqAt.shaped
  rw [PyData.canLay0, (canI xs).1, PyData.depth, (canI xs).2]
  rfl
theorem dpI {K : PySem.W.Frag} {H : Hp} : ∀ xs : List Int, DpAll K H (xs.map V.int) (xs.map PyData.int)
  | [] => .nil
  | x :: r => .cons (.int x) (dpI r)
theorem eqvAll_ints : ∀ (xs ys : List Int), PyData.eqvAll (xs.map PyData.int) (ys.map PyData.int) = decide (xs = ys)
  | [], [] => by simp [PyData.eqvAll]
  | [], y :: ys => by simp [PyData.eqvAll]
  | x :: xs, [] => by simp [PyData.eqvAll]
  | x :: xs, y :: ys => by
    rw [List.map_cons, List.map_cons, PyData.eqvAll, eqvAll_ints xs ys, Bool.eq_iff_iff]
    simp [PyData.eqv]
section
variable {K : PySem.W.Frag} {H : Hp} {Q : VK} {p q : Addr} {xs ys : List Int}
theorem rd_neIT (hp : SqT K H p (xs.map V.int)) (hq : SqT K H q (ys.map V.int)) (h : Q (.bl (!decide (xs = ys))) H) : rNeU K (.ref p) (.ref q) H Q := by
  refine ⟨_, _, .tup hp (dpI _), .tup hq (dpI _), shapedIT _, shapedIT _, ?_⟩
  rw [PyData.eqv, eqvAll_ints]
  exact h
theorem rd_eqIT (hp : SqT K H p (xs.map V.int)) (hq : SqT K H q (ys.map V.int)) (h : Q (.bl (decide (xs = ys))) H) : rEqU K (.ref p) (.ref q) H Q := by
  refine ⟨_, _, .tup hp (dpI _), .tup hq (dpI _), shapedIT _, shapedIT _, ?_⟩
  rw [PyData.eqv, eqvAll_ints]
  exact h
theorem rd_neIL2 (hp : SqL K H p (xs.map V.int)) (hq : SqL K H q (ys.map V.int)) (h : Q (.bl (!decide (xs = ys))) H) : rNeU K (.ref p) (.ref q) H Q := by
  refine ⟨_, _, .lst hp (dpI _), .lst hq (dpI _), shapedIL _, shapedIL _, ?_⟩
  rw [PyData.eqv, eqvAll_ints]
  exact h
theorem rd_eqIL (hp : SqL K H p (xs.map V.int)) (hq : SqL K H q (ys.map V.int)) (h : Q (.bl (decide (xs = ys))) H) : rEqU K (.ref p) (.ref q) H Q := by
  refine ⟨_, _, .lst hp (dpI _), .lst hq (dpI _), shapedIL _, shapedIL _, ?_⟩
  rw [PyData.eqv, eqvAll_ints]
  exact h
end
end U

/-! lists of lists of texts as data; min of a list -/
namespace U
open PySem PySem.Spec PyProof.Rows L2
def dLsS (xs : List Str) : PyData := .list (xs.map PyData.str)
theorem dp_lls {K : PySem.W.Frag} {H : Hp} : ∀ {cs : List (Addr × List Str)}, (∀ c ∈ cs, H c.1 = some (.lst (c.2.map V.str))) → DpAll K H (cs.map fun c => V.ref c.1) ((cs.map (·.2)).map dLsS)
  | [], _ => .nil
  | c :: r, h => .cons (.lst (SqL.of (h c List.mem_cons_self)) (dp_strs _)) (dp_lls fun d hd => h d (List.mem_cons_of_mem _ hd))
theorem can_lls : ∀ {cs : List (List Str)}, (∀ c ∈ cs, ∀ x ∈ c, PyData.strOk x = true) → PyData.canLayAll0 (cs.map dLsS) = true ∧ PyData.depthAll (cs.map dLsS) ≤ 1
  | [], _ => by simp [PyData.canLayAll0, PyData.depthAll]
  | c :: r, h => by
    obtain ⟨a, b⟩ := can_lls (cs := r) fun d hd => h d (List.mem_cons_of_mem _ hd)
    have e1 : (dLsS c).canLay0 = true := by
      unfold dLsS
      rw [PyData.canLay0, can_strs (h c List.mem_cons_self)]
    have e2 : (dLsS c).depth = 1 := by
      unfold dLsS
      rw [PyData.depth, dep_strs]
    rw [List.map_cons, PyData.canLayAll0, PyData.depthAll, a, e1, e2]
    exact ⟨rfl, by omega⟩
theorem shaped_lls {cs : List (List Str)} (h : ∀ c ∈ cs, ∀ x ∈ c, PyData.strOk x = true) : SeqAt.shaped (.list (cs.map dLsS)) = true := by
  obtain ⟨a, b⟩ := can_lls h
  unfold SeqAt.shaped
  rw [PyData.canLay0, a, PyData.depth, decide_eq_true (by omega)]
  rfl
theorem any_lls {x : List Str} : ∀ {cs : List (List Str)}, ((cs.map dLsS).any fun z => PyData.eqv z (dLsS x)) = decide (x ∈ cs)
  | [] => by simp
  | c :: r => by
    rw [List.map_cons, List.any_cons, any_lls (cs := r)]
    unfold dLsS
    rw [PyData.eqv, eqvAll_strs]
    by_cases z : c = x
    · rw [z]
      simp
    · rw [decide_eq_false z, Bool.false_or]
      by_cases m : x ∈ r
      · rw [decide_eq_true m, decide_eq_true (List.mem_cons_of_mem _ m)]
      · rw [decide_eq_false m, decide_eq_false fun h => (List.mem_cons.mp h).elim (fun e => z e.symm) m]
theorem kInD {X : Cx} (K : PySem.W.Frag) (hK : X.K = K) (hu : X.A.units + 65 < cLine) : OpR X (compareOp .In) (rInD K) := hK ▸ op_inD hu
theorem rd_inLL {K : PySem.W.Frag} {H : Hp} {Q : VK} {a l : Addr} {x : List Str} {cs : List (Addr × List Str)} (ha : SqL K H a (x.map V.str)) (hl : SqL K H l (cs.map fun c => V.ref c.1)) (hc : ∀ c ∈ cs, H c.1 = some (.lst (c.2.map V.str))) (ox : ∀ y ∈ x, PyData.strOk y = true) (oc : ∀ c ∈ cs.map (·.2), ∀ y ∈ c, PyData.strOk y = true) (h : Q (.bl (decide (x ∈ cs.map (·.2)))) H) : rInD K (.ref a) (.ref l) H Q := by
  refine ⟨dLsS x, _, .lst ha (dp_strs x), .lst hl (dp_lls hc), shaped_strs ox, shaped_lls oc, ?_⟩
  rw [any_lls]
  exact h
theorem rd_eqNilLL {K : PySem.W.Frag} {H : Hp} {Q : VK} {a l : Addr} {cs : List (Addr × List Str)} (ha : SqL K H a (cs.map fun c => V.ref c.1)) (hc : ∀ c ∈ cs, H c.1 = some (.lst (c.2.map V.str))) (hl : SqL K H l []) (oc : ∀ c ∈ cs.map (·.2), ∀ y ∈ c, PyData.strOk y = true) (h : Q (.bl cs.isEmpty) H) : rEqU K (.ref a) (.ref l) H Q := by
  refine ⟨_, _, .lst ha (dp_lls hc), .lst hl .nil, shaped_lls oc, by decide, ?_⟩
  have : PyData.eqv (.list ((cs.map (·.2)).map dLsS)) (.list []) = cs.isEmpty := by
    cases cs with
    | nil => simp [PyData.eqv, PyData.eqvAll]
    | cons _ _ => simp [PyData.eqv, PyData.eqvAll]
  rw [this]
  exact h
theorem kMinL {X : Cx} (K : PySem.W.Frag) (hK : X.K = K) (hc : X.calm = true) : CallR X (.builtin "min") (rMin K) := hK ▸ cr_min hc
end U


/-! paths_in, mentioned -/
namespace U
open PySem PySem.Spec PyProof.Rows L2
theorem tk_snoc {α : Type} {xs : List α} {i : Nat} (hi : i < xs.length) : xs.take (i + 1) = xs.take i ++ [xs[i]] := by
  rw [List.take_succ, List.getElem?_eq_getElem hi]
  rfl
/-- a part of an obstruction, and the paths in it: a name, a path, or a tuple of parts -/
def PAt : Nat → Hp → V → List (List Str) → Prop
  | 0, H, v, ps => (∃ x, v = .str x ∧ ps = [[x]]) ∨ ∃ a p, v = .ref a ∧ H a = some (.lst (p.map V.str)) ∧ ps = [p]
  | n + 1, H, v, ps => ((∃ x, v = .str x ∧ ps = [[x]]) ∨ ∃ a p, v = .ref a ∧ H a = some (.lst (p.map V.str)) ∧ ps = [p]) ∨
    ∃ (a : Addr) (xs : List (V × List (List Str))), v = .ref a ∧ H a = some (.tup (xs.map (·.1))) ∧ (∀ x ∈ xs, PAt n H x.1 x.2) ∧ ps = xs.flatMap (·.2)
theorem PAt.same {H H' : Hp} (s : Same H H') : ∀ {n : Nat} {v : V} {ps : List (List Str)}, PAt n H v ps → PAt n H' v ps
  | 0, v, ps, h => by
    rcases h with h | ⟨a, p, e, ha, e2⟩
    · exact .inl h
    · exact .inr ⟨a, p, e, s _ _ ha, e2⟩
  | n + 1, v, ps, h => by
    rcases h with (h | ⟨a, p, e, ha, e2⟩) | ⟨a, xs, e, ha, hx, e2⟩
    · exact .inl (.inl h)
    · exact .inl (.inr ⟨a, p, e, s _ _ ha, e2⟩)
    · exact .inr ⟨a, xs, e, s _ _ ha, fun x h => PAt.same s (hx x h), e2⟩
def LstsAt (H : Hp) (qs : List (Addr × List Str)) : Prop := ∀ q ∈ qs, H q.1 = some (.lst (q.2.map V.str))
theorem LstsAt.same {H H' : Hp} {qs : List (Addr × List Str)} (h : LstsAt H qs) (s : Same H H') : LstsAt H' qs := fun q hq => s _ _ (h q hq)
end U
namespace Law
open PySem PySem.Spec PyProof.Rows L2 U
local macro_rules | `(tactic| wtm_at "rd1") => `(tactic| first
  | with_reducible refine rd_seq ?_
  | ((with_reducible refine rd_var (v := ?vv) ?hv ?_); (case hv => exact rfl))
  | with_reducible refine rd_c ?_
  | with_reducible refine rd_cons ?_
  | with_reducible refine rd_nil ?_
  | with_reducible refine rd_op ?_
  | with_reducible refine rd_asg ?_
  | with_reducible refine rd_name ?_
  | with_reducible refine rd_c1 ?_
  | with_reducible refine rd_cb ?_
  | with_reducible refine rd_test ?_
  | with_reducible refine rd_B ?_
  | with_reducible refine rd_bl ?_
  | with_reducible refine rd_if ?_
  | with_reducible refine rd_ret ?_
  | with_reducible refine rd_drop ?_
  | with_reducible refine rd_next ?_
  | with_reducible refine rd_addI ?_
  | with_reducible refine rd_ltI ?_
  | with_reducible refine rd_eqI ?_
  | with_reducible refine rd_neI ?_
  | with_reducible refine rd_eqS ?_
  | with_reducible refine rd_neS ?_
  | with_reducible refine rd_gtI ?_
  | with_reducible refine rd_geI ?_
  | with_reducible refine rd_leI ?_
  | with_reducible refine rd_ltS ?_
  | with_reducible refine rd_subI ?_
  | ((with_reducible refine rd_modI ?hc ?_); (case hc => first | decide | omega))
  | ((with_reducible refine rd_mulI ?hc ?_); (case hc => first | exact mul_bI | exact .inl (.inr (by decide)) | exact .inl (.inl (by decide)) | exact .inl (.inr (by omega)) | exact .inl (.inl (by omega))))
  | ((with_reducible refine rd_divI ?hc ?_); (case hc => first | decide | omega))
  | ((with_reducible refine rd_powI ?hc ?_); (case hc => exact ⟨by decide, by decide, by decide⟩))
  | with_reducible refine rd_lst ?_
  | with_reducible refine rd_tup ?_
  | ((with_reducible refine rd_sz ?hv ?_); (case hv => exact rfl))
  | with_reducible refine rd_and ?_
  | with_reducible refine rd_or ?_
  | with_reducible refine rd_not ?_
  | with_reducible refine rd_andV ?_
  | with_reducible refine rd_orV ?_
  | with_reducible refine rd_notV ?_
  | with_reducible refine rd_ifE ?_
  | with_reducible refine rd_T ?_
  | with_reducible refine rd_F ?_
  | with_reducible refine rd_chain ?_
  | with_reducible refine rd_is ?_
  | with_reducible refine rd_isNot ?_
  | with_reducible refine rd_absI ?_
  | with_reducible refine rd_maxI ?_
  | with_reducible refine rd_minI ?_
  | with_reducible refine rd_intI ?_
  | with_reducible refine rd_intB ?_
  | with_reducible refine rd_sub ?_
  | with_reducible refine rd_sl ?_
  | with_reducible refine rd_noPart ?_
  | with_reducible refine rd_part ?_
  | with_reducible refine rd_exI ?_
  | with_reducible refine rd_bm ?_
  | with_reducible refine rd_bm0 ?_
  | with_reducible refine rd_un ?_
  | with_reducible refine rd_neg ?_
  | with_reducible refine rd_c2 ?_
  | with_reducible refine rd_retN ?_
  | with_reducible refine rd_break ?_
  | with_reducible refine rd_cont ?_
  | with_reducible refine rd_for ?_
  | with_reducible refine rd_rng1 ?_
  | with_reducible refine rd_rng2 ?_
  | with_reducible refine rd_iList ?_
  | with_reducible refine rd_iTup ?_
  | with_reducible refine rd_iEnum ?_
  | ((with_reducible refine rd_forR ?h0 ?h1 ?_); (case h0 => omega); (case h1 => omega))
  | with_reducible refine rd_lc ?_
  | with_reducible refine rd_gcons ?_
  | with_reducible refine rd_gnil ?_
  | with_reducible refine rd_dget ?_
  | with_reducible refine rd_dput ?_
  | with_reducible refine rd_dnew ?_
  | with_reducible refine rd_dc ?_
  | with_reducible refine rd_iItems ?_
  | with_reducible refine rd_iKeys ?_
  | with_reducible refine rd_din ?_
  | with_reducible refine rd_lc2 ?_
  | with_reducible refine rd_cd ?_
  | with_reducible refine rd_par ?_
  | with_reducible refine rd_two ?_
  | with_reducible refine rd_reprB ?_
  | with_reducible refine rd_ck ?_
  | ((with_reducible refine rd_len ?hl ?_); (case hl => exact rfl))
  | with_reducible refine rd_nT ?_
  | with_reducible refine rd_nF ?_
  | with_reducible refine rd_dnin ?_
  | with_reducible refine rd_isB ?_
  | with_reducible refine rd_isNotB ?_
  | with_reducible refine rd_daug ?_
  | with_reducible refine rd_yesT ?_
  | ((with_reducible refine rd_wp ?hw ?_); (case hw => exact rfl)))
local macro_rules | `(tactic| wtm_at "rd") => `(tactic| repeat wtm_at "rd1")

def spEdgeQ : Sp := fun vs H Q _ => ∃ x y : Str, vs = [.str x, .str y] ∧ ∀ t, H t = none → Q (.ref t) (upd H t (.tup (if sLt x y then [.str x, .str y] else [.str y, .str x])))
def spPaths (K : PySem.W.Frag) (n : Nat) : Sp := fun vs H Q _ => ∃ (v : V) (ps : List (List Str)), vs = [v] ∧ PAt n H v ps ∧ ps.length ≤ 1000 ∧
  ∀ (l : Addr) (qs : List (Addr × List Str)) (H' : Hp), Same H H' → H' l = some (.lst (qs.map fun q => V.ref q.1)) → LstsAt H' qs → qs.map (·.2) = ps → Q (.ref l) H'
section
variable {P : Program} {w : World} {K : PySem.W.Frag} {mg : Str → Option Value} {base : Heap}
theorem ok_edgeQ {f : Addr} {fd : FuncData} (F : Fun K "edge_of" "edge_of" s_edge_of f fd) (B : Bt mg) : FnG P w K mg base CX0 1 f fd ["first", "second"] spEdgeQ := by
  refine fnG0 F sc_edge_of (fun vs H Q E h => ?_) (fun cdv A outer s H vs Q E hr h => ?_)
  · obtain ⟨x, y, rfl, _⟩ := h
    rfl
  · obtain ⟨x, y, rfl, q⟩ := h
    have nd := sc_edge_of.nd
    refine ⟨_, (pss_one (ps_ret (pe_ifExp (pt_cmpR uLt (pv 0) (pv 1) (nomark _)) (pe_tup (pa_cons (pv 0) (pa_cons (pv 1) pa_nil))) (pe_tup (pa_cons (pv 1) (pa_cons (pv 0) pa_nil)))))), ?_⟩
    wtm_at "rd"
    refine rd_split (fun c => ?_) (fun c => ?_)
    · have c : sLt x y := c
      rw [if_pos c] at q
      wtm_at "rd"
      exact fun t ft => q t ft
    · have c : ¬ sLt x y := c
      rw [if_neg c] at q
      wtm_at "rd"
      exact fun t ft => q t ft
theorem ok_paths {f : Addr} {fd : FuncData} (F : Fun K "paths_in" "paths_in" s_paths_in f fd) (B : Bt mg) (S : SelfR K mg "paths_in" f fd ["part"]) : ∀ n : Nat, FnG P w K mg base CX0 (n + 1) f fd ["part"] (spPaths K n) := by
  intro n
  induction n using Nat.strongRecOn with
  | ind n ih =>
  have cal : Cal P w K mg base CX0 n "paths_in" (fun vs H Q E => ∃ m, m < n ∧ spPaths K m vs H Q E) := ⟨f, fd, _, ⟨fun vs H Q E h => by
    obtain ⟨m, hm, h⟩ := h
    exact (ih m hm).len vs H Q E h, fun A outer s H args us vs Q E hr he hb hv h => by
    obtain ⟨m, hm, h⟩ := h
    exact (ih m hm).go A outer s H args us vs Q E (hr.mono (by omega)) he hb hv h⟩, S.mg, S.kp, S.bd⟩
  refine fnG0 F sc_paths_in (fun vs H Q E h => ?_) (fun cdv A outer s H vs Q E hr h => ?_)
  · obtain ⟨v, ps, rfl, _⟩ := h
    rfl
  · obtain ⟨v, ps, rfl, pt, few, q⟩ := h
    have nd := sc_paths_in.nd
    have hu := hr.u1
    refine ⟨_, (pss_cons (ps_if (pt_val (pe_callB (kIsi K rfl) (by rfl) B.isinstance bb_isinstance (pa_cons (pv 0) (pa_cons (pe_ty rfl B.list bb_list) pa_nil)))) (pss_one (ps_ret (pe_lst (pa_cons (pv 0) pa_nil)))) pss_nil)
  (pss_cons (ps_if (pt_val (pe_callB (kIsi K rfl) (by rfl) B.isinstance bb_isinstance (pa_cons (pv 0) (pa_cons (pe_ty rfl B.str bb_str) pa_nil)))) (pss_one (ps_ret (pe_lst (pa_cons (pe_lst (pa_cons (pv 0) pa_nil)) pa_nil)))) pss_nil)
  (pss_cons (ps_set (i := 1) nd rfl (by first | exact Or.inl rfl | exact Or.inr rfl) (pe_lst pa_nil))
  (pss_cons (ps_for PassesOwn.never rfl (ki_tup K rfl (pv 0)) (pg_name (i := 2) nd rfl (by first | exact Or.inl rfl | exact Or.inr rfl)) (pss_one (ps_set (i := 1) nd rfl (by first | exact Or.inl rfl | exact Or.inr rfl) (pe_op (kAdd K rfl) (pv 1) (pe_c cal hr (by omega) rfl (pa_cons (pv 2) pa_nil))))))
  (pss_one (ps_ret (pv 1))))))), ?_⟩
    have leaf : ((∃ x, v = .str x ∧ ps = [[x]]) ∨ ∃ a p, v = .ref a ∧ H a = some (.lst (p.map V.str)) ∧ ps = [p]) ∨ ∃ m, n = m + 1 ∧ ∃ (a : Addr) (xs : List (V × List (List Str))), v = .ref a ∧ H a = some (.tup (xs.map (·.1))) ∧ (∀ x ∈ xs, PAt m H x.1 x.2) ∧ ps = xs.flatMap (·.2) := by
      cases n with
      | zero => exact .inl pt
      | succ m =>
        rcases pt with pt | pt
        · exact .inl pt
        · exact .inr ⟨m, rfl, pt⟩
    clear pt
    wtm_at "rd"
    rcases leaf with (⟨x, rfl, rfl⟩ | ⟨a, p, rfl, ha, rfl⟩) | ⟨m, rfl, a, xs, rfl, ha, hx, rfl⟩
    · refine rd_isi (a := .str) (.base (.str _)) rfl ?_
      rw [show isT Ty.str Ty.lst = false from rfl]
      wtm_at "rd"
      refine rd_isi (a := .str) (.base (.str _)) rfl ?_
      rw [show isT Ty.str Ty.str = true from rfl]
      wtm_at "rd"
      intro l1 f1
      wtm_at "rd"
      intro l2 f2
      have k1 := Same.new (o := .lst [.str x]) f1
      have k2 := Same.new (o := .lst [.ref l1]) f2
      refine q l2 [(l1, [x])] _ (k1.trans k2) upd_same (fun c hc => ?_) rfl
      rw [List.mem_singleton.mp hc]
      exact k2 _ _ upd_same
    · refine rd_isi (a := .lst) (.base (.lst ha)) rfl ?_
      rw [show isT Ty.lst Ty.lst = true from rfl]
      wtm_at "rd"
      intro l2 f2
      have k2 := Same.new (o := .lst [.ref a]) f2
      refine q l2 [(a, p)] _ k2 upd_same (fun c hc => ?_) rfl
      rw [List.mem_singleton.mp hc]
      exact k2 _ _ ha
    · refine rd_isi (ty_tup ha) rfl ?_
      rw [show isT Ty.tup Ty.lst = false from rfl]
      wtm_at "rd"
      refine rd_isi (ty_tup ha) rfl ?_
      rw [show isT Ty.tup Ty.str = false from rfl]
      wtm_at "rd"
      intro l0 f0
      have k0 := Same.new (o := .lst []) f0
      have hl0 := @upd_same H l0 (.lst [])
      generalize upd H l0 (.lst []) = H0 at k0 hl0
      wtm_at "rd"
      refine rd_forT (SqT.of (k0 _ _ ha)) ?_
      refine turnsT (K := K) (xs := xs.map (·.1)) (fun i σ H' => ∃ (l : Addr) (qs : List (Addr × List Str)) (u2 : Option V), σ = [some (.ref a), some (.ref l), u2] ∧ Same H H' ∧ H' l = some (.lst (qs.map fun q => V.ref q.1)) ∧ LstsAt H' qs ∧ qs.map (·.2) = (xs.take i).flatMap (·.2)) ⟨l0, [], _, rfl, k0, hl0, (fun c hc => nomatch hc), rfl⟩ ?_ ?_ ?_
      · rintro i σ H' hi ⟨l, qs, u2, rfl, s, _⟩
        exact SqT.of (s _ _ ha)
      · rintro i y σ H1 hy ⟨l, qs, u2, rfl, s1, hl, ls, eq⟩
        obtain ⟨hi, rfl⟩ := map_at hy
        have pi := (hx _ (List.getElem_mem hi)).same s1
        have tk := tk_snoc hi
        have lens : ((xs.take i).flatMap (·.2)).length + xs[i].2.length ≤ 1000 := by
          refine Nat.le_trans ?_ few
          have : xs.flatMap (·.2) = (xs.take i).flatMap (·.2) ++ (xs[i].2 ++ (xs.drop (i + 1)).flatMap (·.2)) := by
            conv => lhs; rw [← List.take_append_drop i xs, List.drop_eq_getElem_cons hi]
            rw [List.flatMap_append, List.flatMap_cons]
          rw [this, List.length_append, List.length_append]
          omega
        rw [tk, List.flatMap_append, List.flatMap_cons, List.flatMap_nil, List.append_nil]
        generalize xs[i] = x at *
        wtm_at "rd"
        refine ⟨m, Nat.lt_succ_self m, x.1, x.2, rfl, pi, by omega, fun l2 qs2 H2 s2 hl2 ls2 eq2 => ?_⟩
        have c1 := congrArg List.length eq
        have c2 := congrArg List.length eq2
        rw [List.length_map] at c1 c2
        wtm_at "rd"
        refine rd_catL (s2 _ _ hl) hl2 (by rw [List.length_map, List.length_map]; omega) ?_
        intro l3 f3
        have k3 := Same.new (o := .lst ((qs.map fun q => V.ref q.1) ++ qs2.map fun q => V.ref q.1)) f3
        refine ⟨l3, qs ++ qs2, _, rfl, (s1.trans s2).trans k3, by rw [upd_same, List.map_append], fun c hc => ?_, by rw [List.map_append, eq, eq2]⟩
        rcases List.mem_append.mp hc with hc | hc
        · exact k3 _ _ (s2 _ _ (ls c hc))
        · exact k3 _ _ (ls2 c hc)
      · rintro σ H1 ⟨l, qs, u2, rfl, s1, hl, ls, eq⟩
        rw [List.length_map, List.take_length] at eq
        wtm_at "rd"
        exact q l qs H1 s1 hl ls eq
end
end Law

/-! mentioned -/
namespace U
open PySem PySem.Spec PyProof.Rows L2
/-- a member put, once -/
def insK {α : Type} [DecidableEq α] (ks : List α) (x : α) : List α := if x ∈ ks then ks else ks ++ [x]
theorem mem_insK {α : Type} [DecidableEq α] {ks : List α} {x y : α} : y ∈ insK ks x ↔ y ∈ ks ∨ y = x := by
  unfold insK
  by_cases h : x ∈ ks
  · rw [if_pos h]
    exact ⟨.inl, fun z => z.elim id fun e => e ▸ h⟩
  · rw [if_neg h, List.mem_append, List.mem_singleton]
theorem insK_len {α : Type} [DecidableEq α] {ks : List α} {x : α} : (insK ks x).length ≤ ks.length + 1 := by
  unfold insK
  split
  · omega
  · rw [List.length_append]
    exact Nat.le_refl _
def yesK {κ : Type} (ks : List κ) : List (κ × V) := ks.map fun k => (k, V.bl true)
theorem yes_put {κ : Type} [DecidableEq κ] {ks : List κ} {k : κ} : putK (yesK ks) k (.bl true) = yesK (insK ks k) := by
  unfold putK insK
  by_cases h : k ∈ ks
  · have any : ((yesK ks).any fun kv => decide (kv.1 = k)) = true := List.any_eq_true.mpr ⟨(k, V.bl true), List.mem_map.mpr ⟨k, h, rfl⟩, decide_eq_true rfl⟩
    rw [if_pos any, if_pos h]
    unfold yesK
    rw [List.map_map]
    refine List.map_congr_left fun x _ => ?_
    simp only [Function.comp]
    by_cases c : x = k
    · rw [if_pos c]
    · rw [if_neg c]
  · have any : ¬ ((yesK ks).any fun kv => decide (kv.1 = k)) = true := fun z => by
      obtain ⟨y, hy, e⟩ := List.any_eq_true.mp z
      obtain ⟨x, hx, rfl⟩ := List.mem_map.mp hy
      exact h (of_decide_eq_true e ▸ hx)
    rw [if_neg any, if_neg h]
    unfold yesK
    rw [List.map_append]
    rfl
theorem yes_val {κ : Type} [DecidableEq κ] {k : κ} : ∀ {ks : List κ}, (valV (yesK ks) k).isSome = decide (k ∈ ks)
  | [] => rfl
  | x :: ks => by
    have ih := yes_val (k := k) (ks := ks)
    unfold valV yesK at ih ⊢
    rw [List.map_cons]
    by_cases c : x = k
    · subst c
      rw [List.find?_cons_of_pos (by simp), decide_eq_true List.mem_cons_self]
      rfl
    · rw [List.find?_cons_of_neg (by simp [c]), ih]
      by_cases h : k ∈ ks
      · rw [decide_eq_true h, decide_eq_true (List.mem_cons_of_mem _ h)]
      · rw [decide_eq_false h, decide_eq_false fun z => (List.mem_cons.mp z).elim (fun e => c e.symm) h]
theorem yes_in {κ : Type} [DecidableEq κ] {k : κ} {ks : List κ} (h : k ∈ ks) : (valV (yesK ks) k).isSome = true := by
  rw [yes_val]
  exact decide_eq_true h
theorem yes_out {κ : Type} [DecidableEq κ] {k : κ} {ks : List κ} (h : ¬ k ∈ ks) : (valV (yesK ks) k).isSome = false := by
  rw [yes_val]
  exact decide_eq_false h
/-- the edges along a path -/
def edgesP : List Str → List (Str × Str)
  | x :: y :: r => eOf x y :: edgesP (y :: r)
  | _ => []
theorem edgesP_snoc : ∀ {q : List Str} {y z : Str}, edgesP (q ++ [y] ++ [z]) = edgesP (q ++ [y]) ++ [eOf y z]
  | [], y, z => rfl
  | [x], y, z => rfl
  | x :: x2 :: q, y, z => by
    have ih := edgesP_snoc (q := x2 :: q) (y := y) (z := z)
    show eOf x x2 :: edgesP (x2 :: q ++ [y] ++ [z]) = eOf x x2 :: edgesP (x2 :: q ++ [y]) ++ [eOf y z]
    rw [ih]
    rfl
theorem edgesP_take {p : List Str} {i : Nat} (h : i + 1 < p.length) : edgesP (p.take (i + 2)) = edgesP (p.take (i + 1)) ++ [eOf p[i] p[i + 1]] := by
  rw [tk_snoc (xs := p) (i := i + 1) h, tk_snoc (xs := p) (i := i) (by omega), edgesP_snoc]
theorem edgesP_len : ∀ {p : List Str}, (edgesP p).length ≤ p.length
  | [] => Nat.le_refl _
  | [_] => Nat.zero_le _
  | x :: y :: r => by
    have := edgesP_len (p := y :: r)
    show (edgesP (y :: r)).length + 1 ≤ (y :: r).length + 1
    omega
/-- a constraint, as its texts -/
def CstT (c : List Str) : Prop := (∃ x : Str, c = ([("pin" : Str), x] : List Str)) ∨ ∃ a b : Str, c = ([("edge" : Str), a, b] : List Str)
/-- is it mentioned in the paths -/
def namedF (ps : List (List Str)) : List Str → Bool
  | [_, x] => decide (x ∈ ps.flatten)
  | [_, a, b] => decide ((a, b) ∈ ps.flatMap edgesP)
  | _ => false
theorem pin_ne : ("edge" : Str) ≠ "pin" := by decide +kernel
theorem eOf_tup {x y : Str} : (if sLt x y then [V.str x, .str y] else [.str y, .str x]) = [.str (eOf x y).1, .str (eOf x y).2] := by
  unfold eOf
  split <;> rfl
def TxtsAt (H : Hp) (cs : List (Addr × List Str)) : Prop := ∀ c ∈ cs, H c.1 = some (.tup (c.2.map V.str))
theorem TxtsAt.same {H H' : Hp} {cs : List (Addr × List Str)} (h : TxtsAt H cs) (s : Same H H') : TxtsAt H' cs := fun c hc => s _ _ (h c hc)
end U
namespace Law
open PySem PySem.Spec PyProof.Rows L2 U
local macro_rules | `(tactic| wtm_at "rd1") => `(tactic| first
  | with_reducible refine rd_seq ?_
  | ((with_reducible refine rd_var (v := ?vv) ?hv ?_); (case hv => exact rfl))
  | with_reducible refine rd_c ?_
  | with_reducible refine rd_cons ?_
  | with_reducible refine rd_nil ?_
  | with_reducible refine rd_op ?_
  | with_reducible refine rd_asg ?_
  | with_reducible refine rd_name ?_
  | with_reducible refine rd_c1 ?_
  | with_reducible refine rd_cb ?_
  | with_reducible refine rd_test ?_
  | with_reducible refine rd_B ?_
  | with_reducible refine rd_bl ?_
  | with_reducible refine rd_if ?_
  | with_reducible refine rd_ret ?_
  | with_reducible refine rd_drop ?_
  | with_reducible refine rd_next ?_
  | with_reducible refine rd_addI ?_
  | with_reducible refine rd_ltI ?_
  | with_reducible refine rd_eqI ?_
  | with_reducible refine rd_neI ?_
  | with_reducible refine rd_eqS ?_
  | with_reducible refine rd_neS ?_
  | with_reducible refine rd_gtI ?_
  | with_reducible refine rd_geI ?_
  | with_reducible refine rd_leI ?_
  | with_reducible refine rd_ltS ?_
  | with_reducible refine rd_subI ?_
  | ((with_reducible refine rd_modI ?hc ?_); (case hc => first | decide | omega))
  | ((with_reducible refine rd_mulI ?hc ?_); (case hc => first | exact mul_bI | exact .inl (.inr (by decide)) | exact .inl (.inl (by decide)) | exact .inl (.inr (by omega)) | exact .inl (.inl (by omega))))
  | ((with_reducible refine rd_divI ?hc ?_); (case hc => first | decide | omega))
  | ((with_reducible refine rd_powI ?hc ?_); (case hc => exact ⟨by decide, by decide, by decide⟩))
  | with_reducible refine rd_lst ?_
  | with_reducible refine rd_tup ?_
  | ((with_reducible refine rd_sz ?hv ?_); (case hv => exact rfl))
  | with_reducible refine rd_and ?_
  | with_reducible refine rd_or ?_
  | with_reducible refine rd_not ?_
  | with_reducible refine rd_andV ?_
  | with_reducible refine rd_orV ?_
  | with_reducible refine rd_notV ?_
  | with_reducible refine rd_ifE ?_
  | with_reducible refine rd_T ?_
  | with_reducible refine rd_F ?_
  | with_reducible refine rd_chain ?_
  | with_reducible refine rd_is ?_
  | with_reducible refine rd_isNot ?_
  | with_reducible refine rd_absI ?_
  | with_reducible refine rd_maxI ?_
  | with_reducible refine rd_minI ?_
  | with_reducible refine rd_intI ?_
  | with_reducible refine rd_intB ?_
  | with_reducible refine rd_sub ?_
  | with_reducible refine rd_sl ?_
  | with_reducible refine rd_noPart ?_
  | with_reducible refine rd_part ?_
  | with_reducible refine rd_exI ?_
  | with_reducible refine rd_bm ?_
  | with_reducible refine rd_bm0 ?_
  | with_reducible refine rd_un ?_
  | with_reducible refine rd_neg ?_
  | with_reducible refine rd_c2 ?_
  | with_reducible refine rd_retN ?_
  | with_reducible refine rd_break ?_
  | with_reducible refine rd_cont ?_
  | with_reducible refine rd_for ?_
  | with_reducible refine rd_rng1 ?_
  | with_reducible refine rd_rng2 ?_
  | with_reducible refine rd_iList ?_
  | with_reducible refine rd_iTup ?_
  | with_reducible refine rd_iEnum ?_
  | ((with_reducible refine rd_forR ?h0 ?h1 ?_); (case h0 => omega); (case h1 => omega))
  | with_reducible refine rd_lc ?_
  | with_reducible refine rd_gcons ?_
  | with_reducible refine rd_gnil ?_
  | with_reducible refine rd_dget ?_
  | with_reducible refine rd_dput ?_
  | with_reducible refine rd_dnew ?_
  | with_reducible refine rd_dc ?_
  | with_reducible refine rd_iItems ?_
  | with_reducible refine rd_iKeys ?_
  | with_reducible refine rd_din ?_
  | with_reducible refine rd_lc2 ?_
  | with_reducible refine rd_cd ?_
  | with_reducible refine rd_par ?_
  | with_reducible refine rd_two ?_
  | with_reducible refine rd_reprB ?_
  | with_reducible refine rd_ck ?_
  | ((with_reducible refine rd_len ?hl ?_); (case hl => exact rfl))
  | with_reducible refine rd_nT ?_
  | with_reducible refine rd_nF ?_
  | with_reducible refine rd_dnin ?_
  | with_reducible refine rd_isB ?_
  | with_reducible refine rd_isNotB ?_
  | with_reducible refine rd_daug ?_
  | with_reducible refine rd_yesT ?_
  | ((with_reducible refine rd_wp ?hw ?_); (case hw => exact rfl)))
local macro_rules | `(tactic| wtm_at "rd") => `(tactic| repeat wtm_at "rd1")

def spMent (K : PySem.W.Frag) : Sp := fun vs H Q _ => ∃ (cl ob : Addr) (cs : List (Addr × List Str)) (k : V) (xs : List (V × List (List Str))), vs = [.ref cl, .ref ob] ∧ H cl = some (.lst (cs.map fun c => V.ref c.1)) ∧ TxtsAt H cs ∧ (∀ c ∈ cs, CstT c.2) ∧ cs.length ≤ 100 ∧
  H ob = some (.tup (k :: xs.map (·.1))) ∧ (∀ x ∈ xs, PAt 1 H x.1 x.2) ∧ (xs.flatMap (·.2)).length ≤ 100 ∧ (∀ p ∈ xs.flatMap (·.2), p.length ≤ 100) ∧
  ∀ (l : Addr) (H' : Hp), Same H H' → H l = none → H' l = some (.lst ((cs.filter fun c => namedF (xs.flatMap (·.2)) c.2).map fun c => V.ref c.1)) → Q (.ref l) H'
def spPathsU (K : PySem.W.Frag) : Sp := fun vs H Q E => ∃ m, m ≤ 3 ∧ spPaths K m vs H Q E
section
variable {P : Program} {w : World} {K : PySem.W.Frag} {mg : Str → Option Value} {base : Heap}
theorem ok_pathsU {f : Addr} {fd : FuncData} (F : Fun K "paths_in" "paths_in" s_paths_in f fd) (B : Bt mg) (S : SelfR K mg "paths_in" f fd ["part"]) : FnG P w K mg base CX0 4 f fd ["part"] (spPathsU K) := by
  exact ⟨fun vs H Q E h => by
    obtain ⟨m, hm, h⟩ := h
    exact (ok_paths (P := P) (w := w) (base := base) F B S m).len vs H Q E h, fun A outer s H args us vs Q E hr he hb hv h => by
    obtain ⟨m, hm, h⟩ := h
    exact (ok_paths (P := P) (w := w) (base := base) F B S m).go A outer s H args us vs Q E (hr.mono (by omega)) he hb hv h⟩
structure MRc (P : Program) (w : World) (K : PySem.W.Frag) (mg : Str → Option Value) (base : Heap) : Prop where
  paths_in : Cal P w K mg base CX0 4 "paths_in" (spPathsU K)
  edge_of : Cal P w K mg base CX0 1 "edge_of" spEdgeQ
theorem ok_ment {f : Addr} {fd : FuncData} (F : Fun K "mentioned" "mentioned" s_mentioned f fd) (B : Bt mg) (C : MRc P w K mg base) : FnG P w K mg base CX0 5 f fd ["constraints", "obstruction"] (spMent K) := by
  refine fnG0 F sc_mentioned (fun vs H Q E h => ?_) (fun cdv A outer s H vs Q E hr h => ?_)
  · obtain ⟨cl, ob, cs, k, xs, rfl, _⟩ := h
    rfl
  · obtain ⟨cl, ob, cs, k, xs, rfl, hcl, tc, ct, c100, hob, hx, f100, p100, q⟩ := h
    have nd := sc_mentioned.nd
    have hu := hr.u1
    refine ⟨_, (pss_cons (ps_set (i := 2) nd rfl (by first | exact Or.inl rfl | exact Or.inr rfl) pe_dnewK)
  (pss_cons (ps_set (i := 3) nd rfl (by first | exact Or.inl rfl | exact Or.inr rfl) pe_dnewT)
  (pss_cons (ps_for PassesOwn.never rfl (ki_list K rfl (pe_c C.paths_in hr (by decide) rfl (pa_cons (pe_slice (kSl K rfl) (pv 1) (po_some pe_int) po_none) pa_nil))) (pg_name (i := 4) nd rfl (by first | exact Or.inl rfl | exact Or.inr rfl)) (pss_one (ps_for PassesOwn.never rfl (pi_enum (by rfl) B.enumerate (pa_cons (pv 4) pa_nil)) (kg_tup (n := 2) K rfl rfl (pgs_cons (pg_name (i := 5) nd rfl (by first | exact Or.inl rfl | exact Or.inr rfl)) (pgs_cons (pg_name (i := 6) nd rfl (by first | exact Or.inl rfl | exact Or.inr rfl)) pgs_nil))) (pss_cons (ps_dput hu (pv 2) (pv 6) pe_bl rfl)
  (pss_one (ps_if (pt_cmpR uGt (pv 5) pe_int (nomark _)) (pss_one (ps_dput hu (pv 3) (pe_c C.edge_of hr (by decide) rfl (pa_cons (pe_ix (kIx K rfl) (pv 4) (pe_op uSub (pv 5) pe_int) (fun _ _ => rfl)) (pa_cons (pv 6) pa_nil))) pe_bl rfl)) pss_nil))))))
  (pss_cons (ps_set (i := 7) nd rfl (by first | exact Or.inl rfl | exact Or.inr rfl) (pe_lst pa_nil))
  (pss_cons (ps_for PassesOwn.never rfl (ki_list K rfl (pv 0)) (pg_name (i := 8) nd rfl (by first | exact Or.inl rfl | exact Or.inr rfl)) (pss_one (ps_if (PW.pt (pw_or (PW.pt (pw_and (pt_cmpR (kEq K rfl hr.u64) (pe_ix (kIx K rfl) (pv 8) pe_int (fun _ _ => rfl)) pe_str (nomark _)) (pw_and1 (pt_cmp (pc_din hu (pe_ix (kIx K rfl) (pv 8) pe_int (fun _ _ => rfl)) (pv 2)))))) (pw_or1 (pt_cmp (pc_din hu (pe_slice (kSl K rfl) (pv 8) (po_some pe_int) po_none) (pv 3)))))) (pss_one (ps_expr (pe_bm PySem.F.plainAttrs_list PySem.F.slot_list_append PySem.F.type_list_append mt_append (pv 7) (pa_cons (pv 8) pa_nil)))) pss_nil)))
  (pss_one (ps_ret (pv 7)))))))), ?_⟩
    generalize hps : xs.flatMap (·.2) = ps at *
    wtm_at "rd"
    intro dn fdn
    have s1 := Same.new (o := .dK []) fdn
    have hdn := @upd_same H dn (.dK [])
    generalize upd H dn (.dK []) = H1 at s1 hdn
    wtm_at "rd"
    intro de fde
    have hdn := at_upd (o := .dT []) (ne_of_none hdn fde) hdn
    have s2 := same_add (o := .dT []) s1 fde
    have ned : dn ≠ de := fun z => by
      rw [z, upd_same] at hdn
      cases hdn
    have nde := new_of_same s1 fde
    have hde := @upd_same H1 de (.dT [])
    generalize upd H1 de (.dT []) = H2 at *
    clear s1
    wtm_at "rd"
    refine rd_slTH (s2 _ _ hob) fun a H3 s3 ha => ?_
    rw [show (1 : Int) = ((1 : Nat) : Int) from rfl, cutV_from (by simp)] at ha
    rw [show (k :: xs.map (·.1)).drop 1 = xs.map (·.1) from rfl] at ha
    wtm_at "rd"
    refine ⟨2, by omega, .ref a, ps, rfl, .inr ⟨a, xs, rfl, ha, fun x h => ((hx x h).same s2).same s3, hps.symm⟩, by omega, fun l qs H4 s4 hl ls eq => ?_⟩
    have hdn := s4 _ _ (s3 _ _ hdn)
    have hde := s4 _ _ (s3 _ _ hde)
    have s24 := s2.trans (s3.trans s4)
    clear s3 s4 s2 ha hx hps
    subst eq
    wtm_at "rd"
    refine rd_forL (SqL.of hl) ?_
    have ql : qs.length ≤ 100 := by rw [List.length_map] at f100; exact f100
    refine turnsL (K := K) (xs := qs.map fun q => V.ref q.1) (fun i σ H' => ∃ (nk : List Key) (ek : List (List Key)) (u4 u5 u6 : Option V), σ = [some (.ref cl), some (.ref ob), some (.ref dn), some (.ref de), u4, u5, u6, none, none] ∧ (∀ b o, b ≠ dn → b ≠ de → H4 b = some o → H' b = some o) ∧ H' dn = some (.dK (yesK nk)) ∧ H' de = some (.dT (yesK ek)) ∧
      (∀ x : Str, Sum.inr x ∈ nk ↔ x ∈ ((qs.take i).map (·.2)).flatten) ∧ (∀ z, z ∈ ek ↔ ∃ e ∈ ((qs.take i).map (·.2)).flatMap edgesP, z = [Sum.inr e.1, Sum.inr e.2]) ∧ nk.length ≤ 100 * i ∧ ek.length ≤ 100 * i) ⟨[], [], _, _, _, rfl, (fun _ _ _ _ h => h), hdn, hde, (fun x => by simp), (fun z => by simp), Nat.le_refl _, Nat.le_refl _⟩ ?_ ?_ ?_
    · rintro i σ H' hi ⟨nk, ek, u4, u5, u6, rfl, b, _⟩
      exact SqL.of (b _ _ (ne_of hl hdn (by intro z; cases z)) (ne_of hl hde (by intro z; cases z)) hl)
    · rintro i y σ H5 hy ⟨nk, ek, u4, u5, u6, rfl, b5, hn5, he5, nki, eki, nl, el⟩
      obtain ⟨hi, rfl⟩ := map_at hy
      have hq := ls _ (List.getElem_mem hi)
      have hq5 := b5 _ _ (ne_of hq hdn (by intro z; cases z)) (ne_of hq hde (by intro z; cases z)) hq
      have plen := p100 _ (List.mem_map_of_mem (f := (·.2)) (List.getElem_mem hi))
      have tk : (qs.take (i + 1)).map (·.2) = (qs.take i).map (·.2) ++ [qs[i].2] := by
        rw [tk_snoc hi, List.map_append]
        rfl
      rw [tk]
      clear tk hq
      generalize (qs.take i).map (·.2) = pre at *
      generalize qs[i] = qq at *
      obtain ⟨pa, p⟩ := qq
      dsimp only at hq5 plen ⊢
      have npn : pa ≠ dn := ne_of hq5 hn5 (by intro z; cases z)
      have npe : pa ≠ de := ne_of hq5 he5 (by intro z; cases z)
      wtm_at "rd"
      refine rd_forE (SqL.of hq5) ?_
      refine turnsW (walk_enum (K := K) (a := pa) (xs := p.map V.str)) (fun j σ H' => ∃ (nk : List Key) (ek : List (List Key)) (u5 u6 : Option V), σ = [some (.ref cl), some (.ref ob), some (.ref dn), some (.ref de), some (.ref pa), u5, u6, none, none] ∧ (∀ b o, b ≠ dn → b ≠ de → H5 b = some o → H' b = some o) ∧ H' dn = some (.dK (yesK nk)) ∧ H' de = some (.dT (yesK ek)) ∧
        (∀ x : Str, Sum.inr x ∈ nk ↔ x ∈ pre.flatten ∨ x ∈ p.take j) ∧ (∀ z, z ∈ ek ↔ ∃ e, (e ∈ pre.flatMap edgesP ∨ e ∈ edgesP (p.take j)) ∧ z = [Sum.inr e.1, Sum.inr e.2]) ∧ nk.length ≤ 100 * i + j ∧ ek.length ≤ 100 * i + j) ⟨nk, ek, _, _, rfl, (fun _ _ _ _ h => h), hn5, he5, (fun x => by rw [nki]; simp), (fun z => by rw [eki]; simp [edgesP]), by omega, by omega⟩ ?_ ?_ ?_
      · rintro j σ H' hj ⟨nk, ek, u5, u6, rfl, b, _⟩
        exact SqL.of (b _ _ npn npe hq5)
      · rintro j y σ H6 H7 hj ⟨nk, ek, u5, u6, rfl, b6, hn6, he6, nkj, ekj, nl, el⟩ ⟨T, x1, y1, rfl, fT, rfl, e1, e2⟩
        have hx := Option.some.inj e1
        subst hx
        obtain ⟨hin, rfl⟩ := map_at e2
        have kT := Same.new (o := .tup [.int (j : Int), .str p[j]]) fT
        have hT := @upd_same H6 T (.tup [.int (j : Int), .str p[j]])
        have hn7 := kT _ _ hn6
        have he7 := kT _ _ he6
        have b7 : ∀ b o, b ≠ dn → b ≠ de → H5 b = some o → (upd H6 T (.tup [.int (j : Int), .str p[j]])) b = some o := fun b o n1 n2 hb => kT _ _ (b6 b o n1 n2 hb)
        generalize upd H6 T (.tup [.int (j : Int), .str p[j]]) = H7 at *
        clear kT b6 hn6 he6
        refine rd_unp (SqT.of hT) rfl ?_
        wtm_at "rd"
        refine rd_dset hn7 (k := .inr p[j]) rfl (by unfold yesK; rw [List.length_map]; exact Nat.lt_of_le_of_lt (by omega : nk.length ≤ 20000) (by decide)) ?_
        rw [yes_put]
        have he8 := at_upd (o := .dK (yesK (insK nk (.inr p[j])))) (Ne.symm ned) he7
        have hn8 := @upd_same H7 dn (.dK (yesK (insK nk (.inr p[j]))))
        have b8 : ∀ b o, b ≠ dn → b ≠ de → H5 b = some o → (upd H7 dn (.dK (yesK (insK nk (.inr p[j]))))) b = some o := fun b o n1 n2 hb => at_upd n1 (b7 b o n1 n2 hb)
        generalize upd H7 dn (.dK (yesK (insK nk (.inr p[j])))) = H8 at *
        have nk8 : ∀ x : Str, Sum.inr x ∈ insK nk (.inr p[j]) ↔ x ∈ pre.flatten ∨ x ∈ p.take (j + 1) := fun x => by
          rw [mem_insK, nkj, tk_snoc hin, List.mem_append, List.mem_singleton, or_assoc]
          constructor
          · rintro (h | h | h)
            · exact .inl h
            · exact .inr (.inl h)
            · exact .inr (.inr (Sum.inr.inj h))
          · rintro (h | h | h)
            · exact .inl h
            · exact .inr (.inl h)
            · exact .inr (.inr (congrArg Sum.inr h))
        have nl8 := insK_len (ks := nk) (x := (Sum.inr p[j] : Key))
        wtm_at "rd"
        refine rd_split (fun c1 => ?_) (fun c1 => ?_)
        · obtain ⟨m, rfl⟩ : ∃ m, j = m + 1 := ⟨j - 1, by omega⟩
          have hm : m < p.length := by omega
          wtm_at "rd"
          refine rd_ixL (SqL.of (b8 _ _ npn npe hq5)) (v := .str p[m]) (by
            rw [show (((m + 1 : Nat) : Int) - 1) = (m : Int) from by omega]
            exact atI_nat (by rw [List.getElem?_map, List.getElem?_eq_getElem hm]; rfl)) ?_
          wtm_at "rd"
          refine ⟨p[m], p[m + 1], rfl, fun t ft => ?_⟩
          rw [eOf_tup]
          have kt := Same.new (o := .tup [.str (eOf p[m] p[m + 1]).1, .str (eOf p[m] p[m + 1]).2]) ft
          refine ⟨de, _, rfl, DPut.t (k := [Sum.inr (eOf p[m] p[m + 1]).1, Sum.inr (eOf p[m] p[m + 1]).2]) (kt _ _ he8) upd_same (by unfold yesK; rw [List.length_map]; exact Nat.lt_of_le_of_lt (by omega : ek.length ≤ 100000) (by decide)), ?_⟩
          rw [yes_put]
          have el8 := insK_len (ks := ek) (x := ([Sum.inr (eOf p[m] p[m + 1]).1, Sum.inr (eOf p[m] p[m + 1]).2] : List Key))
          refine ⟨_, insK ek [Sum.inr (eOf p[m] p[m + 1]).1, Sum.inr (eOf p[m] p[m + 1]).2], _, _, rfl, fun b o n1 n2 hb => at_upd n2 (kt _ _ (b8 b o n1 n2 hb)), at_upd ned (kt _ _ hn8), upd_same, nk8, fun z => ?_, by omega, by omega⟩
          rw [mem_insK, ekj, edgesP_take hin]
          constructor
          · rintro (⟨e, h, rfl⟩ | rfl)
            · rcases h with h | h
              · exact ⟨e, .inl h, rfl⟩
              · exact ⟨e, .inr (List.mem_append_left _ h), rfl⟩
            · exact ⟨_, .inr (List.mem_append_right _ List.mem_cons_self), rfl⟩
          · rintro ⟨e, h, rfl⟩
            rcases h with h | h
            · exact .inl ⟨e, .inl h, rfl⟩
            · rcases List.mem_append.mp h with h | h
              · exact .inl ⟨e, .inr h, rfl⟩
              · rw [List.mem_singleton.mp h]
                exact .inr rfl
        · obtain rfl : j = 0 := by omega
          wtm_at "rd"
          refine ⟨_, ek, _, _, rfl, b8, hn8, he8, nk8, fun z => ?_, by omega, by omega⟩
          rw [ekj]
          have e0 : edgesP (p.take 0) = [] := rfl
          have e1 : edgesP (p.take (0 + 1)) = [] := by
            cases p with
            | nil => rfl
            | cons x r => rfl
          rw [e0, e1]
      · rintro σ H6 ⟨nk, ek, u5, u6, rfl, b6, hn6, he6, nkj, ekj, nl, el⟩
        rw [List.length_map] at nkj ekj nl el
        rw [List.take_of_length_le (Nat.le_refl _)] at nkj ekj
        refine ⟨nk, ek, _, _, _, rfl, fun b o n1 n2 hb => b6 b o n1 n2 (b5 b o n1 n2 hb), hn6, he6, fun x => ?_, fun z => ?_, by omega, by omega⟩
        · rw [nkj]
          simp
        · rw [ekj]
          simp
    · rintro σ H5 ⟨nk, ek, u4, u5, u6, rfl, b5, hn5, he5, nki, eki, nl, el⟩
      rw [List.length_map, List.take_length] at nki eki
      generalize qs.map (·.2) = ps at *
      have s5 : Same H H5 := fun b o hb => b5 b o (ne_of_none hb fdn) (ne_of_none hb nde) (s24 b o hb)
      wtm_at "rd"
      intro l0 fl0
      have s6 := same_add (o := .lst []) s5 fl0
      have nl0 := new_of_same s5 fl0
      have hn6 := at_upd (o := .lst []) (ne_of_none hn5 fl0) hn5
      have he6 := at_upd (o := .lst []) (ne_of_none he5 fl0) he5
      have hl0 := @upd_same H5 l0 (.lst [])
      generalize upd H5 l0 (.lst []) = H6 at *
      clear b5 s24 hn5 he5 s5
      wtm_at "rd"
      refine rd_forL (SqL.of (s6 _ _ hcl)) ?_
      refine turnsL (K := K) (xs := cs.map fun c => V.ref c.1) (fun i σ H' => ∃ (u8 : Option V), σ = [some (.ref cl), some (.ref ob), some (.ref dn), some (.ref de), u4, u5, u6, some (.ref l0), u8] ∧ But l0 H6 H' ∧ H' l0 = some (.lst (((cs.take i).filter fun c => namedF ps c.2).map fun c => V.ref c.1))) ⟨_, rfl, (fun _ _ _ h => h), hl0⟩ ?_ ?_ ?_
      · rintro i σ H' hi ⟨u8, rfl, b, _⟩
        exact SqL.of (b _ _ (ne_of_none hcl nl0) (s6 _ _ hcl))
      · rintro i y σ H7 hy ⟨u8, rfl, b7, hl7⟩
        obtain ⟨hi, rfl⟩ := map_at hy
        have hm := List.getElem_mem hi
        have hc := tc _ hm
        have hc7 := b7 _ _ (ne_of_none hc nl0) (s6 _ _ hc)
        have form := ct _ hm
        have hn7 := b7 _ _ (ne_of hn6 hl0 (by intro z; cases z)) hn6
        have he7 := b7 _ _ (ne_of he6 hl0 (by intro z; cases z)) he6
        have fl : ((cs.take i).filter fun c => namedF ps c.2).length ≤ 100 := Nat.le_trans (List.length_filter_le _ _) (by rw [List.length_take]; omega)
        have tk : (cs.take (i + 1)).filter (fun c => namedF ps c.2) = (cs.take i).filter (fun c => namedF ps c.2) ++ (if namedF ps cs[i].2 = true then [cs[i]] else []) := by
          rw [tk_snoc hi, List.filter_append]
          congr 1
          by_cases z : namedF ps cs[i].2 = true
          · rw [List.filter_cons, if_pos z, if_pos z]
            rfl
          · rw [List.filter_cons, if_neg z, if_neg z]
            rfl
        rw [tk]
        clear tk
        generalize cs[i] = c at *
        rcases form with ⟨x, ex⟩ | ⟨x, y, ex⟩
        · have hc8 : H7 c.1 = some (.tup [.str "pin", .str x]) := by rw [hc7, ex]; rfl
          have nf : namedF ps c.2 = decide (x ∈ ps.flatten) := by rw [ex]; rfl
          rw [nf]
          wtm_at "rd"
          refine rd_ixT (SqT.of hc8) (v := .str "pin") rfl ?_
          wtm_at "rd"
          refine rd_yes rfl ?_
          wtm_at "rd"
          refine rd_ixT (SqT.of hc8) (v := .str x) rfl ?_
          wtm_at "rd"
          refine rd_din1 (.inl hn7) (k := .inr x) rfl ?_
          by_cases m : x ∈ ps.flatten
          · rw [yes_in ((nki x).mpr m), decide_eq_true m]
            wtm_at "rd"
            refine rd_tyL hl7 ?_
            wtm_at "rd"
            refine rd_append hl7 (by rw [List.length_map]; omega) ?_
            exact ⟨_, rfl, fun b o n hb => at_upd n ((b7 b o n hb)), by rw [if_pos rfl, List.map_append]; exact upd_same⟩
          · rw [yes_out (fun z => m ((nki x).mp z)), decide_eq_false m]
            wtm_at "rd"
            refine rd_slTH hc8 fun a H8 s8 ha => ?_
            rw [show (1 : Int) = ((1 : Nat) : Int) from rfl, cutV_from (by simp)] at ha
            wtm_at "rd"
            refine ⟨de, _, rfl, DGet.t (k := [Sum.inr x]) (s8 _ _ he7) ?_, ?_⟩
            · exact ha
            · rw [yes_out (fun z => by
                obtain ⟨e, _, eq⟩ := (eki _).mp z
                cases eq)]
              refine ⟨false, rfl, ?_⟩
              wtm_at "rd"
              refine ⟨_, rfl, fun b o n hb => s8 _ _ (b7 b o n hb), ?_⟩
              rw [if_neg (by decide), List.append_nil]
              exact s8 _ _ hl7
        · have hc8 : H7 c.1 = some (.tup [.str "edge", .str x, .str y]) := by rw [hc7, ex]; rfl
          have nf : namedF ps c.2 = decide ((x, y) ∈ ps.flatMap edgesP) := by rw [ex]; rfl
          rw [nf]
          wtm_at "rd"
          refine rd_ixT (SqT.of hc8) (v := .str "edge") rfl ?_
          wtm_at "rd"
          refine rd_no pin_ne ?_
          wtm_at "rd"
          refine rd_slTH hc8 fun a H8 s8 ha => ?_
          rw [show (1 : Int) = ((1 : Nat) : Int) from rfl, cutV_from (by simp)] at ha
          wtm_at "rd"
          refine ⟨de, _, rfl, DGet.t (k := [Sum.inr x, Sum.inr y]) (s8 _ _ he7) ?_, ?_⟩
          · exact ha
          · by_cases m : (x, y) ∈ ps.flatMap edgesP
            · rw [yes_in ((eki _).mpr ⟨_, m, rfl⟩), decide_eq_true m]
              refine ⟨true, rfl, ?_⟩
              wtm_at "rd"
              refine rd_tyL (s8 _ _ hl7) ?_
              wtm_at "rd"
              refine rd_append (s8 _ _ hl7) (by rw [List.length_map]; omega) ?_
              exact ⟨_, rfl, fun b o n hb => at_upd n (s8 _ _ (b7 b o n hb)), by rw [if_pos rfl, List.map_append]; exact upd_same⟩
            · rw [yes_out (fun z => by
                obtain ⟨e, he, eq⟩ := (eki _).mp z
                obtain ⟨e1, e2⟩ := e
                injection eq with q1 q2
                injection q2 with q2 _
                have r1 : x = e1 := Sum.inr.inj q1
                have r2 : y = e2 := Sum.inr.inj q2
                rw [r1, r2] at m
                exact m he), decide_eq_false m]
              refine ⟨false, rfl, ?_⟩
              wtm_at "rd"
              refine ⟨_, rfl, fun b o n hb => s8 _ _ (b7 b o n hb), ?_⟩
              rw [if_neg (by decide), List.append_nil]
              exact s8 _ _ hl7
      · rintro σ H7 ⟨u8, rfl, b7, hl7⟩
        rw [List.length_map, List.take_length] at hl7
        wtm_at "rd"
        exact q l0 H7 (fun b o hb => b7 b o (ne_of_none hb nl0) (s6 b o hb)) nl0 hl7
end
end Law

/-! repr of whatever data -/
namespace U
open PySem PySem.Spec PyProof.Rows L2
section
variable {K : PySem.W.Frag} {H H' : Hp}
mutual
theorem dp_ext (l : ∀ a xs, SqL K H a xs → SqL K H' a xs) (t : ∀ a xs, SqT K H a xs → SqT K H' a xs) : ∀ (d : PyData) (v : V), Dp K H v d → Dp K H' v d
  | .none, _, h => by cases h; exact .non
  | .bool _, _, h => by cases h; exact .bl _
  | .int _, _, h => by cases h; exact .int _
  | .str _, _, h => by cases h; exact .str _
  | .list ds, _, h => by
    cases h with
    | lst h1 h2 => exact .lst (l _ _ h1) (dp_extA l t ds _ h2)
  | .tuple ds, _, h => by
    cases h with
    | tup h1 h2 => exact .tup (t _ _ h1) (dp_extA l t ds _ h2)
  | .dict _, _, h => by cases h
theorem dp_extA (l : ∀ a xs, SqL K H a xs → SqL K H' a xs) (t : ∀ a xs, SqT K H a xs → SqT K H' a xs) : ∀ (ds : List PyData) (vs : List V), DpAll K H vs ds → DpAll K H' vs ds
  | [], _, h => by cases h; exact .nil
  | d :: ds, _, h => by
    cases h with
    | cons h1 h2 => exact .cons (dp_ext l t d _ h1) (dp_extA l t ds _ h2)
end
end
/-- a value that repr may be asked of, and what repr says -/
inductive Rp (K : PySem.W.Frag) (H : Hp) : V → Str → Prop
  | non : Rp K H .non "None"
  | bl (b : Bool) : Rp K H (.bl b) (if b then "True" else "False")
  | int (i : Int) (h : i.natAbs.log2 < 1920) : Rp K H (.int i) (toString i)
  | str (x : Str) (h : (reprText x).length ≤ sizeLine) : Rp K H (.str x) (reprText x)
  | of {a : Addr} {d : PyData} : Dp K H (.ref a) d → d.hasDict = false → Shows d → Rp K H (.ref a) d.shown
  | dct {a : Addr} {ns : List Str} {f : Str → Int} : H a = some (.dK (kvF ns f)) → Shows (.dict (ns.map fun n => (.str n, .int (f n)))) → Rp K H (.ref a) (PyData.dict (ns.map fun n => (.str n, .int (f n)))).shown
theorem Rp.ext {K : PySem.W.Frag} {H H' : Hp} {v : V} {d : Str} (h : Rp K H v d) (l : ∀ a xs, SqL K H a xs → SqL K H' a xs) (t : ∀ a xs, SqT K H a xs → SqT K H' a xs) (k : ∀ a kvs, H a = some (.dK kvs) → H' a = some (.dK kvs)) : Rp K H' v d := by
  cases h with
  | non => exact .non
  | bl b => exact .bl b
  | int i h => exact .int i h
  | str x h => exact .str x h
  | of h1 h2 h3 => exact .of (dp_ext l t _ _ h1) h2 h3
  | dct h1 h2 => exact .dct (k _ _ h1) h2
theorem Rp.same {K : PySem.W.Frag} {H H' : Hp} {v : V} {d : Str} (h : Rp K H v d) (s : Same H H') : Rp K H' v d := h.ext
  (fun a xs q => by
    rcases q with (q | ⟨o, q⟩) | q
    · exact .inl (.inl (s _ _ q))
    · exact .inl (.inr ⟨o, s _ _ q⟩)
    · exact .inr q) (fun a xs q => Same.seqT s q) fun a kvs q => s _ _ q
def rReprV (K : PySem.W.Frag) : List V → Hp → VK → Prop := fun xs H Q => ∃ x S, xs = [x] ∧ Rp K H x S ∧ Q (.str S) H
theorem kReprV {X : Cx} (K : PySem.W.Frag) (hK : X.K = K) (hg : X.A.guards = some []) (hu : X.A.units + 64 < cLine) : CallR X (.builtin "repr") (rReprV K) := by
  subst hK
  intro pins s σ H xs us Q I r h
  obtain ⟨x, S, rfl, hr, q⟩ := h
  obtain ⟨u, eu, rx⟩ := vals1 r
  subst eu
  have fin : ∀ (a : Addr) (d : PyData) (as : List Addr), Reads s.heap (.ref a) d as → (d.hasDict = true → sysModules ∉ as) → Shows d → Q (.str d.shown) H → wpAny (model X.prog X.w) X.A (call (.builtin "repr") [.ref a]) (EP X pins σ Q) X.xe s := fun a d as rd hsm S q => by
    have hdp := S.dp
    exact PySem.repr_of_reads' rd S.sh hsm hg (by omega) (fun b o e => e) (fun h' v tk hk => ⟨.str d.shown, H, I.kept (t' := tk) hk, ⟨_, rfl⟩, q⟩) (PyData.shown_fits_bulk (by decide) (by decide) S.lv S.bk)
  cases hr with
  | non =>
    cases rx
    exact PySem.P.repr_of_none ⟨.str _, H, I.tok _, ⟨_, rfl⟩, q⟩
  | bl b =>
    cases rx
    exact PySem.P.repr_of_bool ⟨.str _, H, I.tok _, ⟨_, rfl⟩, q⟩
  | int i h =>
    obtain ⟨tk, rfl⟩ := rx
    exact PySem.P.repr_of_int h ⟨.str _, H, I.tok _, ⟨_, rfl⟩, q⟩
  | str x h =>
    obtain ⟨tk, rfl⟩ := rx
    exact PySem.P.repr_of_str ⟨.str _, H, I.tok _, ⟨_, rfl⟩, q⟩ h
  | of h1 h2 h3 =>
    cases rx
    obtain ⟨as, ra⟩ := Dp.reads I _ _ _ h1 rfl
    exact fin _ _ as ra (fun z => by rw [h2] at z; cases z) h3 q
  | dct h1 h2 =>
    cases rx
    obtain ⟨as, ra, na⟩ := (Di.dct (K := X.K) h1).reads I rfl
    exact fin _ _ as ra (fun _ => na) h2 q
theorem rd_reprV {K : PySem.W.Frag} {H : Hp} {Q : VK} {x : V} {d : Str} (h : Rp K H x d) (q : Q (.str d) H) : rReprV K [x] H Q := ⟨x, d, rfl, h, q⟩
end U

namespace Law
open PySem PySem.Spec PyProof.Rows L2 U
local macro_rules | `(tactic| wtm_at "rd1") => `(tactic| first
  | with_reducible refine rd_seq ?_
  | ((with_reducible refine rd_var (v := ?vv) ?hv ?_); (case hv => exact rfl))
  | with_reducible refine rd_c ?_
  | with_reducible refine rd_cons ?_
  | with_reducible refine rd_nil ?_
  | with_reducible refine rd_op ?_
  | with_reducible refine rd_asg ?_
  | with_reducible refine rd_name ?_
  | with_reducible refine rd_c1 ?_
  | with_reducible refine rd_cb ?_
  | with_reducible refine rd_test ?_
  | with_reducible refine rd_B ?_
  | with_reducible refine rd_bl ?_
  | with_reducible refine rd_if ?_
  | with_reducible refine rd_ret ?_
  | with_reducible refine rd_drop ?_
  | with_reducible refine rd_next ?_
  | with_reducible refine rd_addI ?_
  | with_reducible refine rd_ltI ?_
  | with_reducible refine rd_eqI ?_
  | with_reducible refine rd_neI ?_
  | with_reducible refine rd_eqS ?_
  | with_reducible refine rd_neS ?_
  | with_reducible refine rd_gtI ?_
  | with_reducible refine rd_geI ?_
  | with_reducible refine rd_leI ?_
  | with_reducible refine rd_ltS ?_
  | with_reducible refine rd_subI ?_
  | ((with_reducible refine rd_modI ?hc ?_); (case hc => first | decide | omega))
  | ((with_reducible refine rd_mulI ?hc ?_); (case hc => first | exact mul_bI | exact .inl (.inr (by decide)) | exact .inl (.inl (by decide)) | exact .inl (.inr (by omega)) | exact .inl (.inl (by omega))))
  | ((with_reducible refine rd_divI ?hc ?_); (case hc => first | decide | omega))
  | ((with_reducible refine rd_powI ?hc ?_); (case hc => exact ⟨by decide, by decide, by decide⟩))
  | with_reducible refine rd_lst ?_
  | with_reducible refine rd_tup ?_
  | ((with_reducible refine rd_sz ?hv ?_); (case hv => exact rfl))
  | with_reducible refine rd_and ?_
  | with_reducible refine rd_or ?_
  | with_reducible refine rd_not ?_
  | with_reducible refine rd_andV ?_
  | with_reducible refine rd_orV ?_
  | with_reducible refine rd_notV ?_
  | with_reducible refine rd_ifE ?_
  | with_reducible refine rd_T ?_
  | with_reducible refine rd_F ?_
  | with_reducible refine rd_chain ?_
  | with_reducible refine rd_is ?_
  | with_reducible refine rd_isNot ?_
  | with_reducible refine rd_absI ?_
  | with_reducible refine rd_maxI ?_
  | with_reducible refine rd_minI ?_
  | with_reducible refine rd_intI ?_
  | with_reducible refine rd_intB ?_
  | with_reducible refine rd_sub ?_
  | with_reducible refine rd_sl ?_
  | with_reducible refine rd_noPart ?_
  | with_reducible refine rd_part ?_
  | with_reducible refine rd_exI ?_
  | with_reducible refine rd_bm ?_
  | with_reducible refine rd_bm0 ?_
  | with_reducible refine rd_un ?_
  | with_reducible refine rd_neg ?_
  | with_reducible refine rd_c2 ?_
  | with_reducible refine rd_retN ?_
  | with_reducible refine rd_break ?_
  | with_reducible refine rd_cont ?_
  | with_reducible refine rd_for ?_
  | with_reducible refine rd_rng1 ?_
  | with_reducible refine rd_rng2 ?_
  | with_reducible refine rd_iList ?_
  | with_reducible refine rd_iTup ?_
  | with_reducible refine rd_iEnum ?_
  | ((with_reducible refine rd_forR ?h0 ?h1 ?_); (case h0 => omega); (case h1 => omega))
  | with_reducible refine rd_lc ?_
  | with_reducible refine rd_gcons ?_
  | with_reducible refine rd_gnil ?_
  | with_reducible refine rd_dget ?_
  | with_reducible refine rd_dput ?_
  | with_reducible refine rd_dnew ?_
  | with_reducible refine rd_dc ?_
  | with_reducible refine rd_iItems ?_
  | with_reducible refine rd_iKeys ?_
  | with_reducible refine rd_din ?_
  | with_reducible refine rd_par ?_
  | with_reducible refine rd_two ?_
  | with_reducible refine rd_reprB ?_
  | with_reducible refine rd_ck ?_
  | ((with_reducible refine rd_len ?hl ?_); (case hl => exact rfl))
  | with_reducible refine rd_nT ?_
  | with_reducible refine rd_nF ?_
  | with_reducible refine rd_dnin ?_
  | with_reducible refine rd_isB ?_
  | with_reducible refine rd_isNotB ?_
  | with_reducible refine rd_daug ?_
  | with_reducible refine rd_yesT ?_
  | ((with_reducible refine rd_wp ?hw ?_); (case hw => exact rfl)))
local macro_rules | `(tactic| wtm_at "rd") => `(tactic| repeat wtm_at "rd1")

/-- the same names in another order -/
def spShuf (K : PySem.W.Frag) : Sp := fun vs H Q _ => ∃ (p src : Addr) (xs : List Str), vs = [.ref p, .ref src] ∧ PoolAt H p ∧ H src = some (.lst (xs.map V.str)) ∧ (∀ x ∈ xs, PyData.strOk x = true) ∧ xs.length ≤ 1000 ∧
  ∀ (l : Addr) (ys : List Str) (H' : Hp), Go p H H' → H l = none → H' l = some (.lst (ys.map V.str)) → ys.Perm xs → Q (.ref l) H'
def spEdgeOf : Sp := fun vs H Q _ => ∃ x y : Str, vs = [.str x, .str y] ∧ ∀ t, H t = none → Q (.ref t) (upd H t (.tup (if sLt x y then [.str x, .str y] else [.str y, .str x])))
def spWants : Sp := fun vs H Q _ => ∃ (p : Addr) (kind a b m : Int), vs = [.ref p, .int kind, .int a, .int b, .int m] ∧ PoolAt H p ∧ 0 ≤ kind ∧ kind ≤ 10 ∧ ∀ (r : Bool) (H' : Hp), Go p H H' → Q (.bl r) H'
section
variable {P : Program} {w : World} {K : PySem.W.Frag} {mg : Str → Option Value} {base : Heap}
end
end Law

namespace Law
open PySem PySem.Spec PyProof.Rows L2 U
local macro_rules | `(tactic| wtm_at "rd1") => `(tactic| first
  | with_reducible refine rd_seq ?_
  | ((with_reducible refine rd_var (v := ?vv) ?hv ?_); (case hv => exact rfl))
  | with_reducible refine rd_c ?_
  | with_reducible refine rd_cons ?_
  | with_reducible refine rd_nil ?_
  | with_reducible refine rd_op ?_
  | with_reducible refine rd_asg ?_
  | with_reducible refine rd_name ?_
  | with_reducible refine rd_c1 ?_
  | with_reducible refine rd_cb ?_
  | with_reducible refine rd_test ?_
  | with_reducible refine rd_B ?_
  | with_reducible refine rd_bl ?_
  | with_reducible refine rd_if ?_
  | with_reducible refine rd_ret ?_
  | with_reducible refine rd_drop ?_
  | with_reducible refine rd_next ?_
  | with_reducible refine rd_addI ?_
  | with_reducible refine rd_ltI ?_
  | with_reducible refine rd_eqI ?_
  | with_reducible refine rd_neI ?_
  | with_reducible refine rd_eqS ?_
  | with_reducible refine rd_neS ?_
  | with_reducible refine rd_gtI ?_
  | with_reducible refine rd_geI ?_
  | with_reducible refine rd_leI ?_
  | with_reducible refine rd_ltS ?_
  | with_reducible refine rd_subI ?_
  | ((with_reducible refine rd_modI ?hc ?_); (case hc => first | decide | omega))
  | ((with_reducible refine rd_mulI ?hc ?_); (case hc => first | exact mul_bI | exact .inl (.inr (by decide)) | exact .inl (.inl (by decide)) | exact .inl (.inr (by omega)) | exact .inl (.inl (by omega))))
  | ((with_reducible refine rd_divI ?hc ?_); (case hc => first | decide | omega))
  | ((with_reducible refine rd_powI ?hc ?_); (case hc => exact ⟨by decide, by decide, by decide⟩))
  | with_reducible refine rd_lst ?_
  | with_reducible refine rd_tup ?_
  | ((with_reducible refine rd_sz ?hv ?_); (case hv => exact rfl))
  | with_reducible refine rd_and ?_
  | with_reducible refine rd_or ?_
  | with_reducible refine rd_not ?_
  | with_reducible refine rd_andV ?_
  | with_reducible refine rd_orV ?_
  | with_reducible refine rd_notV ?_
  | with_reducible refine rd_ifE ?_
  | with_reducible refine rd_T ?_
  | with_reducible refine rd_F ?_
  | with_reducible refine rd_chain ?_
  | with_reducible refine rd_is ?_
  | with_reducible refine rd_isNot ?_
  | with_reducible refine rd_absI ?_
  | with_reducible refine rd_maxI ?_
  | with_reducible refine rd_minI ?_
  | with_reducible refine rd_intI ?_
  | with_reducible refine rd_intB ?_
  | with_reducible refine rd_sub ?_
  | with_reducible refine rd_sl ?_
  | with_reducible refine rd_noPart ?_
  | with_reducible refine rd_part ?_
  | with_reducible refine rd_exI ?_
  | with_reducible refine rd_bm ?_
  | with_reducible refine rd_bm0 ?_
  | with_reducible refine rd_un ?_
  | with_reducible refine rd_neg ?_
  | with_reducible refine rd_c2 ?_
  | with_reducible refine rd_retN ?_
  | with_reducible refine rd_break ?_
  | with_reducible refine rd_cont ?_
  | with_reducible refine rd_for ?_
  | with_reducible refine rd_rng1 ?_
  | with_reducible refine rd_rng2 ?_
  | with_reducible refine rd_iList ?_
  | with_reducible refine rd_iTup ?_
  | with_reducible refine rd_iEnum ?_
  | ((with_reducible refine rd_forR ?h0 ?h1 ?_); (case h0 => omega); (case h1 => omega))
  | with_reducible refine rd_lc ?_
  | with_reducible refine rd_gcons ?_
  | with_reducible refine rd_gnil ?_
  | with_reducible refine rd_dget ?_
  | with_reducible refine rd_dput ?_
  | with_reducible refine rd_dnew ?_
  | with_reducible refine rd_dc ?_
  | with_reducible refine rd_iItems ?_
  | with_reducible refine rd_iKeys ?_
  | with_reducible refine rd_din ?_
  | with_reducible refine rd_par ?_
  | with_reducible refine rd_two ?_
  | with_reducible refine rd_reprB ?_
  | with_reducible refine rd_ck ?_
  | ((with_reducible refine rd_len ?hl ?_); (case hl => exact rfl))
  | with_reducible refine rd_nT ?_
  | with_reducible refine rd_nF ?_
  | with_reducible refine rd_dnin ?_
  | with_reducible refine rd_isB ?_
  | with_reducible refine rd_isNotB ?_
  | with_reducible refine rd_daug ?_
  | with_reducible refine rd_yesT ?_
  | ((with_reducible refine rd_wp ?hw ?_); (case hw => exact rfl)))
local macro_rules | `(tactic| wtm_at "rd") => `(tactic| repeat wtm_at "rd1")

/-- a new graph and a state of it -/
def spGraph : Sp := fun vs H Q _ => ∃ (p : Addr) (most : Int), vs = [.ref p, .int most] ∧ PoolAt H p ∧ 1 ≤ most ∧ most ≤ 25 ∧
  ∀ (t g n e st : Addr) (ns ord : List Str) (es : List (Addr × Str × Str)) (ws : List (Str × Int)) (H' : Hp), Go p H H' → H' t = some (.tup [.ref g, .ref st]) → GrAt H' g n e ns es → H' st = some (.dK (kvsOf ws)) →
    H g = none → H st = none → 1 ≤ ns.length → ns.length ≤ most.toNat → GrOk ns (es.map (·.2)) → ord.Perm ns → StOk ord ws → (∀ x ∈ es, numOf ws x.2.1 ≠ numOf ws x.2.2) → es.length ≤ 1000 → H t = none → Q (.ref t) H'
theorem PoolAt.offT {H : Hp} {p q : Addr} {xs : List V} (h : PoolAt H p) (hq : H q = some (.tup xs)) : q ≠ p := by
  rintro rfl
  obtain ⟨ys, h⟩ := h.isL
  rw [hq] at h
  cases h
theorem PoolAt.offD {H : Hp} {p q : Addr} {xs : List (Key × V)} (h : PoolAt H p) (hq : H q = some (.dK xs)) : q ≠ p := by
  rintro rfl
  obtain ⟨ys, h⟩ := h.isL
  rw [hq] at h
  cases h
/-- what stays while edges are found -/
structure GK (H : Hp) (p or st ed : Addr) (ord : List Str) (ws : List (Str × Int)) (es : List (Addr × Str × Str)) (H' : Hp) : Prop where
  go : Go p H H'
  ho : H' or = some (.lst (ord.map V.str))
  hs : H' st = some (.dK (kvsOf ws))
  he : H' ed = some (.lst (es.map fun x => V.ref x.1))
  pr : ∀ x ∈ es, H' x.1 = some (.tup [.str x.2.1, .str x.2.2])
theorem GK.new {H H' : Hp} {p or st ed t : Addr} {ord : List Str} {ws : List (Str × Int)} {es : List (Addr × Str × Str)} {o : HO} (h : GK H p or st ed ord ws es H') (n : H' t = none) : GK H p or st ed ord ws es (upd H' t o) :=
  ⟨h.go.new n, at_upd (ne_of_none h.ho n) h.ho, at_upd (ne_of_none h.hs n) h.hs, at_upd (ne_of_none h.he n) h.he, fun x hx => at_upd (ne_of_none (h.pr x hx) n) (h.pr x hx)⟩
theorem GK.step {H H' H2 : Hp} {p or st ed : Addr} {ord : List Str} {ws : List (Str × Int)} {es : List (Addr × Str × Str)} (h : GK H p or st ed ord ws es H') (no : or ≠ p) (ne : ed ≠ p) (g : Go p H' H2) : GK H p or st ed ord ws es H2 :=
  ⟨h.go.trans g, g.at h.ho no, g.at h.hs (h.go.pool.offD h.hs), g.at h.he ne, fun x hx => g.at (h.pr x hx) (h.go.pool.offT (h.pr x hx))⟩
theorem GK.add {H H' : Hp} {p or st ed t : Addr} {ord : List Str} {ws : List (Str × Int)} {es : List (Addr × Str × Str)} {e : Str × Str} (h : GK H p or st ed ord ws es H') (hf : H ed = none) (ne : ed ≠ p) (noe : or ≠ ed)
    (ht : H' t = some (.tup [.str e.1, .str e.2])) : GK H p or st ed ord ws (es ++ [(t, e)]) (upd H' ed (.lst ((es.map fun x => V.ref x.1) ++ [.ref t]))) := by
  have nt : ∀ {b : Addr} {xs : List V}, H' b = some (.tup xs) → b ≠ ed := fun {b xs} hb => ne_of hb h.he (by intro z; cases z)
  refine ⟨h.go.put hf (Ne.symm ne), at_upd noe h.ho, at_upd (ne_of h.hs h.he (by intro z; cases z)) h.hs, ?_, ?_⟩
  · rw [upd_same, List.map_append]
    rfl
  · intro x hx
    rcases List.mem_append.mp hx with hx | hx
    · exact at_upd (nt (h.pr x hx)) (h.pr x hx)
    · have : x = (t, e) := by simpa using hx
      subst this
      exact at_upd (nt ht) ht
section
variable {P : Program} {w : World} {K : PySem.W.Frag} {mg : Str → Option Value} {base : Heap}
structure C2 (P : Program) (w : World) (K : PySem.W.Frag) (mg : Str → Option Value) (base : Heap) : Prop where
  _law_draw : Cal P w K mg base CX0 1 "_law_draw" spDraw
  _law_draw_names : Cal P w K mg base CX0 2 "_law_draw_names" spNames
  _law_shuffle : Cal P w K mg base CX0 2 "_law_shuffle" (spShuf K)
  _law_edge_of : Cal P w K mg base CX0 1 "_law_edge_of" spEdgeOf
  _law_wants_edge : Cal P w K mg base CX0 2 "_law_wants_edge" spWants
end
end Law

namespace Law
open PySem PySem.Spec PyProof.Rows L2 U
/-- a graph and a state of it stand -/
structure GSt (H : Hp) (g n e st : Addr) (ns ord : List Str) (es : List (Addr × Str × Str)) (f : Str → Int) : Prop where
  gr : GrAt H g n e ns es
  ok : GrOk ns (es.map (·.2))
  pm : ord.Perm ns
  l2 : ns.length ≤ 100
  l3 : es.length ≤ 1000
  st : H st = some (.dK (kvF ord f))
  tri : ∀ x ∈ ns, 0 ≤ f x ∧ f x < 3
  pro : ∀ x ∈ es, f x.2.1 ≠ f x.2.2
section
variable {H H' : Hp} {g n e st p : Addr} {ns ord : List Str} {es : List (Addr × Str × Str)} {f : Str → Int}
theorem GSt.same (h : GSt H g n e st ns ord es f) (s : Same H H') : GSt H' g n e st ns ord es f := ⟨h.gr.same s, h.ok, h.pm, h.l2, h.l3, s _ _ h.st, h.tri, h.pro⟩
theorem GSt.go (h : GSt H g n e st ns ord es f) (hp : PoolAt H p) (b : Go p H H') : GSt H' g n e st ns ord es f := by
  obtain ⟨ys, hy⟩ := hp.isL
  exact ⟨h.gr.but hy b.but, h.ok, h.pm, h.l2, h.l3, b.but.dK hy h.st, h.tri, h.pro⟩
theorem GSt.nd (h : GSt H g n e st ns ord es f) : ns.Nodup := asc_nodup h.ok.names.asc
theorem GSt.ndo (h : GSt H g n e st ns ord es f) : ord.Nodup := h.pm.nodup_iff.mpr h.nd
theorem GSt.inO (h : GSt H g n e st ns ord es f) : ∀ x ∈ ns, x ∈ ord := fun x hx => h.pm.mem_iff.mpr hx
theorem GSt.inE (h : GSt H g n e st ns ord es f) : ∀ x ∈ es, x.2.1 ∈ ns ∧ x.2.2 ∈ ns := fun x hx => h.ok.mem _ (List.mem_map_of_mem hx)
theorem GSt.sok (h : GSt H g n e st ns ord es f) : ∀ x ∈ ns, PyData.strOk x = true := fun x hx => (h.ok.names.ok x hx).sok
theorem GSt.eok (h : GSt H g n e st ns ord es f) : EsOk ns (es.map (·.2)) f := by
  refine ⟨fun x hx z => ?_, h.ok.mem, h.tri, fun x hx => ?_⟩
  · have := h.ok.lt x hx
    rw [z] at this
    exact sLt_irrefl _ this
  · obtain ⟨y, hy, rfl⟩ := List.mem_map.mp hx
    exact h.pro y hy
end
theorem use_graph {H : Hp} {p : Addr} {most : Int} {Q : VK} {E : XK} (h : PoolAt H p) (m0 : 1 ≤ most) (m1 : most ≤ 25)
    (k : ∀ (t g n e st : Addr) (ns ord : List Str) (es : List (Addr × Str × Str)) (f : Str → Int) (H' : Hp), Go p H H' → H' t = some (.tup [.ref g, .ref st]) → GSt H' g n e st ns ord es f → 1 ≤ ns.length → H t = none → H g = none → H st = none → Q (.ref t) H') : spGraph [.ref p, .int most] H Q E := by
  refine ⟨p, most, rfl, h, m0, m1, fun t g n e st ns ord es ws H' go ht hg hs ng nst l1 l2 ok pm so pro el nt => ?_⟩
  have ndo : ord.Nodup := pm.nodup_iff.mpr (asc_nodup ok.names.asc)
  refine k t g n e st ns ord es (numOf ws) H' go ht ⟨hg, ok, pm, by omega, el, ?_, fun x hx => so.at (pm.mem_iff.mpr hx), pro⟩ l1 nt ng nst
  rw [← kvs_F so ndo]
  exact hs
end Law

/-! k68's random constraints, a random path -/
namespace U
open PySem PySem.Spec PyProof.Rows L2
theorem sort2g {a b : Str} {ys : List Str} (p : ys.Perm [a, b]) (s : ys.Pairwise fun a b => ¬ sLt b a) : ys = [(eOf a b).1, (eOf a b).2] := by
  by_cases n : a = b
  · subst n
    have l := p.length_eq
    match ys, l with
    | [y1, y2], _ =>
      have m1 : y1 ∈ [a, a] := p.mem_iff.mp List.mem_cons_self
      have m2 : y2 ∈ [a, a] := p.mem_iff.mp (List.mem_cons_of_mem _ List.mem_cons_self)
      simp only [List.mem_cons, List.not_mem_nil, or_false, or_self] at m1 m2
      subst m1
      rw [m2]
      rcases eOf_cases y1 y1 with z | z <;> rw [z]
  · exact sort2 n p s
theorem atI_lastS {xs : List V} (h : 0 < xs.length) : atI xs (-1) = some (xs[xs.length - 1]'(by omega)) := by
  unfold atI ixN
  rw [if_neg (by decide)]
  split
  · rename_i h2
    simp only [Option.bind_some]
    rw [show ((-1 : Int) + (xs.length : Int)).toNat = xs.length - 1 from by omega, List.getElem?_eq_getElem (by omega)]
  · omega
def dTx (xs : List Str) : PyData := .tuple (xs.map PyData.str)
theorem dp_txs {K : PySem.W.Frag} {H : Hp} : ∀ {cs : List (Addr × List Str)}, TxtsAt H cs → DpAll K H (cs.map fun c => V.ref c.1) ((cs.map (·.2)).map dTx)
  | [], _ => .nil
  | c :: r, h => .cons (.tup (SqT.of (h c List.mem_cons_self)) (dp_strs _)) (dp_txs fun d hd => h d (List.mem_cons_of_mem _ hd))
theorem can_txs : ∀ {cs : List (List Str)}, (∀ c ∈ cs, ∀ x ∈ c, PyData.strOk x = true) → PyData.canLayAll0 (cs.map dTx) = true ∧ PyData.depthAll (cs.map dTx) ≤ 1
  | [], _ => by simp [PyData.canLayAll0, PyData.depthAll]
  | c :: r, h => by
    obtain ⟨a, b⟩ := can_txs (cs := r) fun d hd => h d (List.mem_cons_of_mem _ hd)
    have e1 : (dTx c).canLay0 = true := by
      unfold dTx
      rw [PyData.canLay0, can_strs (h c List.mem_cons_self)]
    have e2 : (dTx c).depth = 1 := by
      unfold dTx
      rw [PyData.depth, dep_strs]
    rw [List.map_cons, PyData.canLayAll0, PyData.depthAll, a, e1, e2]
    exact ⟨rfl, by omega⟩
theorem shaped_txs {cs : List (List Str)} (h : ∀ c ∈ cs, ∀ x ∈ c, PyData.strOk x = true) : SeqAt.shaped (.list (cs.map dTx)) = true := by
  obtain ⟨a, b⟩ := can_txs h
  unfold SeqAt.shaped
  rw [PyData.canLay0, a, PyData.depth, decide_eq_true (by omega)]
  rfl
theorem any_txs {x : List Str} : ∀ {cs : List (List Str)}, ((cs.map dTx).any fun z => PyData.eqv z (dTx x)) = decide (x ∈ cs)
  | [] => by simp
  | c :: r => by
    rw [List.map_cons, List.any_cons, any_txs (cs := r)]
    unfold dTx
    rw [PyData.eqv, eqvAll_strs]
    by_cases z : c = x
    · rw [z]
      simp
    · rw [decide_eq_false z, Bool.false_or]
      by_cases m : x ∈ r
      · rw [decide_eq_true m, decide_eq_true (List.mem_cons_of_mem _ m)]
      · rw [decide_eq_false m, decide_eq_false fun h => (List.mem_cons.mp h).elim (fun e => z e.symm) m]
theorem shaped_tx {x : List Str} (h : ∀ y ∈ x, PyData.strOk y = true) : SeqAt.shaped (dTx x) = true := by
  unfold SeqAt.shaped dTx
  rw [PyData.canLay0, can_strs h, PyData.depth, dep_strs]
  rfl
theorem rd_inTx {K : PySem.W.Frag} {H : Hp} {Q : VK} {a l : Addr} {x : List Str} {cs : List (Addr × List Str)} (ha : SqT K H a (x.map V.str)) (hl : SqL K H l (cs.map fun c => V.ref c.1)) (hc : TxtsAt H cs) (ox : ∀ y ∈ x, PyData.strOk y = true) (oc : ∀ c ∈ cs.map (·.2), ∀ y ∈ c, PyData.strOk y = true) (h : Q (.bl (decide (x ∈ cs.map (·.2)))) H) : rInD K (.ref a) (.ref l) H Q := by
  refine ⟨dTx x, _, .tup ha (dp_strs x), .lst hl (dp_txs hc), shaped_tx ox, shaped_txs oc, ?_⟩
  rw [any_txs]
  exact h
theorem rd_ninTx {K : PySem.W.Frag} {H : Hp} {Q : VK} {a l : Addr} {x : List Str} {cs : List (Addr × List Str)} (ha : SqT K H a (x.map V.str)) (hl : SqL K H l (cs.map fun c => V.ref c.1)) (hc : TxtsAt H cs) (ox : ∀ y ∈ x, PyData.strOk y = true) (oc : ∀ c ∈ cs.map (·.2), ∀ y ∈ c, PyData.strOk y = true) (h : Q (.bl (!decide (x ∈ cs.map (·.2)))) H) : rNotInD K (.ref a) (.ref l) H Q := by
  refine ⟨dTx x, _, .tup ha (dp_strs x), .lst hl (dp_txs hc), shaped_tx ox, shaped_txs oc, ?_⟩
  rw [any_txs]
  exact h
theorem rd_neNilTx {K : PySem.W.Frag} {H : Hp} {Q : VK} {p q : Addr} {cs : List (Addr × List Str)} (hp : SqL K H p (cs.map fun c => V.ref c.1)) (hc : TxtsAt H cs) (hq : SqL K H q []) (oc : ∀ c ∈ cs.map (·.2), ∀ y ∈ c, PyData.strOk y = true) (h : Q (.bl (!cs.isEmpty)) H) : rNeU K (.ref p) (.ref q) H Q := by
  obtain ⟨a, b⟩ := can_txs oc
  refine rd_neNilD hp (dp_txs hc) hq a (by omega) ?_
  rw [show (cs.map fun c => V.ref c.1).isEmpty = cs.isEmpty from by cases cs <;> rfl]
  exact h
def CstN (ns : List Str) (c : List Str) : Prop := (∃ x : Str, x ∈ ns ∧ c = ([("pin" : Str), x] : List Str)) ∨ ∃ a b : Str, a ∈ ns ∧ b ∈ ns ∧ c = ([("edge" : Str), a, b] : List Str)
theorem CstN.t {ns : List Str} {c : List Str} (h : CstN ns c) : CstT c := by
  rcases h with ⟨x, _, e⟩ | ⟨a, b, _, _, e⟩
  · exact .inl ⟨x, e⟩
  · exact .inr ⟨a, b, e⟩
theorem pin_ok : PyData.strOk "pin" = true := by decide +kernel
theorem edge_ok : PyData.strOk "edge" = true := by decide +kernel
theorem CstN.ok {ns : List Str} {c : List Str} (h : CstN ns c) (sok : ∀ x ∈ ns, PyData.strOk x = true) : ∀ y ∈ c, PyData.strOk y = true := by
  rcases h with ⟨x, hx, rfl⟩ | ⟨a, b, ha, hb, rfl⟩
  · intro y hy
    simp only [List.mem_cons, List.not_mem_nil, or_false] at hy
    rcases hy with rfl | rfl
    · exact pin_ok
    · exact sok _ hx
  · intro y hy
    simp only [List.mem_cons, List.not_mem_nil, or_false] at hy
    rcases hy with rfl | rfl | rfl
    · exact edge_ok
    · exact sok _ ha
    · exact sok _ hb
end U
namespace Law
open PySem PySem.Spec PyProof.Rows L2 U
local macro_rules | `(tactic| wtm_at "rd1") => `(tactic| first
  | with_reducible refine rd_seq ?_
  | ((with_reducible refine rd_var (v := ?vv) ?hv ?_); (case hv => exact rfl))
  | with_reducible refine rd_c ?_
  | with_reducible refine rd_cons ?_
  | with_reducible refine rd_nil ?_
  | with_reducible refine rd_op ?_
  | with_reducible refine rd_asg ?_
  | with_reducible refine rd_name ?_
  | with_reducible refine rd_c1 ?_
  | with_reducible refine rd_cb ?_
  | with_reducible refine rd_test ?_
  | with_reducible refine rd_B ?_
  | with_reducible refine rd_bl ?_
  | with_reducible refine rd_if ?_
  | with_reducible refine rd_ret ?_
  | with_reducible refine rd_drop ?_
  | with_reducible refine rd_next ?_
  | with_reducible refine rd_addI ?_
  | with_reducible refine rd_ltI ?_
  | with_reducible refine rd_eqI ?_
  | with_reducible refine rd_neI ?_
  | with_reducible refine rd_eqS ?_
  | with_reducible refine rd_neS ?_
  | with_reducible refine rd_gtI ?_
  | with_reducible refine rd_geI ?_
  | with_reducible refine rd_leI ?_
  | with_reducible refine rd_ltS ?_
  | with_reducible refine rd_subI ?_
  | ((with_reducible refine rd_modI ?hc ?_); (case hc => first | decide | omega))
  | ((with_reducible refine rd_mulI ?hc ?_); (case hc => first | exact mul_bI | exact .inl (.inr (by decide)) | exact .inl (.inl (by decide)) | exact .inl (.inr (by omega)) | exact .inl (.inl (by omega))))
  | ((with_reducible refine rd_divI ?hc ?_); (case hc => first | decide | omega))
  | ((with_reducible refine rd_powI ?hc ?_); (case hc => exact ⟨by decide, by decide, by decide⟩))
  | with_reducible refine rd_lst ?_
  | with_reducible refine rd_tup ?_
  | ((with_reducible refine rd_sz ?hv ?_); (case hv => exact rfl))
  | with_reducible refine rd_and ?_
  | with_reducible refine rd_or ?_
  | with_reducible refine rd_not ?_
  | with_reducible refine rd_andV ?_
  | with_reducible refine rd_orV ?_
  | with_reducible refine rd_notV ?_
  | with_reducible refine rd_ifE ?_
  | with_reducible refine rd_T ?_
  | with_reducible refine rd_F ?_
  | with_reducible refine rd_chain ?_
  | with_reducible refine rd_is ?_
  | with_reducible refine rd_isNot ?_
  | with_reducible refine rd_absI ?_
  | with_reducible refine rd_maxI ?_
  | with_reducible refine rd_minI ?_
  | with_reducible refine rd_intI ?_
  | with_reducible refine rd_intB ?_
  | with_reducible refine rd_sub ?_
  | with_reducible refine rd_sl ?_
  | with_reducible refine rd_noPart ?_
  | with_reducible refine rd_part ?_
  | with_reducible refine rd_exI ?_
  | with_reducible refine rd_bm ?_
  | with_reducible refine rd_bm0 ?_
  | with_reducible refine rd_un ?_
  | with_reducible refine rd_neg ?_
  | with_reducible refine rd_c2 ?_
  | with_reducible refine rd_retN ?_
  | with_reducible refine rd_break ?_
  | with_reducible refine rd_cont ?_
  | with_reducible refine rd_for ?_
  | with_reducible refine rd_rng1 ?_
  | with_reducible refine rd_rng2 ?_
  | with_reducible refine rd_iList ?_
  | with_reducible refine rd_iTup ?_
  | with_reducible refine rd_iEnum ?_
  | ((with_reducible refine rd_forR ?h0 ?h1 ?_); (case h0 => omega); (case h1 => omega))
  | with_reducible refine rd_lc ?_
  | with_reducible refine rd_gcons ?_
  | with_reducible refine rd_gnil ?_
  | with_reducible refine rd_dget ?_
  | with_reducible refine rd_dput ?_
  | with_reducible refine rd_dnew ?_
  | with_reducible refine rd_dc ?_
  | with_reducible refine rd_iItems ?_
  | with_reducible refine rd_iKeys ?_
  | with_reducible refine rd_din ?_
  | with_reducible refine rd_lc2 ?_
  | with_reducible refine rd_cd ?_
  | with_reducible refine rd_par ?_
  | with_reducible refine rd_two ?_
  | with_reducible refine rd_reprB ?_
  | with_reducible refine rd_ck ?_
  | ((with_reducible refine rd_len ?hl ?_); (case hl => exact rfl))
  | with_reducible refine rd_nT ?_
  | with_reducible refine rd_nF ?_
  | with_reducible refine rd_dnin ?_
  | with_reducible refine rd_isB ?_
  | with_reducible refine rd_isNotB ?_
  | with_reducible refine rd_daug ?_
  | with_reducible refine rd_yesT ?_
  | ((with_reducible refine rd_wp ?hw ?_); (case hw => exact rfl)))
local macro_rules | `(tactic| wtm_at "rd") => `(tactic| repeat wtm_at "rd1")

theorem TxtsAt.go {p : Addr} {H H' : Hp} {cs : List (Addr × List Str)} (h : TxtsAt H cs) (hp : PoolAt H p) (g : Go p H H') : TxtsAt H' cs := fun x hx => g.at (h x hx) (hp.offTB (h x hx))
def spPathR : Sp := fun vs H Q _ => ∃ (p g n e st : Addr) (ns ord : List Str) (es : List (Addr × Str × Str)) (f : Str → Int), vs = [.ref p, .ref g] ∧ PoolAt H p ∧ GSt H g n e st ns ord es f ∧ 0 < ns.length ∧
  ∀ (l : Addr) (q : List Str) (H' : Hp), Go p H H' → H l = none → H' l = some (.lst (q.map V.str)) → (∀ x ∈ q, x ∈ ns) → 0 < q.length → q.length ≤ 10 → Q (.ref l) H'
def spConstr : Sp := fun vs H Q _ => ∃ (p g n e st : Addr) (most : Int) (ns ord : List Str) (es : List (Addr × Str × Str)) (f : Str → Int), vs = [.ref p, .ref g, .ref n, .int most] ∧ PoolAt H p ∧ GSt H g n e st ns ord es f ∧ 0 ≤ most ∧ most ≤ 50 ∧
  ∀ (l : Addr) (cs : List (Addr × List Str)) (H' : Hp), Go p H H' → H l = none → H' l = some (.lst (cs.map fun c => V.ref c.1)) → TxtsAt H' cs → (∀ c ∈ cs, CstN ns c.2) → (cs.map (·.2)).Nodup → (cs.length : Int) ≤ most → Q (.ref l) H'
section
variable {P : Program} {w : World} {K : PySem.W.Frag} {mg : Str → Option Value} {base : Heap}
structure MSa (P : Program) (w : World) (K : PySem.W.Frag) (mg : Str → Option Value) (base : Heap) : Prop where
  _law_draw : Cal P w K mg base CX0 1 "_law_draw" spDraw
theorem ok_rand_path {f : Addr} {fd : FuncData} (F : Fun K "_law_random_path" "_law_random_path" s__law_random_path f fd) (B : Bt mg) (C : MSa P w K mg base) : FnG P w K mg base CX0 2 f fd ["_law_source", "_law_graph"] spPathR := by
  refine fnG0 F sc__law_random_path (fun vs H Q E h => ?_) (fun cdv A outer s H vs Q E hr h => ?_)
  · obtain ⟨p, g, n, e, st, ns, ord, es, f, rfl, _⟩ := h
    rfl
  · have hu65 : (A.deeper (envOfC "_law_random_path" (defScope s__law_random_path) s.heap.objs.size f cdv)).units + 65 < cLine := by
      have := hr.u100
      omega
    obtain ⟨p, g, n, e, st, ns, ord, es, f, rfl, hp, gs, pos, q⟩ := h
    have nd := sc__law_random_path.nd
    have hu := hr.u1
    refine ⟨_, (pss_cons (ps_set (i := 2) nd rfl (by first | exact Or.inl rfl | exact Or.inr rfl) (pe_lst (pa_cons (pe_ix (kIx K rfl) (pe_ix (kIx K rfl) (pv 1) pe_int (fun _ _ => rfl)) (pe_c C._law_draw hr (by decide) rfl (pa_cons (pv 0) (pa_cons (pe_callB (kLen K rfl) (by rfl) B.len bb_len (pa_cons (pe_ix (kIx K rfl) (pv 1) pe_int (fun _ _ => rfl)) pa_nil)) pa_nil))) (fun _ _ => rfl)) pa_nil)))
  (pss_cons (ps_for PassesOwn.never rfl (pi_range1 rfl B.range (pa_cons (pe_c C._law_draw hr (by decide) rfl (pa_cons (pv 0) (pa_cons pe_int pa_nil))) pa_nil)) (pg_name (i := 3) nd rfl (by first | exact Or.inl rfl | exact Or.inr rfl)) (pss_cons (ps_setLc (i := 4) (own := [("_law_one", 5)]) rfl nd rfl rfl (sw_true rfl rfl rfl (by decide +kernel)) (ki_tup K rfl (pe_ix (kIx K rfl) (pv 1) pe_int (fun _ _ => rfl))) (blkOk_by (own := [("_law_one", 5)]) (N := nN__law_random_path) (sc := defScope s__law_random_path) (by decide +kernel)) (fun _ _ _ _ _ => (pg_name (i := 5) nd rfl (by first | exact Or.inl rfl | exact Or.inr rfl))) (fun _ _ _ _ _ => (pts_one (pt_cmpR (kInT K rfl hu65) (pe_callTy (kTuple K rfl) (by rfl) B.tuple bb_tuple (pa_cons (pe_callB (kSorted K rfl hr.u64) (by rfl) B.sorted bb_sorted (pa_cons (pe_lst (pa_cons (pv 5) (pa_cons (pe_ix (kIx K rfl) (pv 2) (pe_un un_neg pe_int) (fun _ _ => rfl)) pa_nil))) pa_nil)) pa_nil)) (pe_ix (kIx K rfl) (pv 1) pe_int (fun _ _ => rfl)) rfl))) (fun _ _ _ _ _ => (pv 5)))
  (pss_one (ps_if (pt_cmpR (kNe K rfl hr.u64) (pv 4) (pe_lst pa_nil) (nomark _)) (pss_one (ps_expr (pe_bm PySem.F.plainAttrs_list PySem.F.slot_list_append PySem.F.type_list_append mt_append (pv 2) (pa_cons (pe_ix (kIx K rfl) (pv 4) (pe_c C._law_draw hr (by decide) rfl (pa_cons (pv 0) (pa_cons (pe_callB (kLen K rfl) (by rfl) B.len bb_len (pa_cons (pv 4) pa_nil)) pa_nil))) (fun _ _ => rfl)) pa_nil)))) pss_nil))))
  (pss_one (ps_ret (pv 2))))), ?_⟩
    have l2 := gs.l2
    have sok := gs.sok
    wtm_at "rd"
    refine rd_ixT (SqT.of gs.gr.top) (v := .ref n) rfl ?_
    wtm_at "rd"
    refine rd_ixT (SqT.of gs.gr.top) (v := .ref n) rfl ?_
    wtm_at "rd"
    refine rd_lenT (SqT.of gs.gr.nodes) ?_
    rw [List.length_map]
    wtm_at "rd"
    refine use_draw hp (by omega) (by omega) fun r H1 r0 r1 g1 => ?_
    obtain ⟨rn, rfl⟩ : ∃ k : Nat, r = (k : Int) := ⟨r.toNat, by omega⟩
    have hrn : rn < ns.length := by omega
    refine rd_ixT (SqT.of (gs.go hp g1).gr.nodes) (v := .str ns[rn]) (atI_nat (by rw [List.getElem?_map, List.getElem?_eq_getElem hrn]; rfl)) ?_
    have xin := List.getElem_mem hrn
    generalize ns[rn] = x at *
    wtm_at "rd"
    intro l fl
    have npl := g1.pool.ne fl
    have fl0 := g1.free _ fl
    have g2 := g1.new (o := .lst [.str x]) fl
    have hl := @upd_same H1 l (.lst [.str x])
    generalize upd H1 l (.lst [.str x]) = H2 at g2 hl
    wtm_at "rd"
    refine use_draw g2.pool (by decide) (by decide) fun r H3 r0 r1 g3 => ?_
    obtain ⟨many, rfl⟩ : ∃ k : Nat, r = (k : Int) := ⟨r.toNat, by omega⟩
    have hl := g3.at hl (Ne.symm npl)
    have g3 := g2.trans g3
    wtm_at "rd"
    refine turnsR (fun i σ H' => ∃ (u3 u4 u5 : Option V) (qs : List Str), σ = [some (.ref p), some (.ref g), some (.ref l), u3, u4, u5] ∧ Go p H H' ∧ H' l = some (.lst (qs.map V.str)) ∧ (∀ x ∈ qs, x ∈ ns) ∧ 0 < qs.length ∧ qs.length ≤ i + 1) ⟨_, _, _, [x], rfl, g3, hl, (fun y hy => by rw [List.mem_singleton.mp hy]; exact xin), Nat.one_pos, Nat.le_refl _⟩ ?_ ?_
    · rintro i σ H4 hi ⟨u3, u4, u5, qs, rfl, g4, hl, qin, qp, qk⟩
      have gs4 := gs.go hp g4
      have hlast : qs.length - 1 < qs.length := by omega
      have lin := qin _ (List.getElem_mem hlast)
      have at_last : atI (qs.map V.str) (-1) = some (.str (qs[qs.length - 1]'hlast)) := by
        rw [atI_lastS (by rw [List.length_map]; exact qp)]
        simp
      generalize qs[qs.length - 1]'hlast = z at *
      wtm_at "rd"
      refine rd_ixT (SqT.of gs4.gr.top) (v := .ref n) rfl ?_
      refine rd_forT (SqT.of gs4.gr.nodes) ?_
      intro D fD
      refine lcT (K := K) (xs := ns.map V.str) (fun j H2 => Same H4 H2 ∧ ∃ nr : List Str, H2 D = some (.lst (nr.map V.str)) ∧ (∀ y ∈ nr, y ∈ ns) ∧ nr.length ≤ j) ⟨Same.new fD, [], upd_same, (fun y h => nomatch h), Nat.le_refl _⟩ ?_ ?_ ?_
      · rintro j H2 hj ⟨sb, _⟩
        exact SqT.of (sb _ _ gs4.gr.nodes)
      · rintro j y H2 hy ⟨sb, nr, hD, n1, n3⟩
        obtain ⟨hj, rfl⟩ := map_at hy
        have yin := List.getElem_mem hj
        generalize ns[j] = y at *
        wtm_at "rd"
        refine rd_ixL (SqL.of (sb _ _ hl)) at_last ?_
        wtm_at "rd"
        intro t1 ft1
        have k1 := Same.new (o := .lst [.str y, .str z]) ft1
        wtm_at "rd"
        refine rd_sortS (xs := [y, z]) (SqL.of upd_same) (by show 2 ≤ 100000; decide) ?_
        intro ys py sy t2 ft2
        have k2 := Same.new (o := .lst (ys.map V.str)) ft2
        wtm_at "rd"
        refine rd_tupleL (SqL.of upd_same) ?_
        intro t3 ft3
        have k3 := Same.new (o := .tup (ys.map V.str)) ft3
        have sA := (k1.trans k2).trans k3
        have h3 := @upd_same (upd (upd H2 t1 (.lst [.str y, .str z])) t2 (.lst (ys.map V.str))) t3 (.tup (ys.map V.str))
        generalize upd (upd (upd H2 t1 (.lst [.str y, .str z])) t2 (.lst (ys.map V.str))) t3 (.tup (ys.map V.str)) = Ha at sA h3
        rw [sort2g py sy] at h3
        have gsA := (gs4.same sb).same sA
        wtm_at "rd"
        refine rd_ixT (SqT.of gsA.gr.top) (v := .ref e) rfl ?_
        refine rd_inTE (e := eOf y z) (SqT.of h3) (SqT.of gsA.gr.edges) (fun x hx => SqT.of (gsA.gr.pairs x hx)) (by
          rcases eOf_cases y z with z | z <;> rw [z]
          · exact ⟨sok _ yin, sok _ lin⟩
          · exact ⟨sok _ lin, sok _ yin⟩) (fun x hx => ⟨sok _ (gs.ok.mem x hx).1, sok _ (gs.ok.mem x hx).2⟩) ?_
        wtm_at "rd"
        refine rd_split (fun c1 => ?_) (fun c1 => ?_)
        · wtm_at "rd"
          refine rd_acc (sA _ _ hD) (by rw [List.length_map]; omega) ?_
          refine ⟨same_put (sb.trans sA) fD, nr ++ [y], by rw [upd_same, List.map_append]; rfl, fun z hz => ?_, by rw [List.length_append, List.length_singleton]; omega⟩
          rcases List.mem_append.mp hz with hz | hz
          · exact n1 z hz
          · rw [List.mem_singleton.mp hz]; exact yin
        · wtm_at "rd"
          exact ⟨sb.trans sA, nr, sA _ _ hD, n1, by omega⟩
      rintro H5 ⟨s5, nr, hD, n1, n3⟩
      rw [List.length_map] at n3
      have g5 := g4.same s5
      have hl := s5 _ _ hl
      have nDp := Ne.symm (g4.pool.ne fD)
      clear s5 fD at_last
      wtm_at "rd"
      intro z1 fz1
      have kz := Same.new (o := .lst []) fz1
      have hz1 := @upd_same H5 z1 (.lst [])
      have hD6 := kz _ _ hD
      have hl6 := kz _ _ hl
      have g6 := g5.same kz
      generalize upd H5 z1 (.lst []) = H6 at kz hz1 hD6 hl6 g6
      clear g5 hD hl kz
      refine rd_neNil (xs := nr) (SqL.of hD6) (SqL.of hz1) (fun y hy => sok _ (n1 y hy)) ?_
      wtm_at "rd"
      refine rd_b (fun c1 => ?_) (fun c1 => ?_)
      · have np : 0 < nr.length := by
          cases nr with
          | nil => cases c1
          | cons _ _ => exact Nat.succ_pos _
        wtm_at "rd"
        refine rd_tyL hl6 ?_
        wtm_at "rd"
        refine rd_lenL (SqL.of hD6) ?_
        rw [List.length_map]
        wtm_at "rd"
        refine use_draw g6.pool (by omega) (by omega) fun r H7 r0 r1 g7 => ?_
        obtain ⟨rn, rfl⟩ : ∃ k : Nat, r = (k : Int) := ⟨r.toNat, by omega⟩
        have hrn : rn < nr.length := by omega
        have hD7 := g7.at hD6 nDp
        have hl7 := g7.at hl6 (Ne.symm npl)
        have g7 := g6.trans g7
        refine rd_ixL (SqL.of hD7) (v := .str nr[rn]) (atI_nat (by rw [List.getElem?_map, List.getElem?_eq_getElem hrn]; rfl)) ?_
        have win := n1 _ (List.getElem_mem hrn)
        generalize nr[rn] = w1 at *
        wtm_at "rd"
        refine rd_append hl7 (by rw [List.length_map]; omega) ?_
        refine ⟨_, _, _, qs ++ [w1], rfl, g7.put fl0 npl, by rw [upd_same, List.map_append]; rfl, fun y hy => ?_, by rw [List.length_append, List.length_singleton]; omega, by rw [List.length_append, List.length_singleton]; omega⟩
        rcases List.mem_append.mp hy with hy | hy
        · exact qin y hy
        · rw [List.mem_singleton.mp hy]; exact win
      · wtm_at "rd"
        exact ⟨_, _, _, qs, rfl, g6, hl6, qin, qp, by omega⟩
    · rintro σ H4 ⟨u3, u4, u5, qs, rfl, g4, hl, qin, qp, qk⟩
      wtm_at "rd"
      exact q l qs H4 g4 fl0 hl qin qp (by omega)
end
end Law

/-! k68's random constraints -/
namespace U
open PySem PySem.Spec PyProof.Rows L2
/-- a path of the obstruction -/
def PthN (ns : List Str) (q : List Str) : Prop := (∀ x ∈ q, x ∈ ns) ∧ 0 < q.length ∧ q.length ≤ 10
/-- an obstruction and its paths -/
def ObAt (H : Hp) (ob : Addr) (ps : List (List Str)) : Prop :=
  (∃ (l : Addr) (q : List Str), H ob = some (.tup [.str "cycle", .ref l]) ∧ H l = some (.lst (q.map V.str)) ∧ ps = [q]) ∨
  (∃ (x : Str) (t l1 l2 : Addr) (q1 q2 : List Str), H ob = some (.tup [.str "node", .str x, .ref t]) ∧ H t = some (.tup [.ref l1, .ref l2]) ∧ H l1 = some (.lst (q1.map V.str)) ∧ H l2 = some (.lst (q2.map V.str)) ∧ ps = [[x], q1, q2]) ∨
  ∃ (l0 t1 t2 l1 l2 l3 l4 : Addr) (q0 q1 q2 q3 q4 : List Str), H ob = some (.tup [.str "path", .ref l0, .ref t1, .ref t2]) ∧ H l0 = some (.lst (q0.map V.str)) ∧ H t1 = some (.tup [.ref l1, .ref l2]) ∧ H t2 = some (.tup [.ref l3, .ref l4]) ∧
    H l1 = some (.lst (q1.map V.str)) ∧ H l2 = some (.lst (q2.map V.str)) ∧ H l3 = some (.lst (q3.map V.str)) ∧ H l4 = some (.lst (q4.map V.str)) ∧ ps = [q0, q1, q2, q3, q4]
theorem ObAt.same {H H' : Hp} {ob : Addr} {ps : List (List Str)} (h : ObAt H ob ps) (s : Same H H') : ObAt H' ob ps := by
  rcases h with ⟨l, q, h1, h2, e⟩ | ⟨x, t, l1, l2, q1, q2, h1, h2, h3, h4, e⟩ | ⟨l0, t1, t2, l1, l2, l3, l4, q0, q1, q2, q3, q4, h1, h2, h3, h4, h5, h6, h7, h8, e⟩
  · exact .inl ⟨l, q, s _ _ h1, s _ _ h2, e⟩
  · exact .inr (.inl ⟨x, t, l1, l2, q1, q2, s _ _ h1, s _ _ h2, s _ _ h3, s _ _ h4, e⟩)
  · exact .inr (.inr ⟨l0, t1, t2, l1, l2, l3, l4, q0, q1, q2, q3, q4, s _ _ h1, s _ _ h2, s _ _ h3, s _ _ h4, s _ _ h5, s _ _ h6, s _ _ h7, s _ _ h8, e⟩)
theorem ObAt.ment {H : Hp} {ob : Addr} {ps : List (List Str)} (h : ObAt H ob ps) : ∃ (k : V) (xs : List (V × List (List Str))), H ob = some (.tup (k :: xs.map (·.1))) ∧ (∀ x ∈ xs, PAt 1 H x.1 x.2) ∧ xs.flatMap (·.2) = ps := by
  have two : ∀ {t l1 l2 : Addr} {q1 q2 : List Str}, H t = some (.tup [.ref l1, .ref l2]) → H l1 = some (.lst (q1.map V.str)) → H l2 = some (.lst (q2.map V.str)) → PAt 1 H (.ref t) [q1, q2] := fun {t l1 l2 q1 q2} h h1 h2 =>
    .inr ⟨t, [(.ref l1, [q1]), (.ref l2, [q2])], rfl, h, fun x hx => by
      simp only [List.mem_cons, List.not_mem_nil, or_false] at hx
      rcases hx with rfl | rfl
      · exact .inr ⟨l1, q1, rfl, h1, rfl⟩
      · exact .inr ⟨l2, q2, rfl, h2, rfl⟩, rfl⟩
  rcases h with ⟨l, q, h1, h2, e⟩ | ⟨x, t, l1, l2, q1, q2, h1, h2, h3, h4, e⟩ | ⟨l0, t1, t2, l1, l2, l3, l4, q0, q1, q2, q3, q4, h1, h2, h3, h4, h5, h6, h7, h8, e⟩
  · refine ⟨_, [(.ref l, [q])], h1, fun x hx => ?_, e.symm⟩
    rw [List.mem_singleton.mp hx]
    exact .inl (.inr ⟨l, q, rfl, h2, rfl⟩)
  · refine ⟨_, [(.str x, [[x]]), (.ref t, [q1, q2])], h1, fun y hy => ?_, e.symm⟩
    simp only [List.mem_cons, List.not_mem_nil, or_false] at hy
    rcases hy with rfl | rfl
    · exact .inl (.inl ⟨x, rfl, rfl⟩)
    · exact two h2 h3 h4
  · refine ⟨_, [(.ref l0, [q0]), (.ref t1, [q1, q2]), (.ref t2, [q3, q4])], h1, fun y hy => ?_, e.symm⟩
    simp only [List.mem_cons, List.not_mem_nil, or_false] at hy
    rcases hy with rfl | rfl | rfl
    · exact .inl (.inr ⟨l0, q0, rfl, h2, rfl⟩)
    · exact two h3 h5 h6
    · exact two h4 h7 h8
end U
namespace Law
open PySem PySem.Spec PyProof.Rows L2 U
local macro_rules | `(tactic| wtm_at "rd1") => `(tactic| first
  | with_reducible refine rd_seq ?_
  | ((with_reducible refine rd_var (v := ?vv) ?hv ?_); (case hv => exact rfl))
  | with_reducible refine rd_c ?_
  | with_reducible refine rd_cons ?_
  | with_reducible refine rd_nil ?_
  | with_reducible refine rd_op ?_
  | with_reducible refine rd_asg ?_
  | with_reducible refine rd_name ?_
  | with_reducible refine rd_c1 ?_
  | with_reducible refine rd_cb ?_
  | with_reducible refine rd_test ?_
  | with_reducible refine rd_B ?_
  | with_reducible refine rd_bl ?_
  | with_reducible refine rd_if ?_
  | with_reducible refine rd_ret ?_
  | with_reducible refine rd_drop ?_
  | with_reducible refine rd_next ?_
  | with_reducible refine rd_addI ?_
  | with_reducible refine rd_ltI ?_
  | with_reducible refine rd_eqI ?_
  | with_reducible refine rd_neI ?_
  | with_reducible refine rd_eqS ?_
  | with_reducible refine rd_neS ?_
  | with_reducible refine rd_gtI ?_
  | with_reducible refine rd_geI ?_
  | with_reducible refine rd_leI ?_
  | with_reducible refine rd_ltS ?_
  | with_reducible refine rd_subI ?_
  | ((with_reducible refine rd_modI ?hc ?_); (case hc => first | decide | omega))
  | ((with_reducible refine rd_mulI ?hc ?_); (case hc => first | exact mul_bI | exact .inl (.inr (by decide)) | exact .inl (.inl (by decide)) | exact .inl (.inr (by omega)) | exact .inl (.inl (by omega))))
  | ((with_reducible refine rd_divI ?hc ?_); (case hc => first | decide | omega))
  | ((with_reducible refine rd_powI ?hc ?_); (case hc => exact ⟨by decide, by decide, by decide⟩))
  | with_reducible refine rd_lst ?_
  | with_reducible refine rd_tup ?_
  | ((with_reducible refine rd_sz ?hv ?_); (case hv => exact rfl))
  | with_reducible refine rd_and ?_
  | with_reducible refine rd_or ?_
  | with_reducible refine rd_not ?_
  | with_reducible refine rd_andV ?_
  | with_reducible refine rd_orV ?_
  | with_reducible refine rd_notV ?_
  | with_reducible refine rd_ifE ?_
  | with_reducible refine rd_T ?_
  | with_reducible refine rd_F ?_
  | with_reducible refine rd_chain ?_
  | with_reducible refine rd_is ?_
  | with_reducible refine rd_isNot ?_
  | with_reducible refine rd_absI ?_
  | with_reducible refine rd_maxI ?_
  | with_reducible refine rd_minI ?_
  | with_reducible refine rd_intI ?_
  | with_reducible refine rd_intB ?_
  | with_reducible refine rd_sub ?_
  | with_reducible refine rd_sl ?_
  | with_reducible refine rd_noPart ?_
  | with_reducible refine rd_part ?_
  | with_reducible refine rd_exI ?_
  | with_reducible refine rd_bm ?_
  | with_reducible refine rd_bm0 ?_
  | with_reducible refine rd_un ?_
  | with_reducible refine rd_neg ?_
  | with_reducible refine rd_c2 ?_
  | with_reducible refine rd_retN ?_
  | with_reducible refine rd_break ?_
  | with_reducible refine rd_cont ?_
  | with_reducible refine rd_for ?_
  | with_reducible refine rd_rng1 ?_
  | with_reducible refine rd_rng2 ?_
  | with_reducible refine rd_iList ?_
  | with_reducible refine rd_iTup ?_
  | with_reducible refine rd_iEnum ?_
  | ((with_reducible refine rd_forR ?h0 ?h1 ?_); (case h0 => omega); (case h1 => omega))
  | with_reducible refine rd_lc ?_
  | with_reducible refine rd_gcons ?_
  | with_reducible refine rd_gnil ?_
  | with_reducible refine rd_dget ?_
  | with_reducible refine rd_dput ?_
  | with_reducible refine rd_dnew ?_
  | with_reducible refine rd_dc ?_
  | with_reducible refine rd_iItems ?_
  | with_reducible refine rd_iKeys ?_
  | with_reducible refine rd_din ?_
  | with_reducible refine rd_lc2 ?_
  | with_reducible refine rd_cd ?_
  | with_reducible refine rd_par ?_
  | with_reducible refine rd_two ?_
  | with_reducible refine rd_reprB ?_
  | with_reducible refine rd_ck ?_
  | ((with_reducible refine rd_len ?hl ?_); (case hl => exact rfl))
  | with_reducible refine rd_nT ?_
  | with_reducible refine rd_nF ?_
  | with_reducible refine rd_dnin ?_
  | with_reducible refine rd_isB ?_
  | with_reducible refine rd_isNotB ?_
  | with_reducible refine rd_daug ?_
  | with_reducible refine rd_yesT ?_
  | ((with_reducible refine rd_wp ?hw ?_); (case hw => exact rfl)))
local macro_rules | `(tactic| wtm_at "rd") => `(tactic| repeat wtm_at "rd1")

def spObstr : Sp := fun vs H Q _ => ∃ (p g n e st : Addr) (ns ord : List Str) (es : List (Addr × Str × Str)) (f : Str → Int), vs = [.ref p, .ref g] ∧ PoolAt H p ∧ GSt H g n e st ns ord es f ∧ 0 < ns.length ∧
  ∀ (t : Addr) (ps : List (List Str)) (H' : Hp), Go p H H' → H t = none → ObAt H' t ps → (∀ q ∈ ps, PthN ns q) → Q (.ref t) H'
section
structure MTa (P : Program) (w : World) (K : PySem.W.Frag) (mg : Str → Option Value) (base : Heap) : Prop where
  _law_draw : Cal P w K mg base CX0 1 "_law_draw" spDraw
  _law_random_path : Cal P w K mg base CX0 2 "_law_random_path" spPathR
variable {P : Program} {w : World} {K : PySem.W.Frag} {mg : Str → Option Value} {base : Heap}
theorem ok_constr {f : Addr} {fd : FuncData} (F : Fun K "_law_random_constraints" "_law_random_constraints" s__law_random_constraints f fd) (B : Bt mg) (C : MSa P w K mg base) : FnG P w K mg base CX0 2 f fd ["_law_source", "_law_graph", "_law_pins", "_law_most"] spConstr := by
  refine fnG0 F sc__law_random_constraints (fun vs H Q E h => ?_) (fun cdv A outer s H vs Q E hr h => ?_)
  · obtain ⟨p, g, n, e, st, most, ns, ord, es, f, rfl, _⟩ := h
    rfl
  · have hu65 : (A.deeper (envOfC "_law_random_constraints" (defScope s__law_random_constraints) s.heap.objs.size f cdv)).units + 65 < cLine := by
      have := hr.u100
      omega
    obtain ⟨p, g, n, e, st, most, ns, ord, es, f, rfl, hp, gs, m0, m1, q⟩ := h
    have nd := sc__law_random_constraints.nd
    have hu := hr.u1
    refine ⟨_, (pss_cons (ps_set (i := 4) nd rfl (by first | exact Or.inl rfl | exact Or.inr rfl) (pe_op (kAdd K rfl) (pe_lc (own := [("_law_node", 5)]) rfl nd (ki_tup K rfl (pv 2)) (blkOk_by (own := [("_law_node", 5)]) (N := nN__law_random_constraints) (sc := defScope s__law_random_constraints) (by decide +kernel)) (fun _ _ _ _ _ => (pg_name (i := 5) nd rfl (by first | exact Or.inl rfl | exact Or.inr rfl))) (fun _ _ _ _ _ => pts_nil) (fun _ _ _ _ _ => (pe_tup (pa_cons pe_str (pa_cons (pv 5) pa_nil))))) (pe_lc (own := [("_law_one", 6), ("_law_other", 7)]) rfl nd (ki_tup K rfl (pe_ix (kIx K rfl) (pv 1) pe_int (fun _ _ => rfl))) (blkOk_by (own := [("_law_one", 6), ("_law_other", 7)]) (N := nN__law_random_constraints) (sc := defScope s__law_random_constraints) (by decide +kernel)) (fun _ _ _ _ _ => (kg_tup (n := 2) K rfl rfl (pgs_cons (pg_name (i := 6) nd rfl (by first | exact Or.inl rfl | exact Or.inr rfl)) (pgs_cons (pg_name (i := 7) nd rfl (by first | exact Or.inl rfl | exact Or.inr rfl)) pgs_nil)))) (fun _ _ _ _ _ => pts_nil) (fun _ _ _ _ _ => (pe_tup (pa_cons pe_str (pa_cons (pv 6) (pa_cons (pv 7) pa_nil))))))))
  (pss_cons (ps_set (i := 8) nd rfl (by first | exact Or.inl rfl | exact Or.inr rfl) (pe_lst pa_nil))
  (pss_cons (ps_for PassesOwn.never rfl (pi_range1 rfl B.range (pa_cons (pe_c C._law_draw hr (by decide) rfl (pa_cons (pv 0) (pa_cons (pe_op (kAdd K rfl) (pv 3) pe_int) pa_nil))) pa_nil)) (pg_name (i := 9) nd rfl (by first | exact Or.inl rfl | exact Or.inr rfl)) (pss_cons (ps_setLc (i := 10) (own := [("_law_one", 6)]) rfl nd rfl rfl (sw_true rfl rfl rfl (by decide +kernel)) (ki_list K rfl (pv 4)) (blkOk_by (own := [("_law_one", 6)]) (N := nN__law_random_constraints) (sc := defScope s__law_random_constraints) (by decide +kernel)) (fun _ _ _ _ _ => (pg_name (i := 6) nd rfl (by first | exact Or.inl rfl | exact Or.inr rfl))) (fun _ _ _ _ _ => (pts_one (pt_cmpR (kNinL K rfl hu65) (pv 6) (pv 8) rfl))) (fun _ _ _ _ _ => (pv 6)))
  (pss_one (ps_if (pt_cmpR (kNe K rfl hr.u64) (pv 10) (pe_lst pa_nil) (nomark _)) (pss_one (ps_expr (pe_bm PySem.F.plainAttrs_list PySem.F.slot_list_append PySem.F.type_list_append mt_append (pv 8) (pa_cons (pe_ix (kIx K rfl) (pv 10) (pe_c C._law_draw hr (by decide) rfl (pa_cons (pv 0) (pa_cons (pe_callB (kLen K rfl) (by rfl) B.len bb_len (pa_cons (pv 10) pa_nil)) pa_nil))) (fun _ _ => rfl)) pa_nil)))) pss_nil))))
  (pss_one (ps_ret (pv 8)))))), ?_⟩
    have l2 := gs.l2
    have l3 := gs.l3
    have sok := gs.sok
    wtm_at "rd"
    refine rd_forT (SqT.of gs.gr.nodes) ?_
    intro D fD
    refine lcT (K := K) (xs := ns.map V.str) (fun j H2 => Same H H2 ∧ ∃ cs : List (Addr × List Str), H2 D = some (.lst (cs.map fun c => V.ref c.1)) ∧ TxtsAt H2 cs ∧ (∀ c ∈ cs, CstN ns c.2) ∧ cs.length ≤ j) ⟨Same.new fD, [], upd_same, (fun y h => nomatch h), (fun y h => nomatch h), Nat.le_refl _⟩ ?_ ?_ ?_
    · rintro j H2 hj ⟨sb, _⟩
      exact SqT.of (sb _ _ gs.gr.nodes)
    · rintro j y H2 hy ⟨sb, cs, hD, tc, cn, cl⟩
      obtain ⟨hj, rfl⟩ := map_at hy
      have yin := List.getElem_mem hj
      generalize ns[j] = y at *
      wtm_at "rd"
      intro t ft
      have k := Same.new (o := .tup [.str "pin", .str y]) ft
      have ht := @upd_same H2 t (.tup [.str "pin", .str y])
      generalize upd H2 t (.tup [.str "pin", .str y]) = H3 at k ht
      wtm_at "rd"
      refine rd_acc (k _ _ hD) (by rw [List.length_map]; omega) ?_
      have s3 := sb.trans k
      have nD : ∀ {b o}, H3 b = some (.tup o) → b ≠ D := fun hb => ne_of hb (k _ _ hD) (by intro z; cases z)
      refine ⟨same_put s3 fD, cs ++ [(t, ([("pin" : Str), y] : List Str))], by rw [upd_same, List.map_append]; rfl, fun c hc => ?_, fun c hc => ?_, by rw [List.length_append, List.length_singleton]; omega⟩
      · rcases List.mem_append.mp hc with hc | hc
        · exact at_upd (nD (k _ _ (tc c hc))) (k _ _ (tc c hc))
        · rw [List.mem_singleton.mp hc]
          exact at_upd (nD ht) ht
      · rcases List.mem_append.mp hc with hc | hc
        · exact cn c hc
        · rw [List.mem_singleton.mp hc]
          exact .inl ⟨y, yin, rfl⟩
    rintro H1 ⟨s1, c1, hD, t1, n1, k1⟩
    rw [List.length_map] at k1
    have gs1 := gs.same s1
    clear fD
    wtm_at "rd"
    refine rd_ixT (SqT.of gs1.gr.top) (v := .ref e) rfl ?_
    refine rd_forT (SqT.of gs1.gr.edges) ?_
    intro D2 fD2
    refine lcT (K := K) (xs := es.map fun x => V.ref x.1) (fun j H2 => Same H1 H2 ∧ ∃ cs : List (Addr × List Str), H2 D2 = some (.lst (cs.map fun c => V.ref c.1)) ∧ TxtsAt H2 cs ∧ (∀ c ∈ cs, CstN ns c.2) ∧ cs.length ≤ j) ⟨Same.new fD2, [], upd_same, (fun y h => nomatch h), (fun y h => nomatch h), Nat.le_refl _⟩ ?_ ?_ ?_
    · rintro j H2 hj ⟨sb, _⟩
      exact SqT.of (sb _ _ gs1.gr.edges)
    · rintro j y H2 hy ⟨sb, cs, hD2, tc, cn, cl⟩
      obtain ⟨hj, rfl⟩ := map_at hy
      have hpr := (gs1.same sb).gr.pairs es[j] (List.getElem_mem hj)
      have yin := gs.ok.mem es[j].2 (List.mem_map_of_mem (List.getElem_mem hj))
      generalize es[j] = y at *
      refine rd_unp (SqT.of hpr) rfl ?_
      wtm_at "rd"
      intro t ft
      have k := Same.new (o := .tup [.str "edge", .str y.2.1, .str y.2.2]) ft
      have ht := @upd_same H2 t (.tup [.str "edge", .str y.2.1, .str y.2.2])
      generalize upd H2 t (.tup [.str "edge", .str y.2.1, .str y.2.2]) = H3 at k ht
      wtm_at "rd"
      refine rd_acc (k _ _ hD2) (by rw [List.length_map]; omega) ?_
      have s3 := sb.trans k
      have nD : ∀ {b o}, H3 b = some (.tup o) → b ≠ D2 := fun hb => ne_of hb (k _ _ hD2) (by intro z; cases z)
      refine ⟨same_put s3 fD2, cs ++ [(t, ([("edge" : Str), y.2.1, y.2.2] : List Str))], by rw [upd_same, List.map_append]; rfl, fun c hc => ?_, fun c hc => ?_, by rw [List.length_append, List.length_singleton]; omega⟩
      · rcases List.mem_append.mp hc with hc | hc
        · exact at_upd (nD (k _ _ (tc c hc))) (k _ _ (tc c hc))
        · rw [List.mem_singleton.mp hc]
          exact at_upd (nD ht) ht
      · rcases List.mem_append.mp hc with hc | hc
        · exact cn c hc
        · rw [List.mem_singleton.mp hc]
          exact .inr ⟨y.2.1, y.2.2, yin.1, yin.2, rfl⟩
    rintro H2 ⟨s2, c2, hD2, t2, n2, k2⟩
    rw [List.length_map] at k2
    wtm_at "rd"
    refine rd_catL (s2 _ _ hD) hD2 (by rw [List.length_map, List.length_map]; omega) ?_
    intro kn fkn
    have nkp : kn ≠ p := Ne.symm ((Go.of_same hp (s1.trans s2)).pool.ne fkn)
    have s3 := Same.new (o := .lst (c1.map (fun c => V.ref c.1) ++ c2.map fun c => V.ref c.1)) fkn
    have hkn := @upd_same H2 kn (.lst (c1.map (fun c => V.ref c.1) ++ c2.map fun c => V.ref c.1))
    generalize upd H2 kn (.lst (c1.map (fun c => V.ref c.1) ++ c2.map fun c => V.ref c.1)) = H3 at s3 hkn
    rw [← List.map_append] at hkn
    have tk : TxtsAt H3 (c1 ++ c2) := fun c hc => by
      rcases List.mem_append.mp hc with hc | hc
      · exact s3 _ _ (s2 _ _ (t1 c hc))
      · exact s3 _ _ (t2 c hc)
    have nk : ∀ c ∈ c1 ++ c2, CstN ns c.2 := fun c hc => by
      rcases List.mem_append.mp hc with hc | hc
      · exact n1 c hc
      · exact n2 c hc
    have kk : (c1 ++ c2).length ≤ 1100 := by rw [List.length_append]; omega
    generalize c1 ++ c2 = kc at *
    have g3 : Go p H H3 := Go.of_same hp (s1.trans (s2.trans s3))
    clear s1 s2 s3 fkn hD hD2 t1 t2 n1 n2 k1 k2 gs1 fD2
    wtm_at "rd"
    intro l fl
    have npl := g3.pool.ne fl
    have fl0 := g3.free _ fl
    have nkl : kn ≠ l := ne_of_none hkn fl
    have tkl : ∀ c ∈ kc, c.1 ≠ l := fun c hc => ne_of_none (tk c hc) fl
    have g4 := g3.new (o := .lst []) fl
    have hkn := at_upd (o := .lst []) nkl hkn
    have tk : TxtsAt (upd H3 l (.lst [])) kc := fun c hc => at_upd (tkl c hc) (tk c hc)
    have hl := @upd_same H3 l (.lst [])
    generalize upd H3 l (.lst []) = H4 at g4 hkn tk hl
    wtm_at "rd"
    refine use_draw g4.pool (by omega) (by omega) fun r H5 r0 r1 g5 => ?_
    obtain ⟨many, rfl⟩ : ∃ k : Nat, r = (k : Int) := ⟨r.toNat, by omega⟩
    have hl := g5.at hl (Ne.symm npl)
    have hkn := g5.at hkn nkp
    have tk := TxtsAt.go tk g4.pool g5
    have g5 := g4.trans g5
    wtm_at "rd"
    refine turnsR (fun i σ H' => ∃ (u9 u10 : Option V) (cs : List (Addr × List Str)), σ = [some (.ref p), some (.ref g), some (.ref n), some (.int most), some (.ref kn), none, none, none, some (.ref l), u9, u10] ∧ Go p H H' ∧ H' l = some (.lst (cs.map fun c => V.ref c.1)) ∧ H' kn = some (.lst (kc.map fun c => V.ref c.1)) ∧ TxtsAt H' kc ∧ TxtsAt H' cs ∧ (∀ c ∈ cs, CstN ns c.2) ∧ (cs.map (·.2)).Nodup ∧ cs.length ≤ i) ⟨_, _, [], rfl, g5, hl, hkn, tk, (fun c h => nomatch h), (fun c h => nomatch h), List.nodup_nil, Nat.le_refl _⟩ ?_ ?_
    · rintro i σ H6 hi ⟨u9, u10, cs, rfl, g6, hl, hkn, tk, tc, cn, cd, cl⟩
      wtm_at "rd"
      refine rd_forL (SqL.of hkn) ?_
      intro D fD
      refine lcL (K := K) (xs := kc.map fun c => V.ref c.1) (fun j H2 => Same H6 H2 ∧ ∃ rs : List (Addr × List Str), H2 D = some (.lst (rs.map fun c => V.ref c.1)) ∧ (∀ c ∈ rs, c ∈ kc ∧ c.2 ∉ cs.map (·.2)) ∧ rs.length ≤ j) ⟨Same.new fD, [], upd_same, (fun y h => nomatch h), Nat.le_refl _⟩ ?_ ?_ ?_
      · rintro j H2 hj ⟨sb, _⟩
        exact SqL.of (sb _ _ hkn)
      · rintro j y H2 hy ⟨sb, rs, hD, rc, rl⟩
        obtain ⟨hj, rfl⟩ := map_at hy
        have cin := List.getElem_mem hj
        generalize kc[j] = c at *
        wtm_at "rd"
        refine rd_ninTx (x := c.2) (cs := cs) (SqT.of (sb _ _ (tk c cin))) (SqL.of (sb _ _ hl)) (tc.same sb) ((nk c cin).ok sok) (fun d hd => by
          obtain ⟨z, hz, rfl⟩ := List.mem_map.mp hd
          exact (cn z hz).ok sok) ?_
        wtm_at "rd"
        refine rd_nsplit (fun c1 => ?_) (fun c1 => ?_)
        · wtm_at "rd"
          refine rd_acc hD (by rw [List.length_map]; omega) ?_
          refine ⟨same_put sb fD, rs ++ [c], by rw [upd_same, List.map_append]; rfl, fun z hz => ?_, by rw [List.length_append, List.length_singleton]; omega⟩
          rcases List.mem_append.mp hz with hz | hz
          · exact rc z hz
          · rw [List.mem_singleton.mp hz]; exact ⟨cin, c1⟩
        · exact ⟨sb, rs, hD, rc, by omega⟩
      rintro H7 ⟨s7, rs, hD, rc, rl⟩
      rw [List.length_map] at rl
      have g7 := g6.same s7
      have hl := s7 _ _ hl
      have hkn := s7 _ _ hkn
      have tk := tk.same s7
      have tc := tc.same s7
      have nDp := Ne.symm (g6.pool.ne fD)
      clear s7 fD
      wtm_at "rd"
      intro z1 fz1
      have kz := Same.new (o := .lst []) fz1
      have hz1 := @upd_same H7 z1 (.lst [])
      have hD8 := kz _ _ hD
      have hl8 := kz _ _ hl
      have hkn8 := kz _ _ hkn
      have tk8 : TxtsAt (upd H7 z1 (.lst [])) kc := tk.same kz
      have tc8 : TxtsAt (upd H7 z1 (.lst [])) cs := tc.same kz
      have g8 := g7.same kz
      generalize upd H7 z1 (.lst []) = H8 at kz hz1 hD8 hl8 g8 hkn8 tk8 tc8
      clear g7 hD hl kz hkn tk tc
      refine rd_neNilTx (cs := rs) (SqL.of hD8) (fun c hc => tk8 c (rc c hc).1) (SqL.of hz1) (fun d hd => by
          obtain ⟨z, hz, rfl⟩ := List.mem_map.mp hd
          exact (nk z (rc z hz).1).ok sok) ?_
      wtm_at "rd"
      refine rd_b (fun c1 => ?_) (fun c1 => ?_)
      · have np : 0 < rs.length := by
          cases rs with
          | nil => cases c1
          | cons _ _ => exact Nat.succ_pos _
        wtm_at "rd"
        refine rd_tyL hl8 ?_
        wtm_at "rd"
        refine rd_lenL (SqL.of hD8) ?_
        rw [List.length_map]
        wtm_at "rd"
        refine use_draw g8.pool (by omega) (by omega) fun r H9 r0 r1 g9 => ?_
        obtain ⟨rn, rfl⟩ : ∃ k : Nat, r = (k : Int) := ⟨r.toNat, by omega⟩
        have hrn : rn < rs.length := by omega
        have hD9 := g9.at hD8 nDp
        have hl9 := g9.at hl8 (Ne.symm npl)
        have hkn9 := g9.at hkn8 nkp
        have tk9 : TxtsAt H9 kc := TxtsAt.go tk8 g8.pool g9
        have tc9 : TxtsAt H9 cs := TxtsAt.go tc8 g8.pool g9
        have g9 := g8.trans g9
        refine rd_ixL (SqL.of hD9) (v := .ref rs[rn].1) (atI_nat (by rw [List.getElem?_map, List.getElem?_eq_getElem hrn]; rfl)) ?_
        have win := rc _ (List.getElem_mem hrn)
        generalize rs[rn] = c at *
        wtm_at "rd"
        refine rd_append hl9 (by rw [List.length_map]; omega) ?_
        have nl : ∀ {b o}, H9 b = some (.tup o) → b ≠ l := fun hb => ne_of hb hl9 (by intro z; cases z)
        have tk10 : TxtsAt (upd H9 l (.lst (cs.map (fun c => V.ref c.1) ++ [.ref c.1]))) kc := fun d hd => at_upd (nl (tk9 d hd)) (tk9 d hd)
        refine ⟨_, _, cs ++ [c], rfl, g9.put fl0 npl, by rw [upd_same, List.map_append]; rfl, at_upd nkl hkn9, tk10, fun d hd => ?_, fun d hd => ?_, ?_, by rw [List.length_append, List.length_singleton]; omega⟩
        · rcases List.mem_append.mp hd with hd | hd
          · exact at_upd (nl (tc9 d hd)) (tc9 d hd)
          · rw [List.mem_singleton.mp hd]; exact tk10 c win.1
        · rcases List.mem_append.mp hd with hd | hd
          · exact cn d hd
          · rw [List.mem_singleton.mp hd]; exact nk c win.1
        · rw [List.map_append, List.nodup_append]
          refine ⟨cd, List.nodup_cons.mpr ⟨(fun h => nomatch h), List.nodup_nil⟩, fun a ha b hb z => ?_⟩
          have e : b = c.2 := List.mem_singleton.mp hb
          rw [z, e] at ha
          exact win.2 ha
      · wtm_at "rd"
        exact ⟨_, _, cs, rfl, g8, hl8, hkn8, tk8, tc8, cn, cd, by omega⟩
    · rintro σ H6 ⟨u9, u10, cs, rfl, g6, hl, hkn, tk, tc, cn, cd, cl⟩
      wtm_at "rd"
      exact q l cs H6 g6 fl0 hl tc cn cd (by omega)
theorem ok_obstr {f : Addr} {fd : FuncData} (F : Fun K "_law_random_obstruction" "_law_random_obstruction" s__law_random_obstruction f fd) (B : Bt mg) (C : MTa P w K mg base) : FnG P w K mg base CX0 3 f fd ["_law_source", "_law_graph"] spObstr := by
  refine fnG0 F sc__law_random_obstruction (fun vs H Q E h => ?_) (fun cdv A outer s H vs Q E hr h => ?_)
  · obtain ⟨p, g, n, e, st, ns, ord, es, f, rfl, _⟩ := h
    rfl
  · obtain ⟨p, g, n, e, st, ns, ord, es, f, rfl, hp, gs, pos, q⟩ := h
    have nd := sc__law_random_obstruction.nd
    have hu := hr.u1
    refine ⟨_, (pss_cons (ps_set (i := 2) nd rfl (by first | exact Or.inl rfl | exact Or.inr rfl) (pe_c C._law_draw hr (by decide) rfl (pa_cons (pv 0) (pa_cons pe_int pa_nil))))
  (pss_cons (ps_if (pt_cmpR (kEq K rfl hr.u64) (pv 2) pe_int (nomark _)) (pss_one (ps_ret (pe_tup (pa_cons pe_str (pa_cons (pe_c C._law_random_path hr (by decide) rfl (pa_cons (pv 0) (pa_cons (pv 1) pa_nil))) pa_nil))))) pss_nil)
  (pss_cons (ps_if (pt_cmpR (kEq K rfl hr.u64) (pv 2) pe_int (nomark _)) (pss_one (ps_ret (pe_tup (pa_cons pe_str (pa_cons (pe_ix (kIx K rfl) (pe_ix (kIx K rfl) (pv 1) pe_int (fun _ _ => rfl)) (pe_c C._law_draw hr (by decide) rfl (pa_cons (pv 0) (pa_cons (pe_callB (kLen K rfl) (by rfl) B.len bb_len (pa_cons (pe_ix (kIx K rfl) (pv 1) pe_int (fun _ _ => rfl)) pa_nil)) pa_nil))) (fun _ _ => rfl)) (pa_cons (pe_tup (pa_cons (pe_c C._law_random_path hr (by decide) rfl (pa_cons (pv 0) (pa_cons (pv 1) pa_nil))) (pa_cons (pe_c C._law_random_path hr (by decide) rfl (pa_cons (pv 0) (pa_cons (pv 1) pa_nil))) pa_nil))) pa_nil)))))) pss_nil)
  (pss_cons (ps_set (i := 3) nd rfl (by first | exact Or.inl rfl | exact Or.inr rfl) (pe_tup (pa_cons (pe_c C._law_random_path hr (by decide) rfl (pa_cons (pv 0) (pa_cons (pv 1) pa_nil))) (pa_cons (pe_c C._law_random_path hr (by decide) rfl (pa_cons (pv 0) (pa_cons (pv 1) pa_nil))) pa_nil))))
  (pss_cons (ps_set (i := 4) nd rfl (by first | exact Or.inl rfl | exact Or.inr rfl) (pe_tup (pa_cons (pe_c C._law_random_path hr (by decide) rfl (pa_cons (pv 0) (pa_cons (pv 1) pa_nil))) (pa_cons (pe_c C._law_random_path hr (by decide) rfl (pa_cons (pv 0) (pa_cons (pv 1) pa_nil))) pa_nil))))
  (pss_one (ps_ret (pe_tup (pa_cons pe_str (pa_cons (pe_c C._law_random_path hr (by decide) rfl (pa_cons (pv 0) (pa_cons (pv 1) pa_nil))) (pa_cons (pv 3) (pa_cons (pv 4) pa_nil)))))))))))), ?_⟩
    have l2 := gs.l2
    wtm_at "rd"
    refine use_draw hp (by decide) (by decide) fun r H1 r0 r1 g1 => ?_
    wtm_at "rd"
    have walk : ∀ {H1 : Hp} {R : VK}, Go p H H1 → (∀ (l : Addr) (q : List Str) (H2 : Hp), Go p H1 H2 → H1 l = none → l ≠ p → H2 l = some (.lst (q.map V.str)) → PthN ns q → R (.ref l) H2) → ∀ E, spPathR [.ref p, .ref g] H1 R E := fun {H1 R} g1 k E =>
      ⟨p, g, n, e, st, ns, ord, es, f, rfl, g1.pool, gs.go hp g1, pos, fun l q H2 g2 fl hl i1 i2 i3 => k l q H2 g2 fl (Ne.symm (g1.pool.ne fl)) hl ⟨i1, i2, i3⟩⟩
    refine rd_split (fun c1 => ?_) (fun c1 => ?_)
    · wtm_at "rd"
      refine walk g1 (fun l1 q1 H2 g2 f1 n1 h1 o1 => ?_) _
      wtm_at "rd"
      intro t ft
      have k := Same.new (o := .tup [.str "cycle", .ref l1]) ft
      have gg := g1.trans g2
      exact q t [q1] _ (gg.same k) (gg.free _ ft) (.inl ⟨l1, q1, upd_same, k _ _ h1, rfl⟩) (fun x hx => by rw [List.mem_singleton.mp hx]; exact o1)
    · wtm_at "rd"
      refine rd_split (fun c2 => ?_) (fun c2 => ?_)
      · wtm_at "rd"
        refine rd_ixT (SqT.of (gs.go hp g1).gr.top) (v := .ref n) rfl ?_
        wtm_at "rd"
        refine rd_ixT (SqT.of (gs.go hp g1).gr.top) (v := .ref n) rfl ?_
        wtm_at "rd"
        refine rd_lenT (SqT.of (gs.go hp g1).gr.nodes) ?_
        rw [List.length_map]
        wtm_at "rd"
        refine use_draw g1.pool (by omega) (by omega) fun r H2 r0 r1 g2 => ?_
        obtain ⟨rn, rfl⟩ : ∃ k : Nat, r = (k : Int) := ⟨r.toNat, by omega⟩
        have hrn : rn < ns.length := by omega
        have g2 := g1.trans g2
        refine rd_ixT (SqT.of (gs.go hp g2).gr.nodes) (v := .str ns[rn]) (atI_nat (by rw [List.getElem?_map, List.getElem?_eq_getElem hrn]; rfl)) ?_
        have xin := List.getElem_mem hrn
        generalize ns[rn] = x at *
        wtm_at "rd"
        refine walk g2 (fun l1 q1 H3 g3 f1 n1 h1 o1 => ?_) _
        have g3 := g2.trans g3
        wtm_at "rd"
        refine walk g3 (fun l2 q2 H4 g4 f2 n2 h2 o2 => ?_) _
        have h1 := g4.at h1 n1
        have g4 := g3.trans g4
        wtm_at "rd"
        intro t1 ft1
        have k1 := Same.new (o := .tup [.ref l1, .ref l2]) ft1
        have ht1 := @upd_same H4 t1 (.tup [.ref l1, .ref l2])
        have g5 := g4.same k1
        generalize upd H4 t1 (.tup [.ref l1, .ref l2]) = H5 at *
        wtm_at "rd"
        intro t ft
        have k := Same.new (o := .tup [.str "node", .str x, .ref t1]) ft
        refine q t [[x], q1, q2] _ (g5.same k) (g5.free _ ft) (.inr (.inl ⟨x, t1, l1, l2, q1, q2, upd_same, k _ _ ht1, k _ _ (k1 _ _ h1), k _ _ (k1 _ _ h2), rfl⟩)) (fun y hy => ?_)
        simp only [List.mem_cons, List.not_mem_nil, or_false] at hy
        rcases hy with rfl | rfl | rfl
        · exact ⟨fun z hz => by rw [List.mem_singleton.mp hz]; exact xin, Nat.one_pos, by simp⟩
        · exact o1
        · exact o2
      · wtm_at "rd"
        refine walk g1 (fun l1 q1 H2 g2 f1 n1 h1 o1 => ?_) _
        have g2 := g1.trans g2
        wtm_at "rd"
        refine walk g2 (fun l2 q2 H3 g3 f2 n2 h2 o2 => ?_) _
        have h1 := g3.at h1 n1
        have g3 := g2.trans g3
        wtm_at "rd"
        intro t1 ft1
        have k1 := Same.new (o := .tup [.ref l1, .ref l2]) ft1
        have ht1 := @upd_same H3 t1 (.tup [.ref l1, .ref l2])
        have g4 := g3.same k1
        have h1 := k1 _ _ h1
        have h2 := k1 _ _ h2
        have tp1 : t1 ≠ p := Ne.symm (g3.pool.ne ft1)
        generalize upd H3 t1 (.tup [.ref l1, .ref l2]) = H4 at *
        wtm_at "rd"
        refine walk g4 (fun l3 q3 H5 g5 f3 n3 h3 o3 => ?_) _
        have h1 := g5.at h1 n1
        have h2 := g5.at h2 n2
        have ht1 := g5.at ht1 tp1
        have g5 := g4.trans g5
        wtm_at "rd"
        refine walk g5 (fun l4 q4 H6 g6 f4 n4 h4 o4 => ?_) _
        have h1 := g6.at h1 n1
        have h2 := g6.at h2 n2
        have h3 := g6.at h3 n3
        have ht1 := g6.at ht1 tp1
        have g6 := g5.trans g6
        wtm_at "rd"
        intro t2 ft2
        have k2 := Same.new (o := .tup [.ref l3, .ref l4]) ft2
        have ht2 := @upd_same H6 t2 (.tup [.ref l3, .ref l4])
        have tp2 : t2 ≠ p := Ne.symm (g6.pool.ne ft2)
        have g7 := g6.same k2
        have h1 := k2 _ _ h1
        have h2 := k2 _ _ h2
        have h3 := k2 _ _ h3
        have h4 := k2 _ _ h4
        have ht1 := k2 _ _ ht1
        generalize upd H6 t2 (.tup [.ref l3, .ref l4]) = H7 at *
        wtm_at "rd"
        refine walk g7 (fun l0 q0 H8 g8 f0 n0 h0 o0 => ?_) _
        have h1 := g8.at h1 n1
        have h2 := g8.at h2 n2
        have h3 := g8.at h3 n3
        have h4 := g8.at h4 n4
        have ht1 := g8.at ht1 tp1
        have ht2 := g8.at ht2 tp2
        have g8 := g7.trans g8
        wtm_at "rd"
        intro t ft
        have k := Same.new (o := .tup [.str "path", .ref l0, .ref t1, .ref t2]) ft
        refine q t [q0, q1, q2, q3, q4] _ (g8.same k) (g8.free _ ft) (.inr (.inr ⟨l0, t1, t2, l1, l2, l3, l4, q0, q1, q2, q3, q4, upd_same, k _ _ h0, k _ _ ht1, k _ _ ht2, k _ _ h1, k _ _ h2, k _ _ h3, k _ _ h4, rfl⟩)) (fun y hy => ?_)
        simp only [List.mem_cons, List.not_mem_nil, or_false] at hy
        rcases hy with rfl | rfl | rfl | rfl | rfl
        · exact o0
        · exact o1
        · exact o2
        · exact o3
        · exact o4
end
end Law

/-! k68's expected mentions -/
namespace U
open PySem PySem.Spec PyProof.Rows L2
theorem named_step {ps : List (List Str)} {q : List Str} {c : List Str} (h : CstT c) : namedF (ps ++ [q]) c = (namedF ps c || namedF [q] c) := by
  rcases h with ⟨x, rfl⟩ | ⟨a, b, rfl⟩
  · show decide (x ∈ (ps ++ [q]).flatten) = (decide (x ∈ ps.flatten) || decide (x ∈ [q].flatten))
    rw [List.flatten_append, ← Bool.decide_or]
    exact decide_eq_decide.mpr List.mem_append
  · show decide ((a, b) ∈ (ps ++ [q]).flatMap edgesP) = (decide ((a, b) ∈ ps.flatMap edgesP) || decide ((a, b) ∈ [q].flatMap edgesP))
    rw [List.flatMap_append, ← Bool.decide_or]
    exact decide_eq_decide.mpr List.mem_append
theorem named_nil {c : List Str} (h : CstT c) : namedF [] c = false := by
  rcases h with ⟨x, rfl⟩ | ⟨a, b, rfl⟩ <;> rfl
theorem ne_strs {H : Hp} {a b : Addr} {q : List Str} {cs : List (Addr × List Str)} (h : 0 < q.length) (h1 : H a = some (.lst (q.map V.str))) (h2 : H b = some (.lst (cs.map fun c => V.ref c.1))) : a ≠ b := fun z => by
  rw [z, h2] at h1
  injection h1 with e
  injection e with e
  cases q with
  | nil => cases h
  | cons x r =>
    cases cs with
    | nil => cases e
    | cons c d =>
      injection e with e _
      cases e
theorem eOf_inP {x y : Str} {p : List Str} (hx : x ∈ p) (hy : y ∈ p) : (eOf x y).1 ∈ p ∧ (eOf x y).2 ∈ p := by
  rcases eOf_cases x y with z | z <;> rw [z]
  · exact ⟨hx, hy⟩
  · exact ⟨hy, hx⟩
theorem edgesP_in : ∀ {p : List Str} {e : Str × Str}, e ∈ edgesP p → e.1 ∈ p ∧ e.2 ∈ p
  | [], _, h => nomatch h
  | [_], _, h => nomatch h
  | x :: y :: r, e, h => by
    rcases List.mem_cons.mp h with rfl | h
    · exact eOf_inP List.mem_cons_self (List.mem_cons_of_mem _ List.mem_cons_self)
    · obtain ⟨a, b⟩ := edgesP_in (p := y :: r) h
      exact ⟨List.mem_cons_of_mem _ a, List.mem_cons_of_mem _ b⟩
end U
namespace Law
open PySem PySem.Spec PyProof.Rows L2 U
local macro_rules | `(tactic| wtm_at "rd1") => `(tactic| first
  | with_reducible refine rd_seq ?_
  | ((with_reducible refine rd_var (v := ?vv) ?hv ?_); (case hv => exact rfl))
  | with_reducible refine rd_c ?_
  | with_reducible refine rd_cons ?_
  | with_reducible refine rd_nil ?_
  | with_reducible refine rd_op ?_
  | with_reducible refine rd_asg ?_
  | with_reducible refine rd_name ?_
  | with_reducible refine rd_c1 ?_
  | with_reducible refine rd_cb ?_
  | with_reducible refine rd_test ?_
  | with_reducible refine rd_B ?_
  | with_reducible refine rd_bl ?_
  | with_reducible refine rd_if ?_
  | with_reducible refine rd_ret ?_
  | with_reducible refine rd_drop ?_
  | with_reducible refine rd_next ?_
  | with_reducible refine rd_addI ?_
  | with_reducible refine rd_ltI ?_
  | with_reducible refine rd_eqI ?_
  | with_reducible refine rd_neI ?_
  | with_reducible refine rd_eqS ?_
  | with_reducible refine rd_neS ?_
  | with_reducible refine rd_gtI ?_
  | with_reducible refine rd_geI ?_
  | with_reducible refine rd_leI ?_
  | with_reducible refine rd_ltS ?_
  | with_reducible refine rd_subI ?_
  | ((with_reducible refine rd_modI ?hc ?_); (case hc => first | decide | omega))
  | ((with_reducible refine rd_mulI ?hc ?_); (case hc => first | exact mul_bI | exact .inl (.inr (by decide)) | exact .inl (.inl (by decide)) | exact .inl (.inr (by omega)) | exact .inl (.inl (by omega))))
  | ((with_reducible refine rd_divI ?hc ?_); (case hc => first | decide | omega))
  | ((with_reducible refine rd_powI ?hc ?_); (case hc => exact ⟨by decide, by decide, by decide⟩))
  | with_reducible refine rd_lst ?_
  | with_reducible refine rd_tup ?_
  | ((with_reducible refine rd_sz ?hv ?_); (case hv => exact rfl))
  | with_reducible refine rd_and ?_
  | with_reducible refine rd_or ?_
  | with_reducible refine rd_not ?_
  | with_reducible refine rd_andV ?_
  | with_reducible refine rd_orV ?_
  | with_reducible refine rd_notV ?_
  | with_reducible refine rd_ifE ?_
  | with_reducible refine rd_T ?_
  | with_reducible refine rd_F ?_
  | with_reducible refine rd_chain ?_
  | with_reducible refine rd_is ?_
  | with_reducible refine rd_isNot ?_
  | with_reducible refine rd_absI ?_
  | with_reducible refine rd_maxI ?_
  | with_reducible refine rd_minI ?_
  | with_reducible refine rd_intI ?_
  | with_reducible refine rd_intB ?_
  | with_reducible refine rd_sub ?_
  | with_reducible refine rd_sl ?_
  | with_reducible refine rd_noPart ?_
  | with_reducible refine rd_part ?_
  | with_reducible refine rd_exI ?_
  | with_reducible refine rd_bm ?_
  | with_reducible refine rd_bm0 ?_
  | with_reducible refine rd_un ?_
  | with_reducible refine rd_neg ?_
  | with_reducible refine rd_c2 ?_
  | with_reducible refine rd_retN ?_
  | with_reducible refine rd_break ?_
  | with_reducible refine rd_cont ?_
  | with_reducible refine rd_for ?_
  | with_reducible refine rd_rng1 ?_
  | with_reducible refine rd_rng2 ?_
  | with_reducible refine rd_iList ?_
  | with_reducible refine rd_iTup ?_
  | with_reducible refine rd_iEnum ?_
  | ((with_reducible refine rd_forR ?h0 ?h1 ?_); (case h0 => omega); (case h1 => omega))
  | with_reducible refine rd_lc ?_
  | with_reducible refine rd_gcons ?_
  | with_reducible refine rd_gnil ?_
  | with_reducible refine rd_dget ?_
  | with_reducible refine rd_dput ?_
  | with_reducible refine rd_dnew ?_
  | with_reducible refine rd_dc ?_
  | with_reducible refine rd_iItems ?_
  | with_reducible refine rd_iKeys ?_
  | with_reducible refine rd_din ?_
  | with_reducible refine rd_lc2 ?_
  | with_reducible refine rd_cd ?_
  | with_reducible refine rd_par ?_
  | with_reducible refine rd_two ?_
  | with_reducible refine rd_reprB ?_
  | with_reducible refine rd_ck ?_
  | ((with_reducible refine rd_len ?hl ?_); (case hl => exact rfl))
  | with_reducible refine rd_nT ?_
  | with_reducible refine rd_nF ?_
  | with_reducible refine rd_dnin ?_
  | with_reducible refine rd_isB ?_
  | with_reducible refine rd_isNotB ?_
  | with_reducible refine rd_daug ?_
  | with_reducible refine rd_yesT ?_
  | ((with_reducible refine rd_wp ?hw ?_); (case hw => exact rfl)))
local macro_rules | `(tactic| wtm_at "rd") => `(tactic| repeat wtm_at "rd1")

def spPathsOf : Sp := fun vs H Q _ => ∃ (ob : Addr) (ps : List (List Str)), vs = [.ref ob] ∧ ObAt H ob ps ∧
  ∀ (l : Addr) (qs : List (Addr × List Str)) (H' : Hp), Same H H' → H l = none → H' l = some (.lst (qs.map fun q => V.ref q.1)) → LstsAt H' qs → qs.map (·.2) = ps → Q (.ref l) H'
def spExpM : Sp := fun vs H Q _ => ∃ (il ob : Addr) (cs : List (Addr × List Str)) (ps : List (List Str)) (ns : List Str), vs = [.ref il, .ref ob] ∧ H il = some (.lst (cs.map fun c => V.ref c.1)) ∧ TxtsAt H cs ∧ (∀ c ∈ cs, CstN ns c.2) ∧ (cs.map (·.2)).Nodup ∧ cs.length ≤ 100 ∧ ObAt H ob ps ∧ (∀ q ∈ ps, PthN ns q) ∧ (∀ x ∈ ns, PyData.strOk x = true) ∧
  ∀ (l : Addr) (H' : Hp), Same H H' → H' l = some (.lst ((cs.filter fun c => namedF ps c.2).map fun c => V.ref c.1)) → Q (.ref l) H'
section
variable {P : Program} {w : World} {K : PySem.W.Frag} {mg : Str → Option Value} {base : Heap}
theorem ok_paths_of {f : Addr} {fd : FuncData} (F : Fun K "_law_paths_of" "_law_paths_of" s__law_paths_of f fd) (B : Bt mg) : FnG P w K mg base CX0 1 f fd ["_law_certificate"] spPathsOf := by
  refine fnG0 F sc__law_paths_of (fun vs H Q E h => ?_) (fun cdv A outer s H vs Q E hr h => ?_)
  · obtain ⟨ob, ps, rfl, _⟩ := h
    rfl
  · obtain ⟨ob, ps, rfl, ho, q⟩ := h
    have nd := sc__law_paths_of.nd
    have hu := hr.u1
    refine ⟨_, (pss_cons (ps_if (pt_cmpR (kEq K rfl hr.u64) (pe_ix (kIx K rfl) (pv 0) pe_int (fun _ _ => rfl)) pe_str (nomark _)) (pss_one (ps_ret (pe_lst (pa_cons (pe_ix (kIx K rfl) (pv 0) pe_int (fun _ _ => rfl)) pa_nil)))) pss_nil)
  (pss_cons (ps_if (pt_cmpR (kEq K rfl hr.u64) (pe_ix (kIx K rfl) (pv 0) pe_int (fun _ _ => rfl)) pe_str (nomark _)) (pss_one (ps_ret (pe_lst (pa_cons (pe_lst (pa_cons (pe_ix (kIx K rfl) (pv 0) pe_int (fun _ _ => rfl)) pa_nil)) (pa_cons (pe_ix (kIx K rfl) (pe_ix (kIx K rfl) (pv 0) pe_int (fun _ _ => rfl)) pe_int (fun _ _ => rfl)) (pa_cons (pe_ix (kIx K rfl) (pe_ix (kIx K rfl) (pv 0) pe_int (fun _ _ => rfl)) pe_int (fun _ _ => rfl)) pa_nil)))))) pss_nil)
  (pss_one (ps_ret (pe_lst (pa_cons (pe_ix (kIx K rfl) (pv 0) pe_int (fun _ _ => rfl)) (pa_cons (pe_ix (kIx K rfl) (pe_ix (kIx K rfl) (pv 0) pe_int (fun _ _ => rfl)) pe_int (fun _ _ => rfl)) (pa_cons (pe_ix (kIx K rfl) (pe_ix (kIx K rfl) (pv 0) pe_int (fun _ _ => rfl)) pe_int (fun _ _ => rfl)) (pa_cons (pe_ix (kIx K rfl) (pe_ix (kIx K rfl) (pv 0) pe_int (fun _ _ => rfl)) pe_int (fun _ _ => rfl)) (pa_cons (pe_ix (kIx K rfl) (pe_ix (kIx K rfl) (pv 0) pe_int (fun _ _ => rfl)) pe_int (fun _ _ => rfl)) pa_nil)))))))))), ?_⟩
    wtm_at "rd"
    rcases ho with ⟨l, q1, h1, h2, e⟩ | ⟨x, t, l1, l2, q1, q2, h1, h2, h3, h4, e⟩ | ⟨l0, t1, t2, l1, l2, l3, l4, q0, q1, q2, q3, q4, h1, h2, h3, h4, h5, h6, h7, h8, e⟩
    · refine rd_ixT (SqT.of h1) (v := .str "cycle") rfl ?_
      wtm_at "rd"
      refine rd_yes rfl ?_
      wtm_at "rd"
      refine rd_ixT (SqT.of h1) (v := .ref l) rfl ?_
      wtm_at "rd"
      intro z fz
      have k := Same.new (o := .lst [.ref l]) fz
      exact q z [(l, q1)] _ k fz upd_same (fun c hc => by rw [List.mem_singleton.mp hc]; exact k _ _ h2) e.symm
    · refine rd_ixT (SqT.of h1) (v := .str "node") rfl ?_
      wtm_at "rd"
      refine rd_no (by decide +kernel) ?_
      wtm_at "rd"
      refine rd_ixT (SqT.of h1) (v := .str "node") rfl ?_
      wtm_at "rd"
      refine rd_yes rfl ?_
      wtm_at "rd"
      refine rd_ixT (SqT.of h1) (v := .str x) rfl ?_
      wtm_at "rd"
      intro z fz
      have k := Same.new (o := .lst [.str x]) fz
      have hz := @upd_same H z (.lst [.str x])
      generalize upd H z (.lst [.str x]) = H1 at k hz
      wtm_at "rd"
      refine rd_ixT (SqT.of (k _ _ h1)) (v := .ref t) rfl ?_
      wtm_at "rd"
      refine rd_ixT (SqT.of (k _ _ h2)) (v := .ref l1) rfl ?_
      wtm_at "rd"
      refine rd_ixT (SqT.of (k _ _ h1)) (v := .ref t) rfl ?_
      wtm_at "rd"
      refine rd_ixT (SqT.of (k _ _ h2)) (v := .ref l2) rfl ?_
      wtm_at "rd"
      intro y fy
      have k2 := Same.new (o := .lst [.ref z, .ref l1, .ref l2]) fy
      refine q y [(z, [x]), (l1, q1), (l2, q2)] _ (k.trans k2) (new_of_same k fy) upd_same (fun c hc => ?_) e.symm
      simp only [List.mem_cons, List.not_mem_nil, or_false] at hc
      rcases hc with rfl | rfl | rfl
      · exact k2 _ _ hz
      · exact k2 _ _ (k _ _ h3)
      · exact k2 _ _ (k _ _ h4)
    · refine rd_ixT (SqT.of h1) (v := .str "path") rfl ?_
      wtm_at "rd"
      refine rd_no (by decide +kernel) ?_
      wtm_at "rd"
      refine rd_ixT (SqT.of h1) (v := .str "path") rfl ?_
      wtm_at "rd"
      refine rd_no (by decide +kernel) ?_
      wtm_at "rd"
      refine rd_ixT (SqT.of h1) (v := .ref l0) rfl ?_
      wtm_at "rd"
      refine rd_ixT (SqT.of h1) (v := .ref t1) rfl ?_
      wtm_at "rd"
      refine rd_ixT (SqT.of h3) (v := .ref l1) rfl ?_
      wtm_at "rd"
      refine rd_ixT (SqT.of h1) (v := .ref t1) rfl ?_
      wtm_at "rd"
      refine rd_ixT (SqT.of h3) (v := .ref l2) rfl ?_
      wtm_at "rd"
      refine rd_ixT (SqT.of h1) (v := .ref t2) rfl ?_
      wtm_at "rd"
      refine rd_ixT (SqT.of h4) (v := .ref l3) rfl ?_
      wtm_at "rd"
      refine rd_ixT (SqT.of h1) (v := .ref t2) rfl ?_
      wtm_at "rd"
      refine rd_ixT (SqT.of h4) (v := .ref l4) rfl ?_
      wtm_at "rd"
      intro y fy
      have k2 := Same.new (o := .lst [.ref l0, .ref l1, .ref l2, .ref l3, .ref l4]) fy
      refine q y [(l0, q0), (l1, q1), (l2, q2), (l3, q3), (l4, q4)] _ k2 fy upd_same (fun c hc => ?_) e.symm
      simp only [List.mem_cons, List.not_mem_nil, or_false] at hc
      rcases hc with rfl | rfl | rfl | rfl | rfl
      · exact k2 _ _ h2
      · exact k2 _ _ h5
      · exact k2 _ _ h6
      · exact k2 _ _ h7
      · exact k2 _ _ h8
structure MUa (P : Program) (w : World) (K : PySem.W.Frag) (mg : Str → Option Value) (base : Heap) : Prop where
  _law_paths_of : Cal P w K mg base CX0 1 "_law_paths_of" spPathsOf
theorem ok_expM {f : Addr} {fd : FuncData} (F : Fun K "_law_expected_mentions" "_law_expected_mentions" s__law_expected_mentions f fd) (B : Bt mg) (C : MUa P w K mg base) : FnG P w K mg base CX0 2 f fd ["_law_items", "_law_certificate"] spExpM := by
  refine fnG0 F sc__law_expected_mentions (fun vs H Q E h => ?_) (fun cdv A outer s H vs Q E hr h => ?_)
  · obtain ⟨il, ob, cs, ps, ns, rfl, _⟩ := h
    rfl
  · have hu65 : (A.deeper (envOfC "_law_expected_mentions" (defScope s__law_expected_mentions) s.heap.objs.size f cdv)).units + 65 < cLine := by
      have := hr.u100
      omega
    obtain ⟨il, ob, cs, ps, ns, rfl, hil, tc, cn, cd, cl, ho, pth, sok, q⟩ := h
    have nd := sc__law_expected_mentions.nd
    have hu := hr.u1
    refine ⟨_, (pss_cons (ps_set (i := 2) nd rfl (by first | exact Or.inl rfl | exact Or.inr rfl) (pe_lst pa_nil))
  (pss_cons (ps_for PassesOwn.never rfl (ki_list K rfl (pv 0)) (pg_name (i := 3) nd rfl (by first | exact Or.inl rfl | exact Or.inr rfl)) (pss_one (ps_for PassesOwn.never rfl (ki_list K rfl (pe_c C._law_paths_of hr (by decide) rfl (pa_cons (pv 1) pa_nil))) (pg_name (i := 4) nd rfl (by first | exact Or.inl rfl | exact Or.inr rfl)) (pss_cons (ps_setLc (i := 5) (own := [("_law_at", 6)]) rfl nd rfl rfl (sw_true rfl rfl rfl (by decide +kernel)) (pi_range1 rfl B.range (pa_cons (pe_op uSub (pe_callB (kLen K rfl) (by rfl) B.len bb_len (pa_cons (pv 4) pa_nil)) pe_int) pa_nil)) (blkOk_by (own := [("_law_at", 6)]) (N := nN__law_expected_mentions) (sc := defScope s__law_expected_mentions) (by decide +kernel)) (fun _ _ _ _ _ => (pg_name (i := 6) nd rfl (by first | exact Or.inl rfl | exact Or.inr rfl))) (fun _ _ _ _ _ => pts_nil) (fun _ _ _ _ _ => (pe_callTy (kTuple K rfl) (by rfl) B.tuple bb_tuple (pa_cons (pe_callB (kSorted K rfl hr.u64) (by rfl) B.sorted bb_sorted (pa_cons (pe_lst (pa_cons (pe_ix (kIx K rfl) (pv 4) (pv 6) (fun _ _ => rfl)) (pa_cons (pe_ix (kIx K rfl) (pv 4) (pe_op (kAdd K rfl) (pv 6) pe_int) (fun _ _ => rfl)) pa_nil))) pa_nil)) pa_nil))))
  (pss_cons (ps_set (i := 7) nd rfl (by first | exact Or.inl rfl | exact Or.inr rfl) (pe_or (pe_and (pe_cmpR (kEq K rfl hr.u64) (pe_ix (kIx K rfl) (pv 3) pe_int (fun _ _ => rfl)) pe_str (nomark _)) (pe_one (pe_cmpR (kIn K rfl) (pe_ix (kIx K rfl) (pv 3) pe_int (fun _ _ => rfl)) (pv 4) rfl))) (pe_one (pe_cmpR (kInD K rfl hu65) (pe_slice (kSl K rfl) (pv 3) (po_some pe_int) po_none) (pv 5) rfl))))
  (pss_one (ps_if (PW.pt (pw_and (pt_cmpR (kNinL K rfl hu65) (pv 3) (pv 2) rfl) (pw_and1 (pt_val (pv 7))))) (pss_one (ps_expr (pe_bm PySem.F.plainAttrs_list PySem.F.slot_list_append PySem.F.type_list_append mt_append (pv 2) (pa_cons (pv 3) pa_nil)))) pss_nil)))))))
  (pss_one (ps_ret (pv 2))))), ?_⟩
    wtm_at "rd"
    intro l0 fl0
    have s1 := Same.new (o := .lst []) fl0
    have hl0 := @upd_same H l0 (.lst [])
    generalize upd H l0 (.lst []) = H1 at s1 hl0
    wtm_at "rd"
    refine rd_forL (SqL.of (s1 _ _ hil)) ?_
    refine turnsL (K := K) (xs := cs.map fun c => V.ref c.1) (fun i σ H' => ∃ (u3 u4 u5 u6 u7 : Option V), σ = [some (.ref il), some (.ref ob), some (.ref l0), u3, u4, u5, u6, u7] ∧ Same H H' ∧ H' l0 = some (.lst (((cs.take i).filter fun c => namedF ps c.2).map fun c => V.ref c.1))) ⟨_, _, _, _, _, rfl, s1, hl0⟩ ?_ ?_ ?_
    · rintro i σ H' hi ⟨u3, u4, u5, u6, u7, rfl, sb, _⟩
      exact SqL.of (sb _ _ hil)
    · rintro i y σ H2 hy ⟨u3, u4, u5, u6, u7, rfl, s2, hl⟩
      obtain ⟨hi, rfl⟩ := map_at hy
      have hm := List.getElem_mem hi
      have hc := tc _ hm
      have cnn := cn _ hm
      have wn : cs[i].2 ∉ ((cs.take i).filter fun c => namedF ps c.2).map (·.2) := fun z => by
        obtain ⟨d, hd, e⟩ := List.mem_map.mp z
        have hd := (List.mem_filter.mp hd).1
        have hi2 : i < (cs.map (·.2)).length := by rw [List.length_map]; exact hi
        have cd2 := cd
        rw [← List.take_append_drop i (cs.map (·.2)), List.drop_eq_getElem_cons hi2, List.nodup_append] at cd2
        refine cd2.2.2 d.2 (by rw [← List.map_take]; exact List.mem_map_of_mem hd) (cs.map (·.2))[i] List.mem_cons_self ?_
        rw [List.getElem_map]
        exact e
      have tk : (cs.take (i + 1)).filter (fun c => namedF ps c.2) = (cs.take i).filter (fun c => namedF ps c.2) ++ (if namedF ps cs[i].2 = true then [cs[i]] else []) := by
        rw [tk_snoc hi, List.filter_append]
        congr 1
        by_cases z : namedF ps cs[i].2 = true
        · rw [List.filter_cons, if_pos z, if_pos z]
          rfl
        · rw [List.filter_cons, if_neg z, if_neg z]
          rfl
      rw [tk]
      clear tk
      have win : ∀ d ∈ (cs.take i).filter fun c => namedF ps c.2, d ∈ cs := fun d hd => List.mem_of_mem_take (List.mem_filter.mp hd).1
      have wl : ((cs.take i).filter fun c => namedF ps c.2).length ≤ 100 := Nat.le_trans (List.length_filter_le _ _) (by rw [List.length_take]; omega)
      generalize (cs.take i).filter (fun c => namedF ps c.2) = W at *
      generalize cs[i] = c at *
      wtm_at "rd"
      refine ⟨ob, ps, rfl, ho.same s2, fun pl qs H3 s3 fpl hpl lq eq => ?_⟩
      have nll : pl ≠ l0 := fun z => by
        rw [z, hl] at fpl
        cases fpl
      have hl3 := s3 _ _ hl
      have s3 := s2.trans s3
      subst eq
      wtm_at "rd"
      refine rd_forL (SqL.of hpl) ?_
      refine turnsL (K := K) (xs := qs.map fun q => V.ref q.1) (fun j σ H' => ∃ (u4 u5 u6 u7 : Option V), σ = [some (.ref il), some (.ref ob), some (.ref l0), some (.ref c.1), u4, u5, u6, u7] ∧ But l0 H3 H' ∧ H' l0 = some (.lst ((W ++ if namedF ((qs.take j).map (·.2)) c.2 = true then [c] else []).map fun c => V.ref c.1))) ⟨_, _, _, _, rfl, (fun _ _ _ h => h), by
        rw [show (qs.take 0).map (·.2) = [] from rfl, named_nil cnn.t, if_neg Bool.false_ne_true, List.append_nil]
        exact hl3⟩ ?_ ?_ ?_
      · rintro j σ H' hj ⟨u4, u5, u6, u7, rfl, b, _⟩
        exact SqL.of (b _ _ nll hpl)
      · rintro j y σ H4 hy ⟨u4, u5, u6, u7, rfl, b4, hl4⟩
        obtain ⟨hj, rfl⟩ := map_at hy
        have hq3 := lq _ (List.getElem_mem hj)
        have pn := pth _ (List.mem_map_of_mem (f := (·.2)) (List.getElem_mem hj))
        have hq4 := b4 _ _ (ne_strs pn.2.1 hq3 hl3) hq3
        have tk : (qs.take (j + 1)).map (·.2) = (qs.take j).map (·.2) ++ [qs[j].2] := by
          rw [tk_snoc hj, List.map_append]
          rfl
        rw [tk, named_step cnn.t]
        clear tk hq3
        generalize namedF ((qs.take j).map (·.2)) c.2 = b0 at *
        generalize qs[j] = qq at *
        obtain ⟨pa, p⟩ := qq
        dsimp only at hq4 pn ⊢
        have hc4 : H4 c.1 = some (.tup (c.2.map V.str)) := b4 _ _ (ne_of_none hc fl0) (s3 _ _ hc)
        have tW4 : TxtsAt H4 cs := fun d hd => b4 _ _ (ne_of_none (tc d hd) fl0) (s3 _ _ (tc d hd))
        have fin : ∀ d ∈ (W ++ if b0 = true then [c] else []), d ∈ cs := fun d hd => by
          rcases List.mem_append.mp hd with hd | hd
          · exact win d hd
          · cases b0 with
            | false => exact nomatch hd
            | true =>
              rw [if_pos rfl] at hd
              rw [List.mem_singleton.mp hd]
              exact hm
        have fl : (W ++ if b0 = true then [c] else []).length ≤ 101 := by
          rw [List.length_append]
          split
          · rw [List.length_singleton]; omega
          · rw [List.length_nil]; omega
        have fok : ∀ d ∈ (W ++ if b0 = true then [c] else []).map (·.2), ∀ y ∈ d, PyData.strOk y = true := fun d hd => by
          obtain ⟨z, hz, rfl⟩ := List.mem_map.mp hd
          exact (cn z (fin z hz)).ok sok
        wtm_at "rd"
        refine rd_lenL (SqL.of hq4) ?_
        rw [List.length_map]
        wtm_at "rd"
        have p10 := pn.2.2
        refine ⟨_, rfl, Int.le_trans (by decide : -2 ^ 62 ≤ (-1 : Int)) (by show (-1 : Int) ≤ (p.length : Int) - 1; omega), Int.lt_of_le_of_lt (by omega : (p.length : Int) - 1 ≤ 9) (by decide), fun D fD => ?_⟩
        refine lcR (fun k H' => Same H4 H' ∧ ∃ ss : List (Addr × List Str), H' D = some (.lst (ss.map fun s => V.ref s.1)) ∧ TxtsAt H' ss ∧ ss.map (·.2) = (edgesP (p.take (k + 1))).map (fun e => ([e.1, e.2] : List Str)) ∧ ss.length ≤ k) ⟨Same.new fD, [], upd_same, (fun y h => nomatch h), by
          cases p with
          | nil => rfl
          | cons _ _ => rfl, Nat.le_refl _⟩ ?_ ?_
        · rintro k H' hk ⟨s, ss, hD, ts, es, sl⟩
          have hk : k + 1 < p.length := by omega
          wtm_at "rd"
          refine rd_ixL (SqL.of (s _ _ hq4)) (v := .str p[k]) (by
            rw [Int.zero_add]
            exact atI_nat (by rw [List.getElem?_map, List.getElem?_eq_getElem (by omega)]; rfl)) ?_
          wtm_at "rd"
          refine rd_ixL (SqL.of (s _ _ hq4)) (v := .str p[k + 1]) (by
            rw [show (0 + (k : Int)) + 1 = ((k + 1 : Nat) : Int) from by omega]
            exact atI_nat (by rw [List.getElem?_map, List.getElem?_eq_getElem hk]; rfl)) ?_
          rw [edgesP_take hk]
          generalize p[k] = y at *
          generalize p[k + 1] = z at *
          wtm_at "rd"
          intro t1 ft1
          have k1 := Same.new (o := .lst [.str y, .str z]) ft1
          wtm_at "rd"
          refine rd_sortS (xs := [y, z]) (SqL.of upd_same) (by show 2 ≤ 100000; decide) ?_
          intro ys py sy t2 ft2
          have k2 := Same.new (o := .lst (ys.map V.str)) ft2
          wtm_at "rd"
          refine rd_tupleL (SqL.of upd_same) ?_
          intro t3 ft3
          have k3 := Same.new (o := .tup (ys.map V.str)) ft3
          have sA := (k1.trans k2).trans k3
          have h3 := @upd_same (upd (upd H' t1 (.lst [.str y, .str z])) t2 (.lst (ys.map V.str))) t3 (.tup (ys.map V.str))
          generalize upd (upd (upd H' t1 (.lst [.str y, .str z])) t2 (.lst (ys.map V.str))) t3 (.tup (ys.map V.str)) = Ha at sA h3
          rw [sort2g py sy] at h3
          refine rd_acc (sA _ _ hD) (by rw [List.length_map]; omega) ?_
          have nD : ∀ {b o}, Ha b = some (.tup o) → b ≠ D := fun hb => ne_of hb (sA _ _ hD) (by intro z; cases z)
          refine ⟨same_put (s.trans sA) fD, ss ++ [(t3, [(eOf y z).1, (eOf y z).2])], by rw [upd_same, List.map_append]; rfl, fun d hd => ?_, by rw [List.map_append, List.map_append, es]; rfl, by rw [List.length_append, List.length_singleton]; omega⟩
          rcases List.mem_append.mp hd with hd | hd
          · exact at_upd (nD (sA _ _ (ts d hd))) (sA _ _ (ts d hd))
          · rw [List.mem_singleton.mp hd]
            exact at_upd (nD h3) h3
        · rintro H6 ⟨s6, ss, hD, ts, es, sl⟩
          rw [List.take_of_length_le (by omega)] at es
          have hc6 := s6 _ _ hc4
          have hl6 := s6 _ _ hl4
          have hq6 := s6 _ _ hq4
          have tf : TxtsAt H6 (W ++ if b0 = true then [c] else []) := fun d hd => s6 _ _ (tW4 d (fin d hd))
          have b6 : But l0 H3 H6 := fun b o n hb => s6 _ _ (b4 b o n hb)
          have sso : ∀ d ∈ ss.map (·.2), ∀ y ∈ d, PyData.strOk y = true := fun d hd => by
            rw [es] at hd
            obtain ⟨e, he, rfl⟩ := List.mem_map.mp hd
            obtain ⟨a, b⟩ := edgesP_in he
            intro y hy
            simp only [List.mem_cons, List.not_mem_nil, or_false] at hy
            rcases hy with rfl | rfl
            · exact sok _ (pn.1 _ a)
            · exact sok _ (pn.1 _ b)
          clear b4 hl4 hq4 hc4 tW4 s6 fD
          wtm_at "rd"
          rcases cnn with ⟨x, hx, ex⟩ | ⟨x, y, hx, hy, ex⟩
          · have cnn : CstN ns c.2 := .inl ⟨x, hx, ex⟩
            have hc7 : H6 c.1 = some (.tup [.str "pin", .str x]) := by rw [hc6, ex]; rfl
            have nf : namedF [p] c.2 = decide (x ∈ [p].flatten) := by rw [ex]; rfl
            rw [List.flatten_cons, List.flatten_nil, List.append_nil] at nf
            refine rd_ixT (SqT.of hc7) (v := .str "pin") rfl ?_
            wtm_at "rd"
            refine rd_yes rfl ?_
            wtm_at "rd"
            refine rd_ixT (SqT.of hc7) (v := .str x) rfl ?_
            wtm_at "rd"
            refine rd_inSL (xs := p) (SqL.of hq6) ?_
            by_cases m : x ∈ p
            · rw [decide_eq_true m] at nf ⊢
              wtm_at "rd"
              refine rd_ninTx (x := c.2) (cs := W ++ if b0 = true then [c] else []) (SqT.of (hc6)) (SqL.of (hl6)) tf (cnn.ok sok) fok ?_
              wtm_at "rd"
              refine rd_nsplit (fun c1 => ?_) (fun c1 => ?_)
              · wtm_at "rd"
                have b0f : b0 = false := by
                  cases b0 with
                  | false => rfl
                  | true => exact absurd (by rw [if_pos rfl, List.map_append]; exact List.mem_append_right _ List.mem_cons_self) c1
                refine rd_tyL (hl6) ?_
                wtm_at "rd"
                refine rd_append (hl6) (by rw [List.length_map]; exact Nat.lt_of_le_of_lt fl (by decide)) ?_
                refine ⟨_, _, _, _, rfl, fun b o n hb => at_upd n (b6 b o n hb), ?_⟩
                rw [upd_same, b0f, nf, if_neg Bool.false_ne_true, List.append_nil, show (false || true) = true from rfl, if_pos rfl, List.map_append]
                rfl
              · have b0t : b0 = true := by
                  cases b0 with
                  | true => rfl
                  | false => 
                    rw [if_neg Bool.false_ne_true, List.append_nil] at c1
                    exact absurd c1 wn
                refine ⟨_, _, _, _, rfl, fun b o n hb => b6 b o n hb, ?_⟩
                rw [b0t, Bool.true_or, hl6, b0t]
            · rw [decide_eq_false m] at nf ⊢
              wtm_at "rd"
              refine rd_slTH hc7 fun a H7 s7 ha => ?_
              rw [show (1 : Int) = ((1 : Nat) : Int) from rfl, cutV_from (by simp)] at ha
              wtm_at "rd"
              refine rd_inTx (x := [x]) (cs := ss) (SqT.of ha) (SqL.of (s7 _ _ hD)) (ts.same s7) (fun y hy => cnn.ok sok y (by rw [ex]; exact List.mem_cons_of_mem _ hy)) sso ?_
              rw [decide_eq_false (fun z => by
                rw [es] at z
                obtain ⟨e, _, z⟩ := List.mem_map.mp z
                cases z)]
              wtm_at "rd"
              refine rd_ninTx (x := c.2) (cs := W ++ if b0 = true then [c] else []) (SqT.of (s7 _ _ hc6)) (SqL.of (s7 _ _ hl6)) (tf.same s7) (cnn.ok sok) fok ?_
              wtm_at "rd"
              refine rd_nsplit (fun c1 => ?_) (fun c1 => ?_)
              · wtm_at "rd"
                have b0f : b0 = false := by
                  cases b0 with
                  | false => rfl
                  | true => exact absurd (by rw [if_pos rfl, List.map_append]; exact List.mem_append_right _ List.mem_cons_self) c1
                refine ⟨_, _, _, _, rfl, fun b o n hb => s7 _ _ (b6 b o n hb), ?_⟩
                rw [nf, Bool.or_false]
                exact s7 _ _ hl6
              · have b0t : b0 = true := by
                  cases b0 with
                  | true => rfl
                  | false => 
                    rw [if_neg Bool.false_ne_true, List.append_nil] at c1
                    exact absurd c1 wn
                refine ⟨_, _, _, _, rfl, fun b o n hb => s7 _ _ (b6 b o n hb), ?_⟩
                rw [b0t, Bool.true_or, s7 _ _ hl6, b0t]
          · have cnn : CstN ns c.2 := .inr ⟨x, y, hx, hy, ex⟩
            have hc7 : H6 c.1 = some (.tup [.str "edge", .str x, .str y]) := by rw [hc6, ex]; rfl
            have nf : namedF [p] c.2 = decide ((x, y) ∈ [p].flatMap edgesP) := by rw [ex]; rfl
            rw [List.flatMap_cons, List.flatMap_nil, List.append_nil] at nf
            refine rd_ixT (SqT.of hc7) (v := .str "edge") rfl ?_
            wtm_at "rd"
            refine rd_no pin_ne ?_
            wtm_at "rd"
            refine rd_slTH hc7 fun a H7 s7 ha => ?_
            rw [show (1 : Int) = ((1 : Nat) : Int) from rfl, cutV_from (by simp)] at ha
            wtm_at "rd"
            refine rd_inTx (x := [x, y]) (cs := ss) (SqT.of ha) (SqL.of (s7 _ _ hD)) (ts.same s7) (fun y hy => cnn.ok sok y (by rw [ex]; exact List.mem_cons_of_mem _ hy)) sso ?_
            by_cases m : (x, y) ∈ edgesP p
            · rw [decide_eq_true m] at nf
              rw [decide_eq_true (by rw [es]; exact List.mem_map.mpr ⟨_, m, rfl⟩)]
              wtm_at "rd"
              refine rd_ninTx (x := c.2) (cs := W ++ if b0 = true then [c] else []) (SqT.of (s7 _ _ hc6)) (SqL.of (s7 _ _ hl6)) (tf.same s7) (cnn.ok sok) fok ?_
              wtm_at "rd"
              refine rd_nsplit (fun c1 => ?_) (fun c1 => ?_)
              · wtm_at "rd"
                have b0f : b0 = false := by
                  cases b0 with
                  | false => rfl
                  | true => exact absurd (by rw [if_pos rfl, List.map_append]; exact List.mem_append_right _ List.mem_cons_self) c1
                refine rd_tyL (s7 _ _ hl6) ?_
                wtm_at "rd"
                refine rd_append (s7 _ _ hl6) (by rw [List.length_map]; exact Nat.lt_of_le_of_lt fl (by decide)) ?_
                refine ⟨_, _, _, _, rfl, fun b o n hb => at_upd n (s7 _ _ (b6 b o n hb)), ?_⟩
                rw [upd_same, b0f, nf, if_neg Bool.false_ne_true, List.append_nil, show (false || true) = true from rfl, if_pos rfl, List.map_append]
                rfl
              · have b0t : b0 = true := by
                  cases b0 with
                  | true => rfl
                  | false => 
                    rw [if_neg Bool.false_ne_true, List.append_nil] at c1
                    exact absurd c1 wn
                refine ⟨_, _, _, _, rfl, fun b o n hb => s7 _ _ (b6 b o n hb), ?_⟩
                rw [b0t, Bool.true_or, s7 _ _ hl6, b0t]
            · rw [decide_eq_false m] at nf
              rw [decide_eq_false (fun z => by
                rw [es] at z
                obtain ⟨e, he, z⟩ := List.mem_map.mp z
                obtain ⟨e1, e2⟩ := e
                injection z with z1 z2
                injection z2 with z2 _
                have z1 : e1 = x := z1
                have z2 : e2 = y := z2
                rw [z1, z2] at he
                exact m he)]
              wtm_at "rd"
              refine rd_ninTx (x := c.2) (cs := W ++ if b0 = true then [c] else []) (SqT.of (s7 _ _ hc6)) (SqL.of (s7 _ _ hl6)) (tf.same s7) (cnn.ok sok) fok ?_
              wtm_at "rd"
              refine rd_nsplit (fun c1 => ?_) (fun c1 => ?_)
              · wtm_at "rd"
                have b0f : b0 = false := by
                  cases b0 with
                  | false => rfl
                  | true => exact absurd (by rw [if_pos rfl, List.map_append]; exact List.mem_append_right _ List.mem_cons_self) c1
                refine ⟨_, _, _, _, rfl, fun b o n hb => s7 _ _ (b6 b o n hb), ?_⟩
                rw [nf, Bool.or_false]
                exact s7 _ _ hl6
              · have b0t : b0 = true := by
                  cases b0 with
                  | true => rfl
                  | false => 
                    rw [if_neg Bool.false_ne_true, List.append_nil] at c1
                    exact absurd c1 wn
                refine ⟨_, _, _, _, rfl, fun b o n hb => s7 _ _ (b6 b o n hb), ?_⟩
                rw [b0t, Bool.true_or, s7 _ _ hl6, b0t]
      · rintro σ H4 ⟨u4, u5, u6, u7, rfl, b4, hl4⟩
        rw [List.length_map, List.take_length] at hl4
        wtm_at "rd"
        exact ⟨_, _, _, _, _, rfl, fun b o hb => b4 b o (ne_of_none hb fl0) (s3 _ _ hb), hl4⟩
    · rintro σ H2 ⟨u3, u4, u5, u6, u7, rfl, s2, hl⟩
      rw [List.length_map, List.take_length] at hl
      wtm_at "rd"
      exact q l0 H2 s2 hl
end
end Law

/-! k68's law -/
namespace U
open PySem PySem.Spec PyProof.Rows L2
/-- data that repr may be asked of: at most n of them, m deep -/
structure SmD (n m : Nat) (d : PyData) : Prop where
  lv : d.leavesShort 13 = true
  sh : d.showable = true
  bk : d.bulk ≤ n
  dp : d.depth ≤ m
  nd : d.hasDict = false
structure SmDs (n m : Nat) (ds : List PyData) : Prop where
  lv : PyData.leavesShortAll 13 ds = true
  sh : PyData.showableAll ds = true
  bk : PyData.bulkAll ds ≤ n
  dp : PyData.depthAll ds ≤ m
  nd : PyData.hasDictAll ds = false
theorem SmDs.nil : SmDs 0 0 [] := ⟨by simp [PyData.leavesShortAll], by simp [PyData.showableAll], by simp [PyData.bulkAll], by simp [PyData.depthAll], by simp [PyData.hasDictAll]⟩
theorem SmDs.cons {n m n2 m2 : Nat} {d : PyData} {ds : List PyData} (h : SmD n m d) (h2 : SmDs n2 m2 ds) : SmDs (n + 1 + n2) (m + m2) (d :: ds) := by
  obtain ⟨a1, a2, a3, a4, a5⟩ := h
  obtain ⟨b1, b2, b3, b4, b5⟩ := h2
  refine ⟨by rw [PyData.leavesShortAll, a1, b1]; rfl, by rw [PyData.showableAll, a2, b2]; rfl, ?_, ?_, by rw [PyData.hasDictAll, a5, b5]; rfl⟩
  · rw [PyData.bulkAll]
    omega
  · rw [PyData.depthAll]
    omega
theorem SmD.tup {n m : Nat} {ds : List PyData} (h : SmDs n m ds) : SmD n (m + 1) (.tuple ds) := by
  obtain ⟨b1, b2, b3, b4, b5⟩ := h
  exact ⟨by rw [PyData.leavesShort]; exact b1, by rw [PyData.showable]; exact b2, by rw [PyData.bulk]; exact b3, by rw [PyData.depth]; omega, by rw [PyData.hasDict]; exact b5⟩
theorem SmD.lst {n m : Nat} {ds : List PyData} (h : SmDs n m ds) : SmD n (m + 1) (.list ds) := by
  obtain ⟨b1, b2, b3, b4, b5⟩ := h
  exact ⟨by rw [PyData.leavesShort]; exact b1, by rw [PyData.showable]; exact b2, by rw [PyData.bulk]; exact b3, by rw [PyData.depth]; omega, by rw [PyData.hasDict]; exact b5⟩
theorem SmD.mono {n m n2 m2 : Nat} {d : PyData} (h : SmD n m d) (a : n ≤ n2) (b : m ≤ m2) : SmD n2 m2 d := ⟨h.lv, h.sh, Nat.le_trans h.bk a, Nat.le_trans h.dp b, h.nd⟩
theorem SmD.name {x : Str} (h : IsName x) : SmD 8 0 (.str x) := ⟨h.lv, by simp [PyData.showable], h.bk, by simp [PyData.depth], by simp [PyData.hasDict]⟩
theorem SmDs.names : ∀ {xs : List Str}, (∀ x ∈ xs, IsName x) → SmDs (9 * xs.length) 0 (xs.map PyData.str)
  | [], _ => SmDs.nil
  | x :: r, h => by
    have a := SmDs.cons (SmD.name (h x List.mem_cons_self)) (SmDs.names fun y hy => h y (List.mem_cons_of_mem _ hy))
    rw [List.map_cons, List.length_cons]
    exact ⟨a.lv, a.sh, by have := a.bk; omega, a.dp, a.nd⟩
theorem SmDs.of {n m : Nat} : ∀ {ds : List PyData}, (∀ d ∈ ds, SmD n m d) → SmDs ((n + 1) * ds.length) m ds
  | [], _ => ⟨SmDs.nil.lv, SmDs.nil.sh, by simp [PyData.bulkAll], by simp [PyData.depthAll], SmDs.nil.nd⟩
  | d :: ds, h => by
    obtain ⟨a1, a2, a3, a4, a5⟩ := h d List.mem_cons_self
    obtain ⟨b1, b2, b3, b4, b5⟩ := SmDs.of (n := n) (m := m) fun y hy => h y (List.mem_cons_of_mem _ hy)
    refine ⟨by rw [PyData.leavesShortAll, a1, b1]; rfl, by rw [PyData.showableAll, a2, b2]; rfl, ?_, ?_, by rw [PyData.hasDictAll, a5, b5]; rfl⟩
    · rw [PyData.bulkAll, List.length_cons, Nat.mul_succ]
      omega
    · rw [PyData.depthAll]
      omega
theorem SmD.shows {n m : Nat} {d : PyData} (h : SmD n m d) (a : n ≤ 2 ^ 20) (b : m ≤ 50) : Shows d := ⟨h.sh, h.lv, Nat.le_trans h.bk a, Nat.le_trans h.dp b⟩
theorem SmD.path {ns q : List Str} (nm : ∀ x ∈ ns, IsName x) (h : PthN ns q) : SmD 90 1 (.list (q.map PyData.str)) := by
  have := h.2.2
  exact (SmD.lst (SmDs.names fun x hx => nm x (h.1 x hx))).mono (by omega) (by omega)
theorem Dp.same {K : PySem.W.Frag} {H H' : Hp} {v : V} {d : PyData} (h : Dp K H v d) (s : Same H H') : Dp K H' v d := dp_ext
  (fun a xs q => by
    rcases q with (q | ⟨o, q⟩) | q
    · exact .inl (.inl (s _ _ q))
    · exact .inl (.inr ⟨o, s _ _ q⟩)
    · exact .inr q) (fun a xs q => Same.seqT s q) _ _ h
theorem nm_cycle : IsName "cycle" := ⟨by decide, by decide, by decide⟩
theorem nm_node : IsName "node" := ⟨by decide, by decide, by decide⟩
theorem nm_path : IsName "path" := ⟨by decide, by decide, by decide⟩
theorem nm_pin : IsName "pin" := ⟨by decide, by decide, by decide⟩
theorem nm_edge : IsName "edge" := ⟨by decide, by decide, by decide⟩
theorem ObAt.dp {K : PySem.W.Frag} {H : Hp} {ob : Addr} {ps : List (List Str)} {ns : List Str} (h : ObAt H ob ps) (nm : ∀ x ∈ ns, IsName x) (pn : ∀ q ∈ ps, PthN ns q) : ∃ d, Dp K H (.ref ob) d ∧ SmD 1000 10 d := by
  have lst : ∀ {l : Addr} {q : List Str}, H l = some (.lst (q.map V.str)) → Dp K H (.ref l) (.list (q.map PyData.str)) := fun h => .lst (SqL.of h) (dp_strs _)
  have two : ∀ {t l1 l2 : Addr} {q1 q2 : List Str}, H t = some (.tup [.ref l1, .ref l2]) → H l1 = some (.lst (q1.map V.str)) → H l2 = some (.lst (q2.map V.str)) → PthN ns q1 → PthN ns q2 → ∃ d, Dp K H (.ref t) d ∧ SmD 200 3 d := fun h h1 h2 p1 p2 =>
    ⟨_, .tup (SqT.of h) (.cons (lst h1) (.cons (lst h2) .nil)), (SmD.tup (SmDs.cons (SmD.path nm p1) (SmDs.cons (SmD.path nm p2) SmDs.nil))).mono (by omega) (by omega)⟩
  rcases h with ⟨l, q, h1, h2, rfl⟩ | ⟨x, t, l1, l2, q1, q2, h1, h2, h3, h4, rfl⟩ | ⟨l0, t1, t2, l1, l2, l3, l4, q0, q1, q2, q3, q4, h1, h2, h3, h4, h5, h6, h7, h8, rfl⟩
  · exact ⟨_, .tup (SqT.of h1) (.cons (.str _) (.cons (lst h2) .nil)), (SmD.tup (SmDs.cons (SmD.name nm_cycle) (SmDs.cons (SmD.path nm (pn q List.mem_cons_self)) SmDs.nil))).mono (by omega) (by omega)⟩
  · obtain ⟨d, hd, sd⟩ := two h2 h3 h4 (pn q1 (by simp)) (pn q2 (by simp))
    have xn := nm x ((pn [x] List.mem_cons_self).1 x List.mem_cons_self)
    exact ⟨_, .tup (SqT.of h1) (.cons (.str _) (.cons (.str _) (.cons hd .nil))), (SmD.tup (SmDs.cons (SmD.name nm_node) (SmDs.cons (SmD.name xn) (SmDs.cons sd SmDs.nil)))).mono (by omega) (by omega)⟩
  · obtain ⟨d, hd, sd⟩ := two h3 h5 h6 (pn q1 (by simp)) (pn q2 (by simp))
    obtain ⟨d2, hd2, sd2⟩ := two h4 h7 h8 (pn q3 (by simp)) (pn q4 (by simp))
    exact ⟨_, .tup (SqT.of h1) (.cons (.str _) (.cons (lst h2) (.cons hd (.cons hd2 .nil)))), (SmD.tup (SmDs.cons (SmD.name nm_path) (SmDs.cons (SmD.path nm (pn q0 (by simp))) (SmDs.cons sd (SmDs.cons sd2 SmDs.nil))))).mono (by omega) (by omega)⟩
theorem cst_sm {ns c : List Str} (nm : ∀ x ∈ ns, IsName x) (h : CstN ns c) : SmD 27 1 (dTx c) := by
  rcases h with ⟨x, hx, rfl⟩ | ⟨a, b, ha, hb, rfl⟩
  · exact (SmD.tup (SmDs.names fun y hy => by
      simp only [List.mem_cons, List.not_mem_nil, or_false] at hy
      rcases hy with rfl | rfl
      · exact nm_pin
      · exact nm _ hx)).mono (by show 9 * 2 ≤ 27; decide) (by omega)
  · exact (SmD.tup (SmDs.names fun y hy => by
      simp only [List.mem_cons, List.not_mem_nil, or_false] at hy
      rcases hy with rfl | rfl | rfl
      · exact nm_edge
      · exact nm _ ha
      · exact nm _ hb)).mono (by show 9 * 3 ≤ 27; decide) (by omega)
theorem csts_sm {ns : List Str} {cs : List (List Str)} (nm : ∀ x ∈ ns, IsName x) (h : ∀ c ∈ cs, CstN ns c) (l : cs.length ≤ 100) : SmD 2800 2 (.list (cs.map dTx)) := by
  refine (SmD.lst (SmDs.of (n := 27) (m := 1) fun d hd => ?_)).mono (by rw [List.length_map]; omega) (by omega)
  obtain ⟨c, hc, rfl⟩ := List.mem_map.mp hd
  exact cst_sm nm (h c hc)
end U
namespace Law
open PySem PySem.Spec PyProof.Rows L2 U
local macro_rules | `(tactic| wtm_at "rd1") => `(tactic| first
  | with_reducible refine rd_seq ?_
  | ((with_reducible refine rd_var (v := ?vv) ?hv ?_); (case hv => exact rfl))
  | with_reducible refine rd_c ?_
  | with_reducible refine rd_cons ?_
  | with_reducible refine rd_nil ?_
  | with_reducible refine rd_op ?_
  | with_reducible refine rd_asg ?_
  | with_reducible refine rd_name ?_
  | with_reducible refine rd_c1 ?_
  | with_reducible refine rd_cb ?_
  | with_reducible refine rd_test ?_
  | with_reducible refine rd_B ?_
  | with_reducible refine rd_bl ?_
  | with_reducible refine rd_if ?_
  | with_reducible refine rd_ret ?_
  | with_reducible refine rd_drop ?_
  | with_reducible refine rd_next ?_
  | with_reducible refine rd_addI ?_
  | with_reducible refine rd_ltI ?_
  | with_reducible refine rd_eqI ?_
  | with_reducible refine rd_neI ?_
  | with_reducible refine rd_eqS ?_
  | with_reducible refine rd_neS ?_
  | with_reducible refine rd_gtI ?_
  | with_reducible refine rd_geI ?_
  | with_reducible refine rd_leI ?_
  | with_reducible refine rd_ltS ?_
  | with_reducible refine rd_subI ?_
  | ((with_reducible refine rd_modI ?hc ?_); (case hc => first | decide | omega))
  | ((with_reducible refine rd_mulI ?hc ?_); (case hc => first | exact mul_bI | exact .inl (.inr (by decide)) | exact .inl (.inl (by decide)) | exact .inl (.inr (by omega)) | exact .inl (.inl (by omega))))
  | ((with_reducible refine rd_divI ?hc ?_); (case hc => first | decide | omega))
  | ((with_reducible refine rd_powI ?hc ?_); (case hc => exact ⟨by decide, by decide, by decide⟩))
  | with_reducible refine rd_lst ?_
  | with_reducible refine rd_tup ?_
  | ((with_reducible refine rd_sz ?hv ?_); (case hv => exact rfl))
  | with_reducible refine rd_and ?_
  | with_reducible refine rd_or ?_
  | with_reducible refine rd_not ?_
  | with_reducible refine rd_andV ?_
  | with_reducible refine rd_orV ?_
  | with_reducible refine rd_notV ?_
  | with_reducible refine rd_ifE ?_
  | with_reducible refine rd_T ?_
  | with_reducible refine rd_F ?_
  | with_reducible refine rd_chain ?_
  | with_reducible refine rd_is ?_
  | with_reducible refine rd_isNot ?_
  | with_reducible refine rd_absI ?_
  | with_reducible refine rd_maxI ?_
  | with_reducible refine rd_minI ?_
  | with_reducible refine rd_intI ?_
  | with_reducible refine rd_intB ?_
  | with_reducible refine rd_sub ?_
  | with_reducible refine rd_sl ?_
  | with_reducible refine rd_noPart ?_
  | with_reducible refine rd_part ?_
  | with_reducible refine rd_exI ?_
  | with_reducible refine rd_bm ?_
  | with_reducible refine rd_bm0 ?_
  | with_reducible refine rd_un ?_
  | with_reducible refine rd_neg ?_
  | with_reducible refine rd_c2 ?_
  | with_reducible refine rd_retN ?_
  | with_reducible refine rd_break ?_
  | with_reducible refine rd_cont ?_
  | with_reducible refine rd_for ?_
  | with_reducible refine rd_rng1 ?_
  | with_reducible refine rd_rng2 ?_
  | with_reducible refine rd_iList ?_
  | with_reducible refine rd_iTup ?_
  | with_reducible refine rd_iEnum ?_
  | ((with_reducible refine rd_forR ?h0 ?h1 ?_); (case h0 => omega); (case h1 => omega))
  | with_reducible refine rd_lc ?_
  | with_reducible refine rd_gcons ?_
  | with_reducible refine rd_gnil ?_
  | with_reducible refine rd_dget ?_
  | with_reducible refine rd_dput ?_
  | with_reducible refine rd_dnew ?_
  | with_reducible refine rd_dc ?_
  | with_reducible refine rd_iItems ?_
  | with_reducible refine rd_iKeys ?_
  | with_reducible refine rd_din ?_
  | with_reducible refine rd_lc2 ?_
  | with_reducible refine rd_cd ?_
  | with_reducible refine rd_par ?_
  | with_reducible refine rd_two ?_
  | with_reducible refine rd_reprB ?_
  | with_reducible refine rd_ck ?_
  | ((with_reducible refine rd_len ?hl ?_); (case hl => exact rfl))
  | with_reducible refine rd_nT ?_
  | with_reducible refine rd_nF ?_
  | with_reducible refine rd_dnin ?_
  | with_reducible refine rd_isB ?_
  | with_reducible refine rd_isNotB ?_
  | with_reducible refine rd_daug ?_
  | with_reducible refine rd_yesT ?_
  | ((with_reducible refine rd_wp ?hw ?_); (case hw => exact rfl)))
local macro_rules | `(tactic| wtm_at "rd") => `(tactic| repeat wtm_at "rd1")

theorem use_problem {H : Hp} {p : Addr} {most : Int} {Q : VK} {E : XK} (h : PoolAt H p) (m0 : 0 ≤ most) (m1 : most ≤ 25)
    (k : ∀ (t g n e st ps : Addr) (ns ord pn : List Str) (es : List (Addr × Str × Str)) (f : Str → Int) (H' : Hp), Go p H H' → H t = none → H g = none → H st = none → H ps = none → H' t = some (.tup [.ref g, .ref st, .ref ps]) → GSt H' g n e st ns ord es f → H' ps = some (.tup (pn.map V.str)) → (∀ x ∈ pn, x ∈ ns) → pn.length ≤ ns.length → Asc pn → (ns.length : Int) ≤ most → Q (.ref t) H') : spProblem [.ref p, .int most] H Q E :=
  ⟨p, most, rfl, h, m0, m1, fun t g n e st ps ns ord pn es f H' go f1 f2 f3 f4 ht gr ok pm ln le hs tri pro hps pin pl asc => k t g n e st ps ns ord pn es f H' go f1 f2 f3 f4 ht ⟨gr, ok, pm, by omega, le, hs, tri, pro⟩ hps pin pl asc ln⟩
def spLaw (K : PySem.W.Frag) : Sp := fun vs H Q _ => ∃ (a : Addr) (nums : List Int), vs = [.ref a] ∧ SqL K H a (nums.map V.int) ∧ nums.length ≤ 63 ∧ ∀ H' : Hp, Q (.bl true) H'
section
variable {P : Program} {w : World} {K : PySem.W.Frag} {mg : Str → Option Value} {base : Heap}
structure N68c (P : Program) (w : World) (K : PySem.W.Frag) (mg : Str → Option Value) (base : Heap) : Prop where
  _law_box : Cal P w K mg base CX0 1 "_law_box" (spBox K)
  _law_random_problem : Cal P w K mg base CX0 4 "_law_random_problem" spProblem
  _law_random_constraints : Cal P w K mg base CX0 2 "_law_random_constraints" spConstr
  _law_random_obstruction : Cal P w K mg base CX0 3 "_law_random_obstruction" spObstr
  _law_expected_mentions : Cal P w K mg base CX0 2 "_law_expected_mentions" spExpM
  mentioned : Cal P w K mg base CX0 5 "mentioned" (spMent K)
theorem ok_law {f : Addr} {fd : FuncData} (F : Fun K "law" "law" s_law f fd) (B : Bt mg) (C : N68c P w K mg base) : FnG P w K mg base CX0 6 f fd ["_law_script"] (spLaw K) := by
  refine fnG0 F sc_law (fun vs H Q E h => ?_) (fun cdv A outer s H vs Q E hr h => ?_)
  · obtain ⟨a, nums, rfl, _⟩ := h
    rfl
  · obtain ⟨a, nums, rfl, hs, hl, q⟩ := h
    have nd := sc_law.nd
    have hu := hr.u1
    refine ⟨_, (pss_cons (ps_set (i := 1) nd rfl (by first | exact Or.inl rfl | exact Or.inr rfl) (pe_c C._law_box hr (by decide) rfl (pa_cons (pv 0) pa_nil)))
  (pss_cons (ps_asg (pe_c C._law_random_problem hr (by decide) rfl (pa_cons (pv 1) (pa_cons pe_int pa_nil))) (kg_tup (n := 3) K rfl rfl (pgs_cons (pg_name (i := 2) nd rfl (by first | exact Or.inl rfl | exact Or.inr rfl)) (pgs_cons (pg_name (i := 3) nd rfl (by first | exact Or.inl rfl | exact Or.inr rfl)) (pgs_cons (pg_name (i := 4) nd rfl (by first | exact Or.inl rfl | exact Or.inr rfl)) pgs_nil)))))
  (pss_cons (ps_if (pt_cmpR uLt (pe_callB (kLen K rfl) (by rfl) B.len bb_len (pa_cons (pe_ix (kIx K rfl) (pv 2) pe_int (fun _ _ => rfl)) pa_nil)) pe_int (nomark _)) (pss_one (ps_ret pe_bl)) pss_nil)
  (pss_cons (ps_set (i := 5) nd rfl (by first | exact Or.inl rfl | exact Or.inr rfl) (pe_c C._law_random_constraints hr (by decide) rfl (pa_cons (pv 1) (pa_cons (pv 2) (pa_cons (pe_ix (kIx K rfl) (pv 2) pe_int (fun _ _ => rfl)) (pa_cons pe_int pa_nil))))))
  (pss_cons (ps_set (i := 6) nd rfl (by first | exact Or.inl rfl | exact Or.inr rfl) (pe_c C._law_random_obstruction hr (by decide) rfl (pa_cons (pv 1) (pa_cons (pv 2) pa_nil))))
  (pss_cons (ps_set (i := 7) nd rfl (by first | exact Or.inl rfl | exact Or.inr rfl) (pe_callB (kReprV K rfl hr.g hr.u64) (by rfl) B.repr bb_repr (pa_cons (pe_tup (pa_cons (pv 5) (pa_cons (pv 6) pa_nil))) pa_nil)))
  (pss_cons (ps_set (i := 8) nd rfl (by first | exact Or.inl rfl | exact Or.inr rfl) (pe_c C.mentioned hr (by decide) rfl (pa_cons (pv 5) (pa_cons (pv 6) pa_nil))))
  (pss_cons (ps_if (PW.pt (pw_or (pt_not (pt_val (pe_callB (kIsi K rfl) (by rfl) B.isinstance bb_isinstance (pa_cons (pv 8) (pa_cons (pe_ty rfl B.list bb_list) pa_nil))))) (pw_or1 (pt_cmpR (kNe K rfl hr.u64) (pe_callB (kReprV K rfl hr.g hr.u64) (by rfl) B.repr bb_repr (pa_cons (pv 8) pa_nil)) (pe_callB (kReprV K rfl hr.g hr.u64) (by rfl) B.repr bb_repr (pa_cons (pe_c C._law_expected_mentions hr (by decide) rfl (pa_cons (pv 5) (pa_cons (pv 6) pa_nil))) pa_nil)) (nomark _))))) (pss_one (ps_ret pe_bl)) pss_nil)
  (pss_cons (ps_expr (pe_bm PySem.F.plainAttrs_list PySem.F.slot_list_append PySem.F.type_list_append mt_append (pv 8) (pa_cons (pe_tup (pa_cons pe_str (pa_cons pe_str pa_nil))) pa_nil)))
  (pss_cons (ps_if (pt_cmpR (kNe K rfl hr.u64) (pe_c C.mentioned hr (by decide) rfl (pa_cons (pe_lst pa_nil) (pa_cons (pv 6) pa_nil))) (pe_lst pa_nil) (nomark _)) (pss_one (ps_ret pe_bl)) pss_nil)
  (pss_one (ps_ret (pe_cmpR (kEq K rfl hr.u64) (pe_callB (kReprV K rfl hr.g hr.u64) (by rfl) B.repr bb_repr (pa_cons (pe_tup (pa_cons (pv 5) (pa_cons (pv 6) pa_nil))) pa_nil)) (pv 7) (nomark _)))))))))))))), ?_⟩
    wtm_at "rd"
    refine ⟨a, nums, rfl, hs, hl, fun p H1 s1 fp hp => ?_⟩
    wtm_at "rd"
    refine use_problem hp (by decide) (by decide) fun t g n e st ps ns ord pn es f H2 g2 _ _ _ _ ht gs hps pin pl asc n7 => ?_
    refine rd_unp (SqT.of ht) rfl ?_
    have hp2 := g2.pool
    clear ht g2 s1 hs
    have nm := gs.ok.names.ok
    have sok := gs.sok
    wtm_at "rd"
    refine rd_ixT (SqT.of gs.gr.top) (v := .ref n) rfl ?_
    wtm_at "rd"
    refine rd_lenT (SqT.of gs.gr.nodes) ?_
    rw [List.length_map]
    wtm_at "rd"
    refine rd_split (fun c0 => ?_) (fun c0 => ?_)
    · wtm_at "rd"
      exact q _
    have pos : 0 < ns.length := by omega
    wtm_at "rd"
    refine rd_ixT (SqT.of gs.gr.top) (v := .ref n) rfl ?_
    wtm_at "rd"
    refine ⟨p, g, n, e, st, 8, ns, ord, es, f, rfl, hp2, gs, by decide, by decide, fun il cs H3 g3 fil hil tc cn cd cl => ?_⟩
    have gs := gs.go hp2 g3
    have hp3 := g3.pool
    have nilp : il ≠ p := fun z => by rw [z] at fil; obtain ⟨_, h⟩ := hp2.isL; rw [h] at fil; cases fil
    clear g3 hp2
    wtm_at "rd"
    refine ⟨p, g, n, e, st, ns, ord, es, f, rfl, hp3, gs, pos, fun ob pss H4 g4 fob ho pth => ?_⟩
    have hil := g4.at hil nilp
    have tc := TxtsAt.go tc hp3 g4
    obtain ⟨d, hd, sd⟩ := ObAt.dp (K := K) ho nm pth
    have c8 : cs.length ≤ 8 := by omega
    have dc : Dp K H4 (.ref il) (.list ((cs.map (·.2)).map dTx)) := .lst (SqL.of hil) (dp_txs tc)
    have sc := csts_sm (cs := cs.map (·.2)) nm (fun c hc => by
      obtain ⟨z, hz, rfl⟩ := List.mem_map.mp hc
      exact cn z hz) (by rw [List.length_map]; omega)
    have sT : SmD 4000 20 (.tuple [.list ((cs.map (·.2)).map dTx), d]) := (SmD.tup (SmDs.cons sc (SmDs.cons sd SmDs.nil))).mono (by omega) (by omega)
    have rep : ∀ {H : Hp} {t : Addr} {Q : VK}, Same H4 H → H t = some (.tup [.ref il, .ref ob]) → Q (.str (PyData.tuple [.list ((cs.map (·.2)).map dTx), d]).shown) H → rReprV K [.ref t] H Q := fun {H t Q} s ht h =>
      rd_reprV (.of (.tup (SqT.of ht) (.cons (Dp.same dc s) (.cons (Dp.same hd s) .nil))) sT.nd (sT.shows (by decide) (by decide))) h
    generalize hS : (PyData.tuple [.list ((cs.map (·.2)).map dTx), d]).shown = S at *
    clear g4 hp3 gs
    wtm_at "rd"
    intro tt ftt
    have s5 := Same.new (o := .tup [.ref il, .ref ob]) ftt
    have htt := @upd_same H4 tt (.tup [.ref il, .ref ob])
    generalize upd H4 tt (.tup [.ref il, .ref ob]) = H5 at s5 htt
    wtm_at "rd"
    refine rep s5 htt ?_
    wtm_at "rd"
    obtain ⟨k, xs, hob, hx, exs⟩ := (ho.same s5).ment
    have few : pss.length ≤ 5 := by
      rcases ho with ⟨l, q, h1, h2, e⟩ | ⟨x, t, l1, l2, q1, q2, h1, h2, h3, h4, e⟩ | ⟨l0, t1, t2, l1, l2, l3, l4, q0, q1, q2, q3, q4, h1, h2, h3, h4, h5, h6, h7, h8, e⟩ <;> rw [e] <;> simp
    refine ⟨il, ob, cs, k, xs, rfl, s5 _ _ hil, tc.same s5, fun c hc => (cn c hc).t, by omega, hob, hx, by rw [exs]; omega, fun p hp => by
      rw [exs] at hp
      have := (pth p hp).2.2
      omega, fun l H6 s6 fl hl => ?_⟩
    rw [exs] at hl
    have s46 := s5.trans s6
    have fl4 : H4 l = none := new_of_same s5 fl
    clear hx exs hob
    have wn : ∀ c ∈ (cs.filter fun c => namedF pss c.2), CstN ns c.2 := fun c hc => cn c (List.mem_filter.mp hc).1
    have wc : ∀ {H : Hp}, Same H4 H → TxtsAt H (cs.filter fun c => namedF pss c.2) := fun s c hc => s _ _ (tc c (List.mem_filter.mp hc).1)
    have wl : (cs.filter fun c => namedF pss c.2).length ≤ 8 := Nat.le_trans (List.length_filter_le _ _) c8
    have sw := csts_sm (cs := (cs.filter fun c => namedF pss c.2).map (·.2)) nm (fun c hc => by
      obtain ⟨z, hz, rfl⟩ := List.mem_map.mp hc
      exact wn z hz) (by rw [List.length_map]; omega)
    wtm_at "rd"
    refine rd_isi (a := .lst) (.base (.lst hl)) rfl ?_
    rw [show isT Ty.lst Ty.lst = true from rfl]
    wtm_at "rd"
    refine rd_reprV (.of (.lst (SqL.of hl) (dp_txs (wc s46))) sw.nd (sw.shows (by decide) (by decide))) ?_
    wtm_at "rd"
    refine ⟨il, ob, cs, pss, ns, rfl, s46 _ _ hil, tc.same s46, cn, cd, by omega, ho.same s46, pth, sok, fun l2 H7 s7 hl2 => ?_⟩
    wtm_at "rd"
    refine rd_reprV (.of (.lst (SqL.of hl2) (dp_txs (wc (s46.trans s7)))) sw.nd (sw.shows (by decide) (by decide))) ?_
    have s47 := s46.trans s7
    have hl7 := s7 _ _ hl
    clear s46 s5 s6 s7 hl hl2
    generalize (cs.filter fun c => namedF pss c.2) = W at *
    generalize (PyData.list ((W.map (·.2)).map dTx)).shown = SW at *
    wtm_at "rd"
    refine rd_nsplit (fun c1 => absurd rfl c1) (fun _ => ?_)
    wtm_at "rd"
    refine rd_tyL hl7 ?_
    wtm_at "rd"
    intro t5 ft5
    have k5 := Same.new (o := .tup [.str "pin", .str ""]) ft5
    have hl8 := k5 _ _ hl7
    have s48 := s47.trans k5
    generalize upd H7 t5 (.tup [.str "pin", .str ""]) = H8 at k5 hl8 s48
    wtm_at "rd"
    refine rd_append hl8 (by rw [List.length_map]; omega) ?_
    have s49 := same_put (o := .lst (W.map (fun c => V.ref c.1) ++ [V.ref t5])) s48 fl4
    generalize upd H8 l (.lst (W.map (fun c => V.ref c.1) ++ [V.ref t5])) = H9 at s49
    clear s48 s47 hl8 hl7 k5
    wtm_at "rd"
    intro z1 fz1
    have s9 := Same.new (o := .lst []) fz1
    have hz1 := @upd_same H9 z1 (.lst [])
    have s4a := s49.trans s9
    generalize upd H9 z1 (.lst []) = Ha at s9 hz1 s4a
    clear s49 s9
    obtain ⟨k, xs, hob, hx, exs⟩ := (ho.same s4a).ment
    wtm_at "rd"
    refine ⟨z1, ob, [], k, xs, rfl, hz1, (fun c h => nomatch h), (fun c h => nomatch h), by decide, hob, hx, by rw [exs]; omega, fun p hp => by
      rw [exs] at hp
      have := (pth p hp).2.2
      omega, fun l3 Hb sb fl3 hl3 => ?_⟩
    have s4b := s4a.trans sb
    clear s4a sb
    wtm_at "rd"
    intro z2 fz2
    have kz := Same.new (o := .lst []) fz2
    have hz2 := @upd_same Hb z2 (.lst [])
    have hl4 := kz _ _ hl3
    have s4c := s4b.trans kz
    generalize upd Hb z2 (.lst []) = Hc at kz hz2 hl4 s4c
    clear s4b kz
    refine rd_neNilTx (cs := []) (SqL.of hl4) (fun c h => nomatch h) (SqL.of hz2) (fun c h => nomatch h) ?_
    wtm_at "rd"
    refine rd_b (fun z => by cases z) (fun _ => ?_)
    wtm_at "rd"
    intro t6 ft6
    have k6 := Same.new (o := .tup [.ref il, .ref ob]) ft6
    have ht6 := @upd_same Hc t6 (.tup [.ref il, .ref ob])
    have s4d := s4c.trans k6
    generalize upd Hc t6 (.tup [.ref il, .ref ob]) = Hd at k6 ht6 s4d
    wtm_at "rd"
    refine rep s4d ht6 ?_
    wtm_at "rd"
    rw [decide_eq_true rfl]
    exact q _
end
end Law

/-! a lambda with parameters and without captured names: entered -/
namespace U
open PySem PySem.Spec PyProof.Rows L2
abbrev lamFn (q : Str) (params : Arguments) (body : Expr) (scope : Scope) (pm : Value) (c' : Addr) (ctv : Value) : FuncData := PySem.W.kla_fn "<lambda>" q params body scope [] pm (.ref c') ctv
theorem run_lam {CX : CXT} {P : Program} {w : World} {K : PySem.W.Frag} {mg : Str → Option Value} {base : Heap} {k : Nat} {f c' : Addr} {q : Str} {params : Arguments} {body : Expr} {scope : Scope} {pm ctv : Value} {N ps : List Str} (S : FnScope N ps scope)
    {A : Around} {outer : List Env} {s : Shared} {H : Hp} {args : Args} {us : List Value} {vs : List V} {Q : VK} {E : XK} (ho : s.heap.get? f = some (PySem.W.kla_obj "<lambda>" q params body scope [] pm c' ctv)) (hc : s.heap.CodeRec (.ref c') q)
    (hr : Room (k + 1) A) (e0 : Env0 P w K mg base A outer s H) (hb : BindsTo s (lamFn q params body scope pm c' ctv) args (ps.zip us)) (r : Vals vs us) (hl : vs.length = ps.length)
    (hbody : Room k (A.deeper (envOfC q scope s.heap.objs.size f (.ref c'))) → ∃ t, PE (cxOf CX P w K mg base N q scope f (.ref c') A outer s H E) body t ∧ t (L2.start N vs) H Q) :
    codeAny (model P w) A (.call (.ref f) args) (CR CX outer P w H s Q E) s := by
  have lim : s.heap.NoLimit := e0.mod.nolimit.keeps fun b o e => (e0.bs b o e).1
  have kinds : ∀ y ∈ ps.zip us, scope.names.lookup y.1 = some .local ∨ (scope.names.lookup y.1 = some .cell ∧ ((cellsFrom (s.heap.objs.size + 1) scope.names []).lookup y.1).isSome = true) := fun y hy => by
    rcases S.par y.1 (List.of_mem_zip (show (y.1, y.2) ∈ ps.zip us from hy)).1 with z | z
    · exact .inl z
    · exact .inr ⟨z, PySem.W.cellsFrom_some _ _ _ (.inl z)⟩
  refine PySem.W.kla_callFunE hr.depth ho rfl S.co S.gen rfl hc (hb _ _ _ _ ?_)
  refine wpAny_newFunctionEnv_cells S.kind kinds fun env he s1 x => ?_
  subst he
  obtain ⟨t, ht, hq⟩ := hbody (hr.deeper _)
  have I : Inv (cxOf CX P w K mg base N q scope f (.ref c') A outer s H E) [] (L2.start N vs) H s1 := inv_start S hr.hd e0 hl r x
  refine ⟨lim.keeps x.toInCall.keep, PySem.W.kla_codeExpr (wpAny_mono (ht.run [] s1 _ H Q I hq) (fun u s' hs => ?_) fun e s' hs => hs)⟩
  obtain ⟨v, H', J, rv, hQ⟩ := hs
  exact ⟨v, H', J.os, J.bare, J.base, J.hok, rv, hQ⟩
end U
namespace U
open PySem PySem.Spec PyProof.Rows L2 PySem.W
def dKey (names : List Str) : PyData := .tuple [.int (names.length : Int), .list (names.map PyData.str)]
theorem alike_strs : ∀ xs ys : List Str, alikeAll (xs.map PyData.str) (ys.map PyData.str) = true
  | [], ys => by cases ys <;> simp [alikeAll]
  | x :: xs, [] => by simp [alikeAll]
  | x :: xs, y :: ys => by
    rw [List.map_cons, List.map_cons, alikeAll, alike_strs xs ys]
    simp [alike]
theorem alike_key (xs ys : List Str) : alike (dKey xs) (dKey ys) = true := by
  unfold dKey
  simp [alike, alikeAll, alike_strs]
theorem depth_key (xs : List Str) : (dKey xs).depth ≤ 3 := by
  have e : ∀ xs : List Str, PyData.depthAll (xs.map PyData.str) = 0 := fun xs => by
    induction xs with
    | nil => simp [PyData.depthAll]
    | cons x r ih => rw [List.map_cons, PyData.depthAll, PyData.depth, ih]; rfl
  unfold dKey
  simp [PyData.depth, PyData.depthAll, e]
theorem reads_strs {h : Heap} : ∀ {xs : List Str} {us : List Value}, Vals (xs.map V.str) us → ∃ as, ReadsAll h us (xs.map PyData.str) as
  | [], _, r => by
    cases r
    exact ⟨_, .nil⟩
  | x :: xs, _, r => by
    cases r with
    | cons r rr =>
      obtain ⟨tk, rfl⟩ := r
      obtain ⟨as, ra⟩ := reads_strs rr
      exact ⟨_, .cons (.str x tk) ra⟩
end U
namespace U
open PySem PySem.Spec PyProof.Rows L2 PySem.W
/-- no more than new things, the callers' frames but for their slots -/
def Jm (X : Cx) (s0 s' : Shared) : Prop := s'.os = s0.os ∧ AllBare s'.gens ∧ Un (frs X.stack) [] (fun _ => none) (fun _ => none) s0.heap s'.heap
def Vm (X : Cx) (av : List Addr) (items : List (Addr × List Str)) (i : Nat) (k : Value) (s' : Shared) : Prop :=
  ∃ (t a : Addr) (names : List Str) (tk : Tok), items[i]? = some (a, names) ∧ k = .ref t ∧ t ∉ av ∧ t ∉ frs X.stack ∧ IsTup s'.heap t #[.int (names.length : Int) tk, .ref a]
/-- the paths stand, known to the object -/
def Hc (H : Hp) (s0 : Shared) (items : List (Addr × List Str)) : Hp := fun b => match H b, s0.heap.get? b with
  | some (.lst xs), some o => if b ∈ items.map (·.1) then some (.frz o (.lst xs)) else none
  | _, _ => none
theorem hc_some {H : Hp} {s0 : Shared} {items : List (Addr × List Str)} {b : Addr} {u : HO} (h : Hc H s0 items b = some u) : ∃ xs o, H b = some (.lst xs) ∧ s0.heap.get? b = some o ∧ u = .frz o (.lst xs) := by
  unfold Hc at h
  split at h
  · rename_i xs o e1 e2
    split at h
    · exact ⟨xs, o, e1, e2, (Option.some.inj h).symm⟩
    · cases h
  · cases h
theorem hc_none {H : Hp} {s0 : Shared} {items : List (Addr × List Str)} {b : Addr} (h : H b = none) : Hc H s0 items b = none := by
  cases e : Hc H s0 items b with
  | none => rfl
  | some u =>
    obtain ⟨xs, o, e1, _⟩ := hc_some e
    rw [h] at e1
    cases e1
theorem hc_new {H : Hp} {s0 : Shared} {items : List (Addr × List Str)} {b : Addr} (h : s0.heap.get? b = none) : Hc H s0 items b = none := by
  cases e : Hc H s0 items b with
  | none => rfl
  | some u =>
    obtain ⟨xs, o, _, e1, _⟩ := hc_some e
    rw [h] at e1
    cases e1
section
variable {X : Cx} {pins : List (Addr × Obj)} {σ : L2.St} {H : Hp} {s0 s : Shared}
theorem Jm.refl (I : Inv X pins σ H s0) : Jm X s0 s0 := ⟨rfl, I.bare, Un.refl⟩
theorem Jm.inv (I : Inv X pins σ H s0) (j : Jm X s0 s) : Inv X pins σ H s := by
  obtain ⟨os, bare, un⟩ := j
  have e0 := I.env0
  have raw : ∀ b u, H b = some u → ∀ o, s0.heap.get? b = some o → s.heap.get? b = some o := fun b u hb o ho => un.keep b o ho rfl (fun z => by rw [e0.frf b z] at hb; cases hb) (by simp)
  refine I.call' (ch := []) os ⟨fun b o e _ h1 h2 => un.keep b o e rfl h1 h2, fun b o e _ h1 h2 => un.slot b o e rfl h1 h2, fun _ _ _ n _ => n, un.there, fun _ _ q => q, fun _ _ _ q => q, fun _ ps q => ⟨#[], by rw [q]; simp⟩⟩ (fun a u e => ?_) bare (fun b hb => absurd hb (by simp))
  refine (I.hok a u e).stay (fun b o hb ho => ?_) (fun _ q => q) fun _ _ q => q
  rcases hb with rfl | hb
  · exact raw _ _ e o ho
  · exact raw _ _ hb o ho
variable {A : Around} {q : Str} {params : Arguments} {body : Expr} {scope : Scope} {pm ctv : Value} {f c' l : Addr} {items : List (Addr × List Str)} {its : List Value} {N : List Str} {p : Str} {tb : TE} {k : Nat}
theorem in1_room (h : Room (k + 2) A) : Room (k + 1) A.in1 := by
  have a := h.dp
  have b := h.un
  refine ⟨h.hd, ?_, ?_⟩
  · have : A.in1.depth = A.depth := rfl
    omega
  · have : A.in1.units = A.units + 1 := rfl
    omega
theorem fr_old (I : Inv X pins σ H s0) {b : Addr} (hb : b ∈ frs X.stack) : ∃ o, s0.heap.get? b = some o := by
  obtain ⟨_, o, ho, _⟩ := I.env0.funs.mem hb
  exact ⟨o, ho⟩
theorem env_c (I : Inv X pins σ H s0) (j : Jm X s0 s) : Env0 X.prog X.w X.K X.mg X.base X.A.in1 X.stack s (Hc H s0 items) := by
  have e := (j.inv I).env0
  refine ⟨e.frames, e.mod, fun b o h => ⟨(e.bs b o h).1, hc_none (e.bs b o h).2⟩, e.bsz, e.funs, fun b hb => hc_none (e.frf b hb), fun a u h => ?_, e.bare⟩
  obtain ⟨xs, o, h1, h2, rfl⟩ := hc_some h
  have k := e.hok a _ h1
  exact ⟨j.2.2.keep a o h2 rfl (fun z => by rw [e.frf a z] at h1; cases h1) (by simp), k⟩
/-- what the call of the lambda keeps -/
theorem lam_kept (I : Inv X pins σ H s0) (j : Jm X s0 s) {s' : Shared} {H' : Hp} (un : Un (frs X.stack) [] (Hc H s0 items) H' s.heap s'.heap) (hok : HOk X.prog X.w H' s'.heap) {b : Addr} {o : Obj} (ho : s.heap.get? b = some o) (hb : b ∉ frs X.stack) : s'.heap.get? b = some o := by
  cases e : Hc H s0 items b with
  | none => exact un.keep b o ho e hb (by simp)
  | some u =>
    obtain ⟨xs, o2, h1, h2, rfl⟩ := hc_some e
    have k1 := (show s.heap.get? b = some o2 ∧ _ from (env_c (items := items) I j).hok b _ e).1
    rw [ho] at k1
    obtain rfl := Option.some.inj k1
    exact (show s'.heap.get? b = some o ∧ _ from hok b _ (un.frzs b _ _ e)).1
def nmAt (items : List (Addr × List Str)) (i : Nat) : List Str := (items[i]?.map (·.2)).getD []
theorem nm_at {items : List (Addr × List Str)} {i : Nat} {a : Addr} {names : List Str} (h : items[i]? = some (a, names)) : nmAt items i = names := by
  unfold nmAt
  rw [h]
  rfl
theorem vals_at {items : List (Addr × List Str)} {its : List Value} (r : Vals (items.map fun i => V.ref i.1) its) {i : Nat} {v : Value} (h : its.toArray[i]? = some v) : ∃ a names, items[i]? = some (a, names) ∧ v = .ref a := by
  have h2 : its[i]? = some v := by simpa using h
  have hi : i < its.length := (List.getElem?_eq_some_iff.mp h2).1
  have hi2 : i < items.length := by
    have := r.length
    rw [List.length_map] at this
    omega
  obtain ⟨u, e1, e2⟩ := r.get (i := i) (x := .ref items[i].1) (by rw [List.getElem?_map, List.getElem?_eq_getElem hi2]; rfl)
  rw [h2] at e1
  exact ⟨items[i].1, items[i].2, List.getElem?_eq_getElem hi2, (Option.some.inj e1).trans e2⟩
theorem reads_key (I : Inv X pins σ H s0) (j : Jm X s0 s) {t a : Addr} {names : List Str} {tk : Tok} (ha : H a = some (.lst (names.map V.str))) (ht : IsTup s.heap t #[.int (names.length : Int) tk, .ref a]) : ∃ as, Reads s.heap (.ref t) (dKey names) as := by
  obtain ⟨_, us, n, r, e⟩ := (j.inv I).hok a _ ha
  obtain ⟨as, ra⟩ := reads_strs r
  obtain ⟨o, h1, h2, m, h3⟩ := ht
  have ra2 : ReadsAll s.heap us.toArray.toList (names.map PyData.str) as := by simpa using ra
  exact ⟨_, Reads.tuple h1 h2 h3 (.cons (.int _ tk) (.cons (Reads.list e rfl rfl ra2) .nil))⟩
theorem key_run (I : Inv X pins σ H s0) (hr : Room (k + 2) X.A) (S : FnScope N [p] scope) (hitem : ∀ i ∈ items, H i.1 = some (.lst (i.2.map V.str))) (hlv : Vals (items.map fun i => V.ref i.1) its) (hl : s0.heap.IsList l its.toArray) (hlf : l ∉ frs X.stack)
    (hf : s0.heap.get? f = some (PySem.W.kla_obj "<lambda>" q params body scope [] pm c' ctv)) (hff : f ∉ frs X.stack) (hcd : s0.heap.CodeRec (.ref c') q) (hcf : c' ∉ frs X.stack)
    (hbind : ∀ (s : Shared) (u : Value), BindsTo s (lamFn q params body scope pm c' ctv) ⟨[u], []⟩ [(p, u)])
    (hbody : ∀ (A : Around) (outer : List Env) (s : Shared) (H : Hp) (E : XK), Room k (A.deeper (envOfC q scope s.heap.objs.size f (.ref c'))) → PE (cxOf (fun _ _ _ _ _ _ => False) X.prog X.w X.K X.mg X.base N q scope f (.ref c') A outer s H E) body tb)
    (htb : ∀ (a : Addr) (names : List Str) (o : Obj) (H : Hp) (Q : VK), H a = some (.frz o (.lst (names.map V.str))) → (∀ t H', H t = none → H' t = some (.tup [.int (names.length : Int), .ref a]) → Q (.ref t) H') → tb (L2.start N [.ref a]) H Q)
    {s2 : Shared} (es : s2.heap.objs.size = s0.heap.objs.size + 1) :
    KeyRun X.prog X.w X.A.in1 (.ref f) .Lt s2.heap.objs.size [s0.heap.objs.size] (fun a b => b = a) its.toArray.size (fun i v => its.toArray[i]? = some v) (fun i s' => s'.heap.IsListIter s0.heap.objs.size l i ∧ s'.heap.IsList l its.toArray)
      (Jm X s0) (Vm X [s2.heap.objs.size, s0.heap.objs.size] items) (fun i j => dataLt (dKey (nmAt items i)) (dKey (nmAt items j))) := by
  have old : ∀ b o, s0.heap.get? b = some o → b ∉ s2.heap.objs.size :: [s0.heap.objs.size] := fun b o h z => by
    have lt := Heap.lt_size h
    rcases List.mem_cons.mp z with z | z
    · rw [z, es] at lt
      exact Nat.lt_irrefl _ (Nat.lt_of_succ_lt lt)
    · rw [List.mem_singleton] at z
      rw [z] at lt
      exact Nat.lt_irrefl _ lt
  have frl : ∀ b, b ∈ frs X.stack → b < s0.heap.objs.size := fun b hb => by
    obtain ⟨o, ho⟩ := fr_old I hb
    exact Heap.lt_size ho
  have nI : s0.heap.objs.size ∉ frs X.stack := fun z => Nat.lt_irrefl _ (frl _ z)
  have nS : s2.heap.objs.size ∉ frs X.stack := fun z => by
    have := frl _ z
    rw [es] at this
    exact Nat.lt_irrefl _ (Nat.lt_of_succ_lt this)
  have new : ∀ b, s0.heap.objs.size ≤ b → s0.heap.get? b = none := fun b hb => Heap.get?_none_of_le hb
  refine ⟨fun s s' j m => ?_, fun i v s s' hv m => ?_, ?_, ?_⟩
  · obtain ⟨j1, j2, un⟩ := j
    refine ⟨m.os.trans j1, by rw [show s'.gens = s.gens from m.gens]; exact j2, ⟨fun b o h _ hb hx => m.heap b o (old b o h) (un.keep b o h rfl hb hx), fun b o h _ hb hx => ?_, fun _ _ _ _ _ => rfl, fun b o h hx => ?_, (fun _ _ z => nomatch z), (fun _ _ _ z => nomatch z), (fun _ _ z => nomatch z)⟩⟩
    · obtain ⟨sl, h2⟩ := un.slot b o h rfl hb hx
      exact ⟨sl, m.heap b _ (old b o h) h2⟩
    · obtain ⟨o2, h2⟩ := un.there b o h hx
      exact ⟨o2, m.heap b _ (old b o h) h2⟩
  · obtain ⟨t, a, names, tk, h1, h2, h3, h4, o, h5, h6⟩ := hv
    exact ⟨t, a, names, tk, h1, h2, h3, h4, o, m.heap t o h3 h5, h6⟩
  · intro i v s o Q E hi hP j st hS hk
    obtain ⟨a, names, hit, rfl⟩ := vals_at hlv hP
    have ha := hitem _ (List.mem_of_getElem? hit)
    have jI := j.inv I
    obtain ⟨oa, hoa⟩ : ∃ o, s0.heap.get? a = some o := by
      obtain ⟨_, _, _, _, e⟩ := I.hok a _ ha
      exact ⟨_, e⟩
    have hca : Hc H s0 items a = some (.frz oa (.lst (names.map V.str))) := by
      unfold Hc
      rw [ha, hoa]
      exact if_pos (List.mem_map_of_mem (f := (·.1)) (List.mem_of_getElem? hit))
    have hf' := j.2.2.keep f _ hf rfl hff (by simp)
    have hcd' : s.heap.CodeRec (.ref c') q := by
      obtain ⟨c2, oc, vs, t, e1, e2, e3, e4⟩ := hcd
      obtain rfl := Value.ref.inj e1
      exact ⟨c', oc, vs, t, rfl, j.2.2.keep c' _ e2 rfl hcf (by simp), e3, e4⟩
    have rc : codeAny (model X.prog X.w) X.A.in1 (.call (.ref f) ⟨[.ref a], []⟩) (CR (fun _ _ _ _ _ _ => False) X.stack X.prog X.w (Hc H s0 items) s (fun v H' => ∃ t, v = .ref t ∧ Hc H s0 items t = none ∧ H' t = some (.tup [.int (names.length : Int), .ref a])) (fun _ _ _ => False)) s := by
      refine run_lam (N := N) (ps := [p]) (us := [.ref a]) (vs := [.ref a]) S hf' hcd' (in1_room hr) (env_c I j) (hbind s _) (.cons rfl .nil) rfl fun hr' => ⟨tb, hbody _ _ _ _ _ hr', ?_⟩
      exact htb a names oa _ _ hca fun t H' h1 h2 => ⟨t, rfl, h1, h2⟩
    refine wpAny_call (codeAny_mono rc fun r s' hq => ?_)
    cases r with
    | error e => exact False.elim hq
    | ok fl =>
      cases fl with
      | next => exact False.elim hq
      | brk => exact False.elim hq
      | cont => exact False.elim hq
      | ret u =>
        obtain ⟨v, H', os, bare, un, hok, rv, t, rfl, hn, ht⟩ := hq
        obtain rfl : u = Value.ref t := rv
        have kp : ∀ {b o}, s.heap.get? b = some o → b ∉ frs X.stack → s'.heap.get? b = some o := fun {b o} h1 h2 => lam_kept I j un hok h1 h2
        have free : ∀ b o, s.heap.get? b = some o → Hc H s0 items b = none → b ≠ t := fun b o h1 h2 z => by
          have := un.free b o h1 h2 (by simp)
          rw [z, ht] at this
          cases this
        have hI : ∃ oi, s.heap.get? s0.heap.objs.size = some oi := by
          obtain ⟨oi, e, _⟩ := st.1
          exact ⟨oi, e⟩
        obtain ⟨oi, hoi⟩ := hI
        refine hk (.ref t) s' ⟨os.trans j.1, bare, ⟨fun b o h _ hb hx => kp (j.2.2.keep b o h rfl hb hx) hb, fun b o h _ hb hx => ?_, fun _ _ _ _ _ => rfl, fun b o h hx => ?_, (fun _ _ z => nomatch z), (fun _ _ _ z => nomatch z), (fun _ _ z => nomatch z)⟩⟩ ⟨?_, ?_⟩ (kp hS nS) ⟨t, a, names, ?_⟩ fun j2 k2 hv => ?_
        · obtain ⟨sl, h2⟩ := j.2.2.slot b o h rfl hb hx
          obtain ⟨sl2, h3⟩ := un.slot b _ h2 ((env_c (items := items) I j).frf b hb) hb hx
          exact ⟨sl2, h3⟩
        · obtain ⟨o2, h2⟩ := j.2.2.there b o h hx
          exact un.there b o2 h2 hx
        · obtain ⟨o2, e1, e2⟩ := st.1
          exact ⟨o2, kp e1 nI, e2⟩
        · obtain ⟨o2, e1, e2⟩ := st.2
          exact ⟨o2, kp e1 hlf, e2⟩
        · obtain ⟨_, us, r, o2, e1, e2⟩ := hok t _ ht
          cases r with
          | cons r1 rr =>
            cases rr with
            | cons r2 rr =>
              cases rr
              obtain ⟨tk, rfl⟩ := r1
              obtain rfl := r2
              refine ⟨tk, hit, rfl, fun z => ?_, fun z => ?_, o2, e1, e2⟩
              · rcases List.mem_cons.mp z with z | z
                · exact free _ _ hS (hc_new (new _ (by rw [es]; exact Nat.le_succ _))) z.symm
                · exact free _ _ hoi (hc_new (new _ (Nat.le_refl _))) (List.mem_singleton.mp z).symm
              · obtain ⟨o3, h3⟩ := fr_old jI z
                exact free t _ h3 ((env_c (items := items) I j).frf t z) rfl
        · obtain ⟨t2, a2, n2, tk2, h1, h2, h3, h4, o2, h5, h6⟩ := hv
          exact ⟨t2, a2, n2, tk2, h1, h2, h3, h4, o2, kp h5 h4, h6⟩
  · intro i j ki kj s Q E hj h1 h2 hq
    obtain ⟨t, a, n1, tk, e1, rfl, _, _, e2⟩ := h1
    obtain ⟨t2, a2, n2, tk2, f1, rfl, _, _, f2⟩ := h2
    obtain ⟨as, r1⟩ := reads_key I hj (hitem _ (List.mem_of_getElem? e1)) e2
    obtain ⟨bs, r2⟩ := reads_key I hj (hitem _ (List.mem_of_getElem? f1)) f2
    have hq : Q (.bool (dataLt (dKey (nmAt items i)) (dKey (nmAt items j)))) s := hq
    rw [nm_at e1, nm_at f1] at hq
    refine rcLt_alike (dKey n1) (dKey n2) X.A.in1 s (.ref t) (.ref t2) as bs r1 r2 (alike_key _ _) (fun z => by unfold dKey at z; cases z) ?_ X.prog X.w E Q hq
    have d := depth_key n1
    have u := hr.un
    have : X.A.in1.units = X.A.units + 1 := rfl
    have := Nat.min_le_left (dKey n1).depth (dKey n2).depth
    omega
end
end U
namespace U
open PySem PySem.Spec PyProof.Rows L2 PySem.W LamX
def tMinK (T : List (Addr × Str)) (te : TA) : TE := fun σ H Q => te σ H fun vs H1 => Tabs T H1 ∧ ∃ (l : Addr) (items : List (Addr × List Str)), vs = [.ref l] ∧ H1 l = some (.lst (items.map fun i => V.ref i.1)) ∧ (∀ i ∈ items, H1 i.1 = some (.lst (i.2.map V.str))) ∧
  ∀ H2, ExtN H1 H2 → Tabs T H2 → (items = [] → Q .non H2) ∧ ∀ i ∈ items, Q (.ref i.1) H2
theorem pe_minK {X : Cx} {T : List (Addr × Str)} {c P : Addr} {params : Arguments} {body : Expr} {scope : Scope} {N : List Str} {p : Str} {tb : TE} {k j : Nat} {e : Expr} {te : TA} {pm lpos kp1 kp2 cpos pos : Pos}
    (hc : X.calm = true) (hg : Gl X "min") (hm : X.mg "min" = none) (ha : PA X [e] te) (TB : TabB X.base X.mg c P) (hcode : X.env.code = .ref c) (hmT : (P, X.env.qual ++ "<lambda>") ∈ T) (huT : ∀ y ∈ T, y.1 = P → y.2 = X.env.qual ++ "<lambda>")
    (hdef : defaultsOf params X.env = ([], [])) (hfree : ∀ y ∈ scope.names, y.2 = .free → ∃ c, X.env.cells.lookup y.1 = some c) (hcl : cloFrom X.env.cells scope.names [] = [])
    (hr : Room (k + 2) X.A) (S : FnScope N [p] scope)
    (hbind : ∀ (s : Shared) (u pm ctv : Value) (c' : Addr), BindsTo s (lamFn (X.env.qual ++ "<lambda>") params body scope pm c' ctv) ⟨[u], []⟩ [(p, u)])
    (hbody : ∀ (A : Around) (outer : List Env) (s : Shared) (H : Hp) (E : XK) (f c' : Addr), Room k (A.deeper (envOfC (X.env.qual ++ "<lambda>") scope s.heap.objs.size f (.ref c'))) → PE (cxOf (fun _ _ _ _ _ _ => False) X.prog X.w X.K X.mg X.base N (X.env.qual ++ "<lambda>") scope f (.ref c') A outer s H E) body tb)
    (htb : ∀ (a : Addr) (names : List Str) (o : Obj) (H : Hp) (Q : VK), H a = some (.frz o (.lst (names.map V.str))) → (∀ t H', H t = none → H' t = some (.tup [.int (names.length : Int), .ref a]) → Q (.ref t) H') → tb (L2.start N [.ref a]) H Q)
    (hst : starEach [e] X.env = (false, eval e X.env) :: starEach [] X.env := by rfl) :
    PE X (.Call (.Name "min" pm) [e] [⟨some "key", .Lambda params body scope lpos, kp1⟩, ⟨some "default", .Constant .none j cpos, kp2⟩] pos) (tMinK T te) := by
  refine ⟨fun pins s σ H Q I h => ?_⟩
  refine wpAny_Call_Name_kw (ld_blt (u := .builtin "min") I hg hm (by decide +kernel) ?_)
  refine PyProof.Rows.callWith_kw (thn (ha.run pos pins s σ H _ I h) fun us s1 ⟨vs, H1, I1, r1, hT, l, items, ev, hl, hit, q⟩ => ?_) (by rw [hst]; rfl) (by rw [hst]; rfl)
  subst ev
  obtain ⟨u, rfl, ru⟩ := r1.one
  obtain rfl : u = Value.ref l := ru
  show wpAny _ _ (evalAll [(do let v ← eval (.Lambda params body scope lpos) X.env; standAt pos; pure v), (do let v ← eval (.Constant .none j cpos) X.env; standAt pos; pure v)]) _ _ s1
  refine wpAny_evalAll_cons (wpAny_bind (lam_make2 I1 TB hcode hmT huT hT hdef hfree fun f c' pm' ctv H2 s2 I2 eN T2 hf hfn hfr hco => wpAny_bind (wpAny_standAt (wpAny_pure ?_))))
  refine wpAny_evalAll_cons (wpAny_bind (show wpAny _ _ (eval (.Constant .none j cpos) X.env) _ _ s2 from wpAny_pure (wpAny_bind (wpAny_standAt (wpAny_pure (wpAny_evalAll_nil ?_))))))
  show wpAny _ _ (call (.builtin "min") [.ref l] [(Str.ofString "key", .ref f), (Str.ofString "default", .none)]) _ _ s2
  have nt : ∀ (xs : List V) (ps : Array Value), HO.lst xs ≠ .tbl ps := fun _ _ z => nomatch z
  have hl2 := eN _ _ hl (nt _)
  have hit2 : ∀ i ∈ items, H2 i.1 = some (.lst (i.2.map V.str)) := fun i hi => eN _ _ (hit i hi) (nt _)
  have frf := I2.env0.frf
  obtain ⟨_, its, n, rv, el⟩ := I2.hok l _ hl2
  obtain ⟨⟨oc, cvs, ct, d1, d2, d3⟩, _, _⟩ := I2.hok c' _ hco
  rw [hcl] at hf
  obtain ⟨q0, q1⟩ := q H2 eN T2
  have hlen : items.length = its.length := by
    have := rv.length
    rw [List.length_map] at this
    exact this
  refine PySem.call_min_walkKD (iter_listW (A := X.A.in1) (I2.ok.hd hc) ⟨_, el, rfl, n, rfl⟩ fun s3 e3 W st hfp hw hk => ?_)
  have es : s3.heap.objs.size = s2.heap.objs.size + 1 := by
    rw [e3]
    exact Heap.size_push _ _
  refine ⟨_, _, _, _, _, _, _, _, _, _, rfl, W, st, hfp, key_run I2 hr S hit2 rv ⟨_, el, rfl, n, rfl⟩ (fun z => by rw [frf _ z] at hl2; cases hl2) hf hfr ⟨c', oc, cvs, ct, rfl, d1, d2, d3⟩ (fun z => by rw [frf _ z] at hco; cases hco) (fun s u => hbind s u _ _ _) (fun A outer s H E hr => hbody A outer s H E f c' hr) htb es, ?_, ?_, ?_⟩
  · refine ⟨by rw [e3], by rw [e3]; exact I2.bare, ?_⟩
    exact Un.kept hk
  · intro hn s' hj
    refine ⟨.non, H2, hj.inv I2, rfl, q0 ?_⟩
    have : its.length = 0 := by simpa using hn
    exact List.eq_nil_of_length_eq_zero (by omega)
  · intro hn v s' hP hj
    obtain ⟨a, names, e1, rfl⟩ := vals_at rv hP
    exact ⟨.ref a, H2, hj.inv I2, rfl, q1 _ (List.mem_of_getElem? e1)⟩
end U

/-! a def whose code object is known (its table of lambdas is tracked) -/
namespace U
open PySem PySem.Spec PyProof.Rows L2 LamX
structure FunC (K : PySem.W.Frag) (x qual : Str) (st : Stmt) (f : Addr) (fd : FuncData) (c : Addr) : Prop where
  ex : ∃ (oc : Value) (od : Option Addr) (kV doc pm : Value) (an : Option Addr) (ct : Value) (osl : Array (Option Value)),
    fd = PySem.W.fnOf x qual (defArgs st) (defBody st) (defScope st) .none kV doc pm an (.ref c) ct ∧ K.lookup f = some ⟨oc, od, .func fd, osl⟩ ∧ PySem.W.codeIn K (.ref c) qual = true
section
variable {P : Program} {w : World} {K : PySem.W.Frag} {mg : Str → Option Value} {base : Heap}
theorem fnG0C {x qual : Str} {st : Stmt} {f c : Addr} {fd : FuncData} {N ps : List Str} {k : Nat} {sp : Sp} (F : FunC K x qual st f fd c) (S : FnScope N ps (defScope st)) (len : ∀ vs H Q E, sp vs H Q E → vs.length = ps.length)
    (body : ∀ (A : Around) (outer : List Env) (s : Shared) (H : Hp) (vs : List V) (Q : VK) (E : XK), Rm k (A.deeper (envOfC qual (defScope st) s.heap.objs.size f (.ref c))) → sp vs H Q E →
      ∃ t, PSs (cxOf CX0 P w K mg base N qual (defScope st) f (.ref c) A outer s H E).nox (defBody st) t ∧ t { nx := fun _ H' => Q .non H', rt := Q } (start N vs) H) :
    FnG P w K mg base CX0 (k + 1) f fd ps sp := by
  obtain ⟨oc, od, kV, doc, pm, an, ct, osl, rfl, lk, hcd⟩ := F.ex
  refine ⟨len, fun A outer s H args us vs Q E room e0 bd rel want => ?_⟩
  have count := len _ _ _ _ want
  have kin : K.In s.heap := e0.mod.kin.keeps fun b o e => (e0.bs b o e).1
  have kinds : ∀ y ∈ ps.zip us, (defScope st).names.lookup y.1 = some .local ∨ ((defScope st).names.lookup y.1 = some .cell ∧ ((cellsFrom (s.heap.objs.size + 1) (defScope st).names []).lookup y.1).isSome = true) := by
    rintro ⟨n, v⟩ hy
    cases S.par n (List.of_mem_zip hy).1 with
    | inl q => exact .inl q
    | inr q => exact .inr ⟨q, PySem.W.cellsFrom_some _ _ _ (.inl q)⟩
  apply codeAny_call_function room.r.depth (kin _ _ lk) rfl S.co S.gen rfl (PySem.W.codeRec_of kin hcd) (bd _ _ _ _ _)
  apply wpAny_newFunctionEnv_cells S.kind kinds
  intro env he s1 x
  subst he
  have lim : s.heap.NoLimit := e0.mod.nolimit.keeps fun b o e => (e0.bs b o e).1
  refine ⟨lim.keeps x.toInCall.keep, codeAny_func ?_⟩
  obtain ⟨t, ht0, want'⟩ := body A outer s H vs Q E (room.deeper _) want
  have ht := ht0.nox
  have I := inv_start (CX := CX0) (P := P) (w := w) (K := K) (mg := mg) (base := base) (E := E) S room.r.hd e0 count rel x
  refine wpAny_mono (ht.run [] s1 (start N vs) H _ I want') ?_ fun e s' hs => hs
  intro fl s' hs
  cases fl with
  | ret u =>
    obtain ⟨v, σ', H', J, rv, q⟩ := hs
    exact ⟨v, H', J.os, J.bare, J.base, J.hok, rv, q⟩
  | next =>
    obtain ⟨σ', H', J, q⟩ := hs
    exact ⟨V.non, H', J.os, J.bare, J.base, J.hok, rfl, q⟩
  | brk => exact hs.elim fun _ z => z.elim fun _ z => z.2.elim
  | cont => exact hs.elim fun _ z => z.elim fun _ z => z.2.elim
end
end U

/-! the law's own head, one table of code objects tracked -/
namespace U
open PySem PySem.Spec PyProof.Rows L2 LamX
theorem law_GT {P : Program} {w : World} {K : PySem.W.Frag} {mg mb : Str → Option Value} {k : Nat} {fa a c T : Addr} {fd : FuncData} {x : Str} {sp : Sp} {s₁ : Shared} {vs : List Value} {ns : List Int}
    (KX : K.In s₁.heap) (hns : s₁.heap.Ns mainGlobals mg) (hb : s₁.heap.Ns builtinsNs mb) (hbb : ∀ x : Str, x ≠ "__name__" → mb x = bootBuiltins x) (hlim : s₁.heap.NoLimit) (hg : s₁.gens = #[])
    (hT : s₁.heap.get? T = some { cls := .none, data := .fields #[] }) (nT : K.lookup T = none) (CH : PySem.W.CodeHd s₁.heap c T)
    (hbm : ∃ (bm : Addr) (ob : Obj), mg "__builtins__" = some (.ref bm) ∧ bm ≠ builtinsNs ∧ s₁.heap.get? bm = some ob ∧ ob.cls = .type "module" ∧ ob.dict = some builtinsNs ∧ ob.data = .plain)
    (ha : s₁.heap.get? a = some { cls := .type "list", data := .seq vs.toArray }) (hi : IntsAre vs ns) (hl : ns.length ≤ sizeLine) (hr : Room k callerA)
    (F : ∀ base : Heap, K.In base → base.Ns mainGlobals mg → TabB base mg c T → FnG P w K mg base CX0 k fa fd [x] sp) (hbind : ∀ (s : Shared) (u : Value), BindsTo s fd ⟨[u], []⟩ [(x, u)])
    (hsp : ∀ H : Hp, H T = some (.tbl #[]) → SqL K H a (ns.map V.int) → sp [.ref a] H (fun v _ => v = .bl true) fun _ _ _ => False) :
    codeAny (model P w) callerA (.call (.ref fa) ⟨[.ref a], []⟩) (fun r s' => r = .ok (.ret (.bool true)) ∧ OldK s₁.heap s'.heap ∧ s'.os = s₁.os ∧ AllBare s'.gens) s₁ := by
  have rv := vals_ints hi
  have lenV := hi.length
  have aT : a ≠ T := fun z => by
    rw [z, hT] at ha
    have := congrArg Obj.data (Option.some.inj ha)
    cases this
  have main : ∀ H : Hp, H T = some (.tbl #[]) → (∀ b, H b = none ∨ b = T ∨ ∃ o xs, H b = some (.frz o (.lst xs))) → SqL K H a (ns.map V.int) → HOk P w H s₁.heap → (∀ b, H b ≠ none → b = a ∨ b = T) → (H a ≠ none → K.lookup a = none) →
      codeAny (model P w) callerA (.call (.ref fa) ⟨[.ref a], []⟩) (fun r s' => r = .ok (.ret (.bool true)) ∧ OldK s₁.heap s'.heap ∧ s'.os = s₁.os ∧ AllBare s'.gens) s₁ := by
    intro H hH only seq ok two own
    have unseen : ∀ {b : Addr} {o : Obj}, s₁.heap.get? b = some o → (∀ vs n, o.data ≠ .seq vs n) → o.data ≠ .fields #[] → H b = none := by
      intro b o e d1 d2
      cases q : H b with
      | none => rfl
      | some u =>
        rcases two b (by rw [q]; simp) with rfl | rfl
        · obtain rfl := Option.some.inj (ha.symm.trans e)
          exact (d1 _ _ rfl).elim
        · obtain rfl := Option.some.inj (hT.symm.trans e)
          exact (d2 rfl).elim
    have stays : ∀ {b : Addr} {m : Str → Option Value}, s₁.heap.Ns b m → (hidT s₁.heap H).Ns b m := by
      rintro b m ⟨o, es, ep, e, d, r⟩
      exact ⟨o, es, ep, hidT_get e (unseen e (fun _ _ z => by rw [d] at z; cases z) fun z => by rw [d] at z; cases z), d, r⟩
    have kin : K.In (hidT s₁.heap H) := by
      intro b o e
      refine hidT_get (KX b o e) ?_
      cases q : H b with
      | none => rfl
      | some u =>
        rcases two b (by rw [q]; simp) with rfl | rfl
        · rw [own (by rw [q]; simp)] at e
          cases e
        · rw [nT] at e
          cases e
    have md : Mod K mg (hidT s₁.heap H) := ⟨kin, stays hns, ⟨mb, stays hb, hbb⟩, by
      obtain ⟨mc, h1, h2⟩ := hlim
      exact ⟨mc, stays h1, h2⟩⟩
    have tab : TabB (hidT s₁.heap H) mg c T := by
      refine ⟨?_, ?_, fun z => ?_⟩
      · obtain ⟨o, us, file, tf, flags, tg, inF, text, tt, e1, r1, r2, r3, r4, r5, r6, r7, r8, r9⟩ := CH
        refine ⟨o, us, file, tf, flags, tg, inF, text, tt, hidT_get e1 (unseen e1 (fun _ _ z => by rw [r2] at z; cases z) fun z => ?_), r1, r2, r3, r4, r5, r6, r7, r8, r9⟩
        rw [r2] at z
        obtain rfl := Data.fields.inj z
        simp at r3
      · obtain ⟨bm, ob, b1, b2, b3, b4, b5, b6⟩ := hbm
        refine ⟨bm, ob, b1, b2, fun z => ?_, fun z => ?_, hidT_get b3 (unseen b3 (fun _ _ z => by rw [b6] at z; cases z) fun z => by rw [b6] at z; cases z), b4, b5, b6⟩
        · obtain ⟨o, es, ep, e, hd, _⟩ := hns
          rw [z, e] at b3
          obtain rfl := Option.some.inj b3
          rw [hd] at b6
          cases b6
        · rw [z, hT] at b3
          obtain rfl := Option.some.inj b3
          cases b6
      · obtain ⟨o, es, ep, e, hd, _⟩ := hns
        rw [z, hT] at e
        obtain rfl := Option.some.inj e
        cases hd
    have e0 : Env0 P w K mg (hidT s₁.heap H) callerA [] s₁ H := ⟨rfl, md, fun b o e => of_hidT e, Nat.le_of_eq (hidT_size _ _), trivial, fun b z => (List.not_mem_nil z).elim, ok, .of_eq hg⟩
    refine codeAny_mono ((F _ kin (stays hns) tab).go callerA [] s₁ H ⟨[.ref a], []⟩ [.ref a] [.ref a] _ _ ⟨hr, rfl⟩ e0 (hbind s₁ (.ref a)) (.cons rfl .nil) (hsp H hH seq)) ?_
    intro r s' h
    cases r with
    | error e => exact h.elim
    | ok fl =>
      cases fl with
      | next => exact h.elim
      | brk => exact h.elim
      | cont => exact h.elim
      | ret u =>
        obtain ⟨v, H', os, bare, un, ok', r', q⟩ := h
        have q' : v = .bl true := q
        subst q'
        obtain rfl : u = Value.bool true := r'
        have key : ∀ b o, b ≠ T → s₁.heap.get? b = some o → s'.heap.get? b = some o := by
          intro b o nb e
          cases q : H b with
          | none => exact un.keep b o e q (fun z => (List.not_mem_nil z).elim) (fun z => (List.not_mem_nil z).elim)
          | some u =>
            rcases only b with z | z | ⟨ob, xs, z⟩
            · rw [q] at z; cases z
            · exact (nb z).elim
            · obtain ⟨e1, _⟩ := ok b _ z
              obtain ⟨e2, _⟩ := ok' b _ (un.frzs b ob _ z)
              exact (Option.some.inj (e1.symm.trans e)) ▸ e2
        obtain ⟨more, z⟩ := un.tbls T #[] hH
        have grown := ok' T _ z
        refine ⟨rfl, ⟨fun b o e => ?_, fun b o e => ?_⟩, os, bare⟩
        · by_cases hb : b = T
          · subst hb
            obtain rfl := Option.some.inj (hT.symm.trans e)
            exact .inr (.inl ⟨(CH.tab hT).isCodeTable, rfl, #[], _, rfl, grown⟩)
          · exact .inl (key b o hb e)
        · by_cases hb : b = T
          · subst hb
            exact ⟨_, grown⟩
          · exact ⟨o, key b o hb e⟩
  cases hk : K.lookup a with
  | some o =>
    obtain rfl := Option.some.inj (ha.symm.trans (KX a o hk))
    refine main (fun b => if b = T then some (.tbl #[]) else none) (if_pos rfl) (fun b => ?_) (.inr ⟨_, vs.toArray, _, hk, rfl, rfl, rfl, ?_, by simpa using rv⟩) (fun b u z => ?_) (fun b z => ?_) fun z => (z (if_neg aT)).elim
    · by_cases e : b = T
      · exact .inr (.inl e)
      · exact .inl (if_neg e)
    · rw [List.size_toArray, lenV]
      exact hl
    · by_cases e : b = T
      · subst e
        obtain rfl := Option.some.inj ((if_pos rfl).symm.trans z)
        exact hT
      · exact nomatch (if_neg e).symm.trans z
    · by_cases e : b = T
      · exact .inr e
      · exact absurd (if_neg e) z
  | none =>
    refine main (fun b => if b = a then some (.frz { cls := .type "list", data := .seq vs.toArray } (.lst (ns.map V.int))) else if b = T then some (.tbl #[]) else none) ((if_neg aT.symm).trans (if_pos rfl)) (fun b => ?_) (.inl (.inr ⟨_, if_pos rfl⟩)) (fun b u z => ?_) (fun b z => ?_) fun _ => hk
    · by_cases hb : b = a
      · exact .inr (.inr ⟨_, _, if_pos hb⟩)
      · by_cases e : b = T
        · exact .inr (.inl e)
        · exact .inl ((if_neg hb).trans (if_neg e))
    · by_cases hb : b = a
      · subst hb
        obtain rfl := Option.some.inj ((if_pos rfl).symm.trans z)
        exact ⟨ha, by rw [List.length_map]; exact hl, vs, _, rv, ha⟩
      · by_cases e : b = T
        · subst e
          obtain rfl := Option.some.inj (((if_neg hb).trans (if_pos rfl)).symm.trans z)
          exact hT
        · exact nomatch ((if_neg hb).trans (if_neg e)).symm.trans z
    · by_cases hb : b = a
      · exact .inl hb
      · by_cases e : b = T
        · exact .inr e
        · exact absurd ((if_neg hb).trans (if_neg e)) z
theorem walk_GT {l : PySem.W.OpenLaw} {n k : Nat} {q : Program} {loose : List Str} {XP : (Str → Option Value) → Heap → Prop} {YP : World → Heap → Prop} {d : DefRec} {K : Params → PySem.W.Frag} {sp : PySem.W.Frag → Addr → Sp} {x : Str}
    (hn : l.most = some n) (hn2 : n ≤ sizeLine) (hdf : d.params.defaults = []) (hr : Room k callerA)
    (hY : ∀ (w : World) (h : Heap), YP w h → (K w.params).In h)
    (F : ∀ (w : World) (mg : Str → Option Value) (fa : Addr) (h : Heap), YP w h → (K w.params).In h → h.Ns mainGlobals mg → mg d.name = some (.ref fa) →
      ∃ (fd : FuncData) (c T : Addr), h.get? T = some { cls := .none, data := .fields #[] } ∧ (K w.params).lookup T = none ∧ PySem.W.CodeHd h c T ∧ (∀ (s : Shared) (u : Value), BindsTo s fd ⟨[u], []⟩ [(x, u)]) ∧
        ∀ base : Heap, (K w.params).In base → base.Ns mainGlobals mg → TabB base mg c T → FnG l.prog w (K w.params) mg base CX0 k fa fd [x] (sp (K w.params) T))
    (hsp : ∀ (K : PySem.W.Frag) (T : Addr) (H : Hp) (a : Addr) (ns : List Int), ns.length ≤ n → H T = some (.tbl #[]) → SqL K H a (ns.map V.int) → sp K T [.ref a] H (fun v _ => v = .bl true) fun _ _ _ => False) :
    PySem.W.WalkO q loose XP YP l.row.toRowW d [] (fun f vs => PySem.call f vs) := by
  refine Att.attach_callB hn hdf ?_
  intro w s₀ s₁ mg mb fa o pm cd doc a vs ns G Y ho hd hcd hmg hobj hints hlen bits hg
  obtain ⟨fd, c, T, hT, nT, CH, hb, hF⟩ := F w mg fa _ Y (hY w _ Y) G.T.g hmg
  exact law_GT (hY w _ Y) G.T.g G.T.b G.T.builtins G.T.nolimit hg hT nT CH G.T.bmain hobj hints (Nat.le_trans hlen hn2) hr hF hb fun H h1 seq => hsp _ T H a ns hlen h1 seq
/-- the same, the table told by the fragment -/
theorem walk_GY {l : PySem.W.OpenLaw} {n k : Nat} {q : Program} {loose : List Str} {XP : (Str → Option Value) → Heap → Prop} {YP : World → Heap → Prop} {d dy : DefRec} {K : Params → PySem.W.Frag} {sp : PySem.W.Frag → Addr → Sp} {x y : Str}
    (hn : l.most = some n) (hn2 : n ≤ sizeLine) (hdf : d.params.defaults = []) (hr : Room k callerA) (hrec : (recsOf q).find? (fun e => e.name == y) = some dy)
    (hY : ∀ (w : World) (h : Heap), YP w h → (K w.params).In h)
    (F : ∀ (w : World) (mg : Str → Option Value) (fa : Addr) (h : Heap), (K w.params).In h → h.Ns mainGlobals mg → mg d.name = some (.ref fa) →
      ∃ (fd : FuncData) (c T : Addr), PySem.W.tabIn (K w.params) y = some (c, T) ∧ (K w.params).lookup T = none ∧ (∀ (s : Shared) (u : Value), BindsTo s fd ⟨[u], []⟩ [(x, u)]) ∧
        ∀ base : Heap, (K w.params).In base → base.Ns mainGlobals mg → TabB base mg c T → FnG l.prog w (K w.params) mg base CX0 k fa fd [x] (sp (K w.params) T))
    (hsp : ∀ (K : PySem.W.Frag) (T : Addr) (H : Hp) (a : Addr) (ns : List Int), ns.length ≤ n → H T = some (.tbl #[]) → SqL K H a (ns.map V.int) → sp K T [.ref a] H (fun v _ => v = .bl true) fun _ _ _ => False) :
    PySem.W.WalkO q loose XP YP l.row.toRowW d [] (fun f vs => PySem.call f vs) := by
  refine Att.attach_callB hn hdf ?_
  intro w s₀ s₁ mg mb fa o pm cd doc a vs ns G Y ho hd hcd hmg hobj hints hlen bits hg
  obtain ⟨fd, c, T, hin, nT, hb, hF⟩ := F w mg fa _ (hY w _ Y) G.T.g hmg
  obtain ⟨CH, hT⟩ := PySem.W.tab_of G.T (hY w _ Y) hrec hin
  exact law_GT (hY w _ Y) G.T.g G.T.b G.T.builtins G.T.nolimit hg hT nT CH G.T.bmain hobj hints (Nat.le_trans hlen hn2) hr hF hb fun H h1 seq => hsp _ T H a ns hlen h1 seq
end U
namespace U
open PySem PySem.Spec PyProof.Rows L2
theorem tab_mk {K : PySem.W.Frag} {x : Str} {f c T : Addr} {oc oc2 : Value} {od od2 : Option Addr} {fd : FuncData} {sl sl2 : Array (Option Value)} {vs : Array Value} (h1 : PySem.W.nsIn K mainGlobals x = some (some (.ref f))) (h2 : K.lookup f = some ⟨oc, od, .func fd, sl⟩) (h3 : fd.code = .ref c)
    (h4 : K.lookup c = some ⟨oc2, od2, .fields vs, sl2⟩) (h5 : (vs[11]? : Option Value) = some (.ref T)) : PySem.W.tabIn K x = some (c, T) := by
  unfold PySem.W.tabIn
  rw [h1]
  simp only
  rw [h2]
  simp only
  rw [h3]
  simp only
  rw [h4]
  simp only
  rw [h5]
end U

namespace Law
open PySem PySem.Spec PyProof.Rows L2 U
theorem all_mk {l : PySem.W.OpenLaw} {w : World} {K : PySem.W.Frag} {h : Heap} {mg : Str → Option Value} {fa : Addr} (X : K.In h) (G : h.Ns mainGlobals mg) (hfa : mg "law" = some (.ref fa))
    {od0 an0 : Option Addr} {sl0 : Array (Option Value)} {f0 : Addr} {oc0 kV0 dc0 pm0 cd0 ct0 : Value}
    {od1 an1 : Option Addr} {sl1 : Array (Option Value)} {f1 : Addr} {oc1 kV1 dc1 pm1 cd1 ct1 : Value}
    {od2 an2 : Option Addr} {sl2 : Array (Option Value)} {f2 : Addr} {oc2 kV2 dc2 pm2 cd2 ct2 : Value}
    {od3 an3 : Option Addr} {sl3 : Array (Option Value)} {f3 : Addr} {oc3 kV3 dc3 pm3 cd3 ct3 : Value}
    {od4 an4 : Option Addr} {sl4 : Array (Option Value)} {f4 : Addr} {oc4 kV4 dc4 pm4 cd4 ct4 : Value}
    {od5 an5 : Option Addr} {sl5 : Array (Option Value)} {f5 : Addr} {oc5 kV5 dc5 pm5 cd5 ct5 : Value}
    {od6 an6 : Option Addr} {sl6 : Array (Option Value)} {f6 : Addr} {oc6 kV6 dc6 pm6 cd6 ct6 : Value}
    {od7 an7 : Option Addr} {sl7 : Array (Option Value)} {f7 : Addr} {oc7 kV7 dc7 pm7 cd7 ct7 : Value}
    {od8 an8 : Option Addr} {sl8 : Array (Option Value)} {f8 : Addr} {oc8 kV8 dc8 pm8 cd8 ct8 : Value}
    {od9 an9 : Option Addr} {sl9 : Array (Option Value)} {f9 : Addr} {oc9 kV9 dc9 pm9 cd9 ct9 : Value}
    {od10 an10 : Option Addr} {sl10 : Array (Option Value)} {f10 : Addr} {oc10 kV10 dc10 pm10 cd10 ct10 : Value}
    {od11 an11 : Option Addr} {sl11 : Array (Option Value)} {f11 : Addr} {oc11 kV11 dc11 pm11 cd11 ct11 : Value}
    {od12 an12 : Option Addr} {sl12 : Array (Option Value)} {f12 : Addr} {oc12 kV12 dc12 pm12 cd12 ct12 : Value}
    {od13 an13 : Option Addr} {sl13 : Array (Option Value)} {f13 : Addr} {oc13 kV13 dc13 pm13 cd13 ct13 : Value}
    (a0 : PySem.W.nsIn K mainGlobals "edge_of" = some (some (.ref f0))) (l0 : K.lookup f0 = some ⟨oc0, od0, .func (PySem.W.fnOf "edge_of" "edge_of" (defArgs s_edge_of) (defBody s_edge_of) (defScope s_edge_of) .none kV0 dc0 pm0 an0 cd0 ct0), sl0⟩) (c0 : PySem.W.codeIn K cd0 "edge_of" = true) (k0 : PySem.W.keepIn K (.ref f0) = true)
    (a1 : PySem.W.nsIn K mainGlobals "paths_in" = some (some (.ref f1))) (l1 : K.lookup f1 = some ⟨oc1, od1, .func (PySem.W.fnOf "paths_in" "paths_in" (defArgs s_paths_in) (defBody s_paths_in) (defScope s_paths_in) .none kV1 dc1 pm1 an1 cd1 ct1), sl1⟩) (c1 : PySem.W.codeIn K cd1 "paths_in" = true) (k1 : PySem.W.keepIn K (.ref f1) = true)
    (a2 : PySem.W.nsIn K mainGlobals "mentioned" = some (some (.ref f2))) (l2 : K.lookup f2 = some ⟨oc2, od2, .func (PySem.W.fnOf "mentioned" "mentioned" (defArgs s_mentioned) (defBody s_mentioned) (defScope s_mentioned) .none kV2 dc2 pm2 an2 cd2 ct2), sl2⟩) (c2 : PySem.W.codeIn K cd2 "mentioned" = true) (k2 : PySem.W.keepIn K (.ref f2) = true)
    (a3 : PySem.W.nsIn K mainGlobals "_law_box" = some (some (.ref f3))) (l3 : K.lookup f3 = some ⟨oc3, od3, .func (PySem.W.fnOf "_law_box" "_law_box" (defArgs s__law_box) (defBody s__law_box) (defScope s__law_box) .none kV3 dc3 pm3 an3 cd3 ct3), sl3⟩) (c3 : PySem.W.codeIn K cd3 "_law_box" = true) (k3 : PySem.W.keepIn K (.ref f3) = true)
    (a4 : PySem.W.nsIn K mainGlobals "_law_draw" = some (some (.ref f4))) (l4 : K.lookup f4 = some ⟨oc4, od4, .func (PySem.W.fnOf "_law_draw" "_law_draw" (defArgs s__law_draw) (defBody s__law_draw) (defScope s__law_draw) .none kV4 dc4 pm4 an4 cd4 ct4), sl4⟩) (c4 : PySem.W.codeIn K cd4 "_law_draw" = true) (k4 : PySem.W.keepIn K (.ref f4) = true)
    (a5 : PySem.W.nsIn K mainGlobals "_law_stem" = some (some (.ref f5))) (l5 : K.lookup f5 = some ⟨oc5, od5, .func (PySem.W.fnOf "_law_stem" "_law_stem" (defArgs s__law_stem) (defBody s__law_stem) (defScope s__law_stem) .none kV5 dc5 pm5 an5 cd5 ct5), sl5⟩) (c5 : PySem.W.codeIn K cd5 "_law_stem" = true) (k5 : PySem.W.keepIn K (.ref f5) = true)
    (a6 : PySem.W.nsIn K mainGlobals "_law_random_names" = some (some (.ref f6))) (l6 : K.lookup f6 = some ⟨oc6, od6, .func (PySem.W.fnOf "_law_random_names" "_law_random_names" (defArgs s__law_random_names) (defBody s__law_random_names) (defScope s__law_random_names) .none kV6 dc6 pm6 an6 cd6 ct6), sl6⟩) (c6 : PySem.W.codeIn K cd6 "_law_random_names" = true) (k6 : PySem.W.keepIn K (.ref f6) = true)
    (a7 : PySem.W.nsIn K mainGlobals "_law_random_problem" = some (some (.ref f7))) (l7 : K.lookup f7 = some ⟨oc7, od7, .func (PySem.W.fnOf "_law_random_problem" "_law_random_problem" (defArgs s__law_random_problem) (defBody s__law_random_problem) (defScope s__law_random_problem) .none kV7 dc7 pm7 an7 cd7 ct7), sl7⟩) (c7 : PySem.W.codeIn K cd7 "_law_random_problem" = true) (k7 : PySem.W.keepIn K (.ref f7) = true)
    (a8 : PySem.W.nsIn K mainGlobals "_law_random_constraints" = some (some (.ref f8))) (l8 : K.lookup f8 = some ⟨oc8, od8, .func (PySem.W.fnOf "_law_random_constraints" "_law_random_constraints" (defArgs s__law_random_constraints) (defBody s__law_random_constraints) (defScope s__law_random_constraints) .none kV8 dc8 pm8 an8 cd8 ct8), sl8⟩) (c8 : PySem.W.codeIn K cd8 "_law_random_constraints" = true) (k8 : PySem.W.keepIn K (.ref f8) = true)
    (a9 : PySem.W.nsIn K mainGlobals "_law_paths_of" = some (some (.ref f9))) (l9 : K.lookup f9 = some ⟨oc9, od9, .func (PySem.W.fnOf "_law_paths_of" "_law_paths_of" (defArgs s__law_paths_of) (defBody s__law_paths_of) (defScope s__law_paths_of) .none kV9 dc9 pm9 an9 cd9 ct9), sl9⟩) (c9 : PySem.W.codeIn K cd9 "_law_paths_of" = true) (k9 : PySem.W.keepIn K (.ref f9) = true)
    (a10 : PySem.W.nsIn K mainGlobals "_law_expected_mentions" = some (some (.ref f10))) (l10 : K.lookup f10 = some ⟨oc10, od10, .func (PySem.W.fnOf "_law_expected_mentions" "_law_expected_mentions" (defArgs s__law_expected_mentions) (defBody s__law_expected_mentions) (defScope s__law_expected_mentions) .none kV10 dc10 pm10 an10 cd10 ct10), sl10⟩) (c10 : PySem.W.codeIn K cd10 "_law_expected_mentions" = true) (k10 : PySem.W.keepIn K (.ref f10) = true)
    (a11 : PySem.W.nsIn K mainGlobals "_law_random_path" = some (some (.ref f11))) (l11 : K.lookup f11 = some ⟨oc11, od11, .func (PySem.W.fnOf "_law_random_path" "_law_random_path" (defArgs s__law_random_path) (defBody s__law_random_path) (defScope s__law_random_path) .none kV11 dc11 pm11 an11 cd11 ct11), sl11⟩) (c11 : PySem.W.codeIn K cd11 "_law_random_path" = true) (k11 : PySem.W.keepIn K (.ref f11) = true)
    (a12 : PySem.W.nsIn K mainGlobals "_law_random_obstruction" = some (some (.ref f12))) (l12 : K.lookup f12 = some ⟨oc12, od12, .func (PySem.W.fnOf "_law_random_obstruction" "_law_random_obstruction" (defArgs s__law_random_obstruction) (defBody s__law_random_obstruction) (defScope s__law_random_obstruction) .none kV12 dc12 pm12 an12 cd12 ct12), sl12⟩) (c12 : PySem.W.codeIn K cd12 "_law_random_obstruction" = true) (k12 : PySem.W.keepIn K (.ref f12) = true)
    (a13 : PySem.W.nsIn K mainGlobals "law" = some (some (.ref f13))) (l13 : K.lookup f13 = some ⟨oc13, od13, .func (PySem.W.fnOf "law" "law" (defArgs s_law) (defBody s_law) (defScope s_law) .none kV13 dc13 pm13 an13 cd13 ct13), sl13⟩) (c13 : PySem.W.codeIn K cd13 "law" = true) (k13 : PySem.W.keepIn K (.ref f13) = true)
    (z0 : PySem.W.nsIn K mainGlobals "len" = some none)
    (z1 : PySem.W.nsIn K mainGlobals "abs" = some none)
    (z2 : PySem.W.nsIn K mainGlobals "max" = some none)
    (z3 : PySem.W.nsIn K mainGlobals "min" = some none)
    (z4 : PySem.W.nsIn K mainGlobals "sorted" = some none)
    (z5 : PySem.W.nsIn K mainGlobals "isinstance" = some none)
    (z6 : PySem.W.nsIn K mainGlobals "int" = some none)
    (z7 : PySem.W.nsIn K mainGlobals "list" = some none)
    (z8 : PySem.W.nsIn K mainGlobals "tuple" = some none)
    (z9 : PySem.W.nsIn K mainGlobals "str" = some none)
    (z10 : PySem.W.nsIn K mainGlobals "range" = some none)
    (z11 : PySem.W.nsIn K mainGlobals "enumerate" = some none)
    (z12 : PySem.W.nsIn K mainGlobals "dict" = some none)
    (z13 : PySem.W.nsIn K mainGlobals "sum" = some none)
    (z14 : PySem.W.nsIn K mainGlobals "all" = some none)
    (z15 : PySem.W.nsIn K mainGlobals "any" = some none)
    (z16 : PySem.W.nsIn K mainGlobals "repr" = some none)
    (z17 : PySem.W.nsIn K mainGlobals "set" = some none)
    (z18 : PySem.W.nsIn K mainGlobals "zip" = some none)
    (z19 : PySem.W.nsIn K mainGlobals "reversed" = some none)
    (z20 : PySem.W.nsIn K mainGlobals "bool" = some none) :
    ∃ fd : FuncData, (∀ (s : Shared) (u : Value), BindsTo s fd ⟨[u], []⟩ [("_law_script", u)]) ∧ ∀ base : Heap, K.In base → base.Ns mainGlobals mg → FnG l.prog w K mg base CX0 6 fa fd ["_law_script"] (spLaw K) := by
  have e := hfa.symm.trans (PySem.W.mg_of X G a13)
  cases e
  have n_len := PySem.W.mg_none_of X G z0
  have n_abs := PySem.W.mg_none_of X G z1
  have n_max := PySem.W.mg_none_of X G z2
  have n_min := PySem.W.mg_none_of X G z3
  have n_sorted := PySem.W.mg_none_of X G z4
  have n_isinstance := PySem.W.mg_none_of X G z5
  have n_int := PySem.W.mg_none_of X G z6
  have n_list := PySem.W.mg_none_of X G z7
  have n_tuple := PySem.W.mg_none_of X G z8
  have n_str := PySem.W.mg_none_of X G z9
  have n_range := PySem.W.mg_none_of X G z10
  have n_enumerate := PySem.W.mg_none_of X G z11
  have n_dict := PySem.W.mg_none_of X G z12
  have n_sum := PySem.W.mg_none_of X G z13
  have n_all := PySem.W.mg_none_of X G z14
  have n_any := PySem.W.mg_none_of X G z15
  have n_repr := PySem.W.mg_none_of X G z16
  have n_set := PySem.W.mg_none_of X G z17
  have n_zip := PySem.W.mg_none_of X G z18
  have n_reversed := PySem.W.mg_none_of X G z19
  have n_bool := PySem.W.mg_none_of X G z20
  have B : Bt mg := { len := n_len, abs := n_abs, max := n_max, min := n_min, sorted := n_sorted, isinstance := n_isinstance, int := n_int, list := n_list, tuple := n_tuple, str := n_str, range := n_range, enumerate := n_enumerate, dict := n_dict, sum := n_sum, all := n_all, any := n_any, repr := n_repr, set := n_set, zip := n_zip, reversed := n_reversed }
  have F0 := fun_mk (st := s_edge_of) l0 c0 k0
  have b0 := F0.binds (ps := ["first", "second"]) fun _ _ _ _ _ _ us hl => match us, hl with | [_, _], _ => rfl
  have F1 := fun_mk (st := s_paths_in) l1 c1 k1
  have b1 := F1.binds (ps := ["part"]) fun _ _ _ _ _ _ us hl => match us, hl with | [_], _ => rfl
  have F2 := fun_mk (st := s_mentioned) l2 c2 k2
  have b2 := F2.binds (ps := ["constraints", "obstruction"]) fun _ _ _ _ _ _ us hl => match us, hl with | [_, _], _ => rfl
  have F3 := fun_mk (st := s__law_box) l3 c3 k3
  have b3 := F3.binds (ps := ["_law_script"]) fun _ _ _ _ _ _ us hl => match us, hl with | [_], _ => rfl
  have F4 := fun_mk (st := s__law_draw) l4 c4 k4
  have b4 := F4.binds (ps := ["_law_source", "_law_count"]) fun _ _ _ _ _ _ us hl => match us, hl with | [_, _], _ => rfl
  have F5 := fun_mk (st := s__law_stem) l5 c5 k5
  have b5 := F5.binds (ps := ["_law_source"]) fun _ _ _ _ _ _ us hl => match us, hl with | [_], _ => rfl
  have F6 := fun_mk (st := s__law_random_names) l6 c6 k6
  have b6 := F6.binds (ps := ["_law_source", "_law_count"]) fun _ _ _ _ _ _ us hl => match us, hl with | [_, _], _ => rfl
  have F7 := fun_mk (st := s__law_random_problem) l7 c7 k7
  have b7 := F7.binds (ps := ["_law_source", "_law_most"]) fun _ _ _ _ _ _ us hl => match us, hl with | [_, _], _ => rfl
  have F8 := fun_mk (st := s__law_random_constraints) l8 c8 k8
  have b8 := F8.binds (ps := ["_law_source", "_law_graph", "_law_pins", "_law_most"]) fun _ _ _ _ _ _ us hl => match us, hl with | [_, _, _, _], _ => rfl
  have F9 := fun_mk (st := s__law_paths_of) l9 c9 k9
  have b9 := F9.binds (ps := ["_law_certificate"]) fun _ _ _ _ _ _ us hl => match us, hl with | [_], _ => rfl
  have F10 := fun_mk (st := s__law_expected_mentions) l10 c10 k10
  have b10 := F10.binds (ps := ["_law_items", "_law_certificate"]) fun _ _ _ _ _ _ us hl => match us, hl with | [_, _], _ => rfl
  have F11 := fun_mk (st := s__law_random_path) l11 c11 k11
  have b11 := F11.binds (ps := ["_law_source", "_law_graph"]) fun _ _ _ _ _ _ us hl => match us, hl with | [_, _], _ => rfl
  have F12 := fun_mk (st := s__law_random_obstruction) l12 c12 k12
  have b12 := F12.binds (ps := ["_law_source", "_law_graph"]) fun _ _ _ _ _ _ us hl => match us, hl with | [_, _], _ => rfl
  have F13 := fun_mk (st := s_law) l13 c13 k13
  have b13 := F13.binds (ps := ["_law_script"]) fun _ _ _ _ _ _ us hl => match us, hl with | [_], _ => rfl
  refine ⟨PySem.W.fnOf "law" "law" (defArgs s_law) (defBody s_law) (defScope s_law) .none kV13 dc13 pm13 an13 cd13 ct13, fun s v => .of_eq rfl, fun base _ _ => ?_⟩
  have c_edge_of : Cal l.prog w K mg base (CX0) 1 "edge_of" (spEdgeQ) := ⟨⟨_, _, _, ok_edgeQ F0 B, PySem.W.mg_of X G a0, k0, b0⟩⟩
  have c_paths_in : Cal l.prog w K mg base (CX0) 4 "paths_in" (spPathsU K) := ⟨⟨_, _, _, ok_pathsU F1 B ⟨PySem.W.mg_of X G a1, k1, b1⟩, PySem.W.mg_of X G a1, k1, b1⟩⟩
  have c_mentioned : Cal l.prog w K mg base (CX0) 5 "mentioned" (spMent K) := ⟨⟨_, _, _, ok_ment F2 B ⟨c_paths_in, c_edge_of⟩, PySem.W.mg_of X G a2, k2, b2⟩⟩
  have c__law_box : Cal l.prog w K mg base (CX0) 1 "_law_box" (spBox K) := ⟨⟨_, _, _, ok_box F3 B, PySem.W.mg_of X G a3, k3, b3⟩⟩
  have c__law_draw : Cal l.prog w K mg base (CX0) 1 "_law_draw" (spDraw) := ⟨⟨_, _, _, ok_draw F4 B, PySem.W.mg_of X G a4, k4, b4⟩⟩
  have c__law_stem : Cal l.prog w K mg base (CX0) 2 "_law_stem" (spStem) := ⟨⟨_, _, _, ok_stem F5 B ⟨c__law_draw⟩, PySem.W.mg_of X G a5, k5, b5⟩⟩
  have c__law_random_names : Cal l.prog w K mg base (CX0) 3 "_law_random_names" (spNamesB) := ⟨⟨_, _, _, ok_namesB F6 B ⟨c__law_draw, c__law_stem⟩, PySem.W.mg_of X G a6, k6, b6⟩⟩
  have c__law_random_problem : Cal l.prog w K mg base (CX0) 4 "_law_random_problem" (spProblem) := ⟨⟨_, _, _, ok_problem F7 B ⟨c__law_draw, c__law_random_names⟩, PySem.W.mg_of X G a7, k7, b7⟩⟩
  have c__law_random_constraints : Cal l.prog w K mg base (CX0) 2 "_law_random_constraints" (spConstr) := ⟨⟨_, _, _, ok_constr F8 B ⟨c__law_draw⟩, PySem.W.mg_of X G a8, k8, b8⟩⟩
  have c__law_paths_of : Cal l.prog w K mg base (CX0) 1 "_law_paths_of" (spPathsOf) := ⟨⟨_, _, _, ok_paths_of F9 B, PySem.W.mg_of X G a9, k9, b9⟩⟩
  have c__law_expected_mentions : Cal l.prog w K mg base (CX0) 2 "_law_expected_mentions" (spExpM) := ⟨⟨_, _, _, ok_expM F10 B ⟨c__law_paths_of⟩, PySem.W.mg_of X G a10, k10, b10⟩⟩
  have c__law_random_path : Cal l.prog w K mg base (CX0) 2 "_law_random_path" (spPathR) := ⟨⟨_, _, _, ok_rand_path F11 B ⟨c__law_draw⟩, PySem.W.mg_of X G a11, k11, b11⟩⟩
  have c__law_random_obstruction : Cal l.prog w K mg base (CX0) 3 "_law_random_obstruction" (spObstr) := ⟨⟨_, _, _, ok_obstr F12 B ⟨c__law_draw, c__law_random_path⟩, PySem.W.mg_of X G a12, k12, b12⟩⟩
  exact ok_law F13 B ⟨c__law_box, c__law_random_problem, c__law_random_constraints, c__law_random_obstruction, c__law_expected_mentions, c_mentioned⟩
theorem walk {l : PySem.W.OpenLaw} {q : Program} {loose : List Str} {XP : (Str → Option Value) → Heap → Prop} {YP : World → Heap → Prop} {d : DefRec} {K : Params → PySem.W.Frag} (hn : l.most = some 63) (hdf : d.params.defaults = [])
    (hY : ∀ (w : World) (h : Heap), YP w h → (K w.params).In h)
    (F : ∀ (w : World) (mg : Str → Option Value) (fa : Addr) (h : Heap), (K w.params).In h → h.Ns mainGlobals mg → mg d.name = some (.ref fa) →
      ∃ fd : FuncData, (∀ (s : Shared) (u : Value), BindsTo s fd ⟨[u], []⟩ [("_law_script", u)]) ∧ ∀ base : Heap, (K w.params).In base → base.Ns mainGlobals mg → FnG l.prog w (K w.params) mg base CX0 6 fa fd ["_law_script"] (spLaw (K w.params))) :
    PySem.W.WalkO q loose XP YP l.row.toRowW d [] (fun f vs => PySem.call f vs) :=
  walk_G (n := 63) (k := 6) (x := "_law_script") (sp := spLaw) hn (by decide) hdf ⟨rfl, by decide, by decide⟩ hY F fun K H a ns hl _ _ hS => ⟨a, ns, rfl, hS, hl, fun _ => rfl⟩
end Law
open PySem PySem.W PyProof.Rows
set_option maxRecDepth 100000 in
set_option maxHeartbeats 0 in
theorem PySem.Challenge.cw_threeturned_k68_mentioned_constraints_holds : PySem.Challenge.rw_threeturned_k68_mentioned_constraints.Holds := by
  w_on; o_law; k_head; (case hw => w_witness2)
  k_fill
  refine Law.walk (l := PySem.Challenge.rw_threeturned_k68_mentioned_constraints) rfl rfl (fun w h Y => PySem.W.kIn_of Y) ?F
  case F =>
    intro w mg fa h KX G hmg
    refine' Law.all_mk KX G hmg ?a0 ?l0 ?c0 ?k0 ?a1 ?l1 ?c1 ?k1 ?a2 ?l2 ?c2 ?k2 ?a3 ?l3 ?c3 ?k3 ?a4 ?l4 ?c4 ?k4 ?a5 ?l5 ?c5 ?k5 ?a6 ?l6 ?c6 ?k6 ?a7 ?l7 ?c7 ?k7 ?a8 ?l8 ?c8 ?k8 ?a9 ?l9 ?c9 ?k9 ?a10 ?l10 ?c10 ?k10 ?a11 ?l11 ?c11 ?k11 ?a12 ?l12 ?c12 ?k12 ?a13 ?l13 ?c13 ?k13 ?z0 ?z1 ?z2 ?z3 ?z4 ?z5 ?z6 ?z7 ?z8 ?z9 ?z10 ?z11 ?z12 ?z13 ?z14 ?z15 ?z16 ?z17 ?z18 ?z19 ?z20
    (case a0 => k_is); (case l0 => k_is); (case c0 => k_is); (case k0 => k_is)
    (case a1 => k_is); (case l1 => k_is); (case c1 => k_is); (case k1 => k_is)
    (case a2 => k_is); (case l2 => k_is); (case c2 => k_is); (case k2 => k_is)
    (case a3 => k_is); (case l3 => k_is); (case c3 => k_is); (case k3 => k_is)
    (case a4 => k_is); (case l4 => k_is); (case c4 => k_is); (case k4 => k_is)
    (case a5 => k_is); (case l5 => k_is); (case c5 => k_is); (case k5 => k_is)
    (case a6 => k_is); (case l6 => k_is); (case c6 => k_is); (case k6 => k_is)
    (case a7 => k_is); (case l7 => k_is); (case c7 => k_is); (case k7 => k_is)
    (case a8 => k_is); (case l8 => k_is); (case c8 => k_is); (case k8 => k_is)
    (case a9 => k_is); (case l9 => k_is); (case c9 => k_is); (case k9 => k_is)
    (case a10 => k_is); (case l10 => k_is); (case c10 => k_is); (case k10 => k_is)
    (case a11 => k_is); (case l11 => k_is); (case c11 => k_is); (case k11 => k_is)
    (case a12 => k_is); (case l12 => k_is); (case c12 => k_is); (case k12 => k_is)
    (case a13 => k_is); (case l13 => k_is); (case c13 => k_is); (case k13 => k_is)
    (case z0 => k_is); (case z1 => k_is); (case z2 => k_is); (case z3 => k_is)
    (case z4 => k_is); (case z5 => k_is); (case z6 => k_is); (case z7 => k_is)
    (case z8 => k_is); (case z9 => k_is); (case z10 => k_is); (case z11 => k_is)
    (case z12 => k_is); (case z13 => k_is); (case z14 => k_is); (case z15 => k_is)
    (case z16 => k_is); (case z17 => k_is); (case z18 => k_is); (case z19 => k_is)
    (case z20 => k_is)

