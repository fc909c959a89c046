import PyProof.Rows.All
import Wide.All
import OpenK.AllK
import Wide.FinOn
import HandS.ForMost
import HandS.Exc
import HandS.EndBits
import HandS.Wide
import HandS.Codes
import HandS.TupAny
import HandS.IsInst
import HandS.Walk
import HandS.Flow
import HandS.SetKeys
import HandS.SortKw
import HandS.Style
import KE.SortData
import HandS.More
import HandS.DictComp
import PySem.Challenge.RW_threeturned_k24_whole_every_feasible_lif
import HandS.Defaults
import HandS.Deep
import PyProof.RowDictHeap
import PyProof.ReprRoads
import PyProof.ReprBulk
import HandS.ExcInit
import HandS.ExcIs
import HandS.ExcField
import HandS.Nested
import KE.GoesEnum
import KE.GoesMore
import HandS.Finally
import PyProof.DictUpdate
import HandS.RaiseMore
import HandS.Lambda
import KE.DataMinKey
import HandS.WordsExc
import PyProof.P3In
import HandS.EndTab
set_option Elab.async false
set_option linter.all false
set_option maxRecDepth 100000
set_option maxHeartbeats 4000000
/-! calls with room and with nothing being shown (guards known) -/
namespace U
open PySem PySem.Spec PyProof.Rows L2

/-- room for k calls, and no repr is under way -/
structure Rm (k : Nat) (A : Around) : Prop where
  r : Room k A
  g : A.guards = some []
theorem Rm.mono {j k : Nat} {A : Around} (h : Rm k A) (hj : j ≤ k) : Rm j A := ⟨h.r.mono hj, h.g⟩
theorem Rm.deeper {k : Nat} {A : Around} (h : Rm (k + 1) A) (env : Env) : Rm k (A.deeper env) := ⟨h.r.deeper env, h.g⟩
theorem Rm.u1 {k : Nat} {A : Around} (h : Rm k A) : A.units + 1 < cLine := by
  have z := h.r.un
  omega
theorem Rm.u64 {k : Nat} {A : Around} (h : Rm k A) : A.units + 64 < cLine := h.r.units
theorem Rm.u0 {k : Nat} {A : Around} (h : Rm k A) : A.units < cLine := by
  have z := h.r.un
  omega
theorem Rm.u100 {k : Nat} {A : Around} (h : Rm k A) : A.units + 150 < cLine := by
  have z := h.r.un
  omega

/-- the def at f keeps the promise sp -/
structure FnG (P : Program) (w : World) (K : PySem.W.Frag) (mg : Str → Option Value) (base : Heap) (CX : CXT) (k : Nat) (f : Addr) (fd : FuncData) (ps : List Str) (sp : Sp) : Prop where
  len : ∀ vs H Q E, sp vs H Q E → vs.length = ps.length
  go : ∀ (A : Around) (outer : List Env) (s : Shared) (H : Hp) (args : Args) (us : List Value) (vs : List V) (Q : VK) (E : XK), Rm k A →
    Env0 P w K mg base A outer s H → BindsTo s fd args (ps.zip us) → Vals vs us → sp vs H Q E → codeAny (model P w) A (.call (.ref f) args) (CR CX outer P w H s Q E) s
/-- room ran out of is no way: L2's own promise serves -/
theorem FnG.of {P : Program} {w : World} {K : PySem.W.Frag} {mg : Str → Option Value} {base : Heap} {CX : CXT} {k : Nat} {f : Addr} {fd : FuncData} {ps : List Str} {sp : Sp} (F : FnOk P w K mg base CX k f fd ps sp) : FnG P w K mg base CX k f fd ps sp :=
  ⟨F.len, fun A outer s H args us vs Q E hr => F.run A outer s H args us vs Q E hr.r⟩

section
variable {P : Program} {w : World} {K : PySem.W.Frag} {mg : Str → Option Value} {base : Heap} {CX : CXT}
/-- a def by its body -/
theorem fnG {x qual : Str} {st : Stmt} {f : Addr} {fd : FuncData} {N ps : List Str} {k : Nat} {sp : Sp} (F : Fun K x qual st f fd) (S : FnScope N ps (defScope st)) (len : ∀ vs H Q E, sp vs H Q E → vs.length = ps.length)
    (body : ∀ (cdv : Value) (A : Around) (outer : List Env) (s : Shared) (H : Hp) (vs : List V) (Q : VK) (E : XK), Rm k (A.deeper (envOfC qual (defScope st) s.heap.objs.size f cdv)) → sp vs H Q E →
      ∃ t, PSs (cxOf CX P w K mg base N qual (defScope st) f cdv A outer s H E) (defBody st) t ∧ t { nx := fun _ H' => Q .non H', rt := Q } (start N vs) H) :
    FnG P w K mg base CX (k + 1) f fd ps sp := by
  obtain ⟨oc, od, kV, doc, pm, an, cdv, ct, osl, rfl, lk, hcd⟩ := F.ex
  refine ⟨len, fun A outer s H args us vs Q E room e0 bd rel want => ?_⟩
  have count := len _ _ _ _ want
  have kin : K.In s.heap := e0.mod.kin.keeps fun b o e => (e0.bs b o e).1
  have kinds : ∀ y ∈ ps.zip us, (defScope st).names.lookup y.1 = some .local ∨ ((defScope st).names.lookup y.1 = some .cell ∧ ((cellsFrom (s.heap.objs.size + 1) (defScope st).names []).lookup y.1).isSome = true) := by
    rintro ⟨n, v⟩ hy
    cases S.par n (List.of_mem_zip hy).1 with
    | inl q => exact .inl q
    | inr q => exact .inr ⟨q, PySem.W.cellsFrom_some _ _ _ (.inl q)⟩
  apply codeAny_call_function room.r.depth (kin _ _ lk) rfl S.co S.gen rfl (PySem.W.codeRec_of kin hcd) (bd _ _ _ _ _)
  apply wpAny_newFunctionEnv_cells S.kind kinds
  intro env he s1 x
  subst he
  have lim : s.heap.NoLimit := e0.mod.nolimit.keeps fun b o e => (e0.bs b o e).1
  refine ⟨lim.keeps x.toInCall.keep, codeAny_func ?_⟩
  obtain ⟨t, ht, want'⟩ := body cdv A outer s H vs Q E (room.deeper _) want
  have I := inv_start (CX := CX) (P := P) (w := w) (K := K) (mg := mg) (base := base) (E := E) S room.r.hd e0 count rel x
  refine wpAny_mono (ht.run [] s1 (start N vs) H _ I want') ?_ fun e s' hs => hs
  intro fl s' hs
  cases fl with
  | ret u =>
    obtain ⟨v, σ', H', J, rv, q⟩ := hs
    exact ⟨v, H', J.os, J.bare, J.base, J.hok, rv, q⟩
  | next =>
    obtain ⟨σ', H', J, q⟩ := hs
    exact ⟨V.non, H', J.os, J.bare, J.base, J.hok, rfl, q⟩
  | brk => exact hs.elim fun _ z => z.elim fun _ z => z.2.elim
  | cont => exact hs.elim fun _ z => z.elim fun _ z => z.2.elim
/-- a def that no exception leaves -/
theorem fnG0 {x qual : Str} {st : Stmt} {f : Addr} {fd : FuncData} {N ps : List Str} {k : Nat} {sp : Sp} (F : Fun K x qual st f fd) (S : FnScope N ps (defScope st)) (len : ∀ vs H Q E, sp vs H Q E → vs.length = ps.length)
    (body : ∀ (cdv : Value) (A : Around) (outer : List Env) (s : Shared) (H : Hp) (vs : List V) (Q : VK) (E : XK), Rm k (A.deeper (envOfC qual (defScope st) s.heap.objs.size f cdv)) → sp vs H Q E →
      ∃ t, PSs (cxOf CX0 P w K mg base N qual (defScope st) f cdv A outer s H E).nox (defBody st) t ∧ t { nx := fun _ H' => Q .non H', rt := Q } (start N vs) H) :
    FnG P w K mg base CX0 (k + 1) f fd ps sp := fnG F S len fun cdv A outer s H vs Q E hr h => by
  obtain ⟨t, p, q⟩ := body cdv A outer s H vs Q E hr h
  exact ⟨t, p.nox, q⟩
/-- a def that may be called by its global name -/
structure Cal (P : Program) (w : World) (K : PySem.W.Frag) (mg : Str → Option Value) (base : Heap) (CX : CXT) (k : Nat) (x : Str) (sp : Sp) : Prop where
  ex : ∃ (f : Addr) (fd : FuncData) (ps : List Str), FnG P w K mg base CX k f fd ps sp ∧ mg x = some (.ref f) ∧ PySem.W.keepIn K (.ref f) = true ∧ Binds K fd ps []
end

section
variable {X : Cx} {CX : L2.CXT} {k j : Nat} {f : Addr} {fd : FuncData} {ps : List Str} {sp : Sp} {E : XK} {x : Str} {p pos : Pos} {e : Expr} {es : List Expr} {t : TA}
theorem callG {pins : List (Addr × Obj)} {σ : L2.St} {H : Hp} {s : Shared} {Q : VK} {us : List Value} {vs : List V} (F : FnG X.prog X.w X.K X.mg X.base CX k f fd ps sp) (hr : Rm k X.A) (hb : Binds X.K fd ps []) (hx : Passes CX X E)
    (I : Inv X pins σ H s) (r : Vals vs us) (h : sp vs H Q E) : wpAny (model X.prog X.w) X.A (call (.ref f) us) (EP X pins σ Q) X.xe s := by
  have count : us.length = ps.length := r.length ▸ F.len _ _ _ _ h
  have bd := hb s us I.kIn (by rw [List.append_nil]; exact count)
  rw [List.append_nil] at bd
  refine wpAny_call (codeAny_mono (F.go X.A X.stack s H ⟨us, []⟩ us vs Q E hr I.env0 bd r h) ?_)
  intro res s' hq
  cases res with
  | error er => exact hx pins σ H s er s' I hq
  | ok fl =>
    cases fl with
    | ret u => exact I.after hq
    | next => exact hq.elim
    | brk => exact hq.elim
    | cont => exact hq.elim
/-- f(..): the promise -/
def tC1 (sp : Sp) (E : XK) (t : TA) : TE := fun σ H Q => t σ H fun vs H1 => sp vs H1 Q E
theorem pe_cG (c : Cal X.prog X.w X.K X.mg X.base CX k x sp) (hr : Rm j X.A) (hk : k ≤ j) (hg : Gl X x) (hx : Passes CX X E) (ha : PA X (e :: es) t)
    (hdb : (x == ("__debug__" : Str)) = false := by decide) (he : starEach (e :: es) X.env = (false, eval e X.env) :: starEach es X.env := by rfl) (hpl : (backTo pos (starEach es X.env)).any (·.1) = false := by rfl) :
    PE X (.Call (.Name x p) (e :: es) [] pos) (tC1 sp E t) := by
  obtain ⟨f, fd, ps, F, hm, kp, b⟩ := c.ex
  refine ⟨fun pins s σ H Q I h => wpAny_Call_Name_kw (ld_glob I hg hm ?_ hdb)⟩
  refine PySem.W.callWith_K (h₀ := X.base) I.ok.mod.kin kp (thn (ha.run pos pins s σ H _ I h) ?_) he hpl
  rintro us s1 ⟨vs, H1, I1, r, q⟩
  exact ⟨I1.kIn, callG F (hr.mono hk) b hx I1 r q⟩
/-- f() -/
theorem pe_cG0 (c : Cal X.prog X.w X.K X.mg X.base CX k x sp) (hr : Rm j X.A) (hk : k ≤ j) (hg : Gl X x) (hx : Passes CX X E)
    (hdb : (x == ("__debug__" : Str)) = false := by decide) : PE X (.Call (.Name x p) [] [] pos) (tC1 sp E tNil) := by
  obtain ⟨f, fd, ps, F, hm, kp, b⟩ := c.ex
  refine ⟨fun pins s σ H Q I h => wpAny_Call_Name_kw (ld_glob I hg hm ?_ hdb)⟩
  exact PySem.W.callWith_K0 I.kIn kp (callG (us := []) F (hr.mono hk) b hx I .nil h)
theorem pe_c (c : Cal X.prog X.w X.K X.mg X.base CX0 k x sp) (hr : Rm j X.A) (hk : k ≤ j) (hg : Gl X x) (ha : PA X (e :: es) t)
    (hdb : (x == ("__debug__" : Str)) = false := by decide) (he : starEach (e :: es) X.env = (false, eval e X.env) :: starEach es X.env := by rfl) (hpl : (backTo pos (starEach es X.env)).any (·.1) = false := by rfl) :
    PE X (.Call (.Name x p) (e :: es) [] pos) (tC1 sp E0 t) := pe_cG c hr hk hg pass0 ha hdb he hpl
/-- .. what is raised is wished for at the caller's slots -/
def tC2 (sp : Sp) (W : WX) (t : TA) : TE := fun σ H Q => t σ H fun vs H1 => sp vs H1 Q fun cls d H' => W cls d σ H'
theorem pe_cX {W : WX} (c : Cal X.prog X.w X.K X.mg X.base (L2.CX X.prog X.w) k x sp) (hr : Rm j X.A) (hk : k ≤ j) (hg : Gl X x) (tk : Takes X W) (ha : PA X (e :: es) t)
    (hdb : (x == ("__debug__" : Str)) = false := by decide) (he : starEach (e :: es) X.env = (false, eval e X.env) :: starEach es X.env := by rfl) (hpl : (backTo pos (starEach es X.env)).any (·.1) = false := by rfl) :
    PE X (.Call (.Name x p) (e :: es) [] pos) (tC2 sp W t) := by
  obtain ⟨f, fd, ps, F, hm, kp, b⟩ := c.ex
  refine ⟨fun pins s σ H Q I h => wpAny_Call_Name_kw (ld_glob I hg hm ?_ hdb)⟩
  refine PySem.W.callWith_K (h₀ := X.base) I.ok.mod.kin kp (thn (ha.run pos pins s σ H _ I h) ?_) he hpl
  rintro us s1 ⟨vs, H1, I1, r, q⟩
  refine ⟨I1.kIn, ?_⟩
  have count : us.length = ps.length := r.length ▸ F.len _ _ _ _ q
  have bd := b s1 us I1.kIn (by rw [List.append_nil]; exact count)
  rw [List.append_nil] at bd
  refine wpAny_call (codeAny_mono (F.go X.A X.stack s1 H1 ⟨us, []⟩ us vs _ _ (hr.mono hk) I1.env0 bd r q) ?_)
  intro res s' hq
  cases res with
  | error er => exact tk er s' (XE.of_call I1 (fun cls d H' z => z) hq)
  | ok fl =>
    cases fl with
    | ret u => exact I1.after hq
    | next => exact hq.elim
    | brk => exact hq.elim
    | cont => exact hq.elim
end

/-! ### the law's own head -/
theorem law_G {P : Program} {w : World} {K : PySem.W.Frag} {mg mb : Str → Option Value} {k : Nat} {fa a : Addr} {fd : FuncData} {x : Str} {sp : Sp} {s₁ : Shared} {vs : List Value} {ns : List Int}
    (KX : K.In s₁.heap) (hns : s₁.heap.Ns mainGlobals mg) (hb : s₁.heap.Ns builtinsNs mb) (hbb : ∀ x : Str, x ≠ "__name__" → mb x = bootBuiltins x) (hlim : s₁.heap.NoLimit) (hg : s₁.gens = #[])
    (ha : s₁.heap.get? a = some { cls := .type "list", data := .seq vs.toArray }) (hi : IntsAre vs ns) (hl : ns.length ≤ sizeLine) (hr : Room k callerA)
    (F : ∀ base : Heap, K.In base → base.Ns mainGlobals mg → FnG P w K mg base CX0 k fa fd [x] sp) (hbind : ∀ (s : Shared) (u : Value), BindsTo s fd ⟨[u], []⟩ [(x, u)])
    (hsp : ∀ H : Hp, Only H → SqL K H a (ns.map V.int) → sp [.ref a] H (fun v _ => v = .bl true) fun _ _ _ => False) :
    codeAny (model P w) callerA (.call (.ref fa) ⟨[.ref a], []⟩) (fun r s' => r = .ok (.ret (.bool true)) ∧ OldK s₁.heap s'.heap ∧ s'.os = s₁.os ∧ AllBare s'.gens) s₁ := by
  /- the promise as L2's head asks it: of room alone; it asks it of callerA alone -/
  have Z : ∀ base : Heap, K.In base → base.Ns mainGlobals mg → ∀ (outer : List Env) (s : Shared) (H : Hp) (args : Args) (us : List Value) (vs : List V) (Q : VK) (E : XK),
      Env0 P w K mg base callerA outer s H → BindsTo s fd args ([x].zip us) → Vals vs us → sp vs H Q E → codeAny (model P w) callerA (.call (.ref fa) args) (CR CX0 outer P w H s Q E) s :=
    fun base h1 h2 outer s H args us vs Q E e b r q => (F base h1 h2).go callerA outer s H args us vs Q E ⟨hr, rfl⟩ e b r q
  have rv := vals_ints hi
  have lenV := hi.length
  have main : ∀ H : Hp, Only H → SqL K H a (ns.map V.int) → HOk P w H s₁.heap → (∀ b, H b ≠ none → b = a) → (H a ≠ none → K.lookup a = none) →
      codeAny (model P w) callerA (.call (.ref fa) ⟨[.ref a], []⟩) (fun r s' => r = .ok (.ret (.bool true)) ∧ OldK s₁.heap s'.heap ∧ s'.os = s₁.os ∧ AllBare s'.gens) s₁ := by
    intro H only seq ok only_a own
    have free_dict : ∀ {b : Addr} {o : Obj} {es : Array DictEntry} {ep : Nat}, s₁.heap.get? b = some o → o.data = .dict es ep → H b = none := by
      intro b o es ep e d
      cases q : H b with
      | none => rfl
      | some u =>
        obtain rfl : b = a := only_a b (by rw [q]; simp)
        obtain rfl := Option.some.inj (ha.symm.trans e)
        cases d
    have stays : ∀ {b : Addr} {m : Str → Option Value}, s₁.heap.Ns b m → (hidT s₁.heap H).Ns b m := by
      rintro b m ⟨o, es, ep, e, d, r⟩
      exact ⟨o, es, ep, hidT_get e (free_dict e d), d, r⟩
    have kin : K.In (hidT s₁.heap H) := by
      intro b o e
      refine hidT_get (KX b o e) ?_
      cases q : H b with
      | none => rfl
      | some u =>
        obtain rfl : b = a := only_a b (by rw [q]; simp)
        rw [own (by rw [q]; simp)] at e
        cases e
    have md : Mod K mg (hidT s₁.heap H) := ⟨kin, stays hns, ⟨mb, stays hb, hbb⟩, by
      obtain ⟨mc, h1, h2⟩ := hlim
      exact ⟨mc, stays h1, h2⟩⟩
    have e0 : Env0 P w K mg (hidT s₁.heap H) callerA [] s₁ H := ⟨rfl, md, fun b o e => of_hidT e, Nat.le_of_eq (hidT_size _ _), trivial, fun b z => (List.not_mem_nil z).elim, ok, .of_eq hg⟩
    refine codeAny_mono (Z _ kin (stays hns) [] s₁ H ⟨[.ref a], []⟩ [.ref a] [.ref a] _ _ e0 (hbind s₁ (.ref a)) (.cons rfl .nil) (hsp H only seq)) ?_
    intro r s' h
    cases r with
    | error e => exact h.elim
    | ok fl =>
      cases fl with
      | next => exact h.elim
      | brk => exact h.elim
      | cont => exact h.elim
      | ret u =>
        obtain ⟨v, H', os, bare, un, ok', r', q⟩ := h
        have q' : v = .bl true := q
        subst q'
        obtain rfl : u = Value.bool true := r'
        refine ⟨rfl, OldK.of_keep ?_, os, bare⟩
        intro b o e
        cases q : H b with
        | none => exact un.keep b o e q (fun z => (List.not_mem_nil z).elim) (fun z => (List.not_mem_nil z).elim)
        | some u =>
          rcases only b with z | ⟨ob, xs, z⟩
          · rw [q] at z; cases z
          · obtain ⟨e1, _⟩ := ok b _ z
            obtain ⟨e2, _⟩ := ok' b _ (un.frzs b ob _ z)
            exact (Option.some.inj (e1.symm.trans e)) ▸ e2
  cases hk : K.lookup a with
  | some o =>
    obtain rfl := Option.some.inj (ha.symm.trans (KX a o hk))
    refine main (fun _ => none) (fun _ => .inl rfl) (.inr ⟨_, vs.toArray, _, hk, rfl, rfl, rfl, ?_, by simpa using rv⟩) (fun b u z => nomatch z) (fun b z => (z rfl).elim) fun z => (z rfl).elim
    rw [List.size_toArray, lenV]
    exact hl
  | none =>
    refine main (fun b => if b = a then some (.frz { cls := .type "list", data := .seq vs.toArray } (.lst (ns.map V.int))) else none) (fun b => ?_) (.inl (.inr ⟨_, if_pos rfl⟩)) (fun b u z => ?_) (fun b z => ?_) fun _ => hk
    · by_cases hb : b = a
      · exact .inr ⟨_, _, if_pos hb⟩
      · exact .inl (if_neg hb)
    · by_cases hb : b = a
      · subst hb
        obtain rfl := Option.some.inj ((if_pos rfl).symm.trans z)
        exact ⟨ha, by rw [List.length_map]; exact hl, vs, _, rv, ha⟩
      · exact nomatch (if_neg hb).symm.trans z
    · by_cases hb : b = a
      · exact hb
      · exact absurd (if_neg hb) z
theorem walk_G {l : PySem.W.OpenLaw} {n k : Nat} {q : Program} {loose : List Str} {XP : (Str → Option Value) → Heap → Prop} {YP : World → Heap → Prop} {d : DefRec} {K : Params → PySem.W.Frag} {sp : PySem.W.Frag → Sp} {x : Str}
    (hn : l.most = some n) (hn2 : n ≤ sizeLine) (hdf : d.params.defaults = []) (hr : Room k callerA)
    (hY : ∀ (w : World) (h : Heap), YP w h → (K w.params).In h)
    (F : ∀ (w : World) (mg : Str → Option Value) (fa : Addr) (h : Heap), (K w.params).In h → h.Ns mainGlobals mg → mg d.name = some (.ref fa) →
      ∃ fd : FuncData, (∀ (s : Shared) (u : Value), BindsTo s fd ⟨[u], []⟩ [(x, u)]) ∧
        ∀ base : Heap, (K w.params).In base → base.Ns mainGlobals mg → FnG l.prog w (K w.params) mg base CX0 k fa fd [x] (sp (K w.params)))
    (hsp : ∀ (K : PySem.W.Frag) (H : Hp) (a : Addr) (ns : List Int), ns.length ≤ n → (∀ z ∈ ns, Builtin.Int.intBits z ≤ 1048576) → Only H → SqL K H a (ns.map V.int) → sp K [.ref a] H (fun v _ => v = .bl true) fun _ _ _ => False) :
    PySem.W.WalkO q loose XP YP l.row.toRowW d [] (fun f vs => PySem.call f vs) := by
  refine Att.attach_callB hn hdf ?_
  intro w s₀ s₁ mg mb fa o pm cd doc a vs ns G Y ho hd hcd hmg hobj hints hlen bits hg
  obtain ⟨fd, hb, hF⟩ := F w mg fa _ (hY w _ Y) G.T.g hmg
  exact law_G (hY w _ Y) G.T.g G.T.b G.T.builtins G.T.nolimit hg hobj hints (Nat.le_trans hlen hn2) hr hF hb fun H only seq => hsp _ H a ns hlen bits only seq
end U

/-! operators by the values that come: one rule an operator -/
namespace U
open PySem PySem.Spec PyProof.Rows L2
section
variable {X : Cx}

/-! ### names of the world -/
theorem bb_len : bootBuiltins "len" = some (.builtin "len") := by decide +kernel
theorem bb_abs : bootBuiltins "abs" = some (.builtin "abs") := by decide +kernel
theorem bb_max : bootBuiltins "max" = some (.builtin "max") := by decide +kernel
theorem bb_min : bootBuiltins "min" = some (.builtin "min") := by decide +kernel
theorem bb_sorted : bootBuiltins "sorted" = some (.builtin "sorted") := by decide +kernel
theorem bb_sum : bootBuiltins "sum" = some (.builtin "sum") := by decide +kernel
theorem bb_all : bootBuiltins "all" = some (.builtin "all") := by decide +kernel
theorem bb_any : bootBuiltins "any" = some (.builtin "any") := by decide +kernel
theorem bb_isinstance : bootBuiltins "isinstance" = some (.builtin "isinstance") := by decide +kernel
theorem bb_repr : bootBuiltins "repr" = some (.builtin "repr") := by decide +kernel
theorem bb_int : bootBuiltins "int" = some (.type "int") := by decide +kernel
theorem bb_list : bootBuiltins "list" = some (.type "list") := by decide +kernel
theorem bb_tuple : bootBuiltins "tuple" = some (.type "tuple") := by decide +kernel
theorem bb_dict : bootBuiltins "dict" = some (.type "dict") := by decide +kernel
theorem bb_str : bootBuiltins "str" = some (.type "str") := by decide +kernel
theorem bb_bool : bootBuiltins "bool" = some (.type "bool") := by decide +kernel
theorem bb_set : bootBuiltins "set" = some (.type "set") := by decide +kernel
theorem pe_ty {x : Str} {T : String} {pos : Pos} (hg : Gl X x) (hm : X.mg x = none) (hv : bootBuiltins x = some (.type T)) (hn : x ≠ "__name__" := by decide) (hd : (x == ("__debug__" : Str)) = false := by decide) :
    PE X (.Name x pos) (tC (.ty T)) := pe_bltn hg hm hv rfl hn hd
theorem pe_gl {x : Str} {v : V} {pos : Pos} (hg : Gl X x) (h : ∃ u, X.mg x = some u ∧ RelV v u) (hd : (x == ("__debug__" : Str)) = false := by decide) : PE X (.Name x pos) (tC v) := by
  obtain ⟨u, hm, r⟩ := h
  exact pe_glob hg hm r hd

/-! ### + - * % // ** -/
/-- what is wanted where a new list, a new tuple comes -/
def nL (xs : List V) (H : Hp) (Q : VK) : Prop := ∀ p, H p = none → Q (.ref p) (upd H p (.lst xs))
def nT (xs : List V) (H : Hp) (Q : VK) : Prop := ∀ p, H p = none → Q (.ref p) (upd H p (.tup xs))
def rAddU (K : PySem.W.Frag) : R2 := fun x y H Q => match x, y with
  | .int i, .int j => Q (.int (i + j)) H
  | .str a, .str b => a.length + b.length ≤ sizeLine ∧ Q (.str (a ++ b)) H
  | .ref a, .ref b => (∃ xs ys, H a = some (.lst xs) ∧ H b = some (.lst ys) ∧ xs.length + ys.length ≤ sizeLine ∧ nL (xs ++ ys) H Q) ∨ rCatA K (.ref a) (.ref b) H Q
  | _, _ => False
theorem uAdd : OpR X (binaryOp .Add) (rAddU X.K) := by
  intro pins s σ H x y v u Q I rx ry h
  cases x <;> cases y <;> first | exact h.elim | skip
  · exact op_add pins s σ H _ _ v u Q I rx ry ⟨_, _, rfl, rfl, h⟩
  · exact op_add_str pins s σ H _ _ v u Q I rx ry ⟨_, _, rfl, rfl, h⟩
  · rcases h with ⟨xs, ys, h1, h2, h3, h4⟩ | h
    · exact op_cat pins s σ H _ _ v u Q I rx ry ⟨_, _, _, _, rfl, rfl, h1, h2, h3, h4⟩
    · exact op_catA pins s σ H _ _ v u Q I rx ry h
def rSubU : R2 := fun x y H Q => match x, y with
  | .int i, .int j => Q (.int (i - j)) H
  | _, _ => False
theorem uSub : OpR X (binaryOp .Sub) rSubU := by
  intro pins s σ H x y v u Q I rx ry h
  cases x <;> cases y <;> first | exact h.elim | exact op_sub pins s σ H _ _ v u Q I rx ry ⟨_, _, rfl, rfl, h⟩
/-- a text k times -/
def timesS (z : Str) (k : Int) : Str := ⟨((List.replicate k.toNat z.cps.toList).flatten).toArray⟩
theorem timesS_one (z : Str) : timesS z 1 = z := by
  unfold timesS
  simp
theorem timesS_neg {z : Str} {k : Int} (h : k < 1) : timesS z k = Str.empty := by
  unfold timesS
  have e : k.toNat = 0 := by omega
  rw [e]
  rfl
theorem fold_rep (a : Array Nat) : ∀ (n : Nat) (acc : Array Nat), (List.replicate n a).foldl (· ++ ·) acc = acc ++ ((List.replicate n a.toList).flatten).toArray
  | 0, acc => by simp
  | n + 1, acc => by
    rw [List.replicate_succ, List.foldl_cons, fold_rep a n, List.replicate_succ, List.flatten_cons]
    apply Array.ext'
    simp
theorem timesS_nil {z : Str} {k : Int} (h : z.length = 0) : timesS z k = z := by
  obtain ⟨a⟩ := z
  have e : a = #[] := Array.size_eq_zero_iff.mp h
  subst e
  unfold timesS
  have : (List.replicate k.toNat ([] : List Nat)).flatten = [] := by
    rw [List.flatten_eq_nil_iff]
    intro l hl
    exact List.eq_of_mem_replicate hl
  show (⟨((List.replicate k.toNat ([] : List Nat)).flatten).toArray⟩ : Str) = ⟨#[]⟩
  rw [this]
def rMulU : R2 := fun x y H Q => match x, y with
  | .int i, .int j => (CMul i j ∨ CMulW i j) ∧ Q (.int (i * j)) H
  | .str z, .int k => (0 ≤ k ∧ k ≤ 1000 ∧ z.length ≤ 1000) ∧ Q (.str (timesS z k)) H
  | .ref l, .int k => rRep (.ref l) (.int k) H Q
  | _, _ => False
theorem uMul : OpR X (binaryOp .Mult) rMulU := by
  intro pins s σ H x y v u Q I rx ry h
  cases x <;> cases y <;> first | exact h.elim | skip
  · obtain ⟨c | c, h⟩ := h
    · exact op_mul pins s σ H _ _ v u Q I rx ry ⟨_, _, rfl, rfl, c, h⟩
    · exact op_mulW pins s σ H _ _ v u Q I rx ry ⟨_, _, rfl, rfl, c, h⟩
  · rename_i z k
    obtain ⟨⟨h0, h1, hz⟩, q⟩ := h
    obtain ⟨t, rfl⟩ := rx
    obtain ⟨t', rfl⟩ := ry
    have hl : z.length * k.toNat ≤ 1000 * 1000 := Nat.mul_le_mul hz (by omega)
    refine P.mul_str ?_ ?_ ?_ ?_
    · have a : ¬ k < -(2 ^ 63) := by omega
      have b : ¬ k ≥ 2 ^ 63 := by omega
      rw [decide_eq_false a, decide_eq_false b]
      rfl
    · intro _ _ bad
      have : (z.length : Int) ≤ 1000 := by omega
      have e : (1000 : Int) ≤ (2 ^ 63 - 1) / k := by
        rw [Int.le_ediv_iff_mul_le (by omega)]
        have : (1000 : Int) * k ≤ 1000 * 1000 := Int.mul_le_mul_of_nonneg_left h1 (by decide)
        omega
      omega
    · intro _ _
      unfold Builtin.Str.tooLong
      have : z.length * k.toNat ≤ sizeLine := Nat.le_trans hl (by decide)
      simp
      exact this
    · split
      · rename_i hk
        rw [timesS_neg hk] at q
        exact ⟨by decide, ⟨.str Str.empty, H, I.tok _, ⟨_, rfl⟩, q⟩⟩
      · split
        · rename_i hk hc
          have e : timesS z k = z := by
            rcases (Bool.or_eq_true _ _).mp hc with c | c
            · have : k = 1 := by simpa using c
              rw [this, timesS_one]
            · exact timesS_nil (by simpa using c)
          rw [e] at q
          exact ⟨.str z, H, I.tok _, ⟨_, rfl⟩, q⟩
        · have e : (⟨(List.replicate k.toNat z.cps).foldl (· ++ ·) #[]⟩ : Str) = timesS z k := by
            rw [fold_rep]
            unfold timesS
            congr 1
            simp
          rw [e]
          refine ⟨?_, ⟨.str (timesS z k), H, I.tok _, ⟨_, rfl⟩, q⟩⟩
          have : (timesS z k).length = k.toNat * z.length := by
            unfold timesS Str.length
            simp
          rw [this, Nat.mul_comm]
          exact Nat.le_trans hl (by decide)
  · exact op_rep pins s σ H _ _ v u Q I rx ry h
def rModU : R2 := fun x y H Q => match x, y with
  | .int i, .int j => 0 < j ∧ Q (.int (i % j)) H
  | _, _ => False
theorem uMod : OpR X (binaryOp .Mod) rModU := by
  intro pins s σ H x y v u Q I rx ry h
  cases x <;> cases y <;> first | exact h.elim | exact op_mod pins s σ H _ _ v u Q I rx ry ⟨_, _, rfl, rfl, h.1, h.2⟩
def rDivU : R2 := fun x y H Q => match x, y with
  | .int i, .int j => (0 < j ∧ j < 1073741824) ∧ Q (.int (i / j)) H
  | _, _ => False
theorem uDiv : OpR X (binaryOp .FloorDiv) rDivU := by
  intro pins s σ H x y v u Q I rx ry h
  cases x <;> cases y <;> first | exact h.elim | exact op_fdiv pins s σ H _ _ v u Q I rx ry ⟨_, _, rfl, rfl, h.1, h.2⟩
def rPowU : R2 := fun x y H Q => match x, y with
  | .int i, .int j => CPow i j ∧ Q (.int (i ^ j.toNat)) H
  | _, _ => False
theorem uPow : OpR X (binaryOp .Pow) rPowU := by
  intro pins s σ H x y v u Q I rx ry h
  cases x <;> cases y <;> first | exact h.elim | exact op_pow pins s σ H _ _ v u Q I rx ry ⟨_, _, rfl, rfl, h.1, h.2⟩

/-! ### < <= > >= -/
def rLtU : R2 := fun x y H Q => match x, y with
  | .int i, .int j => Q (.bl (decide (i < j))) H
  | .str a, .str b => Q (.bl (decide (a.cps.toList < b.cps.toList))) H
  | _, _ => False
theorem uLt : OpR X (compareOp .Lt) rLtU := by
  intro pins s σ H x y v u Q I rx ry h
  cases x <;> cases y <;> first | exact h.elim | exact op_lt pins s σ H _ _ v u Q I rx ry ⟨_, _, rfl, rfl, h⟩ | exact op_lt_str pins s σ H _ _ v u Q I rx ry ⟨_, _, rfl, rfl, h⟩
def rLeU : R2 := fun x y H Q => match x, y with
  | .int i, .int j => Q (.bl (decide (i ≤ j))) H
  | _, _ => False
theorem uLe : OpR X (compareOp .LtE) rLeU := by
  intro pins s σ H x y v u Q I rx ry h
  cases x <;> cases y <;> first | exact h.elim | exact op_le pins s σ H _ _ v u Q I rx ry ⟨_, _, rfl, rfl, h⟩
def rGtU : R2 := fun x y H Q => match x, y with
  | .int i, .int j => Q (.bl (decide (j < i))) H
  | _, _ => False
theorem uGt : OpR X (compareOp .Gt) rGtU := by
  intro pins s σ H x y v u Q I rx ry h
  cases x <;> cases y <;> first | exact h.elim | exact op_gt pins s σ H _ _ v u Q I rx ry ⟨_, _, rfl, rfl, h⟩
def rGeU : R2 := fun x y H Q => match x, y with
  | .int i, .int j => Q (.bl (decide (j ≤ i))) H
  | _, _ => False
theorem uGe : OpR X (compareOp .GtE) rGeU := by
  intro pins s σ H x y v u Q I rx ry h
  cases x <;> cases y <;> first | exact h.elim | exact op_ge pins s σ H _ _ v u Q I rx ry ⟨_, _, rfl, rfl, h⟩

/-! ### == != is, is not -/
/-- == of any two: what is told of them is data -/
def eqB (x y : V) : Option Bool := match x, y with
  | .int i, .int j => some (decide (i = j))
  | .str a, .str b => some (decide (a = b))
  | .bl a, .bl b => some (decide (a = b))
  | .non, .non => some true
  | .int _, .str _ => some false
  | .str _, .int _ => some false
  | .non, .str _ => some false
  | .str _, .non => some false
  | .non, .int _ => some false
  | .int _, .non => some false
  | .bl _, .str _ => some false
  | .str _, .bl _ => some false
  | .bl _, .non => some false
  | .non, .bl _ => some false
  | _, _ => none
theorem eqB_scal {x y : V} {b : Bool} (h : eqB x y = some b) : scal x y = true ∧ decide (x = y) = b := by
  cases x <;> cases y <;> simp_all [eqB, scal]
def rEqU (K : PySem.W.Frag) : R2 := fun x y H Q => match eqB x y with
  | some b => Q (.bl b) H
  | none => rEqD K x y H Q
def rNeU (K : PySem.W.Frag) : R2 := fun x y H Q => match eqB x y with
  | some b => Q (.bl (!b)) H
  | none => rNeD K x y H Q
theorem uEq' (hu : X.A.units + 64 < cLine) : OpR X (compareOp .Eq) (rEqU X.K) := by
  intro pins s σ H x y v u Q I rx ry h
  unfold rEqU at h
  cases e : eqB x y with
  | some b =>
    rw [e] at h
    obtain ⟨z1, z2⟩ := eqB_scal e
    exact op_eq pins s σ H _ _ v u Q I rx ry ⟨z1, by rw [z2]; exact h⟩
  | none =>
    rw [e] at h
    exact op_eqD hu pins s σ H _ _ v u Q I rx ry h
theorem uNe' (hu : X.A.units + 64 < cLine) : OpR X (compareOp .NotEq) (rNeU X.K) := by
  intro pins s σ H x y v u Q I rx ry h
  unfold rNeU at h
  cases e : eqB x y with
  | some b =>
    rw [e] at h
    obtain ⟨z1, z2⟩ := eqB_scal e
    exact op_ne pins s σ H _ _ v u Q I rx ry ⟨z1, by rw [z2]; exact h⟩
  | none =>
    rw [e] at h
    exact op_neD hu pins s σ H _ _ v u Q I rx ry h
def rIsU : R2 := fun x y H Q => match y with
  | .non => Q (.bl (decide (x = .non))) H
  | .bl b => ∃ a, x = .bl a ∧ Q (.bl (decide (a = b))) H
  | _ => False
theorem uIs : OpR X (compareOp .Is) rIsU := by
  intro pins s σ H x y v u Q I rx ry h
  cases y <;> first | exact h.elim | exact op_isN pins s σ H _ _ v u Q I rx ry ⟨rfl, h⟩ | skip
  obtain ⟨a, rfl, h⟩ := h
  exact op_isBl pins s σ H _ _ v u Q I rx ry ⟨_, _, rfl, rfl, h⟩
def rIsNotU : R2 := fun x y H Q => match y with
  | .non => Q (.bl (!decide (x = .non))) H
  | .bl b => ∃ a, x = .bl a ∧ Q (.bl (!decide (a = b))) H
  | _ => False
theorem uIsNot : OpR X (compareOp .IsNot) rIsNotU := by
  intro pins s σ H x y v u Q I rx ry h
  cases y <;> first | exact h.elim | exact op_notN pins s σ H _ _ v u Q I rx ry ⟨rfl, h⟩ | skip
  obtain ⟨a, rfl, h⟩ := h
  exact op_notBl pins s σ H _ _ v u Q I rx ry ⟨_, _, rfl, rfl, h⟩

/-! ### in, not in: lists and tuples -/
def rInU (K : PySem.W.Frag) : R2 := fun x y H Q => match y with
  | .ref p => ∃ xs, (SqL K H p xs ∨ SqT K H p xs) ∧ ((flatV x = true ∧ xs.all flatV = true ∧ Q (.bl (inV x xs)) H))
  | _ => False
theorem uIn : OpR X (compareOp .In) (rInU X.K) := by
  intro pins s σ H x y v u Q I rx ry h
  cases y <;> first | exact h.elim | skip
  obtain ⟨xs, h1, h2, h3, h4⟩ := h
  exact op_in_seq pins s σ H _ _ v u Q I rx ry ⟨_, xs, rfl, h1, h2, h3, h4⟩
def rNotInU (K : PySem.W.Frag) : R2 := fun x y H Q => match y with
  | .ref p => ∃ xs, (SqL K H p xs ∨ SqT K H p xs) ∧ ((flatV x = true ∧ xs.all flatV = true ∧ Q (.bl (!inV x xs)) H))
  | _ => False
theorem uNotIn : OpR X (compareOp .NotIn) (rNotInU X.K) := by
  intro pins s σ H x y v u Q I rx ry h
  cases y <;> first | exact h.elim | skip
  obtain ⟨xs, h1, h2, h3, h4⟩ := h
  exact op_notIn_seq pins s σ H _ _ v u Q I rx ry ⟨_, xs, rfl, h1, h2, h3, h4⟩

/-! ### o[i], o[a:b] -/
def rIxU (K : PySem.W.Frag) : R2 := fun x y H Q => match x, y with
  | .str z, .int i => z.length ≤ sizeLine ∧ ∃ c, atI z.cps.toList i = some c ∧ Q (.str ⟨#[c]⟩) H
  | .ref p, .int i => ∃ xs, (SqL K H p xs ∨ SqT K H p xs) ∧ ∃ v, atI xs i = some v ∧ Q v H
  | _, _ => False
theorem uIx : IxR X (rIxU X.K) := by
  intro a b pins s σ H x y v u Q I rx ry h hs
  cases x <;> cases y <;> first | exact h.elim | skip
  · obtain ⟨h1, c, h2, h3⟩ := h
    exact ix_str a b pins s σ H _ _ v u Q I rx ry ⟨_, _, c, rfl, rfl, h1, h2, h3⟩ hs
  · obtain ⟨xs, h1 | h1, w', h2, h3⟩ := h
    · exact ix_list a b pins s σ H _ _ v u Q I rx ry ⟨_, xs, _, w', rfl, rfl, h1, h2, h3⟩ hs
    · exact ix_tup a b pins s σ H _ _ v u Q I rx ry ⟨_, xs, _, w', rfl, rfl, h1, h2, h3⟩ hs
end
end U

/-! slices, built-in functions by the values that come -/
namespace U
open PySem PySem.Spec PyProof.Rows L2
section
variable {X : Cx}
/-! ### slices -/
def rSlU (K : PySem.W.Frag) : V → Option Int → Option Int → Hp → VK → Prop := fun x lo hi H Q => match x with
  | .str z => z.length ≤ sizeLine ∧ Q (.str (cutS z lo hi)) H
  | .ref a => (∃ xs, SqL K H a xs ∧ nL (cutV xs lo hi) H Q) ∨ rSlA K (.ref a) lo hi H Q
  | _ => False
theorem uSl : SlR X (rSlU X.K) := by
  intro pins s σ H x v vl vu lo hi sl Q I rx hs pl pu h
  cases x <;> first | exact h.elim | skip
  · exact sl_str pins s σ H _ v vl vu lo hi sl Q I rx hs pl pu ⟨_, rfl, h.1, h.2⟩
  · rcases h with ⟨xs, h1, h2⟩ | h
    · exact sl_list pins s σ H _ v vl vu lo hi sl Q I rx hs pl pu ⟨_, xs, rfl, h1, h2⟩
    · exact sl_tupA pins s σ H _ v vl vu lo hi sl Q I rx hs pl pu h

/-! ### len, abs, max, min, int, list, tuple -/
def rLenU (K : PySem.W.Frag) : List V → Hp → VK → Prop := fun xs H Q => match xs with
  | [.str z] => z.length ≤ sizeLine ∧ Q (.int z.length) H
  | [.ref p] => (∃ ys, (SqL K H p ys ∨ SqT K H p ys) ∧ Q (.int ys.length) H) ∨ ∃ kvs, H p = some (.dK kvs) ∧ Q (.int kvs.length) H
  | _ => False
theorem cLen : CallR X (.builtin "len") (rLenU X.K) := by
  intro pins s σ H xs us Q I r h
  match xs, h with
  | [.str z], h => exact call_len_str pins s σ H _ us Q I r ⟨z, rfl, h.1, h.2⟩
  | [.ref p], .inl ⟨ys, h1, h2⟩ => exact call_len_seq pins s σ H _ us Q I r ⟨p, ys, rfl, h1, h2⟩
  | [.ref p], .inr ⟨kvs, h1, h2⟩ => exact call_lenD pins s σ H _ us Q I r ⟨p, kvs, rfl, h1, h2⟩
def rAbsU : List V → Hp → VK → Prop := fun xs H Q => match xs with
  | [.int i] => Q (.int (i.natAbs : Int)) H
  | _ => False
theorem cAbs : CallR X (.builtin "abs") rAbsU := by
  intro pins s σ H xs us Q I r h
  match xs, h with
  | [.int i], h =>
    refine call_abs pins s σ H _ us Q I r ⟨i, rfl, ?_⟩
    have e : (if i < 0 then -i else i) = (i.natAbs : Int) := by split <;> omega
    rw [e]
    exact h
def rMaxU : List V → Hp → VK → Prop := fun xs H Q => match xs with
  | [.int i, .int j] => Q (.int (max i j)) H
  | _ => False
theorem cMax (hc : X.calm = true) : CallR X (.builtin "max") rMaxU := by
  intro pins s σ H xs us Q I r h
  match xs, h with
  | [.int i, .int j], h =>
    refine call_max2 hc pins s σ H _ us Q I r ⟨i, j, rfl, ?_⟩
    have e : (if j > i then j else i) = max i j := by split <;> omega
    rw [e]
    exact h
def rMinU : List V → Hp → VK → Prop := fun xs H Q => match xs with
  | [.int i, .int j] => Q (.int (min i j)) H
  | _ => False
theorem cMin (hc : X.calm = true) : CallR X (.builtin "min") rMinU := by
  intro pins s σ H xs us Q I r h
  match xs, h with
  | [.int i, .int j], h =>
    refine call_min2 hc pins s σ H _ us Q I r ⟨i, j, rfl, ?_⟩
    have e : (if j < i then j else i) = min i j := by split <;> omega
    rw [e]
    exact h
def bToI (k : Bool) : Int := if k then 1 else 0
def rIntU : List V → Hp → VK → Prop := fun xs H Q => match xs with
  | [.int i] => Q (.int i) H
  | [.bl k] => Q (.int (bToI k)) H
  | _ => False
theorem cInt : CallR X (.type "int") rIntU := by
  intro pins s σ H xs us Q I r h
  match xs, h with
  | [.int i], h => exact call_int1 pins s σ H _ us Q I r (.inl ⟨i, rfl, h⟩)
  | [.bl k], h => exact call_int1 pins s σ H _ us Q I r (.inr ⟨k, rfl, h⟩)
def rListU (K : PySem.W.Frag) : List V → Hp → VK → Prop := fun xs H Q => match xs with
  | [.ref p] => (∃ ys, (SqL K H p ys ∨ SqT K H p ys) ∧ nL ys H Q) ∨ ∃ kvs : List (Key × V), Rd H p (.dK kvs) ∧ nL (kvs.map fun kv => kV kv.1) H Q
  | _ => False
theorem cList (hc : X.calm = true) : CallR X (.type "list") (rListU X.K) := by
  intro pins s σ H xs us Q I r h
  match xs, h with
  | [.ref p], .inl ⟨ys, h1, h2⟩ => exact call_list_of pins s σ H _ us Q I r ⟨p, ys, rfl, h1, h2⟩
  | [.ref p], .inr ⟨kvs, h1, h2⟩ => exact call_listD hc pins s σ H _ us Q I r ⟨p, kvs, rfl, h1, h2⟩
def rTupleU (K : PySem.W.Frag) : List V → Hp → VK → Prop := fun xs H Q => match xs with
  | [.ref p] => (∃ ys, SqL K H p ys ∧ nT ys H Q) ∨ ((∃ ys, SqT K H p ys) ∧ Q (.ref p) H)
  | _ => False
theorem cTuple : CallR X (.type "tuple") (rTupleU X.K) := by
  intro pins s σ H xs us Q I r h
  match xs, h with
  | [.ref p], .inl ⟨ys, h1, h2⟩ => exact call_tuple_of pins s σ H _ us Q I r ⟨p, ys, rfl, .inl ⟨h1, h2⟩⟩
  | [.ref p], .inr ⟨⟨ys, h1⟩, h2⟩ => exact call_tuple_of pins s σ H _ us Q I r ⟨p, ys, rfl, .inr ⟨h1, h2⟩⟩
def rDictU : List V → Hp → VK → Prop := fun xs H Q => match xs with
  | [.ref p] => ∃ kvs : List (Key × V), Rd H p (.dK kvs) ∧ ∀ d, H d = none → Q (.ref d) (upd H d (.dK kvs))
  | _ => False
theorem cDict : CallR X (.type "dict") rDictU := by
  intro pins s σ H xs us Q I r h
  match xs, h with
  | [.ref p], ⟨kvs, h1, h2⟩ => exact call_dictD pins s σ H _ us Q I r ⟨p, kvs, rfl, h1, h2⟩

def rSumU (K : PySem.W.Frag) : List V → Hp → VK → Prop := fun xs H Q => match xs with
  | [.ref p] => ∃ ns : List Int, SqL K H p (ns.map V.int) ∧ Q (.int ns.sum) H
  | _ => False
theorem cSum (hc : X.calm = true) : CallR X (.builtin "sum") (rSumU X.K) := by
  intro pins s σ H xs us Q I r h
  match xs, h with
  | [.ref p], ⟨ns, h1, h2⟩ => exact cr_sum hc pins s σ H _ us Q I r ⟨p, ns, rfl, h1, h2⟩
def rAllU (K : PySem.W.Frag) : List V → Hp → VK → Prop := fun xs H Q => match xs with
  | [.ref p] => ∃ bs : List Bool, SqL K H p (bs.map V.bl) ∧ Q (.bl (bs.all id)) H
  | _ => False
theorem cAll (hc : X.calm = true) : CallR X (.builtin "all") (rAllU X.K) := by
  intro pins s σ H xs us Q I r h
  match xs, h with
  | [.ref p], ⟨bs, h1, h2⟩ => exact cr_all hc pins s σ H _ us Q I r ⟨p, bs, rfl, h1, h2⟩
def rAnyU (K : PySem.W.Frag) : List V → Hp → VK → Prop := fun xs H Q => match xs with
  | [.ref p] => ∃ bs : List Bool, SqL K H p (bs.map V.bl) ∧ Q (.bl (bs.any id)) H
  | _ => False
theorem cAny (hc : X.calm = true) : CallR X (.builtin "any") (rAnyU X.K) := by
  intro pins s σ H xs us Q I r h
  match xs, h with
  | [.ref p], ⟨bs, h1, h2⟩ => exact cr_any hc pins s σ H _ us Q I r ⟨p, bs, rfl, h1, h2⟩

/-! ### sorted -/
/-- a < b, of data -/
abbrev dLt (a b : PyData) : Bool := PySem.W.dataLt a b
/-- a list of what may be sorted -/
structure Sorts (K : PySem.W.Frag) (H : Hp) (bs : List (V × PyData)) : Prop where
  dat : ∀ b ∈ bs, Dp K H b.1 b.2
  alk : PySem.W.AllAlike (bs.map (·.2))
  srt : PySem.W.Sortable (bs.map (·.2))
  dep : ∀ b ∈ bs, b.2.depth ≤ 50
  len : bs.length ≤ 100000
def rSortU (K : PySem.W.Frag) : List V → Hp → VK → Prop := fun xs H Q => match xs with
  | [.ref p] => ∃ bs : List (V × PyData), SqL K H p (bs.map (·.1)) ∧ Sorts K H bs ∧
      ∀ cs : List (V × PyData), cs.Perm bs → cs.Pairwise (fun a b => dLt b.2 a.2 = false) → nL (cs.map (·.1)) H Q
  | _ => False
theorem each_vals : ∀ {bs : List (V × PyData)} {us : List Value}, Vals (bs.map (·.1)) us → PySem.W.EachIs (fun u b => RelV b.1 u) us bs
  | [], _, r => by
    cases r
    exact .nil
  | b :: bs, _, r => by
    cases r with
    | cons r1 r2 => exact .cons r1 (each_vals r2)
theorem vals_each : ∀ {bs : List (V × PyData)} {us : List Value}, PySem.W.EachIs (fun u b => RelV b.1 u) us bs → Vals (bs.map (·.1)) us
  | [], _, r => by
    cases r
    exact .nil
  | b :: bs, _, r => by
    cases r with
    | cons r1 r2 => exact .cons r1 (vals_each r2)
theorem each_reads {pins : List (Addr × Obj)} {σ : L2.St} {H : Hp} {s : Shared} (I : Inv X pins σ H s) : ∀ {bs : List (V × PyData)} {us : List Value}, (∀ b ∈ bs, Dp X.K H b.1 b.2) → Vals (bs.map (·.1)) us → PySem.W.EachIs (fun u b => ∃ as, Reads s.heap u b.2 as) us bs
  | [], _, _, r => by
    cases r
    exact .nil
  | b :: bs, _, h, r => by
    cases r with
    | cons r1 r2 => exact .cons (Dp.reads I _ _ _ (h b List.mem_cons_self) r1) (each_reads I (fun c hc => h c (List.mem_cons_of_mem _ hc)) r2)
theorem cSorted (hu : X.A.units + 64 < cLine) : CallR X (.builtin "sorted") (rSortU X.K) := by
  intro pins s σ H xs us Q I r h
  match xs, h with
  | [.ref p], ⟨bs, hs, S, q⟩ =>
    cases r with
    | cons r rr =>
      cases rr
      cases r
      obtain ⟨its, rv, pl, hz⟩ := I.list hs
      have e1 := each_vals rv
      have hb : ∀ b, b ∈ bs → X.A.units + 2 + b.2.depth < cLine := fun b hb => by
        have := S.dep b hb
        omega
      refine PySem.W.sorted_data (vs := its) (bs := bs) (enc := fun b : V × PyData => b.2) (R := fun u b => RelV b.1 u) pl.isList e1 (each_reads I S.dat rv) S.alk S.srt ?_ hb ?_
      · rw [List.length_map] at hz
        exact hz
      · intro out ol oe
        have perm : (bs.mergeSort (PySem.W.dataLe false fun b : V × PyData => b.2)).Perm bs := List.mergeSort_perm _ _
        have srt : (bs.mergeSort (PySem.W.dataLe false fun b : V × PyData => b.2)).Pairwise (fun a b => dLt b.2 a.2 = false) :=
          (PySem.W.sort_pairwise (PySem.W.sortLe_total _ _ _) bs).imp fun {a b} z => by
            have z' : (!dLt b.2 a.2) = true := z
            simpa using z'
        generalize bs.mergeSort (PySem.W.dataLe false fun b : V × PyData => b.2) = cs at perm srt oe
        have rv2 := vals_each oe
        have hfr : s.heap.objs.size ≤ s.heap.objs.size + 1 := Nat.le_succ _
        obtain ⟨e, he⟩ := sortedAll_at s.heap its out.toArray
        have new : ObjOk X.prog X.w (upd H (s.heap.objs.size + 1) (.lst (cs.map (·.1)))) (sortedAll s.heap its out.toArray) (s.heap.objs.size + 1) (.lst (cs.map (·.1))) :=
          ⟨by rw [List.length_map, perm.length_eq]; rw [List.length_map] at hz; exact hz, out, e, rv2, he⟩
        exact ⟨.ref (s.heap.objs.size + 1), _, I.laid (t' := s.toks) (fun b u z => sortedAll_old z) hfr new, rfl, q cs perm srt _ (I.hok.fresh hfr)⟩

/-! ### isinstance of built-in classes -/
inductive Ty where
  | non | bl | int | str | lst | tup | dct
  deriving DecidableEq
def Ty.nm : Ty → String
  | .non => "NoneType"
  | .bl => "bool"
  | .int => "int"
  | .str => "str"
  | .lst => "list"
  | .tup => "tuple"
  | .dct => "dict"
def isT (a b : Ty) : Bool := decide (a = b) || (decide (a = .bl) && decide (b = .int))
theorem isT_ok (a b : Ty) (hb : b ≠ .non) : kitB a.nm b.nm = some (isT a b) := by
  cases a <;> cases b <;> first | exact absurd rfl hb | decide +kernel
/-- a value's class -/
def TyIs (K : PySem.W.Frag) (H : Hp) (x : V) (a : Ty) : Prop := TyX K H x (.type a.nm)
def tyOf : String → Option Ty
  | "bool" => some .bl
  | "int" => some .int
  | "str" => some .str
  | "list" => some .lst
  | "tuple" => some .tup
  | "dict" => some .dct
  | _ => none
theorem tyOf_ok {n : String} {t : Ty} (h : tyOf n = some t) : n = t.nm ∧ t ≠ .non := by
  unfold tyOf at h
  split at h <;> first | (cases h; exact ⟨rfl, by decide⟩) | cases h
def rIsiU (K : PySem.W.Frag) : List V → Hp → VK → Prop := fun xs H Q => match xs with
  | [x, .ty n] => ∃ a t, TyIs K H x a ∧ tyOf n = some t ∧ Q (.bl (isT a t)) H
  | _ => False
theorem cIsi : CallR X (.builtin "isinstance") (rIsiU X.K) := by
  intro pins s σ H xs us Q I r h
  match xs, h with
  | [x, .ty n], ⟨a, t, h1, h2, h3⟩ =>
    obtain ⟨e, hn⟩ := tyOf_ok h2
    exact call_isi pins s σ H _ us Q I r ⟨x, _, _, _, _, rfl, .ty n, h1, kit_ty (by rw [e]; exact isT_ok a t hn), h3⟩
theorem ty_str {K : PySem.W.Frag} {H : Hp} {x : Str} : TyIs K H (.str x) .str := .base (.str x)
theorem ty_int {K : PySem.W.Frag} {H : Hp} {x : Int} : TyIs K H (.int x) .int := .base (.int x)
theorem ty_bl {K : PySem.W.Frag} {H : Hp} {x : Bool} : TyIs K H (.bl x) .bl := .base (.bl x)
theorem ty_non {K : PySem.W.Frag} {H : Hp} : TyIs K H .non .non := .base .non
theorem ty_lst {K : PySem.W.Frag} {H : Hp} {a : Addr} {xs : List V} (h : H a = some (.lst xs)) : TyIs K H (.ref a) .lst := .base (.lst h)
theorem ty_tup {K : PySem.W.Frag} {H : Hp} {a : Addr} {xs : List V} (h : H a = some (.tup xs)) : TyIs K H (.ref a) .tup := .base (.tup h)
theorem ty_dK {K : PySem.W.Frag} {H : Hp} {a : Addr} {kvs : List (Key × V)} (h : H a = some (.dK kvs)) : TyIs K H (.ref a) .dct := .base (.dK h)
theorem ty_seqT {K : PySem.W.Frag} {H : Hp} {a : Addr} {xs : List V} (h : SqT K H a xs) : TyIs K H (.ref a) .tup := by
  rcases h with (h | ⟨o, h⟩) | ⟨o, its, n, h1, h2, _⟩
  · exact ty_tup h
  · exact .fTuple h
  · exact .kTuple h1 h2
end
end U
namespace U
open PySem PySem.Spec PyProof.Rows L2
/-! the rules with the fragment told: they serve within a comprehension's block -/
section
variable {X : Cx} (K : PySem.W.Frag) (hK : X.K = K)
include hK
theorem kAdd : OpR X (binaryOp .Add) (rAddU K) := hK ▸ uAdd
theorem kEq (hu : X.A.units + 64 < cLine) : OpR X (compareOp .Eq) (rEqU K) := hK ▸ uEq' hu
theorem kNe (hu : X.A.units + 64 < cLine) : OpR X (compareOp .NotEq) (rNeU K) := hK ▸ uNe' hu
theorem kIn : OpR X (compareOp .In) (rInU K) := hK ▸ uIn
theorem kNotIn : OpR X (compareOp .NotIn) (rNotInU K) := hK ▸ uNotIn
theorem kIx : IxR X (rIxU K) := hK ▸ uIx
theorem kSl : SlR X (rSlU K) := hK ▸ uSl
theorem kLen : CallR X (.builtin "len") (rLenU K) := hK ▸ cLen
theorem kList (hc : X.calm = true) : CallR X (.type "list") (rListU K) := hK ▸ cList hc
theorem kTuple : CallR X (.type "tuple") (rTupleU K) := hK ▸ cTuple
theorem kSum (hc : X.calm = true) : CallR X (.builtin "sum") (rSumU K) := hK ▸ cSum hc
theorem kAll (hc : X.calm = true) : CallR X (.builtin "all") (rAllU K) := hK ▸ cAll hc
theorem kAny (hc : X.calm = true) : CallR X (.builtin "any") (rAnyU K) := hK ▸ cAny hc
theorem kSorted (hu : X.A.units + 64 < cLine) : CallR X (.builtin "sorted") (rSortU K) := hK ▸ cSorted hu
theorem kIsi : CallR X (.builtin "isinstance") (rIsiU K) := hK ▸ cIsi
theorem ki_list {tg l : Expr} {tl : TE} (hl : PE X l tl) : PI X tg l (iList K tl) := hK ▸ pi_list hl
theorem ki_tup {tg l : Expr} {tl : TE} (hl : PE X l tl) : PI X tg l (iTup K tl) := hK ▸ pi_tup hl
theorem kg_tup {pos : Pos} {es : List Expr} {k : Nat} {t : TGs} {n : Nat} (hc : X.calm = true) (h : PGs X es t)
    (hn : (assignEach es X.env).length = n := by rfl) (hst : (assignEach es X.env).findIdx? (·.1) = none := by rfl) : PG X (.Tuple es k pos) (gTup K n t) := hK ▸ pg_tup hc h hn hst
end
end U

/-! the readings, step by step: one lemma a form, one word for all that need no thought -/
namespace U
open PySem PySem.Spec PyProof.Rows L2
section
variable {σ : L2.St} {H : Hp} {Q : VK} {D : Ends} {v x y : V} {i j : Int} {a b : Str} {ta tb tc te : TE} {t u : TS} {K : PySem.W.Frag}
theorem rd_seq (h : t { D with nx := u D } σ H) : tSeq t u D σ H := h
theorem rd_var {n : Nat} (e : σ[n]? = some (some v)) (h : Q v H) : tVar n σ H Q := ⟨v, e, h⟩
theorem rd_c (h : Q v H) : tC v σ H Q := h
theorem rd_asg {g : TG} (h : te σ H fun x H1 => g x σ H1 D.nx) : tAsg te g D σ H := h
theorem rd_name {n : Nat} {Q : L2.St → Hp → Prop} (h : Q (σ.set n (some v)) H) : gName n v σ H Q := h
theorem rd_ret (h : te σ H D.rt) : tRet te D σ H := h
theorem rd_retN (h : D.rt .non H) : tRetN D σ H := h
theorem rd_drop (h : te σ H fun _ H1 => D.nx σ H1) : tDrop te D σ H := h
theorem rd_next (h : D.nx σ H) : tNext D σ H := h
theorem rd_if {c : TT} (h : c σ H fun b H1 => if b = true then t D σ H1 else u D σ H1) : tIfS c t u D σ H := h
theorem rd_break (h : D.bk σ H) : tBreak D σ H := h
theorem rd_cont (h : D.ct σ H) : tCont D σ H := h
theorem rd_op {r : R2} (h : ta σ H fun x H1 => tb σ H1 fun y H2 => r x y H2 Q) : tOp r ta tb σ H Q := h
theorem rd_test {Q : Bool → Hp → Prop} (h : te σ H fun x H1 => ∃ k, x = .bl k ∧ Q k H1) : tTest te σ H Q := h
theorem rd_B {Q : Bool → Hp → Prop} (h : te σ H fun x H1 => ∃ k, x = .bl k ∧ Q k H1) : tB te σ H Q := h
theorem rd_bl {Q : Bool → Prop} {k : Bool} (h : Q k) : ∃ c, V.bl k = .bl c ∧ Q c := ⟨k, rfl, h⟩
theorem rd_chain {r r' : R2} (h : ta σ H fun x H1 => tb σ H1 fun y H2 => r x y H2 fun z H3 => ∃ k, z = .bl k ∧ (if k = true then tc σ H3 fun w' H4 => r' y w' H4 Q else Q (.bl false) H3)) : tChain r r' ta tb tc σ H Q := h
theorem rd_nil {Q : List V → Hp → Prop} (h : Q [] H) : tNil σ H Q := h
theorem rd_cons {tr : TA} {Q : List V → Hp → Prop} (h : ta σ H fun x H1 => tr σ H1 fun xs H2 => Q (x :: xs) H2) : tCons ta tr σ H Q := h
theorem rd_cb {r : List V → Hp → VK → Prop} {tr : TA} (h : tr σ H fun vs H1 => r vs H1 Q) : tCB r tr σ H Q := h
theorem rd_c1 {sp : Sp} {E : XK} {tr : TA} (h : tr σ H fun vs H1 => sp vs H1 Q E) : tC1 sp E tr σ H Q := h
theorem rd_c2 {sp : Sp} {W : WX} {tr : TA} (h : tr σ H fun vs H1 => sp vs H1 Q fun cls d H' => W cls d σ H') : tC2 sp W tr σ H Q := h
theorem rd_lst {tr : TA} (h : tr σ H fun xs H1 => xs.length ≤ sizeLine ∧ nL xs H1 Q) : tLst tr σ H Q := h
theorem rd_tup {tr : TA} (h : tr σ H fun xs H1 => xs.length ≤ sizeLine ∧ nT xs H1 Q) : tTup tr σ H Q := h
theorem rd_sz {xs : List V} {P : Prop} (h : Nat.ble xs.length 1000 = true) (q : P) : xs.length ≤ sizeLine ∧ P :=
  ⟨Nat.le_trans (Nat.le_of_ble_eq_true h) (by decide), q⟩
theorem rd_addI (h : Q (.int (i + j)) H) : rAddU K (.int i) (.int j) H Q := h
theorem rd_subI (h : Q (.int (i - j)) H) : rSubU (.int i) (.int j) H Q := h
theorem rd_mulI (c : CMul i j ∨ CMulW i j) (h : Q (.int (i * j)) H) : rMulU (.int i) (.int j) H Q := ⟨c, h⟩
theorem rd_modI (c : 0 < j) (h : Q (.int (i % j)) H) : rModU (.int i) (.int j) H Q := ⟨c, h⟩
theorem rd_divI (c : 0 < j ∧ j < 1073741824) (h : Q (.int (i / j)) H) : rDivU (.int i) (.int j) H Q := ⟨c, h⟩
theorem rd_addS (c : a.length + b.length ≤ sizeLine) (h : Q (.str (a ++ b)) H) : rAddU K (.str a) (.str b) H Q := ⟨c, h⟩
theorem rd_ltI (h : Q (.bl (decide (i < j))) H) : rLtU (.int i) (.int j) H Q := h
theorem rd_ltS (h : Q (.bl (decide (a.cps.toList < b.cps.toList))) H) : rLtU (.str a) (.str b) H Q := h
theorem rd_leI (h : Q (.bl (decide (i ≤ j))) H) : rLeU (.int i) (.int j) H Q := h
theorem rd_gtI (h : Q (.bl (decide (j < i))) H) : rGtU (.int i) (.int j) H Q := h
theorem rd_geI (h : Q (.bl (decide (j ≤ i))) H) : rGeU (.int i) (.int j) H Q := h
theorem rd_eqI (h : Q (.bl (decide (i = j))) H) : rEqU K (.int i) (.int j) H Q := h
theorem rd_eqS (h : Q (.bl (decide (a = b))) H) : rEqU K (.str a) (.str b) H Q := h
theorem rd_neI (h : Q (.bl (!decide (i = j))) H) : rNeU K (.int i) (.int j) H Q := h
theorem rd_neS (h : Q (.bl (!decide (a = b))) H) : rNeU K (.str a) (.str b) H Q := h
theorem rd_is (h : Q (.bl (decide (x = .non))) H) : rIsU x .non H Q := h
theorem rd_isNot (h : Q (.bl (!decide (x = .non))) H) : rIsNotU x .non H Q := h
theorem rd_absI (h : Q (.int (i.natAbs : Int)) H) : rAbsU [.int i] H Q := h
theorem rd_maxI (h : Q (.int (max i j)) H) : rMaxU [.int i, .int j] H Q := h
theorem rd_minI (h : Q (.int (min i j)) H) : rMinU [.int i, .int j] H Q := h
theorem rd_intI (h : Q (.int i) H) : rIntU [.int i] H Q := h
theorem rd_intB {k : Bool} (h : Q (.int (bToI k)) H) : rIntU [.bl k] H Q := h
theorem rd_neg {g : Int → Int} (h : Q (.int (g i)) H) : rU (fun i => .int (g i)) (.int i) H Q := ⟨i, rfl, h⟩
theorem rd_sub {to ti : TE} {t : TSet} {Q : L2.St → Hp → Prop} (h : to σ H fun o H1 => ti σ H1 fun i H2 => t o i v H2 fun H3 => Q σ H3) : gSub to ti t v σ H Q := h
theorem rd_and {t u : TT} {Q : Bool → Hp → Prop} (h : t σ H fun c H1 => if c = true then u σ H1 Q else Q false H1) : tAnd t u σ H Q := h
theorem rd_or {t u : TT} {Q : Bool → Hp → Prop} (h : t σ H fun c H1 => if c = true then Q true H1 else u σ H1 Q) : tOr t u σ H Q := h
theorem rd_not {t : TT} {Q : Bool → Hp → Prop} (h : t σ H fun c H1 => Q (!c) H1) : tNot t σ H Q := h
theorem rd_andV (h : ta σ H fun x H1 => ∃ c, x = .bl c ∧ if c = true then tb σ H1 Q else Q (.bl false) H1) : tAndV ta tb σ H Q := h
theorem rd_orV (h : ta σ H fun x H1 => ∃ c, x = .bl c ∧ if c = true then Q (.bl true) H1 else tb σ H1 Q) : tOrV ta tb σ H Q := h
theorem rd_notV (h : ta σ H fun x H1 => ∃ c, x = .bl c ∧ Q (.bl (!c)) H1) : tNotV ta σ H Q := h
theorem rd_ifE {t : TT} (h : t σ H fun c H1 => if c = true then ta σ H1 Q else tb σ H1 Q) : tIf t ta tb σ H Q := h
theorem rd_T {A B : Prop} (h : A) : if true = true then A else B := by
  rw [if_pos rfl]
  exact h
theorem rd_F {A B : Prop} (h : B) : if false = true then A else B := by
  rw [if_neg Bool.false_ne_true]
  exact h
/-- a test that is known -/
theorem rd_yes {c : Prop} {_ : Decidable c} {A B : Prop} (hc : c) (h : A) : if decide c = true then A else B := by
  rw [if_pos (decide_eq_true hc)]
  exact h
theorem rd_no {c : Prop} {_ : Decidable c} {A B : Prop} (hc : ¬ c) (h : B) : if decide c = true then A else B := by
  rw [if_neg (by rw [decide_eq_false hc]; exact Bool.false_ne_true)]
  exact h
theorem rd_nyes {c : Prop} {_ : Decidable c} {A B : Prop} (hc : ¬ c) (h : A) : if (!decide c) = true then A else B := by
  rw [if_pos (by rw [decide_eq_false hc]; rfl)]
  exact h
theorem rd_nno {c : Prop} {_ : Decidable c} {A B : Prop} (hc : c) (h : B) : if (!decide c) = true then A else B := by
  rw [if_neg (by rw [decide_eq_true hc]; exact Bool.false_ne_true)]
  exact h
theorem rd_split {c : Prop} {_ : Decidable c} {A B : Prop} (h1 : c → A) (h2 : ¬ c → B) : if decide c = true then A else B := by
  by_cases h : c
  · exact rd_yes h (h1 h)
  · exact rd_no h (h2 h)
theorem rd_nsplit {c : Prop} {_ : Decidable c} {A B : Prop} (h1 : ¬ c → A) (h2 : c → B) : if (!decide c) = true then A else B := by
  by_cases h : c
  · exact rd_nno h (h2 h)
  · exact rd_nyes h (h1 h)
theorem rd_b {c : Bool} {A B : Prop} (h1 : c = true → A) (h2 : c = false → B) : if c = true then A else B := by
  cases c with
  | true => exact rd_T (h1 rfl)
  | false => exact rd_F (h2 rfl)
/-- an item of a list, a tuple -/
theorem rd_ixL {p : Addr} {xs : List V} (hs : SqL K H p xs) (hv : atI xs i = some v) (h : Q v H) : rIxU K (.ref p) (.int i) H Q := ⟨xs, .inl hs, v, hv, h⟩
theorem rd_ixT {p : Addr} {xs : List V} (hs : SqT K H p xs) (hv : atI xs i = some v) (h : Q v H) : rIxU K (.ref p) (.int i) H Q := ⟨xs, .inr hs, v, hv, h⟩
theorem rd_ixS {c : Nat} (hz : a.length ≤ 100000) (hv : atI a.cps.toList i = some c) (h : Q (.str ⟨#[c]⟩) H) : rIxU K (.str a) (.int i) H Q := ⟨Nat.le_trans hz (by decide), c, hv, h⟩
theorem rd_lenL {p : Addr} {xs : List V} (hs : SqL K H p xs) (h : Q (.int xs.length) H) : rLenU K [.ref p] H Q := .inl ⟨xs, .inl hs, h⟩
theorem rd_lenT {p : Addr} {xs : List V} (hs : SqT K H p xs) (h : Q (.int xs.length) H) : rLenU K [.ref p] H Q := .inl ⟨xs, .inr hs, h⟩
theorem rd_lenS (hz : a.length ≤ 100000) (h : Q (.int a.length) H) : rLenU K [.str a] H Q := ⟨Nat.le_trans hz (by decide), h⟩
theorem rd_lenD {p : Addr} {kvs : List (Key × V)} (hs : H p = some (.dK kvs)) (h : Q (.int kvs.length) H) : rLenU K [.ref p] H Q := .inr ⟨kvs, hs, h⟩
theorem rd_setL {p : Addr} {xs : List V} {n : Nat} {Q : Hp → Prop} (hs : H p = some (.lst xs)) (hi : ixN xs.length i = some n) (h : Q (upd H p (.lst (xs.set n v)))) : rSetL (.ref p) (.int i) v H Q := ⟨p, xs, i, n, rfl, rfl, hs, hi, h⟩
theorem rd_listL {p : Addr} {xs : List V} (hs : SqL K H p xs) (h : nL xs H Q) : rListU K [.ref p] H Q := .inl ⟨xs, .inl hs, h⟩
theorem rd_listT {p : Addr} {xs : List V} (hs : SqT K H p xs) (h : nL xs H Q) : rListU K [.ref p] H Q := .inl ⟨xs, .inr hs, h⟩
theorem rd_tupleL {p : Addr} {xs : List V} (hs : SqL K H p xs) (h : nT xs H Q) : rTupleU K [.ref p] H Q := .inl ⟨xs, hs, h⟩
theorem rd_slS {lo hi : Option Int} (hz : a.length ≤ 100000) (h : Q (.str (cutS a lo hi)) H) : rSlU K (.str a) lo hi H Q := ⟨Nat.le_trans hz (by decide), h⟩
theorem rd_slL {lo hi : Option Int} {p : Addr} {xs : List V} (hs : SqL K H p xs) (h : nL (cutV xs lo hi) H Q) : rSlU K (.ref p) lo hi H Q := .inl ⟨xs, hs, h⟩
theorem rd_sl {tl th : TO} {r : V → Option Int → Option Int → Hp → VK → Prop} (h : te σ H fun x H1 => tl σ H1 fun lo H2 => th σ H2 fun hi H3 => r x lo hi H3 Q) : tSl r te tl th σ H Q := h
theorem rd_noPart {Q : Option Int → Hp → Prop} (h : Q none H) : tNoPart σ H Q := h
theorem rd_part {Q : Option Int → Hp → Prop} (h : te σ H fun x H1 => ∃ i, x = .int i ∧ Q (some i) H1) : tPart te σ H Q := h
theorem rd_exI {Q : Int → Prop} (h : Q i) : ∃ k, V.int i = .int k ∧ Q k := ⟨i, rfl, h⟩
theorem rd_bm {T : String} {r : V → List V → Hp → VK → Prop} {tr : TA} (h : te σ H fun x H1 => tyV K T x H1 ∧ tr σ H1 fun xs H2 => r x xs H2 Q) : tBM K T r te tr σ H Q := h
theorem rd_bm0 {T : String} {r : V → List V → Hp → VK → Prop} (h : te σ H fun x H1 => tyV K T x H1 ∧ r x [] H1 Q) : tBM0 K T r te σ H Q := h
theorem rd_tyL {p : Addr} {xs : List V} {P : Prop} (hs : H p = some (.lst xs)) (h : P) : tyV K "list" (.ref p) H ∧ P := ⟨.inl ⟨rfl, xs, .inl (.inl hs)⟩, h⟩
theorem rd_append {p : Addr} {xs : List V} (hs : H p = some (.lst xs)) (hz : xs.length < 100000) (h : Q .non (upd H p (.lst (xs ++ [v])))) : rAppend (.ref p) [v] H Q :=
  ⟨p, xs, v, rfl, rfl, hs, Nat.lt_of_lt_of_le hz (by decide), h⟩
theorem mul_bI {i : Int} {b : Bool} : CMul i (bToI b) ∨ CMulW i (bToI b) := .inl (.inr (by cases b <;> decide))
theorem rd_powI (c : CPow i j) (h : Q (.int (i ^ j.toNat)) H) : rPowU (.int i) (.int j) H Q := ⟨c, h⟩
/-! heaps -/
theorem new_ne {p q : Addr} {o : HO} (h : upd H p o q = none) : q ≠ p := fun e => by
  rw [e, upd_same] at h
  cases h
theorem new_old {p q : Addr} {o : HO} (h : upd H p o q = none) : H q = none := by
  rw [upd_ne (new_ne h)] at h
  exact h
theorem at_upd {p q : Addr} {o u : HO} (n : q ≠ p) (h : H q = some u) : upd H p o q = some u := (upd_ne n).trans h
theorem no_upd {p q : Addr} {o : HO} (n : q ≠ p) (h : H q = none) : upd H p o q = none := (upd_ne n).trans h
/-- all that is tracked stays, but the object at p -/
def But (p : Addr) (H H' : Hp) : Prop := ∀ b o, b ≠ p → H b = some o → H' b = some o
theorem But.refl {p : Addr} : But p H H := fun _ _ _ h => h
theorem But.trans {p : Addr} {H1 H2 : Hp} (a : But p H H1) (b : But p H1 H2) : But p H H2 := fun c o n h => b c o n (a c o n h)
theorem But.of_same {p : Addr} {H1 : Hp} (a : Same H H1) : But p H H1 := fun c o _ h => a c o h
theorem But.upd {p : Addr} {o : HO} : But p H (upd H p o) := fun _ _ n h => at_upd n h
theorem But.new {p q : Addr} {o : HO} (h : H q = none) : But p H (L2.upd H q o) := fun _ _ _ e => at_upd (ne_of_none e h) e
theorem Same.new {q : Addr} {o : HO} (h : H q = none) : Same H (L2.upd H q o) := fun _ _ e => at_upd (ne_of_none e h) e
theorem But.free {p q : Addr} {H1 : Hp} (a : But p H H1) (n : q ≠ p) (h : H1 q = none) : H q = none := by
  cases e : H q with
  | none => rfl
  | some o =>
    rw [a q o n e] at h
    cases h
theorem new_of_same {q : Addr} {H1 : Hp} (a : Same H H1) (h : H1 q = none) : H q = none := a.free h
theorem Same.seqT {H' : Hp} {a : Addr} {xs : List V} (e : Same H H') (h : SqT K H a xs) : SqT K H' a xs := by
  rcases h with (h | ⟨o, h⟩) | h
  · exact .inl (.inl (e _ _ h))
  · exact .inl (.inr ⟨o, e _ _ h⟩)
  · exact .inr h
theorem But.seqT {p : Addr} {H' : Hp} {a : Addr} {xs : List V} (e : But p H H') (n : ∃ ys, H p = some (.lst ys)) (h : SqT K H a xs) : SqT K H' a xs := by
  obtain ⟨ys, hy⟩ := n
  rcases h with (h | ⟨o, h⟩) | h
  · exact .inl (.inl (e _ _ (ne_of h hy (by intro z; cases z)) h))
  · exact .inl (.inr ⟨o, e _ _ (ne_of h hy (by intro z; cases z)) h⟩)
  · exact .inr h
theorem rd_un {r : V → Hp → VK → Prop} (h : ta σ H fun x H1 => r x H1 Q) : tUn r ta σ H Q := h
end
local macro_rules | `(tactic| wtm_at "rd1") => `(tactic| first
  | with_reducible refine rd_seq ?_
  | ((with_reducible refine rd_var (v := ?vv) ?hv ?_); (case hv => exact rfl))
  | with_reducible refine rd_c ?_
  | with_reducible refine rd_cons ?_
  | with_reducible refine rd_nil ?_
  | with_reducible refine rd_op ?_
  | with_reducible refine rd_asg ?_
  | with_reducible refine rd_name ?_
  | with_reducible refine rd_c1 ?_
  | with_reducible refine rd_cb ?_
  | with_reducible refine rd_test ?_
  | with_reducible refine rd_B ?_
  | with_reducible refine rd_bl ?_
  | with_reducible refine rd_if ?_
  | with_reducible refine rd_ret ?_
  | with_reducible refine rd_drop ?_
  | with_reducible refine rd_next ?_
  | with_reducible refine rd_addI ?_
  | with_reducible refine rd_ltI ?_
  | with_reducible refine rd_eqI ?_
  | with_reducible refine rd_neI ?_
  | with_reducible refine rd_eqS ?_
  | with_reducible refine rd_neS ?_
  | with_reducible refine rd_gtI ?_
  | with_reducible refine rd_geI ?_
  | with_reducible refine rd_leI ?_
  | with_reducible refine rd_ltS ?_
  | with_reducible refine rd_subI ?_
  | ((with_reducible refine rd_modI ?hc ?_); (case hc => first | decide | omega))
  | ((with_reducible refine rd_mulI ?hc ?_); (case hc => first | exact mul_bI | exact .inl (.inr (by decide)) | exact .inl (.inl (by decide)) | exact .inl (.inr (by omega)) | exact .inl (.inl (by omega))))
  | ((with_reducible refine rd_divI ?hc ?_); (case hc => first | decide | omega))
  | ((with_reducible refine rd_powI ?hc ?_); (case hc => exact ⟨by decide, by decide, by decide⟩))
  | with_reducible refine rd_lst ?_
  | with_reducible refine rd_tup ?_
  | ((with_reducible refine rd_sz ?hv ?_); (case hv => exact rfl))
  | with_reducible refine rd_and ?_
  | with_reducible refine rd_or ?_
  | with_reducible refine rd_not ?_
  | with_reducible refine rd_andV ?_
  | with_reducible refine rd_orV ?_
  | with_reducible refine rd_notV ?_
  | with_reducible refine rd_ifE ?_
  | with_reducible refine rd_T ?_
  | with_reducible refine rd_F ?_
  | with_reducible refine rd_chain ?_
  | with_reducible refine rd_is ?_
  | with_reducible refine rd_isNot ?_
  | with_reducible refine rd_absI ?_
  | with_reducible refine rd_maxI ?_
  | with_reducible refine rd_minI ?_
  | with_reducible refine rd_intI ?_
  | with_reducible refine rd_intB ?_
  | with_reducible refine rd_sub ?_
  | with_reducible refine rd_sl ?_
  | with_reducible refine rd_noPart ?_
  | with_reducible refine rd_part ?_
  | with_reducible refine rd_exI ?_
  | with_reducible refine rd_bm ?_
  | with_reducible refine rd_bm0 ?_
  | with_reducible refine rd_un ?_
  | with_reducible refine rd_neg ?_
  | with_reducible refine rd_c2 ?_
  | with_reducible refine rd_retN ?_
  | with_reducible refine rd_break ?_
  | with_reducible refine rd_cont ?_)
local macro_rules | `(tactic| wtm_at "rd") => `(tactic| repeat wtm_at "rd1")
end U

/-! texts in order, names -/
namespace U
open PySem PySem.Spec PyProof.Rows L2
/-- the order of texts -/
def sLt (a b : Str) : Prop := a.cps.toList < b.cps.toList
instance (a b : Str) : Decidable (sLt a b) := inferInstanceAs (Decidable (a.cps.toList < b.cps.toList))
theorem str_ext {a b : Str} (h : a.cps.toList = b.cps.toList) : a = b := by
  obtain ⟨x⟩ := a
  obtain ⟨y⟩ := b
  have e : x = y := Array.toList_inj.mp h
  rw [e]
theorem sLt_irrefl (a : Str) : ¬ sLt a a := List.lt_irrefl _
theorem sLt_trans {a b c : Str} (h : sLt a b) (h' : sLt b c) : sLt a c := List.lt_trans h h'
theorem sLt_asymm {a b : Str} (h : sLt a b) : ¬ sLt b a := fun h' => sLt_irrefl a (sLt_trans h h')
theorem sLt_total {a b : Str} (h : ¬ sLt b a) (n : a ≠ b) : sLt a b := by
  have h1 : a.cps.toList ≤ b.cps.toList := List.not_lt.mp h
  rcases List.le_iff_lt_or_eq.mp h1 with z | z
  · exact z
  · exact absurd (str_ext z) n
theorem sLt_tri (a b : Str) : sLt a b ∨ a = b ∨ sLt b a := by
  by_cases h : sLt b a
  · exact .inr (.inr h)
  · by_cases e : a = b
    · exact .inr (.inl e)
    · exact .inl (sLt_total h e)
/-- strictly upwards -/
abbrev Asc (xs : List Str) : Prop := xs.Pairwise sLt
theorem asc_nodup {xs : List Str} (h : Asc xs) : xs.Nodup := by
  refine List.Pairwise.imp ?_ h
  intro a b z e
  subst e
  exact sLt_irrefl _ z
/-- two lists upwards with the same members are one -/
theorem asc_unique : ∀ {xs ys : List Str}, Asc xs → Asc ys → (∀ z, z ∈ xs ↔ z ∈ ys) → xs = ys
  | [], [], _, _, _ => rfl
  | [], y :: ys, _, _, h => absurd ((h y).mpr List.mem_cons_self) List.not_mem_nil
  | x :: xs, [], _, _, h => absurd ((h x).mp List.mem_cons_self) List.not_mem_nil
  | x :: xs, y :: ys, hx, hy, h => by
    rw [Asc, List.pairwise_cons] at hx hy
    have e : x = y := by
      rcases List.mem_cons.mp ((h x).mp List.mem_cons_self) with z | z
      · exact z
      · rcases List.mem_cons.mp ((h y).mpr List.mem_cons_self) with z2 | z2
        · exact z2.symm
        · exact absurd (hx.1 _ z2) (sLt_asymm (hy.1 _ z))
    subst e
    have t : xs = ys := asc_unique hx.2 hy.2 fun z => by
      constructor
      · intro hz
        rcases List.mem_cons.mp ((h z).mp (List.mem_cons_of_mem _ hz)) with e | e
        · subst e
          exact absurd (hx.1 _ hz) (sLt_irrefl _)
        · exact e
      · intro hz
        rcases List.mem_cons.mp ((h z).mpr (List.mem_cons_of_mem _ hz)) with e | e
        · subst e
          exact absurd (hy.1 _ hz) (sLt_irrefl _)
        · exact e
    rw [t]
theorem asc_of_sorted {xs : List Str} (h : xs.Pairwise fun a b => ¬ sLt b a) (n : xs.Nodup) : Asc xs := by
  have z : xs.Pairwise fun a b => ¬ sLt b a ∧ a ≠ b := List.Pairwise.and h n
  exact z.imp fun {a b} q => sLt_total q.1 q.2
/-- an edge's order -/
def eLt (a b : Str × Str) : Prop := sLt a.1 b.1 ∨ (a.1 = b.1 ∧ sLt a.2 b.2)
instance (a b : Str × Str) : Decidable (eLt a b) := inferInstanceAs (Decidable (_ ∨ _))
theorem eLt_irrefl (a : Str × Str) : ¬ eLt a a := fun h => h.elim (sLt_irrefl _) fun z => sLt_irrefl _ z.2
theorem eLt_trans {a b c : Str × Str} (h : eLt a b) (h' : eLt b c) : eLt a c := by
  rcases h with h | ⟨e, h⟩
  · rcases h' with h' | ⟨e', h'⟩
    · exact .inl (sLt_trans h h')
    · exact .inl (e' ▸ h)
  · rcases h' with h' | ⟨e', h'⟩
    · exact .inl (e ▸ h')
    · exact .inr ⟨e.trans e', sLt_trans h h'⟩
theorem eLt_asymm {a b : Str × Str} (h : eLt a b) : ¬ eLt b a := fun h' => eLt_irrefl a (eLt_trans h h')
theorem eLt_total {a b : Str × Str} (h : ¬ eLt b a) (n : a ≠ b) : eLt a b := by
  rcases sLt_tri a.1 b.1 with z | z | z
  · exact .inl z
  · rcases sLt_tri a.2 b.2 with y | y | y
    · exact .inr ⟨z, y⟩
    · exact absurd (Prod.ext z y) n
    · exact absurd (.inr ⟨z.symm, y⟩) h
  · exact absurd (.inl z) h
abbrev AscE (xs : List (Str × Str)) : Prop := xs.Pairwise eLt
theorem ascE_nodup {xs : List (Str × Str)} (h : AscE xs) : xs.Nodup := by
  refine List.Pairwise.imp ?_ h
  intro a b z e
  subst e
  exact eLt_irrefl _ z
theorem ascE_of_sorted {xs : List (Str × Str)} (h : xs.Pairwise fun a b => ¬ eLt b a) (n : xs.Nodup) : AscE xs := by
  have z : xs.Pairwise fun a b => ¬ eLt b a ∧ a ≠ b := List.Pairwise.and h n
  exact z.imp fun {a b} q => eLt_total q.1 q.2

section
variable {K : PySem.W.Frag} {H : Hp} {Q : VK} {p : Addr}
theorem perm_of_map {α β : Type} {f : α → β} : ∀ {l : List β} {xs : List α}, l.Perm (xs.map f) → ∃ ys : List α, ys.Perm xs ∧ l = ys.map f := by
  intro l xs h
  generalize hm : xs.map f = m at h
  induction h generalizing xs with
  | nil =>
    cases xs with
    | nil => exact ⟨[], .nil, rfl⟩
    | cons _ _ => cases hm
  | cons x hp ih =>
    cases xs with
    | nil => cases hm
    | cons a as =>
      injection hm with h1 h2
      obtain ⟨ys, py, e⟩ := ih h2
      exact ⟨a :: ys, py.cons a, by rw [e, List.map_cons, h1]⟩
  | swap x y l =>
    cases xs with
    | nil => cases hm
    | cons a as =>
      cases as with
      | nil => cases hm
      | cons b bs =>
        injection hm with h1 h2
        injection h2 with h2 h3
        exact ⟨b :: a :: bs, .swap a b bs, by rw [List.map_cons, List.map_cons, h1, h2, h3]⟩
  | trans _ _ ih1 ih2 =>
    obtain ⟨ys, py, e⟩ := ih2 hm
    obtain ⟨zs, pz, e'⟩ := ih1 e.symm
    exact ⟨zs, pz.trans py, e'⟩
/-- sorted(a list of texts) -/
theorem rd_sortS {xs : List Str} (hs : SqL K H p (xs.map V.str)) (hl : xs.length ≤ 100000) (k : ∀ ys : List Str, ys.Perm xs → ys.Pairwise (fun a b => ¬ sLt b a) → nL (ys.map V.str) H Q) : rSortU K [.ref p] H Q := by
  refine ⟨xs.map fun x => (V.str x, PyData.str x), ?_, ⟨?_, ?_, ?_, ?_, ?_⟩, ?_⟩
  · rw [List.map_map]
    exact hs
  · intro b hb
    obtain ⟨x, _, rfl⟩ := List.mem_map.mp hb
    exact .str x
  · rw [List.map_map]
    exact PySem.W.AllAlike.of (enc := PyData.str) fun a b => by simp [PySem.W.alike]
  · rw [List.map_map]
    exact PySem.W.Sortable.others (enc := PyData.str) fun b => ⟨by simp, by simp⟩
  · intro b hb
    obtain ⟨x, _, rfl⟩ := List.mem_map.mp hb
    simp [PyData.depth]
  · rw [List.length_map]
    omega
  · intro cs pc sc
    obtain ⟨ys, py, rfl⟩ := perm_of_map pc
    rw [List.map_map]
    refine k ys py ?_
    rw [List.pairwise_map] at sc
    refine sc.imp fun {a b} z h => ?_
    have z' : PySem.W.dataLt (PyData.str b) (PyData.str a) = false := z
    rw [PySem.W.dataLt_str] at z'
    exact of_decide_eq_false z' h
/-- sorted(a list of pairs of texts): e is the pair's place, then the two -/
theorem rd_sortE {xs : List (Addr × Str × Str)} (hs : SqL K H p (xs.map fun e => V.ref e.1)) (ht : ∀ e ∈ xs, SqT K H e.1 [.str e.2.1, .str e.2.2]) (hl : xs.length ≤ 100000)
    (k : ∀ ys : List (Addr × Str × Str), ys.Perm xs → ys.Pairwise (fun a b => ¬ eLt b.2 a.2) → nL (ys.map fun e => V.ref e.1) H Q) : rSortU K [.ref p] H Q := by
  refine ⟨xs.map fun e => (V.ref e.1, PyData.tuple [.str e.2.1, .str e.2.2]), ?_, ⟨?_, ?_, ?_, ?_, ?_⟩, ?_⟩
  · rw [List.map_map]
    exact hs
  · intro b hb
    obtain ⟨x, hx, rfl⟩ := List.mem_map.mp hb
    exact .tup (ht x hx) (.cons (.str _) (.cons (.str _) .nil))
  · rw [List.map_map]
    exact PySem.W.AllAlike.of (enc := fun e : Addr × Str × Str => PyData.tuple [.str e.2.1, .str e.2.2]) fun a b => by simp [PySem.W.alike, PySem.W.alikeAll]
  · rw [List.map_map]
    exact PySem.W.Sortable.tuples (enc := fun e : Addr × Str × Str => PyData.tuple [.str e.2.1, .str e.2.2]) fun b => ⟨_, _, rfl⟩
  · intro b hb
    obtain ⟨x, _, rfl⟩ := List.mem_map.mp hb
    simp [PyData.depth, PyData.depthAll]
  · rw [List.length_map]
    omega
  · intro cs pc sc
    obtain ⟨ys, py, rfl⟩ := perm_of_map pc
    rw [List.map_map]
    refine k ys py ?_
    rw [List.pairwise_map] at sc
    refine sc.imp fun {a b} z h => ?_
    have z' : PySem.W.dataLt (PyData.tuple [.str b.2.1, .str b.2.2]) (PyData.tuple [.str a.2.1, .str a.2.2]) = false := z
    rw [PySem.W.dataLt_pair (by simp [PySem.W.alike]) (by simp [PySem.W.alike]), PySem.W.dataLt_str, PySem.W.dataLt_str] at z'
    simp only [PyData.eqv, beq_iff_eq] at z'
    rcases h with h | ⟨e, h⟩
    · have n : ¬ b.2.1 = a.2.1 := fun e => sLt_irrefl _ (by rw [e] at h; exact h)
      rw [if_neg n] at z'
      exact of_decide_eq_false z' h
    · rw [if_pos e] at z'
      have n : ¬ b.2.2 = a.2.2 := fun e => sLt_irrefl _ (by rw [e] at h; exact h)
      rw [if_neg n] at z'
      exact of_decide_eq_false z' h
end
end U

/-! names as the laws draw them -/
namespace U
open PySem PySem.Spec PyProof.Rows L2
/-- 1 to 8 small letters -/
structure IsName (z : Str) : Prop where
  lo : 1 ≤ z.length
  hi : z.length ≤ 8
  ch : ∀ c ∈ z.cps.toList, 97 ≤ c ∧ c ≤ 122
theorem letters_at {i : Int} (h0 : 0 ≤ i) (h1 : i < 26) : atI (Str.ofString "abcdefghijklmnopqrstuvwxyz").cps.toList i = some (97 + i.toNat) := by
  obtain ⟨n, rfl⟩ : ∃ n : Nat, i = (n : Int) := ⟨i.toNat, by omega⟩
  have all : ∀ n : Fin 26, (Str.ofString "abcdefghijklmnopqrstuvwxyz").cps.toList[(n : Nat)]? = some (97 + (n : Nat)) := by decide +kernel
  have hn : n < 26 := by omega
  rw [Int.toNat_natCast]
  exact atI_nat (all ⟨n, hn⟩)
theorem letters_len : (Str.ofString "abcdefghijklmnopqrstuvwxyz").length ≤ 100000 := by decide +kernel
theorem pick4 {a b c d r : Int} (h0 : 0 ≤ r) (h1 : r < 4) : ∃ v, atI [V.int a, .int b, .int c, .int d] r = some (.int v) ∧ (v = a ∨ v = b ∨ v = c ∨ v = d) := by
  have : r = 0 ∨ r = 1 ∨ r = 2 ∨ r = 3 := by omega
  rcases this with rfl | rfl | rfl | rfl
  · exact ⟨a, rfl, .inl rfl⟩
  · exact ⟨b, rfl, .inr (.inl rfl)⟩
  · exact ⟨c, rfl, .inr (.inr (.inl rfl))⟩
  · exact ⟨d, rfl, .inr (.inr (.inr rfl))⟩
theorem pick2 {x y : V} {r : Int} (h : r = 0 ∨ r = 1) : atI [x, y] r = some (if r = 0 then x else y) := by
  rcases h with rfl | rfl
  · rfl
  · rfl
theorem bToI_01 (b : Bool) : bToI b = 0 ∨ bToI b = 1 := by cases b <;> simp [bToI]
theorem bToI_pick {x y : V} (b : Bool) : atI [x, y] (bToI b) = some (if b = true then y else x) := by cases b <;> rfl
/-- the letter c put into the text t at place a -/
def putIn (t : List Nat) (a c : Nat) : List Nat := t.take a ++ [c] ++ t.drop a
theorem putIn_len (t : List Nat) (a c : Nat) (h : a ≤ t.length) : (putIn t a c).length = t.length + 1 := by
  unfold putIn
  simp
  omega
theorem putIn_inj {t : List Nat} {a c d : Nat} (h : a ≤ t.length) (e : putIn t a c = putIn t a d) : c = d := by
  unfold putIn at e
  rw [List.append_assoc, List.append_assoc] at e
  have e2 := List.append_cancel_left e
  injection e2
theorem mem_putIn {t : List Nat} {a c x : Nat} (h : x ∈ putIn t a c) : x = c ∨ x ∈ t := by
  unfold putIn at h
  rw [List.mem_append, List.mem_append, List.mem_singleton] at h
  rcases h with (h | h) | h
  · exact .inr (List.mem_of_mem_take h)
  · exact .inl h
  · exact .inr (List.mem_of_mem_drop h)
/-- the k-th name: begin b, step s, the tail's letter and times, its place, whether mixed -/
def nameK (b s : Int) (t : List Nat) (a : Nat) (m : Bool) (k : Nat) : Str :=
  if m = true ∧ k % 2 = 1 then ⟨#[97 + ((b + s * (k : Int)) % 26).toNat]⟩ else ⟨(putIn t a (97 + ((b + s * (k : Int)) % 26).toNat)).toArray⟩
theorem nameK_ok {b s : Int} {n d a : Nat} {m : Bool} {k : Nat} (hn : n ≤ 7) (ha : a ≤ n) (hd : 97 ≤ d ∧ d ≤ 122) : IsName (nameK b s (List.replicate n d) a m k) := by
  have hc : 97 ≤ 97 + ((b + s * (k : Int)) % 26).toNat ∧ 97 + ((b + s * (k : Int)) % 26).toNat ≤ 122 := by omega
  unfold nameK
  generalize 97 + ((b + s * (k : Int)) % 26).toNat = c at hc
  split
  · exact ⟨by simp [Str.length], by simp [Str.length], fun x hx => by
      have : x = c := by simpa using hx
      rw [this]
      exact hc⟩
  · have hl : (putIn (List.replicate n d) a c).length = n + 1 := by rw [putIn_len _ _ _ (by rw [List.length_replicate]; exact ha), List.length_replicate]
    refine ⟨by simp [Str.length, hl], by simp [Str.length, hl]; omega, fun x hx => ?_⟩
    have hx' : x ∈ putIn (List.replicate n d) a c := by simpa using hx
    rcases mem_putIn hx' with e | e
    · rw [e]; exact hc
    · rw [List.eq_of_mem_replicate e]; exact hd
theorem nameK_inj {b s : Int} {n d a : Nat} {m : Bool} {j k : Nat} (ha : a ≤ n) (hs : s = 1 ∨ s = 3 ∨ s = 5 ∨ s = 7) (hj : j < 26) (hk : k < 26)
    (e : nameK b s (List.replicate n d) a m j = nameK b s (List.replicate n d) a m k) : j = k := by
  have core : ∀ {x y : Nat}, x = 97 + ((b + s * (j : Int)) % 26).toNat → y = 97 + ((b + s * (k : Int)) % 26).toNat → x = y → j = k := by
    intro x y hx hy q
    rcases hs with rfl | rfl | rfl | rfl <;> omega
  have hl : ∀ c, (putIn (List.replicate n d) a c).length = n + 1 := fun c => by rw [putIn_len _ _ _ (by rw [List.length_replicate]; exact ha), List.length_replicate]
  unfold nameK at e
  split at e <;> split at e
  · injection e with e
    have e2 := congrArg Array.toList e
    simp only [List.cons.injEq, and_true] at e2
    exact core rfl rfl e2
  · rename_i h1 h2
    exfalso
    injection e with e
    have e2 := congrArg Array.size e
    simp only [List.size_toArray, hl] at e2
    have hn : n = 0 := by simpa using e2.symm
    subst hn
    obtain rfl : a = 0 := by omega
    have e3 := congrArg Array.toList e
    simp only [putIn, List.replicate_zero, List.take_nil, List.nil_append, List.drop_nil, List.append_nil, List.cons.injEq, and_true] at e3
    have := core rfl rfl e3
    subst this
    exact h2 h1
  · rename_i h1 h2
    exfalso
    injection e with e
    have e2 := congrArg Array.size e
    simp only [List.size_toArray, hl] at e2
    have hn : n = 0 := by simpa using e2
    subst hn
    obtain rfl : a = 0 := by omega
    have e3 := congrArg Array.toList e
    simp only [putIn, List.replicate_zero, List.take_nil, List.nil_append, List.drop_nil, List.append_nil, List.cons.injEq, and_true] at e3
    have := core rfl rfl e3
    subst this
    exact h1 h2
  · injection e with e
    have e2 := congrArg Array.toList e
    exact core rfl rfl (putIn_inj (by rw [List.length_replicate]; exact ha) e2)
theorem names_nodup {b s : Int} {n d a : Nat} {m : Bool} (ha : a ≤ n) (hs : s = 1 ∨ s = 3 ∨ s = 5 ∨ s = 7) {many : Nat} (hm : many ≤ 26) : ((List.range many).map (nameK b s (List.replicate n d) a m)).Nodup := by
  rw [List.nodup_iff_pairwise_ne, List.pairwise_map]
  have h : (List.range many).Pairwise fun x y => x ≠ y := List.nodup_range
  refine (List.Pairwise.and_mem.mp h).imp ?_
  intro x y ⟨hx, hy, n⟩ e
  exact n (nameK_inj ha hs (by have := List.mem_range.mp hx; omega) (by have := List.mem_range.mp hy; omega) e)
/-- names, strictly upwards -/
structure Names (ys : List Str) : Prop where
  asc : Asc ys
  ok : ∀ y ∈ ys, IsName y
/-- names, each once, in any order -/
structure NamesU (ys : List Str) : Prop where
  nd : ys.Nodup
  ok : ∀ y ∈ ys, IsName y
theorem Names.u {ys : List Str} (h : Names ys) : NamesU ys := ⟨asc_nodup h.asc, h.ok⟩
theorem NamesU.perm {xs ys : List Str} (h : NamesU xs) (p : ys.Perm xs) : NamesU ys := ⟨p.nodup_iff.mpr h.nd, fun y hy => h.ok y (p.mem_iff.mp hy)⟩
/-! slices of a text -/
theorem cutS_to {z : Str} {i : Int} (h0 : 0 ≤ i) : cutS z none (some i) = ⟨(z.cps.toList.take i.toNat).toArray⟩ := by
  unfold cutS HT.sIx
  simp only [Nat.sub_zero, List.drop_zero]
  rw [if_neg (by omega)]
  congr 2
  have : z.cps.toList.length = z.length := by simp [Str.length]
  by_cases h : i.toNat ≤ z.length
  · rw [Nat.min_eq_left h]
  · rw [Nat.min_eq_right (by omega), List.take_of_length_le (by omega), List.take_of_length_le (by omega)]
theorem cutS_from {z : Str} {i : Int} (h0 : 0 ≤ i) : cutS z (some i) none = ⟨(z.cps.toList.drop i.toNat).toArray⟩ := by
  unfold cutS HT.sIx
  simp only
  rw [if_neg (by omega)]
  congr 1
  have hl : z.cps.toList.length = z.length := by simp [Str.length]
  by_cases h : i.toNat ≤ z.length
  · rw [Nat.min_eq_left h, List.take_of_length_le (by rw [List.length_drop]; omega)]
  · rw [Nat.min_eq_right (by omega), List.drop_of_length_le (by omega), List.drop_of_length_le (by omega), List.take_nil]
theorem str_app {a b : List Nat} : (⟨a.toArray⟩ : Str) ++ ⟨b.toArray⟩ = ⟨(a ++ b).toArray⟩ := str_ext (TL.tl_append _ _)
end U

/-! loops, dictionaries, unpacking: their readings by steps -/
namespace U
open PySem PySem.Spec PyProof.Rows L2
/-- what a loop over J asks -/
def ForB (J : It) (g : TG) (tb : TS) (D : Ends) (σ : L2.St) (H : Hp) : Prop := ∃ W : Nat → Nat → L2.St → Hp → Prop, (∃ m, W 0 m σ H) ∧ ∀ i m σ H, W i m σ H →
  (J.stop i H ∧ D.nx σ H) ∨ (J.go i H ∧ ∃ N : L2.St → Hp → Prop, (∀ σ' H', N σ' H' → ∃ m', m' < m ∧ W (i + 1) m' σ' H') ∧ ∀ x H', J.yld i H x H' → g x σ H' fun σ2 H2 => tb { D with nx := N, ct := N, bk := D.nx } σ2 H2)
def LcB (J : It) (g : TG) (tt : TT) (te : TE) (vs : List Nat) (σ : L2.St) (H1 : Hp) (D : Addr) (Qd : Hp → Prop) : Prop := ∃ W : Nat → Nat → Hp → Prop, (∃ m, W 0 m (upd H1 D (.lst []))) ∧ ∀ i m H, W i m H →
  (J.stop i H ∧ Qd H) ∨ (J.go i H ∧ ∃ Nx : Hp → Prop, (∀ H', Nx H' → ∃ m', m' < m ∧ W (i + 1) m' H') ∧ ∀ x H', J.yld i H x H' → g x (wipe σ vs) H' fun σ2 H2 => wipe σ2 vs = wipe σ vs ∧ tt σ2 H2 fun b H3 =>
    if b = true then te σ2 H3 fun y H4 => ∃ acc, H4 D = some (.lst acc) ∧ acc.length < sizeLine ∧ Nx (upd H4 D (.lst (acc ++ [y]))) else Nx H3)
section
variable {σ : L2.St} {H : Hp} {Q : VK} {D : Ends} {v x y : V} {i j : Int} {ta tb tc te td ty tv : TE} {t u : TS} {K : PySem.W.Frag} {g : TG} {wi : TI} {R : It → Hp → Prop} {tr : TA}
theorem rd_for (h : wi σ H fun J H1 => ForB J g t D σ H1) : tFor wi g t D σ H := h
theorem rd_rng1 (h : tr σ H fun vs H1 => ∃ j : Int, vs = [.int j] ∧ -(2 ^ 62) ≤ j ∧ j < 2 ^ 62 ∧ R (Itr 0 j.toNat) H1) : iRng1 tr σ H R := h
theorem rd_rng2 (h : tr σ H fun vs H1 => ∃ i j : Int, vs = [.int i, .int j] ∧ (-(2 ^ 62) ≤ i ∧ i < 2 ^ 62 ∧ -(2 ^ 62) ≤ j ∧ j < 2 ^ 62) ∧ R (Itr i (j - i).toNat) H1) : iRng2 tr σ H R := h
theorem rd_iList (h : te σ H fun x H1 => ∃ a, x = .ref a ∧ (∃ xs, SqL K H1 a xs) ∧ R (Itl K a) H1) : iList K te σ H R := h
theorem rd_iTup (h : te σ H fun x H1 => ∃ a, x = .ref a ∧ (∃ xs, SqT K H1 a xs) ∧ R (Itt K a) H1) : iTup K te σ H R := h
theorem rd_iEnum (h : tr σ H fun vs H1 => ∃ a xs, vs = [.ref a] ∧ SqL K H1 a xs ∧ R (Ite K a) H1) : iEnum K tr σ H R := h
theorem rd_forL {p : Addr} {xs : List V} {R : Addr → Prop} (hs : SqL K H p xs) (h : R p) : ∃ a, V.ref p = .ref a ∧ (∃ xs, SqL K H a xs) ∧ R a := ⟨p, rfl, ⟨xs, hs⟩, h⟩
theorem rd_forT {p : Addr} {xs : List V} {R : Addr → Prop} (hs : SqT K H p xs) (h : R p) : ∃ a, V.ref p = .ref a ∧ (∃ xs, SqT K H a xs) ∧ R a := ⟨p, rfl, ⟨xs, hs⟩, h⟩
theorem rd_forR {R : Int → Prop} (h0 : -(2 ^ 62) ≤ j) (h1 : j < 2 ^ 62) (h : R j) : ∃ k : Int, [V.int j] = [.int k] ∧ -(2 ^ 62) ≤ k ∧ k < 2 ^ 62 ∧ R k := ⟨j, rfl, h0, h1, h⟩
theorem rd_forE {p : Addr} {xs : List V} {R : Addr → Prop} (hs : SqL K H p xs) (h : R p) : ∃ a xs, [V.ref p] = [.ref a] ∧ SqL K H a xs ∧ R a := ⟨p, xs, rfl, hs, h⟩
theorem turnsR {lo : Int} {n : Nat} (Pv : Nat → L2.St → Hp → Prop) (h0 : Pv 0 σ H) (hs : ∀ i σ H, i < n → Pv i σ H → g (.int (lo + i)) σ H fun σ2 H2 => t { D with nx := Pv (i + 1), ct := Pv (i + 1), bk := D.nx } σ2 H2)
    (hd : ∀ σ H, Pv n σ H → D.nx σ H) : ForB (Itr lo n) g t D σ H := for_range Pv h0 hs hd
theorem turnsL {a : Addr} {xs : List V} (Pv : Nat → L2.St → Hp → Prop) (h0 : Pv 0 σ H) (hl : ∀ i σ H, i ≤ xs.length → Pv i σ H → SqL K H a xs)
    (hs : ∀ i x σ H, xs[i]? = some x → Pv i σ H → g x σ H fun σ2 H2 => t { D with nx := Pv (i + 1), ct := Pv (i + 1), bk := D.nx } σ2 H2) (hd : ∀ σ H, Pv xs.length σ H → D.nx σ H) : ForB (Itl K a) g t D σ H := for_list Pv h0 hl hs hd
theorem turnsT {a : Addr} {xs : List V} (Pv : Nat → L2.St → Hp → Prop) (h0 : Pv 0 σ H) (hl : ∀ i σ H, i ≤ xs.length → Pv i σ H → SqT K H a xs)
    (hs : ∀ i x σ H, xs[i]? = some x → Pv i σ H → g x σ H fun σ2 H2 => t { D with nx := Pv (i + 1), ct := Pv (i + 1), bk := D.nx } σ2 H2) (hd : ∀ σ H, Pv xs.length σ H → D.nx σ H) : ForB (Itt K a) g t D σ H := for_tup Pv h0 hl hs hd
theorem turnsW {J : It} {n : Nat} {G : Hp → Prop} {Y : Nat → Hp → V → Hp → Prop} (w : Walk J n G Y) (Pv : Nat → L2.St → Hp → Prop) (h0 : Pv 0 σ H) (hG : ∀ i σ H, i ≤ n → Pv i σ H → G H)
    (hs : ∀ i x σ H H', i < n → Pv i σ H → Y i H x H' → g x σ H' fun σ2 H2 => t { D with nx := Pv (i + 1), ct := Pv (i + 1), bk := D.nx } σ2 H2) (hd : ∀ σ H, Pv n σ H → D.nx σ H) : ForB J g t D σ H := for_it w Pv h0 hG hs hd
theorem rd_lc {tt : TT} {vs : List Nat} (h : wi σ H fun J H1 => ∀ D, H1 D = none → LcB J g tt te vs σ H1 D fun H2 => Q (.ref D) H2) : tLc wi g tt te vs σ H Q := h
theorem lcT {a : Addr} {xs : List V} {tt : TT} {vs : List Nat} {D : Addr} {Qd : Hp → Prop} (Pv : Nat → Hp → Prop) (h0 : Pv 0 (upd H D (.lst []))) (hl : ∀ i H, i ≤ xs.length → Pv i H → SqT K H a xs)
    (hs : ∀ i x H, xs[i]? = some x → Pv i H → g x (wipe σ vs) H fun σ2 H2 => wipe σ2 vs = wipe σ vs ∧ tt σ2 H2 fun b H3 =>
      if b = true then te σ2 H3 fun y H4 => ∃ acc, H4 D = some (.lst acc) ∧ acc.length < sizeLine ∧ Pv (i + 1) (upd H4 D (.lst (acc ++ [y]))) else Pv (i + 1) H3) (hd : ∀ H, Pv xs.length H → Qd H) : LcB (Itt K a) g tt te vs σ H D Qd := lc_tup Pv h0 hl hs hd
theorem lcL {a : Addr} {xs : List V} {tt : TT} {vs : List Nat} {D : Addr} {Qd : Hp → Prop} (Pv : Nat → Hp → Prop) (h0 : Pv 0 (upd H D (.lst []))) (hl : ∀ i H, i ≤ xs.length → Pv i H → SqL K H a xs)
    (hs : ∀ i x H, xs[i]? = some x → Pv i H → g x (wipe σ vs) H fun σ2 H2 => wipe σ2 vs = wipe σ vs ∧ tt σ2 H2 fun b H3 =>
      if b = true then te σ2 H3 fun y H4 => ∃ acc, H4 D = some (.lst acc) ∧ acc.length < sizeLine ∧ Pv (i + 1) (upd H4 D (.lst (acc ++ [y]))) else Pv (i + 1) H3) (hd : ∀ H, Pv xs.length H → Qd H) : LcB (Itl K a) g tt te vs σ H D Qd := lc_list Pv h0 hl hs hd
theorem lcR {lo : Int} {n : Nat} {tt : TT} {vs : List Nat} {D : Addr} {Qd : Hp → Prop} (Pv : Nat → Hp → Prop) (h0 : Pv 0 (upd H D (.lst [])))
    (hs : ∀ i H, i < n → Pv i H → g (.int (lo + i)) (wipe σ vs) H fun σ2 H2 => wipe σ2 vs = wipe σ vs ∧ tt σ2 H2 fun b H3 =>
      if b = true then te σ2 H3 fun y H4 => ∃ acc, H4 D = some (.lst acc) ∧ acc.length < sizeLine ∧ Pv (i + 1) (upd H4 D (.lst (acc ++ [y]))) else Pv (i + 1) H3) (hd : ∀ H, Pv n H → Qd H) : LcB (Itr lo n) g tt te vs σ H D Qd := lc_range Pv h0 hs hd
/-- unpacking -/
theorem rd_unp {n : Nat} {ts : TGs} {p : Addr} {xs : List V} {Q : L2.St → Hp → Prop} (hs : SqT K H p xs) (hl : xs.length = n) (h : ts xs σ H Q) : gTup K n ts (.ref p) σ H Q := ⟨p, xs, rfl, hs, hl, h⟩
theorem rd_gcons {tg : TG} {u : TGs} {vr : List V} {Q : L2.St → Hp → Prop} (h : tg v σ H fun σ1 H1 => u vr σ1 H1 Q) : gCons tg u (v :: vr) σ H Q := ⟨v, vr, rfl, h⟩
theorem rd_gnil {Q : L2.St → Hp → Prop} (h : Q σ H) : gNil [] σ H Q := ⟨rfl, h⟩
/-- dictionaries -/
theorem rd_dget (h : td σ H fun x H1 => ty σ H1 fun y H2 => ∃ a v, x = .ref a ∧ DGet H2 a y (some v) ∧ Q v H2) : tDGet td ty σ H Q := h
theorem rd_dat {p : Addr} {kvs : List (Key × V)} {k : Key} (hs : Rd H p (.dK kvs)) (hv : valV kvs k = some v) {R : V → Prop} (hy : y = kV k) (h : R v) : ∃ a v, V.ref p = .ref a ∧ DGet H a y (some v) ∧ R v := ⟨p, v, rfl, .inl ⟨kvs, k, hs, hy, hv.symm⟩, h⟩
theorem rd_dput (h : tv σ H fun v H1 => td σ H1 fun x H2 => ty σ H2 fun y H3 => ∃ a H4, x = .ref a ∧ DPut H3 a y v H4 ∧ D.nx σ H4) : sDPut td ty tv D σ H := h
end
end U

/-! lists of texts as data -/
namespace U
open PySem PySem.Spec PyProof.Rows L2
theorem IsName.sok {z : Str} (h : IsName z) : PyData.strOk z = true := by
  unfold PyData.strOk
  rw [Array.all_eq_true_iff_forall_mem]
  intro x hx
  have := h.ch x (by simpa using hx)
  rw [decide_eq_true_eq]
  omega
theorem erase_map {α β : Type} {f : α → β} : ∀ {xs : List α} {i : Nat}, (xs.map f).eraseIdx i = (xs.eraseIdx i).map f
  | [], _ => by simp
  | _ :: _, 0 => rfl
  | x :: xs, i + 1 => by
    show f x :: (xs.map f).eraseIdx i = f x :: (xs.eraseIdx i).map f
    rw [erase_map]
theorem erase_perm {α : Type} : ∀ {xs : List α} {i : Nat} (h : i < xs.length), (xs[i] :: xs.eraseIdx i).Perm xs
  | _ :: _, 0, _ => .refl _
  | x :: xs, i + 1, h => by
    have h' : i < xs.length := Nat.lt_of_succ_lt_succ h
    show (xs[i] :: x :: xs.eraseIdx i).Perm (x :: xs)
    exact (List.Perm.swap x xs[i] _).trans ((erase_perm h').cons x)
section
variable {K : PySem.W.Frag} {H : Hp} {Q : VK} {p q : Addr}
theorem dp_strs : ∀ (xs : List Str), DpAll K H (xs.map V.str) (xs.map PyData.str)
  | [] => .nil
  | x :: xs => .cons (.str x) (dp_strs xs)
theorem can_strs : ∀ {xs : List Str}, (∀ x ∈ xs, PyData.strOk x = true) → PyData.canLayAll0 (xs.map PyData.str) = true
  | [], _ => by simp [PyData.canLayAll0]
  | x :: xs, h => by
    rw [List.map_cons, PyData.canLayAll0, PyData.canLay0, h x List.mem_cons_self, can_strs fun y hy => h y (List.mem_cons_of_mem _ hy)]
    rfl
theorem dep_strs : ∀ {xs : List Str}, PyData.depthAll (xs.map PyData.str) = 0
  | [] => by simp [PyData.depthAll]
  | x :: xs => by
    rw [List.map_cons, PyData.depthAll, dep_strs, PyData.depth]
    rfl
theorem shp_strs {xs : List Str} (h : ∀ x ∈ xs, PyData.strOk x = true) : SeqAt.shaped (.list (xs.map PyData.str)) = true := by
  unfold SeqAt.shaped
  rw [PyData.canLay0, can_strs h, PyData.depth, dep_strs]
  rfl
theorem eqv_nil {xs : List Str} : PyData.eqv (.list (xs.map PyData.str)) (.list []) = xs.isEmpty := by
  cases xs with
  | nil => simp [PyData.eqv, PyData.eqvAll]
  | cons _ _ => simp [PyData.eqv, PyData.eqvAll]
/-- xs != [] -/
theorem rd_neNil {xs : List Str} (hp : SqL K H p (xs.map V.str)) (hq : SqL K H q []) (ok : ∀ x ∈ xs, PyData.strOk x = true) (h : Q (.bl (!xs.isEmpty)) H) : rNeU K (.ref p) (.ref q) H Q := by
  refine ⟨_, _, .lst hp (dp_strs xs), .lst hq .nil, shp_strs ok, by decide, ?_⟩
  rw [eqv_nil]
  exact h
theorem rd_popAt {xs : List V} {i : Int} {v : V} {k : Nat} (hs : H p = some (.lst xs)) (h0 : 0 ≤ i) (hk : i.toNat = k) (hl : xs.length < 100000) (hv : xs[k]? = some v) (h : Q v (upd H p (.lst (xs.eraseIdx k)))) : rPopAt (.ref p) [.int i] H Q := by
  obtain ⟨hlt, _⟩ := List.getElem?_eq_some_iff.mp hv
  refine ⟨p, xs, i, k, v, rfl, rfl, hs, by omega, by omega, ?_, hv, h⟩
  rw [seqIndex_of h0 (by omega), hk]
end
end U

/-! graphs and states as the laws draw them -/
namespace U
open PySem PySem.Spec PyProof.Rows L2
/-- the two names, the lower first -/
def eOf (a b : Str) : Str × Str := if sLt a b then (a, b) else (b, a)
theorem eOf_cases (a b : Str) : eOf a b = (a, b) ∨ eOf a b = (b, a) := by
  unfold eOf
  split
  · exact .inl rfl
  · exact .inr rfl
theorem eOf_lt {a b : Str} (n : a ≠ b) : sLt (eOf a b).1 (eOf a b).2 := by
  unfold eOf
  split
  · assumption
  · rename_i h
    exact sLt_total h (Ne.symm n)
theorem eOf_inj {a b c d : Str} (h : eOf a b = eOf c d) : (a = c ∧ b = d) ∨ (a = d ∧ b = c) := by
  rcases eOf_cases a b with e | e <;> rcases eOf_cases c d with e' | e' <;> rw [e, e'] at h <;> injection h with h1 h2
  · exact .inl ⟨h1, h2⟩
  · exact .inr ⟨h1, h2⟩
  · exact .inr ⟨h2, h1⟩
  · exact .inl ⟨h2, h1⟩
/-- the state's pairs -/
abbrev kvsOf (ws : List (Str × Int)) : List (Key × V) := ws.map fun p => (Sum.inr p.1, V.int p.2)
/-- the number of the node n -/
def numOf (ws : List (Str × Int)) (n : Str) : Int := (ws.lookup n).getD 0
theorem val_kvs : ∀ {ws : List (Str × Int)} {n : Str}, n ∈ ws.map (·.1) → valV (kvsOf ws) (.inr n) = some (.int (numOf ws n))
  | p :: ws, n, h => by
    by_cases e : n = p.1
    · subst e
      rw [kvsOf, List.map_cons, valV_pos rfl]
      unfold numOf
      rw [List.lookup_cons_self]
      rfl
    · have e' : ¬ (Sum.inr p.1 : Key) = Sum.inr n := fun z => e (Sum.inr.inj z).symm
      rw [kvsOf, List.map_cons, valV_neg e']
      have : n ∈ ws.map (·.1) := by
        rcases List.mem_cons.mp h with z | z
        · exact absurd z e
        · exact z
      have r := val_kvs this
      rw [kvsOf] at r
      rw [r]
      unfold numOf
      rw [List.lookup_cons, show (n == p.1) = false from beq_eq_false_iff_ne.mpr e]
theorem val_none : ∀ {ws : List (Str × Int)} {n : Str}, n ∉ ws.map (·.1) → valV (kvsOf ws) (.inr n) = none
  | [], _, _ => rfl
  | p :: ws, n, h => by
    have e' : ¬ (Sum.inr p.1 : Key) = Sum.inr n := fun z => h (by rw [← Sum.inr.inj z]; exact List.mem_cons_self)
    rw [kvsOf, List.map_cons, valV_neg e']
    exact val_none fun z => h (List.mem_cons_of_mem _ z)
theorem put_kvs {ws : List (Str × Int)} {n : Str} {v : Int} (h : n ∉ ws.map (·.1)) : putK (kvsOf ws) (.inr n) (.int v) = kvsOf (ws ++ [(n, v)]) := by
  rw [putK_new _ (val_none h), kvsOf, kvsOf, List.map_append]
  rfl
theorem num_mem : ∀ {ws : List (Str × Int)} {n : Str}, n ∈ ws.map (·.1) → (n, numOf ws n) ∈ ws
  | p :: ws, n, h => by
    unfold numOf
    rw [List.lookup_cons]
    by_cases e : n = p.1
    · rw [show (n == p.1) = true from beq_iff_eq.mpr e]
      subst e
      exact List.mem_cons_self
    · rw [show (n == p.1) = false from beq_eq_false_iff_ne.mpr e]
      have : n ∈ ws.map (·.1) := by
        rcases List.mem_cons.mp h with z | z
        · exact absurd z e
        · exact z
      exact List.mem_cons_of_mem _ (num_mem this)
/-- a state: each name once, in the order ord, a number of 0, 1, 2 -/
structure StOk (ord : List Str) (ws : List (Str × Int)) : Prop where
  key : ws.map (·.1) = ord
  num : ∀ p ∈ ws, 0 ≤ p.2 ∧ p.2 < 3
theorem StOk.at {ord : List Str} {ws : List (Str × Int)} (h : StOk ord ws) {n : Str} (hn : n ∈ ord) : 0 ≤ numOf ws n ∧ numOf ws n < 3 := h.num _ (num_mem (by rw [h.key]; exact hn))
theorem StOk.val {ord : List Str} {ws : List (Str × Int)} (h : StOk ord ws) {n : Str} (hn : n ∈ ord) : valV (kvsOf ws) (.inr n) = some (.int (numOf ws n)) := val_kvs (by rw [h.key]; exact hn)
/-- the edges as they are found: at turn i, j -/
structure EdgesIn (ord : List Str) (f : Str → Int) (i j : Nat) (es : List (Addr × Str × Str)) : Prop where
  nd : (es.map (·.2)).Nodup
  of : ∀ e ∈ es, ∃ i' j', ∃ (hi : i' < ord.length) (hj : j' < ord.length), j' < i' ∧ (i' < i ∨ (i' = i ∧ j' < j)) ∧ e.2 = eOf ord[i'] ord[j'] ∧ f ord[i'] ≠ f ord[j']
theorem EdgesIn.step {ord : List Str} {f : Str → Int} {i j i2 j2 : Nat} {es : List (Addr × Str × Str)} (h : EdgesIn ord f i j es) (c : i < i2 ∨ (i = i2 ∧ j ≤ j2)) : EdgesIn ord f i2 j2 es :=
  ⟨h.nd, fun e he => by
    obtain ⟨i', j', hi, hj, h1, h2, h3⟩ := h.of e he
    exact ⟨i', j', hi, hj, h1, by omega, h3⟩⟩
theorem EdgesIn.add {ord : List Str} {f : Str → Int} {i j : Nat} {es : List (Addr × Str × Str)} {t : Addr} (h : EdgesIn ord f i j es) (nd : ord.Nodup) (hij : j < i) (hi : i < ord.length) (hj : j < ord.length) (hf : f ord[i] ≠ f ord[j]) :
    EdgesIn ord f i (j + 1) (es ++ [(t, eOf ord[i] ord[j])]) := by
  have inj : ∀ {a b : Nat} (ha : a < ord.length) (hb : b < ord.length), ord[a] = ord[b] → a = b := by
    intro a b ha hb e
    have z := List.pairwise_iff_getElem.mp (List.nodup_iff_pairwise_ne.mp nd)
    rcases Nat.lt_trichotomy a b with h | h | h
    · exact absurd e (z a b ha hb h)
    · exact h
    · exact absurd e.symm (z b a hb ha h)
  refine ⟨?_, ?_⟩
  · rw [List.map_append, List.nodup_append]
    refine ⟨h.nd, by simp, ?_⟩
    intro x hx y hy e
    obtain ⟨z, hz, rfl⟩ := List.mem_map.mp hx
    have : y = eOf ord[i] ord[j] := by simpa using hy
    subst this
    obtain ⟨i', j', hi', hj', h1, h2, h3, _⟩ := h.of z hz
    rw [h3] at e
    rcases eOf_inj e with ⟨e1, e2⟩ | ⟨e1, e2⟩
    · have := inj _ _ e1
      have := inj _ _ e2
      omega
    · have := inj _ _ e1
      have := inj _ _ e2
      omega
  · intro e he
    rcases List.mem_append.mp he with he | he
    · obtain ⟨i', j', hi', hj', h1, h2, h3⟩ := h.of e he
      exact ⟨i', j', hi', hj', h1, by omega, h3⟩
    · have : e = (t, eOf ord[i] ord[j]) := by simpa using he
      subst this
      exact ⟨i, j, hi, hj, hij, by omega, rfl, hf⟩
/-- a graph: names upwards, edges upwards, each with its lower name first -/
structure GrOk (ns : List Str) (es : List (Str × Str)) : Prop where
  names : Names ns
  asc : AscE es
  lt : ∀ e ∈ es, sLt e.1 e.2
  mem : ∀ e ∈ es, e.1 ∈ ns ∧ e.2 ∈ ns
/-- the graph stands at g -/
structure GrAt (H : Hp) (g n e : Addr) (ns : List Str) (es : List (Addr × Str × Str)) : Prop where
  top : H g = some (.tup [.ref n, .ref e])
  nodes : H n = some (.tup (ns.map V.str))
  edges : H e = some (.tup (es.map fun x => V.ref x.1))
  pairs : ∀ x ∈ es, H x.1 = some (.tup [.str x.2.1, .str x.2.2])
theorem cutV_to {xs : List V} {i : Nat} (h : i ≤ xs.length) : cutV xs none (some (i : Int)) = xs.take i := by
  unfold cutV HT.sIx
  simp only [Nat.sub_zero, List.drop_zero]
  rw [if_neg (by omega), Int.toNat_natCast, Nat.min_eq_left h]
theorem map_at {α : Type} {f : α → V} {xs : List α} {i : Nat} {x : V} (h : (xs.map f)[i]? = some x) : ∃ hi : i < xs.length, x = f xs[i] := by
  rw [List.getElem?_map] at h
  by_cases hi : i < xs.length
  · rw [List.getElem?_eq_getElem hi] at h
    exact ⟨hi, (Option.some.inj h).symm⟩
  · rw [List.getElem?_eq_none (by omega)] at h
    cases h
theorem StOk.nil : StOk [] [] := ⟨rfl, fun _ h => nomatch h⟩
theorem StOk.add {ord : List Str} {ws : List (Str × Int)} {i : Nat} {v : Int} (h : StOk (ord.take i) ws) (hi : i < ord.length) (h0 : 0 ≤ v) (h1 : v < 3) : StOk (ord.take (i + 1)) (ws ++ [(ord[i], v)]) := by
  refine ⟨?_, ?_⟩
  · rw [List.map_append, h.key, List.take_succ, List.getElem?_eq_getElem hi]
    rfl
  · intro p hp
    rcases List.mem_append.mp hp with hp | hp
    · exact h.num p hp
    · have : p = (ord[i], v) := by simpa using hp
      subst this
      exact ⟨h0, h1⟩
theorem StOk.not {ord : List Str} {ws : List (Str × Int)} {i : Nat} (h : StOk (ord.take i) ws) (nd : ord.Nodup) (hi : i < ord.length) : ord[i] ∉ ws.map (·.1) := by
  rw [h.key]
  intro hm
  obtain ⟨j, hj, e⟩ := List.mem_iff_getElem.mp hm
  rw [List.length_take] at hj
  have e' : ord[j] = ord[i] := by rw [← e, List.getElem_take]
  have z := List.pairwise_iff_getElem.mp (List.nodup_iff_pairwise_ne.mp nd)
  exact z j i (by omega) hi (by omega) e'
theorem eOf_pair {a b : Str} : (if sLt a b then [V.str a, V.str b] else [V.str b, V.str a]) = [V.str (eOf a b).1, V.str (eOf a b).2] := by
  unfold eOf
  split <;> rfl
section
variable {K : PySem.W.Frag} {H : Hp} {Q : VK} {p q : Addr} {σ : L2.St}
theorem rd_dnew (h : ∀ d, H d = none → Q (.ref d) (upd H d (.dK []))) : tDNewK σ H Q := h
theorem rd_dset {kvs : List (Key × V)} {k : Key} {y v : V} {R : Hp → Prop} (hs : H p = some (.dK kvs)) (hy : y = kV k) (hl : kvs.length < 100000) (h : R (upd H p (.dK (putK kvs k v)))) :
    ∃ a H4, V.ref p = .ref a ∧ DPut H a y v H4 ∧ R H4 := ⟨p, _, rfl, .inl ⟨kvs, k, hs, hy, Nat.lt_of_lt_of_le hl (by decide), rfl⟩, h⟩
end
end U

/-! comprehensions, locks, statements that are never reached: their readings -/
namespace U
open PySem PySem.Spec PyProof.Rows L2
/-- f(e, .., k = v, ..): the keywords in the parameters' order, behind the rest -/
structure CalK (P : Program) (w : World) (K : PySem.W.Frag) (mg : Str → Option Value) (base : Heap) (CX : CXT) (k : Nat) (x : Str) (np : Nat) (ks : List Str) (sp : Sp) : Prop where
  ex : ∃ (f : Addr) (fd : FuncData) (ps : List Str), FnG P w K mg base CX k f fd ps sp ∧ mg x = some (.ref f) ∧ PySem.W.keepIn K (.ref f) = true ∧
    ∀ us ws : List Value, us.length = np → ws.length = ks.length → bindArgs fd ⟨us, ks.zip ws⟩ = pure (ps.zip (us ++ ws))
def tCK (sp : Sp) (np nk : Nat) (E : XK) (t tk : TA) : TE := fun σ H Q => t σ H fun vs H1 => vs.length = np ∧ tk σ H1 fun zs H2 => zs.length = nk ∧ sp (vs ++ zs) H2 Q E
theorem vals_app {vs zs : List V} {us ws : List Value} (a : Vals vs us) (b : Vals zs ws) : Vals (vs ++ zs) (us ++ ws) := a.append b
theorem pe_cK {X : Cx} {CX : L2.CXT} {k j : Nat} {x : Str} {np : Nat} {ks : List Str} {sp : Sp} {E : XK} {e : Expr} {es : List Expr} {kws : List Keyword} {t tk : TA} {p pos : Pos} (c : CalK X.prog X.w X.K X.mg X.base CX k x np ks sp) (hr : Rm j X.A) (hk : k ≤ j) (hg : Gl X x) (hx : Passes CX X E)
    (ha : PA X (e :: es) t) (hkw : PK X kws tk) (hall : (backToKw pos (keywordEach kws X.env)).all (·.1.isSome) = true := by rfl) (hks : (backToKw pos (keywordEach kws X.env)).filterMap (·.1) = ks := by rfl)
    (hdb : (x == ("__debug__" : Str)) = false := by decide) (he : starEach (e :: es) X.env = (false, eval e X.env) :: starEach es X.env := by rfl)
    (hpl : ((backTo pos (starEach (e :: es) X.env)).any (·.1) || (backToKw pos (keywordEach kws X.env)).any (·.1.isNone)) = false := by rfl) :
    PE X (.Call (.Name x p) (e :: es) kws pos) (tCK sp np ks.length E t tk) := by
  obtain ⟨f, fd, ps, F, hm, kp, b⟩ := c.ex
  refine ⟨fun pins s σ H Q I h => wpAny_Call_Name_kw (ld_glob I hg hm ?_ hdb)⟩
  refine PySem.W.callWith_KW (h₀ := X.base) I.ok.mod.kin kp hall (thn (ha.run pos pins s σ H _ I h) fun us s1 ⟨vs, H1, I1, r, hn, q⟩ => ?_) hpl he
  refine thn (hkw.run pos pins s1 σ H1 _ I1 q) fun ws s2 ⟨zs, H2, I2, rz, hz, q2⟩ => ⟨I2.kIn, ?_⟩
  rw [hks]
  have bd : BindsTo s2 fd ⟨us, ks.zip ws⟩ (ps.zip (us ++ ws)) := .of_eq (b us ws (by rw [← r.length]; exact hn) (by rw [← rz.length]; exact hz))
  refine wpAny_call (codeAny_mono (F.go X.A X.stack s2 H2 ⟨us, ks.zip ws⟩ (us ++ ws) (vs ++ zs) Q E (hr.mono hk) I2.env0 bd (vals_app r rz) q2) ?_)
  intro res s' hq
  cases res with
  | error er => exact hx pins σ H2 s2 er s' I2 hq
  | ok fl =>
    cases fl with
    | ret u => exact I2.after hq
    | next => exact hq.elim
    | brk => exact hq.elim
    | cont => exact hq.elim
theorem ps_dead {X : Cx} {st : Stmt} : PS X st (fun _ _ _ => False) := ⟨fun _ _ _ _ _ _ h => h.elim⟩
def DcB (J : It) (g : TG) (tt : TT) (tk tv : TE) (vs : List Nat) (σ : L2.St) (H1 : Hp) (D : Addr) (Qd : Hp → Prop) : Prop := ∃ W : Nat → Nat → Hp → Prop, (∃ m, W 0 m (upd H1 D (.dK []))) ∧ ∀ i m H, W i m H →
  (J.stop i H ∧ Qd H) ∨ (J.go i H ∧ ∃ Nx : Hp → Prop, (∀ H', Nx H' → ∃ m', m' < m ∧ W (i + 1) m' H') ∧ ∀ x H', J.yld i H x H' → g x (wipe σ vs) H' fun σ2 H2 => wipe σ2 vs = wipe σ vs ∧ tt σ2 H2 fun b H3 =>
    if b = true then tk σ2 H3 fun y H4 => tv σ2 H4 fun z H5 => ∃ kvs k, y = kV k ∧ H5 D = some (.dK kvs) ∧ kvs.length < sizeLine ∧ Nx (upd H5 D (.dK (putK kvs k z))) else Nx H3)
section
variable {σ : L2.St} {H : Hp} {Q : VK} {D : Ends} {te td ty tv : TE} {t : TS} {g : TG} {wi : TI} {R : It → Hp → Prop} {tt : TT} {vs : List Nat} {L : Addr} {Qd : Hp → Prop} {J : It} {n : Nat} {G : Hp → Prop} {Y : Nat → Hp → V → Hp → Prop} {K : PySem.W.Frag}
theorem lcW (w : Walk J n G Y) (Pv : Nat → Hp → Prop) (h0 : Pv 0 (upd H L (.lst []))) (hG : ∀ i H, i ≤ n → Pv i H → G H)
    (hs : ∀ i x H H', i < n → Pv i H → Y i H x H' → g x (wipe σ vs) H' fun σ2 H2 => wipe σ2 vs = wipe σ vs ∧ tt σ2 H2 fun b H3 =>
      if b = true then te σ2 H3 fun y H4 => ∃ acc, H4 L = some (.lst acc) ∧ acc.length < sizeLine ∧ Pv (i + 1) (upd H4 L (.lst (acc ++ [y]))) else Pv (i + 1) H3) (hd : ∀ H, Pv n H → Qd H) : LcB J g tt te vs σ H L Qd := lc_it w Pv h0 hG hs hd
theorem dcW {tk : TE} (w : Walk J n G Y) (Pv : Nat → Hp → Prop) (h0 : Pv 0 (upd H L (.dK []))) (hG : ∀ i H, i ≤ n → Pv i H → G H)
    (hs : ∀ i x H H', i < n → Pv i H → Y i H x H' → g x (wipe σ vs) H' fun σ2 H2 => wipe σ2 vs = wipe σ vs ∧ tt σ2 H2 fun b H3 =>
      if b = true then tk σ2 H3 fun y H4 => tv σ2 H4 fun z H5 => ∃ kvs k, y = kV k ∧ H5 L = some (.dK kvs) ∧ kvs.length < sizeLine ∧ Pv (i + 1) (upd H5 L (.dK (putK kvs k z))) else Pv (i + 1) H3) (hd : ∀ H, Pv n H → Qd H) : DcB J g tt tk tv vs σ H L Qd := by
  refine ⟨fun i m H => m = n - i ∧ i ≤ n ∧ Pv i H, ⟨n, by simp, Nat.zero_le _, h0⟩, ?_⟩
  rintro i m H ⟨rfl, hi, p⟩
  have q := hG i H hi p
  by_cases hlt : i < n
  · refine .inr ⟨w.goes i H hlt q, Pv (i + 1), fun H' p' => ⟨n - (i + 1), by omega, rfl, hlt, p'⟩, fun x H' y => hs i x H H' hlt p (w.yields i H x H' hlt q y)⟩
  · have e : i = n := by omega
    subst e
    exact .inl ⟨w.stops H q, hd H p⟩
theorem rd_dc {tk : TE} (h : wi σ H fun J H1 => ∀ D, H1 D = none → DcB J g tt tk tv vs σ H1 D fun H2 => Q (.ref D) H2) : tDc wi g tt tk tv vs σ H Q := h
/-- under a lock: what the block leaves at the lock's place is the locked thing -/
theorem rd_lockE {d : Addr} {kvs : List (Key × V)} (hd : H d = some (.dK kvs)) (h : ∀ od, te σ (upd H d (.frz od (.dK kvs))) fun v H' => H' d = some (.frz od (.dK kvs)) ∧ Q v (upd H' d (.dK kvs))) : tLockE te σ H Q := ⟨d, _, hd, trivial, h⟩
theorem rd_lockS {d : Addr} {kvs : List (Key × V)} (hd : H d = some (.dK kvs)) (h : ∀ od, t ⟨fun σ' H' => H' d = some (.frz od (.dK kvs)) ∧ D.nx σ' (upd H' d (.dK kvs)), fun v H' => H' d = some (.frz od (.dK kvs)) ∧ D.rt v (upd H' d (.dK kvs)), fun σ' H' => H' d = some (.frz od (.dK kvs)) ∧ D.bk σ' (upd H' d (.dK kvs)), fun σ' H' => H' d = some (.frz od (.dK kvs)) ∧ D.ct σ' (upd H' d (.dK kvs))⟩ σ (upd H d (.frz od (.dK kvs)))) : tLock t D σ H := ⟨d, _, hd, trivial, h⟩
theorem rd_iItems (h : td σ H fun x H1 => ∃ d o kvs, x = .ref d ∧ H1 d = some (.frz o (.dK kvs)) ∧ R (Iti d o kvs) H1) : iItems td σ H R := h
theorem rd_iKeys (h : td σ H fun x H1 => ∃ d o, x = .ref d ∧ ((∃ kvs, H1 d = some (.frz o (.dK kvs)) ∧ R (Itk d o kvs) H1) ∨ ∃ kvs, H1 d = some (.frz o (.dT kvs)) ∧ R (Itkt d o kvs) H1)) : iKeys td σ H R := h
theorem rd_forI {d : Addr} {o : Obj} {kvs : List (Key × V)} {R : Addr → Obj → List (Key × V) → Prop} (hd : H d = some (.frz o (.dK kvs))) (h : R d o kvs) : ∃ d' o kvs, V.ref d = .ref d' ∧ H d' = some (.frz o (.dK kvs)) ∧ R d' o kvs := ⟨d, o, kvs, rfl, hd, h⟩
theorem rd_forK {d : Addr} {o : Obj} {kvs : List (Key × V)} {R : Addr → Obj → List (Key × V) → Prop} {R2 : Addr → Obj → List (List Key × V) → Prop} (hd : H d = some (.frz o (.dK kvs))) (h : R d o kvs) :
    ∃ d' o, V.ref d = .ref d' ∧ ((∃ kvs, H d' = some (.frz o (.dK kvs)) ∧ R d' o kvs) ∨ ∃ kvs, H d' = some (.frz o (.dT kvs)) ∧ R2 d' o kvs) := ⟨d, o, rfl, .inl ⟨kvs, hd, h⟩⟩
theorem rd_wp {vs : List Nat} {σ1 σ2 : L2.St} {P : Prop} (e : wipe σ1 vs = wipe σ2 vs) (h : P) : wipe σ1 vs = wipe σ2 vs ∧ P := ⟨e, h⟩
theorem rd_yesT {Q : Bool → Hp → Prop} (h : Q true H) : tYes σ H Q := h
theorem rd_acc {L : Addr} {acc : List V} {R : List V → Prop} (hL : H L = some (.lst acc)) (hz : acc.length < 100000) (h : R acc) : ∃ acc, H L = some (.lst acc) ∧ acc.length < sizeLine ∧ R acc := ⟨acc, hL, Nat.lt_of_lt_of_le hz (by decide), h⟩
theorem rd_accD {L : Addr} {y : V} {kvs : List (Key × V)} {k : Key} {R : List (Key × V) → Key → Prop} (hy : y = kV k) (hL : H L = some (.dK kvs)) (hz : kvs.length < 100000) (h : R kvs k) : ∃ kvs k, y = kV k ∧ H L = some (.dK kvs) ∧ kvs.length < sizeLine ∧ R kvs k := ⟨kvs, k, hy, hL, Nat.lt_of_lt_of_le hz (by decide), h⟩
theorem inV_int {v : Int} {xs : List Int} : inV (.int v) (xs.map V.int) = decide (v ∈ xs) := by
  induction xs with
  | nil => rfl
  | cons x xs ih =>
    unfold inV at ih ⊢
    rw [List.map_cons, List.any_cons, ih]
    simp only [eqV, List.mem_cons, Bool.decide_or]
    congr 1
    exact decide_eq_decide.mpr ⟨Eq.symm, Eq.symm⟩
theorem inV_str {v : Str} {xs : List Str} : inV (.str v) (xs.map V.str) = decide (v ∈ xs) := by
  induction xs with
  | nil => rfl
  | cons x xs ih =>
    unfold inV at ih ⊢
    rw [List.map_cons, List.any_cons, ih]
    simp only [eqV, List.mem_cons, Bool.decide_or]
    congr 1
    exact decide_eq_decide.mpr ⟨Eq.symm, Eq.symm⟩
theorem flat_int {xs : List Int} : (xs.map V.int).all flatV = true := by
  rw [List.all_eq_true]
  intro x hx
  obtain ⟨i, _, rfl⟩ := List.mem_map.mp hx
  rfl
theorem flat_str {xs : List Str} : (xs.map V.str).all flatV = true := by
  rw [List.all_eq_true]
  intro x hx
  obtain ⟨i, _, rfl⟩ := List.mem_map.mp hx
  rfl
theorem rd_inIL {p : Addr} {v : Int} {xs : List Int} (hs : SqL K H p (xs.map V.int)) (h : Q (.bl (decide (v ∈ xs))) H) : rInU K (.int v) (.ref p) H Q := ⟨_, .inl hs, rfl, flat_int, by rw [inV_int]; exact h⟩
theorem rd_ninIL {p : Addr} {v : Int} {xs : List Int} (hs : SqL K H p (xs.map V.int)) (h : Q (.bl (!decide (v ∈ xs))) H) : rNotInU K (.int v) (.ref p) H Q := ⟨_, .inl hs, rfl, flat_int, by rw [inV_int]; exact h⟩
theorem rd_inSL {p : Addr} {v : Str} {xs : List Str} (hs : SqL K H p (xs.map V.str)) (h : Q (.bl (decide (v ∈ xs))) H) : rInU K (.str v) (.ref p) H Q := ⟨_, .inl hs, rfl, flat_str, by rw [inV_str]; exact h⟩
theorem rd_ninSL {p : Addr} {v : Str} {xs : List Str} (hs : SqL K H p (xs.map V.str)) (h : Q (.bl (!decide (v ∈ xs))) H) : rNotInU K (.str v) (.ref p) H Q := ⟨_, .inl hs, rfl, flat_str, by rw [inV_str]; exact h⟩
theorem rd_inST {p : Addr} {v : Str} {xs : List Str} (hs : SqT K H p (xs.map V.str)) (h : Q (.bl (decide (v ∈ xs))) H) : rInU K (.str v) (.ref p) H Q := ⟨_, .inr hs, rfl, flat_str, by rw [inV_str]; exact h⟩
theorem rd_ninST {p : Addr} {v : Str} {xs : List Str} (hs : SqT K H p (xs.map V.str)) (h : Q (.bl (!decide (v ∈ xs))) H) : rNotInU K (.str v) (.ref p) H Q := ⟨_, .inr hs, rfl, flat_str, by rw [inV_str]; exact h⟩
theorem rd_catL {p q : Addr} {xs ys : List V} (h1 : H p = some (.lst xs)) (h2 : H q = some (.lst ys)) (hz : xs.length + ys.length ≤ 100000) (h : nL (xs ++ ys) H Q) : rAddU K (.ref p) (.ref q) H Q := .inl ⟨xs, ys, h1, h2, Nat.le_trans hz (by decide), h⟩
theorem GrAt.same {H' : Hp} {g n e : Addr} {ns : List Str} {es : List (Addr × Str × Str)} (h : GrAt H g n e ns es) (s : Same H H') : GrAt H' g n e ns es :=
  ⟨s _ _ h.top, s _ _ h.nodes, s _ _ h.edges, fun x hx => s _ _ (h.pairs x hx)⟩
theorem GrAt.but {H' : Hp} {p g n e : Addr} {ys : List V} {ns : List Str} {es : List (Addr × Str × Str)} (h : GrAt H g n e ns es) (hp : H p = some (.lst ys)) (b : But p H H') : GrAt H' g n e ns es := by
  have k : ∀ {a : Addr} {xs : List V}, H a = some (.tup xs) → H' a = some (.tup xs) := fun {a xs} ha => b _ _ (ne_of ha hp (by intro z; cases z)) ha
  exact ⟨k h.top, k h.nodes, k h.edges, fun x hx => k (h.pairs x hx)⟩
theorem But.dK {H' : Hp} {p d : Addr} {ys : List V} {kvs : List (Key × V)} (b : But p H H') (hp : H p = some (.lst ys)) (h : H d = some (.dK kvs)) : H' d = some (.dK kvs) := b _ _ (ne_of h hp (by intro z; cases z)) h
theorem But.tup {H' : Hp} {p d : Addr} {ys xs : List V} (b : But p H H') (hp : H p = some (.lst ys)) (h : H d = some (.tup xs)) : H' d = some (.tup xs) := b _ _ (ne_of h hp (by intro z; cases z)) h
theorem same_put {H1 : Hp} {a : Addr} {o : HO} (s : Same H H1) (n : H a = none) : Same H (upd H1 a o) := fun c u h => at_upd (ne_of_none h n) (s c u h)
theorem same_add {H1 : Hp} {a : Addr} {o : HO} (s : Same H H1) (n : H1 a = none) : Same H (upd H1 a o) := fun c u h => at_upd (ne_of_none (s c u h) n) (s c u h)
/-- xs != [], whatever data -/
theorem rd_neNilD {p q : Addr} {xs : List V} {ds : List PyData} (hp : SqL K H p xs) (hd : DpAll K H xs ds) (hq : SqL K H q []) (ok : PyData.canLayAll0 ds = true) (dep : PyData.depthAll ds ≤ 60) (h : Q (.bl (!xs.isEmpty)) H) : rNeU K (.ref p) (.ref q) H Q := by
  refine ⟨_, _, .lst hp hd, .lst hq .nil, ?_, by decide, ?_⟩
  · unfold SeqAt.shaped
    rw [PyData.canLay0, ok, PyData.depth, decide_eq_true (by omega)]
    rfl
  · have : PyData.eqv (.list ds) (.list []) = xs.isEmpty := by
      cases hd with
      | nil => simp [PyData.eqv, PyData.eqvAll]
      | cons _ _ => simp [PyData.eqv, PyData.eqvAll]
    rw [this]
    exact h
theorem rd_isi {x : V} {n : String} {a t : Ty} (h1 : TyIs K H x a) (h2 : tyOf n = some t) (h : Q (.bl (isT a t)) H) : rIsiU K [x, .ty n] H Q := ⟨a, t, h1, h2, h⟩
theorem rd_din (h : ty σ H fun y H1 => td σ H1 fun x H2 => ∃ a o, x = .ref a ∧ DGet H2 a y o ∧ Q (.bl o.isSome) H2) : tDIn ty td σ H Q := h
theorem rd_dnin (h : ty σ H fun y H1 => td σ H1 fun x H2 => ∃ a o, x = .ref a ∧ DGet H2 a y o ∧ Q (.bl (!o.isSome)) H2) : tDNotIn ty td σ H Q := h
theorem rd_din1 {p : Addr} {kvs : List (Key × V)} {k : Key} {y : V} {R : Option V → Prop} (hs : Rd H p (.dK kvs)) (hy : y = kV k) (h : R (valV kvs k)) : ∃ a o, V.ref p = .ref a ∧ DGet H a y o ∧ R o := ⟨p, _, rfl, .inl ⟨kvs, k, hs, hy, rfl⟩, h⟩
/-- two lists of other lengths -/
def rEqLen (K : PySem.W.Frag) : R2 := fun x y H Q => ∃ a b xs ys, x = .ref a ∧ y = .ref b ∧ SqL K H a xs ∧ SqL K H b ys ∧ xs.length ≠ ys.length ∧ Q (.bl false) H
theorem kEqLen {X : Cx} (K : PySem.W.Frag) (hK : X.K = K) (hu : X.A.units < cLine) : OpR X (compareOp .Eq) (rEqLen K) := by
  subst hK
  intro pins s σ H x y v u Q I rx ry h
  obtain ⟨a, b, xs, ys, rfl, rfl, h1, h2, hn, q⟩ := h
  cases rx
  cases ry
  obtain ⟨i1, v1, p1, _⟩ := I.list h1
  obtain ⟨i2, v2, p2, _⟩ := I.list h2
  have l1 := v1.length
  have l2 := v2.length
  exact SeqAt.RcAt.lists_lengths p1.isList p2.isList (by simp only [List.size_toArray, bne_iff_ne, ne_eq]; omega) hu X.prog X.w _ _ ⟨.bl false, H, I, rfl, q⟩
theorem rd_eqLen {p q : Addr} {xs ys : List V} (h1 : SqL K H p xs) (h2 : SqL K H q ys) (n : xs.length ≠ ys.length) (h : Q (.bl false) H) : rEqLen K (.ref p) (.ref q) H Q := ⟨p, q, xs, ys, rfl, rfl, h1, h2, n, h⟩
/-- sorted(a list of numbers) -/
theorem rd_sortI {p : Addr} {xs : List Int} (hs : SqL K H p (xs.map V.int)) (hl : xs.length ≤ 100000) (k : ∀ ys : List Int, ys.Perm xs → ys.Pairwise (fun a b => a ≤ b) → nL (ys.map V.int) H Q) : rSortU K [.ref p] H Q := by
  refine ⟨xs.map fun x => (V.int x, PyData.int x), ?_, ⟨?_, ?_, ?_, ?_, ?_⟩, ?_⟩
  · rw [List.map_map]
    exact hs
  · intro b hb
    obtain ⟨x, _, rfl⟩ := List.mem_map.mp hb
    exact .int x
  · rw [List.map_map]
    exact PySem.W.AllAlike.of (enc := PyData.int) fun a b => by simp [PySem.W.alike]
  · rw [List.map_map]
    exact PySem.W.Sortable.others (enc := PyData.int) fun b => ⟨by simp, by simp⟩
  · intro b hb
    obtain ⟨x, _, rfl⟩ := List.mem_map.mp hb
    simp [PyData.depth]
  · rw [List.length_map]
    omega
  · intro cs pc sc
    obtain ⟨ys, py, rfl⟩ := perm_of_map pc
    rw [List.map_map]
    refine k ys py ?_
    rw [List.pairwise_map] at sc
    refine sc.imp fun {a b} z => ?_
    have z' : PySem.W.dataLt (PyData.int b) (PyData.int a) = false := z
    rw [PySem.W.dataLt_int] at z'
    have := of_decide_eq_false z'
    omega
theorem rd_nT {A B : Prop} (h : B) : if (!true) = true then A else B := h
theorem rd_nF {A B : Prop} (h : A) : if (!false) = true then A else B := h
/-- repr of a truth value -/
def shB (b : Bool) : Str := if b then "True" else "False"
theorem shB_inj {a b : Bool} : decide (shB a = shB b) = decide (a = b) := by cases a <;> cases b <;> decide +kernel
def rReprU : List V → Hp → VK → Prop := fun xs H Q => match xs with
  | [.bl b] => Q (.str (shB b)) H
  | _ => False
theorem cRepr {X : Cx} : CallR X (.builtin "repr") rReprU := by
  intro pins s σ H xs us Q I r h
  match xs, h with
  | [.bl b], h =>
    cases r with
    | cons r rr =>
      cases rr
      cases r
      exact PySem.P.repr_of_bool ⟨.str _, H, I.tok _, ⟨_, rfl⟩, h⟩
theorem rd_reprB {b : Bool} (h : Q (.str (shB b)) H) : rReprU [.bl b] H Q := h
theorem rd_ck {sp : Sp} {E : XK} {np nk : Nat} {t tk : TA} (h : t σ H fun vs H1 => vs.length = np ∧ tk σ H1 fun zs H2 => zs.length = nk ∧ sp (vs ++ zs) H2 Q E) : tCK sp np nk E t tk σ H Q := h
theorem rd_len {vs : List V} {k : Nat} {P : Prop} (e : vs.length = k) (h : P) : vs.length = k ∧ P := ⟨e, h⟩
theorem rd_par {i j : Nat} {ta : TA} (h : ta σ H fun vs H1 => ∃ v w, vs = [v, w] ∧ D.nx ((σ.set i (some v)).set j (some w)) H1) : tPar i j ta D σ H := h
theorem rd_two {v w' : V} {R : V → V → Prop} (h : R v w') : ∃ x y, [v, w'] = [x, y] ∧ R x y := ⟨v, w', rfl, h⟩
theorem rd_wipe {P : Prop} (h : P) {σ1 σ2 : L2.St} (e : σ1 = σ2) : σ1 = σ2 ∧ P := ⟨e, h⟩
theorem rd_yes' {P : Bool → Prop} (h : P true) : tYes σ H (fun b _ => P b) := h
theorem rd_sumL {p : Addr} {ns : List Int} (hs : SqL K H p (ns.map V.int)) (h : Q (.int ns.sum) H) : rSumU K [.ref p] H Q := ⟨ns, hs, h⟩
theorem rd_allL {p : Addr} {bs : List Bool} (hs : SqL K H p (bs.map V.bl)) (h : Q (.bl (bs.all id)) H) : rAllU K [.ref p] H Q := ⟨bs, hs, h⟩
theorem rd_isB {a b : Bool} (h : Q (.bl (decide (a = b))) H) : rIsU (.bl a) (.bl b) H Q := ⟨a, rfl, h⟩
theorem rd_isNotB {a b : Bool} (h : Q (.bl (!decide (a = b))) H) : rIsNotU (.bl a) (.bl b) H Q := ⟨a, rfl, h⟩
theorem rd_daug {rd : V → V → Hp → VK → Prop} (h : td σ H fun x H1 => ty σ H1 fun y H2 => ∃ a v, x = .ref a ∧ DGet H2 a y (some v) ∧
  tv σ H2 fun y2 H3 => rd v y2 H3 fun z H4 => ∃ H5, DPut H4 a y z H5 ∧ D.nx σ H5) : sDAug td ty tv rd D σ H := h
end
end U

namespace Law
open PySem PySem.Spec PyProof.Rows L2 U
def top (i : Nat) : Stmt := PySem.Challenge.pw_threeturned_k24_whole_every_feasible_lif.main.body.getD i (.Pass ⟨0, 0, 0, 0⟩)
abbrev c_InputError : Stmt := top 1
abbrev c_InvalidMove : Stmt := top 2
abbrev s_InvalidMove_init : Stmt := inClass (top 2) 0
theorem sc_InvalidMove_init : FnScope ["self", "position"] ["self", "position"] (defScope s_InvalidMove_init) := ⟨rfl, rfl, rfl, by decide +kernel, rfl, by decide +kernel, by decide +kernel⟩
abbrev c_InvalidLift : Stmt := top 3
abbrev s_InvalidLift_init : Stmt := inClass (top 3) 0
theorem sc_InvalidLift_init : FnScope ["self", "node"] ["self", "node"] (defScope s_InvalidLift_init) := ⟨rfl, rfl, rfl, by decide +kernel, rfl, by decide +kernel, by decide +kernel⟩
abbrev c_TooLarge : Stmt := top 4
abbrev s_TooLarge_init : Stmt := inClass (top 4) 0
theorem sc_TooLarge_init : FnScope ["self", "total"] ["self", "total"] (defScope s_TooLarge_init) := ⟨rfl, rfl, rfl, by decide +kernel, rfl, by decide +kernel, by decide +kernel⟩
abbrev s_has_node : Stmt := top 6
abbrev nN_has_node : List Str := ["graph", "candidate"]
theorem sc_has_node : FnScope ["graph", "candidate"] ["graph", "candidate"] (defScope s_has_node) := ⟨rfl, rfl, rfl, by decide +kernel, rfl, by decide +kernel, by decide +kernel⟩
abbrev s_adjacency : Stmt := top 7
abbrev nN_adjacency : List Str := ["graph", "nodes", "edges", "found", "node", "one", "other", "some"]
theorem sc_adjacency : FnScope ["graph", "nodes", "edges", "found", "node", "one", "other", "some"] ["graph"] (defScope s_adjacency) := ⟨rfl, rfl, rfl, by decide +kernel, rfl, by decide +kernel, by decide +kernel⟩
abbrev s_slope : Stmt := top 11
abbrev nN_slope : List Str := ["state", "node", "neighbor"]
theorem sc_slope : FnScope ["state", "node", "neighbor"] ["state", "node", "neighbor"] (defScope s_slope) := ⟨rfl, rfl, rfl, by decide +kernel, rfl, by decide +kernel, by decide +kernel⟩
abbrev s_sloped_paths : Stmt := top 12
abbrev nN_sloped_paths : List Str := ["graph", "state", "node", "direction", "adjacent", "found", "queue", "position", "current", "other"]
theorem sc_sloped_paths : FnScope ["graph", "state", "node", "direction", "adjacent", "found", "queue", "position", "current", "other"] ["graph", "state", "node", "direction"] (defScope s_sloped_paths) := ⟨rfl, rfl, rfl, by decide +kernel, rfl, by decide +kernel, by decide +kernel⟩
abbrev s_smallest_path : Stmt := top 13
abbrev nN_smallest_path : List Str := ["paths"]
theorem sc_smallest_path : FnScope ["paths"] ["paths"] (defScope s_smallest_path) := ⟨rfl, rfl, rfl, by decide +kernel, rfl, by decide +kernel, by decide +kernel⟩
abbrev s_cycle_at : Stmt := top 14
abbrev nN_cycle_at : List Str := ["graph", "state", "node", "paths", "ends", "one"]
theorem sc_cycle_at : FnScope ["graph", "state", "node", "paths", "ends", "one"] ["graph", "state", "node"] (defScope s_cycle_at) := ⟨rfl, rfl, rfl, by decide +kernel, rfl, by decide +kernel, by decide +kernel⟩
abbrev s_cycle_nodes : Stmt := top 15
abbrev nN_cycle_nodes : List Str := ["graph", "state", "node"]
theorem sc_cycle_nodes : FnScope ["graph", "state", "node"] ["graph", "state"] (defScope s_cycle_nodes) := ⟨rfl, rfl, rfl, by decide +kernel, rfl, by decide +kernel, by decide +kernel⟩
abbrev s_find_anchors : Stmt := top 17
abbrev nN_find_anchors : List Str := ["graph", "state", "pinned", "on_cycles", "node"]
theorem sc_find_anchors : FnScope ["graph", "state", "pinned", "on_cycles", "node"] ["graph", "state", "pinned"] (defScope s_find_anchors) := ⟨rfl, rfl, rfl, by decide +kernel, rfl, by decide +kernel, by decide +kernel⟩
abbrev s_is_integer : Stmt := top 20
abbrev nN_is_integer : List Str := ["candidate"]
theorem sc_is_integer : FnScope ["candidate"] ["candidate"] (defScope s_is_integer) := ⟨rfl, rfl, rfl, by decide +kernel, rfl, by decide +kernel, by decide +kernel⟩
abbrev s_is_value : Stmt := top 21
abbrev nN_is_value : List Str := ["candidate"]
theorem sc_is_value : FnScope ["candidate"] ["candidate"] (defScope s_is_value) := ⟨rfl, rfl, rfl, by decide +kernel, rfl, by decide +kernel, by decide +kernel⟩
abbrev s_values_for : Stmt := top 22
abbrev nN_values_for : List Str := ["state", "node", "adjacent", "pinned", "excluded", "other", "value"]
theorem sc_values_for : FnScope ["state", "node", "adjacent", "pinned", "excluded", "other", "value"] ["state", "node", "adjacent", "pinned"] (defScope s_values_for) := ⟨rfl, rfl, rfl, by decide +kernel, rfl, by decide +kernel, by decide +kernel⟩
abbrev s_is_move : Stmt := top 23
abbrev nN_is_move : List Str := ["graph", "state", "adjacent", "candidate", "pinned"]
theorem sc_is_move : FnScope ["graph", "state", "adjacent", "candidate", "pinned"] ["graph", "state", "adjacent", "candidate", "pinned"] (defScope s_is_move) := ⟨rfl, rfl, rfl, by decide +kernel, rfl, by decide +kernel, by decide +kernel⟩
abbrev s_apply_moves : Stmt := top 24
abbrev nN_apply_moves : List Str := ["graph", "state", "moves", "pinned", "adjacent", "result", "position", "move"]
theorem sc_apply_moves : FnScope ["graph", "state", "moves", "pinned", "adjacent", "result", "position", "move"] ["graph", "state", "moves", "pinned"] (defScope s_apply_moves) := ⟨rfl, rfl, rfl, by decide +kernel, rfl, by decide +kernel, by decide +kernel⟩
abbrev s_is_number_dict : Stmt := top 26
abbrev nN_is_number_dict : List Str := ["graph", "candidate", "node"]
theorem sc_is_number_dict : FnScope ["graph", "candidate", "node"] ["graph", "candidate"] (defScope s_is_number_dict) := ⟨rfl, rfl, rfl, by decide +kernel, rfl, by decide +kernel, by decide +kernel⟩
abbrev s_fits_edge : Stmt := top 27
abbrev nN_fits_edge : List Str := ["state", "lift", "one", "other", "upper", "lower"]
theorem sc_fits_edge : FnScope ["state", "lift", "one", "other", "upper", "lower"] ["state", "lift", "one", "other"] (defScope s_fits_edge) := ⟨rfl, rfl, rfl, by decide +kernel, rfl, by decide +kernel, by decide +kernel⟩
abbrev s_is_lift : Stmt := top 28
abbrev nN_is_lift : List Str := ["graph", "state", "candidate", "one", "other"]
theorem sc_is_lift : FnScope ["graph", "state", "candidate", "one", "other"] ["graph", "state", "candidate"] (defScope s_is_lift) := ⟨rfl, rfl, rfl, by decide +kernel, rfl, by decide +kernel, by decide +kernel⟩
abbrev s_apply_lift : Stmt := top 29
abbrev nN_apply_lift : List Str := ["state", "lift", "node", "value"]
theorem sc_apply_lift : FnScope ["state", "lift", "node", "value"] ["state", "lift"] (defScope s_apply_lift) := ⟨rfl, rfl, rfl, by decide +kernel, rfl, by decide +kernel, by decide +kernel⟩
abbrev s_lift_of_moves : Stmt := top 30
abbrev nN_lift_of_moves : List Str := ["graph", "state", "moves", "pinned", "found", "node", "current", "value"]
theorem sc_lift_of_moves : FnScope ["graph", "state", "moves", "pinned", "found", "node", "current", "value"] ["graph", "state", "moves", "pinned"] (defScope s_lift_of_moves) := ⟨rfl, rfl, rfl, by decide +kernel, rfl, by decide +kernel, by decide +kernel⟩
abbrev s_lift_size : Stmt := top 31
abbrev nN_lift_size : List Str := ["lift", "number"]
theorem sc_lift_size : FnScope ["lift", "number"] ["lift"] (defScope s_lift_size) := ⟨rfl, rfl, rfl, by decide +kernel, rfl, by decide +kernel, by decide +kernel⟩
abbrev s_progress_value : Stmt := top 34
abbrev nN_progress_value : List Str := ["state", "adjacent", "node", "number", "direction", "other"]
theorem sc_progress_value : FnScope ["state", "adjacent", "node", "number", "direction", "other"] ["state", "adjacent", "node", "number"] (defScope s_progress_value) := ⟨rfl, rfl, rfl, by decide +kernel, rfl, by decide +kernel, by decide +kernel⟩
abbrev s_progress_moves_with : Stmt := top 35
abbrev nN_progress_moves_with : List Str := ["graph", "state", "adjacent", "lift", "pinned", "moves", "node", "value"]
theorem sc_progress_moves_with : FnScope ["graph", "state", "adjacent", "lift", "pinned", "moves", "node", "value"] ["graph", "state", "adjacent", "lift", "pinned"] (defScope s_progress_moves_with) := ⟨rfl, rfl, rfl, by decide +kernel, rfl, by decide +kernel, by decide +kernel⟩
abbrev s_closer_to_zero : Stmt := top 36
abbrev nN_closer_to_zero : List Str := ["number"]
theorem sc_closer_to_zero : FnScope ["number"] ["number"] (defScope s_closer_to_zero) := ⟨rfl, rfl, rfl, by decide +kernel, rfl, by decide +kernel, by decide +kernel⟩
abbrev s_check_lift : Stmt := top 37
abbrev nN_check_lift : List Str := ["graph", "state", "lift", "pinned", "node"]
theorem sc_check_lift : FnScope ["graph", "state", "lift", "pinned", "node"] ["graph", "state", "lift", "pinned"] (defScope s_check_lift) := ⟨rfl, rfl, rfl, by decide +kernel, rfl, by decide +kernel, by decide +kernel⟩
abbrev s_check_size : Stmt := top 38
abbrev nN_check_size : List Str := ["lift", "limit"]
theorem sc_check_size : FnScope ["lift", "limit"] ["lift", "limit"] (defScope s_check_size) := ⟨rfl, rfl, rfl, by decide +kernel, rfl, by decide +kernel, by decide +kernel⟩
abbrev s_perform_lift : Stmt := top 39
abbrev nN_perform_lift : List Str := ["graph", "state", "lift", "pinned", "adjacent", "current", "remaining", "moves", "number", "node", "value"]
theorem sc_perform_lift : FnScope ["graph", "state", "lift", "pinned", "adjacent", "current", "remaining", "moves", "number", "node", "value"] ["graph", "state", "lift", "pinned"] (defScope s_perform_lift) := ⟨rfl, rfl, rfl, by decide +kernel, rfl, by decide +kernel, by decide +kernel⟩
abbrev s__law_pool : Stmt := top 41
abbrev nN__law_pool : List Str := ["_law_script", "_law_k", "_law_cell", "_law_size", "_law_seed"]
theorem sc__law_pool : FnScope ["_law_script", "_law_k", "_law_cell", "_law_size", "_law_seed"] ["_law_script", "_law_k"] (defScope s__law_pool) := ⟨rfl, rfl, rfl, by decide +kernel, rfl, by decide +kernel, by decide +kernel⟩
abbrev s__law_draw : Stmt := top 42
abbrev nN__law_draw : List Str := ["_law_pool_here", "_law_many", "_law_found"]
theorem sc__law_draw : FnScope ["_law_pool_here", "_law_many", "_law_found"] ["_law_pool_here", "_law_many"] (defScope s__law_draw) := ⟨rfl, rfl, rfl, by decide +kernel, rfl, by decide +kernel, by decide +kernel⟩
abbrev s__law_draw_names : Stmt := top 43
abbrev nN__law_draw_names : List Str := ["_law_pool_here", "_law_many", "_law_letters", "_law_begin", "_law_spread", "_law_tail", "_law_at", "_law_is_mixed", "_law_found", "_law_k", "_law_letter"]
theorem sc__law_draw_names : FnScope ["_law_pool_here", "_law_many", "_law_letters", "_law_begin", "_law_spread", "_law_tail", "_law_at", "_law_is_mixed", "_law_found", "_law_k", "_law_letter"] ["_law_pool_here", "_law_many"] (defScope s__law_draw_names) := ⟨rfl, rfl, rfl, by decide +kernel, rfl, by decide +kernel, by decide +kernel⟩
abbrev s__law_shuffle : Stmt := top 44
abbrev nN__law_shuffle : List Str := ["_law_pool_here", "_law_some", "_law_left", "_law_found"]
theorem sc__law_shuffle : FnScope ["_law_pool_here", "_law_some", "_law_left", "_law_found"] ["_law_pool_here", "_law_some"] (defScope s__law_shuffle) := ⟨rfl, rfl, rfl, by decide +kernel, rfl, by decide +kernel, by decide +kernel⟩
abbrev s__law_edge_of : Stmt := top 45
abbrev nN__law_edge_of : List Str := ["_law_one", "_law_other"]
theorem sc__law_edge_of : FnScope ["_law_one", "_law_other"] ["_law_one", "_law_other"] (defScope s__law_edge_of) := ⟨rfl, rfl, rfl, by decide +kernel, rfl, by decide +kernel, by decide +kernel⟩
abbrev s__law_wants_edge : Stmt := top 46
abbrev nN__law_wants_edge : List Str := ["_law_pool_here", "_law_kind", "_law_at", "_law_position", "_law_many"]
theorem sc__law_wants_edge : FnScope ["_law_pool_here", "_law_kind", "_law_at", "_law_position", "_law_many"] ["_law_pool_here", "_law_kind", "_law_at", "_law_position", "_law_many"] (defScope s__law_wants_edge) := ⟨rfl, rfl, rfl, by decide +kernel, rfl, by decide +kernel, by decide +kernel⟩
abbrev s__law_draw_graph : Stmt := top 47
abbrev nN__law_draw_graph : List Str := ["_law_pool_here", "_law_most", "_law_order", "_law_kind", "_law_state", "_law_value", "_law_node", "_law_edges", "_law_at", "_law_one", "_law_position", "_law_other"]
theorem sc__law_draw_graph : FnScope ["_law_pool_here", "_law_most", "_law_order", "_law_kind", "_law_state", "_law_value", "_law_node", "_law_edges", "_law_at", "_law_one", "_law_position", "_law_other"] ["_law_pool_here", "_law_most"] (defScope s__law_draw_graph) := ⟨rfl, rfl, rfl, by decide +kernel, rfl, by decide +kernel, by decide +kernel⟩
abbrev s__law_draw_pins : Stmt := top 48
abbrev nN__law_draw_pins : List Str := ["_law_pool_here", "_law_graph", "_law_node"]
theorem sc__law_draw_pins : FnScope ["_law_pool_here", "_law_graph", "_law_node"] ["_law_pool_here", "_law_graph"] (defScope s__law_draw_pins) := ⟨rfl, rfl, rfl, by decide +kernel, rfl, by decide +kernel, by decide +kernel⟩
abbrev s__law_neighbors_of : Stmt := top 49
abbrev nN__law_neighbors_of : List Str := ["_law_graph", "_law_node", "_law_found", "_law_one", "_law_other"]
theorem sc__law_neighbors_of : FnScope ["_law_graph", "_law_node", "_law_found", "_law_one", "_law_other"] ["_law_graph", "_law_node"] (defScope s__law_neighbors_of) := ⟨rfl, rfl, rfl, by decide +kernel, rfl, by decide +kernel, by decide +kernel⟩
abbrev s__law_slope_of : Stmt := top 50
abbrev nN__law_slope_of : List Str := ["_law_state", "_law_one", "_law_other"]
theorem sc__law_slope_of : FnScope ["_law_state", "_law_one", "_law_other"] ["_law_state", "_law_one", "_law_other"] (defScope s__law_slope_of) := ⟨rfl, rfl, rfl, by decide +kernel, rfl, by decide +kernel, by decide +kernel⟩
abbrev s__law_is_fitting : Stmt := top 51
abbrev nN__law_is_fitting : List Str := ["_law_graph", "_law_state", "_law_lift", "_law_one", "_law_other", "_law_gaps"]
theorem sc__law_is_fitting : FnScope ["_law_graph", "_law_state", "_law_lift", "_law_one", "_law_other", "_law_gaps"] ["_law_graph", "_law_state", "_law_lift"] (defScope s__law_is_fitting) := ⟨rfl, rfl, rfl, by decide +kernel, rfl, by decide +kernel, by decide +kernel⟩
abbrev s__law_reach : Stmt := top 52
abbrev nN__law_reach : List Str := ["_law_graph", "_law_state", "_law_node", "_law_direction", "_law_found", "_law_at", "_law_other"]
theorem sc__law_reach : FnScope ["_law_graph", "_law_state", "_law_node", "_law_direction", "_law_found", "_law_at", "_law_other"] ["_law_graph", "_law_state", "_law_node", "_law_direction"] (defScope s__law_reach) := ⟨rfl, rfl, rfl, by decide +kernel, rfl, by decide +kernel, by decide +kernel⟩
abbrev s__law_on_cycle : Stmt := top 53
abbrev nN__law_on_cycle : List Str := ["_law_graph", "_law_state", "_law_node", "_law_other"]
theorem sc__law_on_cycle : FnScope ["_law_graph", "_law_state", "_law_node", "_law_other"] ["_law_graph", "_law_state", "_law_node"] (defScope s__law_on_cycle) := ⟨rfl, rfl, rfl, by decide +kernel, rfl, by decide +kernel, by decide +kernel⟩
abbrev s__law_anchors_of : Stmt := top 54
abbrev nN__law_anchors_of : List Str := ["_law_graph", "_law_state", "_law_pins", "_law_node"]
theorem sc__law_anchors_of : FnScope ["_law_graph", "_law_state", "_law_pins", "_law_node"] ["_law_graph", "_law_state", "_law_pins"] (defScope s__law_anchors_of) := ⟨rfl, rfl, rfl, by decide +kernel, rfl, by decide +kernel, by decide +kernel⟩
abbrev s__law_components_of : Stmt := top 55
abbrev nN__law_components_of : List Str := ["_law_graph", "_law_left", "_law_found", "_law_component", "_law_at", "_law_other", "_law_node"]
theorem sc__law_components_of : FnScope ["_law_graph", "_law_left", "_law_found", "_law_component", "_law_at", "_law_other", "_law_node"] ["_law_graph"] (defScope s__law_components_of) := ⟨rfl, rfl, rfl, by decide +kernel, rfl, by decide +kernel, by decide +kernel⟩
abbrev s__law_draw_lift : Stmt := top 56
abbrev nN__law_draw_lift : List Str := ["_law_pool_here", "_law_graph", "_law_state", "_law_found", "_law_component", "_law_turn", "_law_node", "_law_known", "_law_other", "_law_spans", "_law_low", "_law_least", "_law_span", "_law_most", "_law_by"]
theorem sc__law_draw_lift : FnScope ["_law_pool_here", "_law_graph", "_law_state", "_law_found", "_law_component", "_law_turn", "_law_node", "_law_known", "_law_other", "_law_spans", "_law_low", "_law_least", "_law_span", "_law_most", "_law_by"] ["_law_pool_here", "_law_graph", "_law_state"] (defScope s__law_draw_lift) := ⟨rfl, rfl, rfl, by decide +kernel, rfl, by decide +kernel, by decide +kernel⟩
abbrev s_law : Stmt := top 57
abbrev nN_law : List Str := ["_law_script", "_law_k", "_law_pool_here", "_law_graph", "_law_state", "_law_pins", "_law_turn", "_law_lift", "_law_expected", "_law_invalid", "_law_node", "_law_error", "_law_result", "e"]
theorem sc_law : FnScope ["_law_script", "_law_k", "_law_pool_here", "_law_graph", "_law_state", "_law_pins", "_law_turn", "_law_lift", "_law_expected", "_law_invalid", "_law_node", "_law_error", "_law_result", "e"] ["_law_script"] (defScope s_law) := ⟨rfl, rfl, rfl, by decide +kernel, rfl, by decide +kernel, by decide +kernel⟩
end Law

namespace Law
open PySem PySem.Spec PyProof.Rows L2 U
local macro_rules | `(tactic| wtm_at "rd1") => `(tactic| first
  | with_reducible refine rd_seq ?_
  | ((with_reducible refine rd_var (v := ?vv) ?hv ?_); (case hv => exact rfl))
  | with_reducible refine rd_c ?_
  | with_reducible refine rd_cons ?_
  | with_reducible refine rd_nil ?_
  | with_reducible refine rd_op ?_
  | with_reducible refine rd_asg ?_
  | with_reducible refine rd_name ?_
  | with_reducible refine rd_c1 ?_
  | with_reducible refine rd_cb ?_
  | with_reducible refine rd_test ?_
  | with_reducible refine rd_B ?_
  | with_reducible refine rd_bl ?_
  | with_reducible refine rd_if ?_
  | with_reducible refine rd_ret ?_
  | with_reducible refine rd_drop ?_
  | with_reducible refine rd_next ?_
  | with_reducible refine rd_addI ?_
  | with_reducible refine rd_ltI ?_
  | with_reducible refine rd_eqI ?_
  | with_reducible refine rd_neI ?_
  | with_reducible refine rd_eqS ?_
  | with_reducible refine rd_neS ?_
  | with_reducible refine rd_gtI ?_
  | with_reducible refine rd_geI ?_
  | with_reducible refine rd_leI ?_
  | with_reducible refine rd_ltS ?_
  | with_reducible refine rd_subI ?_
  | ((with_reducible refine rd_modI ?hc ?_); (case hc => first | decide | omega))
  | ((with_reducible refine rd_mulI ?hc ?_); (case hc => first | exact mul_bI | exact .inl (.inr (by decide)) | exact .inl (.inl (by decide)) | exact .inl (.inr (by omega)) | exact .inl (.inl (by omega))))
  | ((with_reducible refine rd_divI ?hc ?_); (case hc => first | decide | omega))
  | ((with_reducible refine rd_powI ?hc ?_); (case hc => exact ⟨by decide, by decide, by decide⟩))
  | with_reducible refine rd_lst ?_
  | with_reducible refine rd_tup ?_
  | ((with_reducible refine rd_sz ?hv ?_); (case hv => exact rfl))
  | with_reducible refine rd_and ?_
  | with_reducible refine rd_or ?_
  | with_reducible refine rd_not ?_
  | with_reducible refine rd_andV ?_
  | with_reducible refine rd_orV ?_
  | with_reducible refine rd_notV ?_
  | with_reducible refine rd_ifE ?_
  | with_reducible refine rd_T ?_
  | with_reducible refine rd_F ?_
  | with_reducible refine rd_chain ?_
  | with_reducible refine rd_is ?_
  | with_reducible refine rd_isNot ?_
  | with_reducible refine rd_absI ?_
  | with_reducible refine rd_maxI ?_
  | with_reducible refine rd_minI ?_
  | with_reducible refine rd_intI ?_
  | with_reducible refine rd_intB ?_
  | with_reducible refine rd_sub ?_
  | with_reducible refine rd_sl ?_
  | with_reducible refine rd_noPart ?_
  | with_reducible refine rd_part ?_
  | with_reducible refine rd_exI ?_
  | with_reducible refine rd_bm ?_
  | with_reducible refine rd_bm0 ?_
  | with_reducible refine rd_un ?_
  | with_reducible refine rd_neg ?_
  | with_reducible refine rd_c2 ?_
  | with_reducible refine rd_retN ?_
  | with_reducible refine rd_break ?_
  | with_reducible refine rd_cont ?_
  | with_reducible refine rd_for ?_
  | with_reducible refine rd_rng1 ?_
  | with_reducible refine rd_rng2 ?_
  | with_reducible refine rd_iList ?_
  | with_reducible refine rd_iTup ?_
  | with_reducible refine rd_iEnum ?_
  | ((with_reducible refine rd_forR ?h0 ?h1 ?_); (case h0 => omega); (case h1 => omega))
  | with_reducible refine rd_lc ?_
  | with_reducible refine rd_gcons ?_
  | with_reducible refine rd_gnil ?_
  | with_reducible refine rd_dget ?_
  | with_reducible refine rd_dput ?_
  | with_reducible refine rd_dnew ?_
  | with_reducible refine rd_dc ?_
  | with_reducible refine rd_iItems ?_
  | with_reducible refine rd_iKeys ?_
  | with_reducible refine rd_din ?_
  | with_reducible refine rd_par ?_
  | with_reducible refine rd_two ?_
  | with_reducible refine rd_reprB ?_
  | with_reducible refine rd_ck ?_
  | ((with_reducible refine rd_len ?hl ?_); (case hl => exact rfl))
  | with_reducible refine rd_nT ?_
  | with_reducible refine rd_nF ?_
  | with_reducible refine rd_dnin ?_
  | with_reducible refine rd_isB ?_
  | with_reducible refine rd_isNotB ?_
  | with_reducible refine rd_daug ?_
  | with_reducible refine rd_yesT ?_
  | ((with_reducible refine rd_wp ?hw ?_); (case hw => exact rfl)))
local macro_rules | `(tactic| wtm_at "rd") => `(tactic| repeat wtm_at "rd1")
/-- the names of the world are the world's -/
structure Bt (mg : Str → Option Value) : Prop where
  len : mg "len" = none
  abs : mg "abs" = none
  max : mg "max" = none
  min : mg "min" = none
  sorted : mg "sorted" = none
  isinstance : mg "isinstance" = none
  int : mg "int" = none
  list : mg "list" = none
  tuple : mg "tuple" = none
  str : mg "str" = none
  range : mg "range" = none
  enumerate : mg "enumerate" = none
  dict : mg "dict" = none
  sum : mg "sum" = none
  all : mg "all" = none
  any : mg "any" = none
  repr : mg "repr" = none
  set : mg "set" = none
  zip : mg "zip" = none
  reversed : mg "reversed" = none
/-- a source of draws -/
def PoolOk (big seed : Int) : Prop := 0 ≤ big ∧ 0 ≤ seed ∧ seed < 2147483647
abbrev poolO (big seed : Int) : HO := .lst [.int big, .int seed]
def spPool (K : PySem.W.Frag) : Sp := fun vs H Q _ => ∃ (a : Addr) (ns : List Int) (k : Nat), vs = [.ref a, .int (k : Int)] ∧ SqL K H a (ns.map V.int) ∧ k ≤ 100 ∧
  ∀ p big seed, H p = none → PoolOk big seed → Q (.ref p) (upd H p (poolO big seed))
def spDraw : Sp := fun vs H Q _ => ∃ (p : Addr) (many big seed : Int), vs = [.ref p, .int many] ∧ 0 < many ∧ many < 1000000 ∧ H p = some (poolO big seed) ∧ PoolOk big seed ∧
  ∀ r big' seed', 0 ≤ r → r < many → PoolOk big' seed' → Q (.int r) (upd H p (poolO big' seed'))
section
variable {P : Program} {w : World} {K : PySem.W.Frag} {mg : Str → Option Value} {base : Heap}
theorem mul_small {i j : Int} (h : -(2 ^ 64) < j ∧ j < 2 ^ 64) : CMul i j ∨ CMulW i j := .inl (.inr h)
theorem ok_pool {f : Addr} {fd : FuncData} (F : Fun K "_law_pool" "_law_pool" s__law_pool f fd) (B : Bt mg) : FnG P w K mg base CX0 1 f fd ["_law_script", "_law_k"] (spPool K) := by
  refine fnG0 F sc__law_pool (fun vs H Q E h => ?_) (fun cdv A outer s H vs Q E hr h => ?_)
  · obtain ⟨a, ns, k, rfl, _⟩ := h
    rfl
  · obtain ⟨a, ns, k, rfl, hs, hk, q⟩ := h
    have nd := sc__law_pool.nd
    refine ⟨_, (pss_cons (ps_set (i := 2) nd rfl (by first | exact Or.inl rfl | exact Or.inr rfl) pe_int)
  (pss_cons (ps_if (pt_cmpR uLt (pv 1) (pe_callB (kLen K rfl) (by rfl) B.len bb_len (pa_cons (pv 0) pa_nil)) (nomark _)) (pss_one (ps_set (i := 2) nd rfl (by first | exact Or.inl rfl | exact Or.inr rfl) (pe_ix (kIx K rfl) (pv 0) (pv 1) (fun _ _ => rfl)))) pss_nil)
  (pss_cons (ps_set (i := 3) nd rfl (by first | exact Or.inl rfl | exact Or.inr rfl) (pe_callB cAbs (by rfl) B.abs bb_abs (pa_cons (pv 2) pa_nil)))
  (pss_cons (ps_set (i := 4) nd rfl (by first | exact Or.inl rfl | exact Or.inr rfl) (pe_op uMod (pe_op uMul (pe_op (kAdd K rfl) (pe_op (kAdd K rfl) (pe_op uMod (pv 3) pe_int) (pe_op uMul pe_int (pv 1))) pe_int) pe_int) pe_int))
  (pss_one (ps_ret (pe_lst (pa_cons (pe_op uMul (pv 3) (pe_callTy cInt (by rfl) B.int bb_int (pa_cons (pe_cmpR uGe (pv 3) (pe_op uPow pe_int pe_int) (nomark _)) pa_nil))) (pa_cons (pv 4) pa_nil))))))))), ?_⟩
    have fin : ∀ z : Int, PoolOk ((z.natAbs : Int) * bToI (decide (10 ^ (18 : Int).toNat ≤ (z.natAbs : Int)))) (((z.natAbs : Int) % 2147483629 + 7919 * (k : Int) + 31) * 48271 % 2147483647) := by
      intro z
      refine ⟨?_, by omega, by omega⟩
      unfold bToI
      split <;> omega
    wtm_at "rd"
    refine rd_lenL hs ?_
    wtm_at "rd"
    refine rd_split (fun c => ?_) (fun c => ?_)
    · have hk2 : k < ns.length := by
        rw [List.length_map] at c
        omega
      wtm_at "rd"
      refine rd_ixL hs (atI_nat (v := .int ns[k]) (by rw [List.getElem?_map, List.getElem?_eq_getElem hk2]; rfl)) ?_
      wtm_at "rd"
      exact fun p np => q p _ _ np (fin _)
    · wtm_at "rd"
      exact fun p np => q p _ _ np (fin _)
theorem ok_draw {f : Addr} {fd : FuncData} (F : Fun K "_law_draw" "_law_draw" s__law_draw f fd) (B : Bt mg) : FnG P w K mg base CX0 1 f fd ["_law_pool_here", "_law_many"] spDraw := by
  refine fnG0 F sc__law_draw (fun vs H Q E h => ?_) (fun cdv A outer s H vs Q E hr h => ?_)
  · obtain ⟨p, many, big, seed, rfl, _⟩ := h
    rfl
  · obtain ⟨p, many, big, seed, rfl, m0, m1, hp, ⟨k0, k1, k2⟩, q⟩ := h
    have nd := sc__law_draw.nd
    refine ⟨_, (pss_cons (ps_if (pt_cmpR uGt (pe_ix (kIx K rfl) (pv 0) pe_int (fun _ _ => rfl)) pe_int (nomark _)) (pss_cons (ps_set (i := 2) nd rfl (by first | exact Or.inl rfl | exact Or.inr rfl) (pe_op uMod (pe_ix (kIx K rfl) (pv 0) pe_int (fun _ _ => rfl)) (pv 1)))
  (pss_cons (ps_asg (pe_op uDiv (pe_ix (kIx K rfl) (pv 0) pe_int (fun _ _ => rfl)) (pv 1)) (pg_sub (pv 0) pe_int set_list))
  (pss_one (ps_ret (pv 2))))) pss_nil)
  (pss_cons (ps_asg (pe_op uMod (pe_op (kAdd K rfl) (pe_op uMul (pe_ix (kIx K rfl) (pv 0) pe_int (fun _ _ => rfl)) pe_int) pe_int) pe_int) (pg_sub (pv 0) pe_int set_list))
  (pss_one (ps_ret (pe_op uMod (pe_op uDiv (pe_op uMod (pe_op uMul (pe_ix (kIx K rfl) (pv 0) pe_int (fun _ _ => rfl)) (pe_ix (kIx K rfl) (pv 0) pe_int (fun _ _ => rfl))) pe_int) pe_int) (pv 1)))))), ?_⟩
    wtm_at "rd"
    refine rd_ixL (SqL.of hp) rfl ?_
    wtm_at "rd"
    refine rd_split (fun c => ?_) (fun c => ?_)
    · wtm_at "rd"
      refine rd_ixL (SqL.of hp) rfl ?_
      wtm_at "rd"
      refine rd_ixL (SqL.of hp) rfl ?_
      wtm_at "rd"
      refine rd_setL hp rfl ?_
      wtm_at "rd"
      exact q _ _ _ (Int.emod_nonneg _ (by omega)) (Int.emod_lt_of_pos _ m0) ⟨Int.ediv_nonneg k0 (by omega), k1, k2⟩
    · wtm_at "rd"
      refine rd_ixL (SqL.of hp) rfl ?_
      wtm_at "rd"
      refine rd_setL hp rfl ?_
      wtm_at "rd"
      refine rd_ixL (SqL.of upd_same) rfl ?_
      wtm_at "rd"
      refine rd_ixL (SqL.of upd_same) rfl ?_
      wtm_at "rd"
      exact q _ _ _ (Int.emod_nonneg _ (by omega)) (Int.emod_lt_of_pos _ m0) ⟨k0, by omega, by omega⟩
end
end Law

namespace Law
open PySem PySem.Spec PyProof.Rows L2 U
local macro_rules | `(tactic| wtm_at "rd1") => `(tactic| first
  | with_reducible refine rd_seq ?_
  | ((with_reducible refine rd_var (v := ?vv) ?hv ?_); (case hv => exact rfl))
  | with_reducible refine rd_c ?_
  | with_reducible refine rd_cons ?_
  | with_reducible refine rd_nil ?_
  | with_reducible refine rd_op ?_
  | with_reducible refine rd_asg ?_
  | with_reducible refine rd_name ?_
  | with_reducible refine rd_c1 ?_
  | with_reducible refine rd_cb ?_
  | with_reducible refine rd_test ?_
  | with_reducible refine rd_B ?_
  | with_reducible refine rd_bl ?_
  | with_reducible refine rd_if ?_
  | with_reducible refine rd_ret ?_
  | with_reducible refine rd_drop ?_
  | with_reducible refine rd_next ?_
  | with_reducible refine rd_addI ?_
  | with_reducible refine rd_ltI ?_
  | with_reducible refine rd_eqI ?_
  | with_reducible refine rd_neI ?_
  | with_reducible refine rd_eqS ?_
  | with_reducible refine rd_neS ?_
  | with_reducible refine rd_gtI ?_
  | with_reducible refine rd_geI ?_
  | with_reducible refine rd_leI ?_
  | with_reducible refine rd_ltS ?_
  | with_reducible refine rd_subI ?_
  | ((with_reducible refine rd_modI ?hc ?_); (case hc => first | decide | omega))
  | ((with_reducible refine rd_mulI ?hc ?_); (case hc => first | exact mul_bI | exact .inl (.inr (by decide)) | exact .inl (.inl (by decide)) | exact .inl (.inr (by omega)) | exact .inl (.inl (by omega))))
  | ((with_reducible refine rd_divI ?hc ?_); (case hc => first | decide | omega))
  | ((with_reducible refine rd_powI ?hc ?_); (case hc => exact ⟨by decide, by decide, by decide⟩))
  | with_reducible refine rd_lst ?_
  | with_reducible refine rd_tup ?_
  | ((with_reducible refine rd_sz ?hv ?_); (case hv => exact rfl))
  | with_reducible refine rd_and ?_
  | with_reducible refine rd_or ?_
  | with_reducible refine rd_not ?_
  | with_reducible refine rd_andV ?_
  | with_reducible refine rd_orV ?_
  | with_reducible refine rd_notV ?_
  | with_reducible refine rd_ifE ?_
  | with_reducible refine rd_T ?_
  | with_reducible refine rd_F ?_
  | with_reducible refine rd_chain ?_
  | with_reducible refine rd_is ?_
  | with_reducible refine rd_isNot ?_
  | with_reducible refine rd_absI ?_
  | with_reducible refine rd_maxI ?_
  | with_reducible refine rd_minI ?_
  | with_reducible refine rd_intI ?_
  | with_reducible refine rd_intB ?_
  | with_reducible refine rd_sub ?_
  | with_reducible refine rd_sl ?_
  | with_reducible refine rd_noPart ?_
  | with_reducible refine rd_part ?_
  | with_reducible refine rd_exI ?_
  | with_reducible refine rd_bm ?_
  | with_reducible refine rd_bm0 ?_
  | with_reducible refine rd_un ?_
  | with_reducible refine rd_neg ?_
  | with_reducible refine rd_c2 ?_
  | with_reducible refine rd_retN ?_
  | with_reducible refine rd_break ?_
  | with_reducible refine rd_cont ?_
  | with_reducible refine rd_for ?_
  | with_reducible refine rd_rng1 ?_
  | with_reducible refine rd_rng2 ?_
  | with_reducible refine rd_iList ?_
  | with_reducible refine rd_iTup ?_
  | with_reducible refine rd_iEnum ?_
  | ((with_reducible refine rd_forR ?h0 ?h1 ?_); (case h0 => omega); (case h1 => omega))
  | with_reducible refine rd_lc ?_
  | with_reducible refine rd_gcons ?_
  | with_reducible refine rd_gnil ?_
  | with_reducible refine rd_dget ?_
  | with_reducible refine rd_dput ?_
  | with_reducible refine rd_dnew ?_
  | with_reducible refine rd_dc ?_
  | with_reducible refine rd_iItems ?_
  | with_reducible refine rd_iKeys ?_
  | with_reducible refine rd_din ?_
  | with_reducible refine rd_par ?_
  | with_reducible refine rd_two ?_
  | with_reducible refine rd_reprB ?_
  | with_reducible refine rd_ck ?_
  | ((with_reducible refine rd_len ?hl ?_); (case hl => exact rfl))
  | with_reducible refine rd_nT ?_
  | with_reducible refine rd_nF ?_
  | with_reducible refine rd_dnin ?_
  | with_reducible refine rd_isB ?_
  | with_reducible refine rd_isNotB ?_
  | with_reducible refine rd_daug ?_
  | with_reducible refine rd_yesT ?_
  | ((with_reducible refine rd_wp ?hw ?_); (case hw => exact rfl)))
local macro_rules | `(tactic| wtm_at "rd") => `(tactic| repeat wtm_at "rd1")

/-- a source of draws stands at p -/
def PoolAt (H : Hp) (p : Addr) : Prop := ∃ big seed, H p = some (poolO big seed) ∧ PoolOk big seed
theorem PoolAt.ne {H : Hp} {p q : Addr} (h : PoolAt H p) (n : H q = none) : p ≠ q := by
  obtain ⟨b, s, h, _⟩ := h
  exact ne_of_none h n
theorem PoolAt.upd {H : Hp} {p q : Addr} {o : HO} (h : PoolAt H p) (n : p ≠ q) : PoolAt (L2.upd H q o) p := by
  obtain ⟨b, s, h, ok⟩ := h
  exact ⟨b, s, at_upd n h, ok⟩
theorem PoolAt.isL {H : Hp} {p : Addr} (h : PoolAt H p) : ∃ ys, H p = some (.lst ys) := by
  obtain ⟨b, s, h, _⟩ := h
  exact ⟨_, h⟩
theorem PoolAt.off {H : Hp} {p q : Addr} {xs : List Str} (h : PoolAt H p) (hq : H q = some (.lst (xs.map V.str))) : q ≠ p := by
  rintro rfl
  obtain ⟨b, s, h, _⟩ := h
  rw [hq] at h
  have e := HO.lst.inj (Option.some.inj h)
  match xs, e with
  | _ :: _, e => cases e
/-- from H to H' all stays but the draws' source at p, which is one still; new things may have come -/
structure Go (p : Addr) (H H' : Hp) : Prop where
  but : But p H H'
  free : ∀ b, H' b = none → H b = none
  pool : PoolAt H' p
theorem Go.refl {p : Addr} {H : Hp} (h : PoolAt H p) : Go p H H := ⟨But.refl, fun _ n => n, h⟩
theorem Go.trans {p : Addr} {H H1 H2 : Hp} (a : Go p H H1) (b : Go p H1 H2) : Go p H H2 := ⟨a.but.trans b.but, fun c n => a.free c (b.free c n), b.pool⟩
theorem Go.new {p q : Addr} {H H1 : Hp} {o : HO} (a : Go p H H1) (n : H1 q = none) : Go p H (L2.upd H1 q o) :=
  ⟨a.but.trans (But.new n), fun c z => a.free c (new_old z), a.pool.upd (a.pool.ne n)⟩
/-- an object that was not there at H is written -/
theorem Go.put {p q : Addr} {H H1 : Hp} {o : HO} (a : Go p H H1) (n : H q = none) (ne : p ≠ q) : Go p H (L2.upd H1 q o) :=
  ⟨fun b u h e => at_upd (ne_of_none e n) (a.but b u h e), fun c z => a.free c (new_old z), a.pool.upd ne⟩
theorem Go.at {p q : Addr} {H H1 : Hp} {o : HO} (a : Go p H H1) (h : H q = some o) (n : q ≠ p) : H1 q = some o := a.but q o n h
theorem Go.seqT {p a : Addr} {H H1 : Hp} {xs : List V} {K : PySem.W.Frag} (g : Go p H H1) (hp : PoolAt H p) (h : SqT K H a xs) : SqT K H1 a xs := g.but.seqT hp.isL h
/-- _law_draw, as it is used -/
theorem use_draw {H : Hp} {p : Addr} {many : Int} {Q : VK} {E : XK} (h : PoolAt H p) (m0 : 0 < many) (m1 : many < 1000000)
    (k : ∀ (r : Int) (H' : Hp), 0 ≤ r → r < many → Go p H H' → Q (.int r) H') : spDraw [.ref p, .int many] H Q E := by
  obtain ⟨b, s, h, ok⟩ := h
  exact ⟨p, many, b, s, rfl, m0, m1, h, ok, fun r b' s' r0 r1 ok' => k r _ r0 r1 ⟨But.upd, fun c n => new_old n, b', s', upd_same, ok'⟩⟩
/-- a new list of names -/
def spNames : Sp := fun vs H Q _ => ∃ (p : Addr) (many : Int), vs = [.ref p, .int many] ∧ 0 ≤ many ∧ many ≤ 26 ∧ PoolAt H p ∧
  ∀ (l : Addr) (ys : List Str) (H' : Hp), Go p H H' → H l = none → H' l = some (.lst (ys.map V.str)) → Names ys → ys.length = many.toNat → Q (.ref l) H'
section
variable {P : Program} {w : World} {K : PySem.W.Frag} {mg : Str → Option Value} {base : Heap}
structure C1 (P : Program) (w : World) (K : PySem.W.Frag) (mg : Str → Option Value) (base : Heap) : Prop where
  _law_draw : Cal P w K mg base CX0 1 "_law_draw" spDraw
theorem ok_names {f : Addr} {fd : FuncData} (F : Fun K "_law_draw_names" "_law_draw_names" s__law_draw_names f fd) (B : Bt mg) (C : C1 P w K mg base) : FnG P w K mg base CX0 2 f fd ["_law_pool_here", "_law_many"] spNames := by
  refine fnG0 F sc__law_draw_names (fun vs H Q E h => ?_) (fun cdv A outer s H vs Q E hr h => ?_)
  · obtain ⟨p, many, rfl, _⟩ := h
    rfl
  · obtain ⟨p, many, rfl, m0, m1, hp, q⟩ := h
    have nd := sc__law_draw_names.nd
    refine ⟨_, (pss_cons (ps_set (i := 2) nd rfl (by first | exact Or.inl rfl | exact Or.inr rfl) pe_str)
  (pss_cons (ps_set (i := 3) nd rfl (by first | exact Or.inl rfl | exact Or.inr rfl) (pe_c C._law_draw hr (by decide) rfl (pa_cons (pv 0) (pa_cons pe_int pa_nil))))
  (pss_cons (ps_set (i := 4) nd rfl (by first | exact Or.inl rfl | exact Or.inr rfl) (pe_ix (kIx K rfl) (pe_lst (pa_cons pe_int (pa_cons pe_int (pa_cons pe_int (pa_cons pe_int pa_nil))))) (pe_c C._law_draw hr (by decide) rfl (pa_cons (pv 0) (pa_cons pe_int pa_nil))) (fun _ _ => rfl)))
  (pss_cons (ps_set (i := 5) nd rfl (by first | exact Or.inl rfl | exact Or.inr rfl) (pe_op uMul (pe_ix (kIx K rfl) (pv 2) (pe_c C._law_draw hr (by decide) rfl (pa_cons (pv 0) (pa_cons pe_int pa_nil))) (fun _ _ => rfl)) (pe_ix (kIx K rfl) (pe_lst (pa_cons pe_int (pa_cons pe_int (pa_cons pe_int (pa_cons pe_int pa_nil))))) (pe_c C._law_draw hr (by decide) rfl (pa_cons (pv 0) (pa_cons pe_int pa_nil))) (fun _ _ => rfl))))
  (pss_cons (ps_set (i := 6) nd rfl (by first | exact Or.inl rfl | exact Or.inr rfl) (pe_c C._law_draw hr (by decide) rfl (pa_cons (pv 0) (pa_cons (pe_op (kAdd K rfl) (pe_callB (kLen K rfl) (by rfl) B.len bb_len (pa_cons (pv 5) pa_nil)) pe_int) pa_nil))))
  (pss_cons (ps_set (i := 7) nd rfl (by first | exact Or.inl rfl | exact Or.inr rfl) (pe_cmpR (kEq K rfl hr.u64) (pe_c C._law_draw hr (by decide) rfl (pa_cons (pv 0) (pa_cons pe_int pa_nil))) pe_int (nomark _)))
  (pss_cons (ps_set (i := 8) nd rfl (by first | exact Or.inl rfl | exact Or.inr rfl) (pe_lst pa_nil))
  (pss_cons (ps_for PassesOwn.never rfl (pi_range1 rfl B.range (pa_cons (pv 1) pa_nil)) (pg_name (i := 9) nd rfl (by first | exact Or.inl rfl | exact Or.inr rfl)) (pss_cons (ps_set (i := 10) nd rfl (by first | exact Or.inl rfl | exact Or.inr rfl) (pe_ix (kIx K rfl) (pv 2) (pe_op uMod (pe_op (kAdd K rfl) (pv 3) (pe_op uMul (pv 4) (pv 9))) pe_int) (fun _ _ => rfl)))
  (pss_one (ps_expr (pe_bm PySem.F.plainAttrs_list PySem.F.slot_list_append PySem.F.type_list_append mt_append (pv 8) (pa_cons (pe_ix (kIx K rfl) (pe_lst (pa_cons (pe_op (kAdd K rfl) (pe_op (kAdd K rfl) (pe_slice (kSl K rfl) (pv 5) po_none (po_some (pv 6))) (pv 10)) (pe_slice (kSl K rfl) (pv 5) (po_some (pv 6)) po_none)) (pa_cons (pv 10) pa_nil))) (pe_callTy cInt (by rfl) B.int bb_int (pa_cons (pe_and (pv 7) (pe_one (pe_cmpR (kEq K rfl hr.u64) (pe_op uMod (pv 9) pe_int) pe_int (nomark _)))) pa_nil)) (fun _ _ => rfl)) pa_nil))))))
  (pss_one (ps_ret (pe_callB (kSorted K rfl hr.u64) (by rfl) B.sorted bb_sorted (pa_cons (pv 8) pa_nil)))))))))))), ?_⟩
    wtm_at "rd"
    refine use_draw hp (by decide) (by decide) fun b H1 b0 b1 g1 => ?_
    wtm_at "rd"
    intro t2 f2
    have g2 := g1.new (o := .lst [.int 1, .int 3, .int 5, .int 7]) f2
    wtm_at "rd"
    refine use_draw g2.pool (by decide) (by decide) fun r H3 r0 r1 g => ?_
    have h3 := g.at upd_same (g1.pool.ne f2).symm
    have g3 := g2.trans g
    clear g
    obtain ⟨sp, hsp, isp⟩ := pick4 (a := 1) (b := 3) (c := 5) (d := 7) r0 r1
    refine rd_ixL (SqL.of h3) hsp ?_
    wtm_at "rd"
    refine use_draw g3.pool (by decide) (by decide) fun d H4 d0 d1 g => ?_
    have g4 := g3.trans g
    clear g
    refine rd_ixS letters_len (letters_at d0 d1) ?_
    wtm_at "rd"
    intro t5 f5
    have g5 := g4.new (o := .lst [.int 0, .int 1, .int 3, .int 7]) f5
    wtm_at "rd"
    refine use_draw g5.pool (by decide) (by decide) fun r6 H6 r60 r61 g => ?_
    have h6 := g.at upd_same (g4.pool.ne f5).symm
    have g6 := g5.trans g
    clear g
    obtain ⟨n, hn, isn⟩ := pick4 (a := 0) (b := 1) (c := 3) (d := 7) r60 r61
    refine rd_ixL (SqL.of h6) hn ?_
    -- the tail
    have n0 : 0 ≤ n ∧ n ≤ 7 := by omega
    have et : timesS ⟨#[97 + d.toNat]⟩ n = ⟨(List.replicate n.toNat (97 + d.toNat)).toArray⟩ := by
      unfold timesS
      congr 2
      generalize n.toNat = m
      induction m with
      | zero => rfl
      | succ m ih =>
        rw [List.replicate_succ, List.flatten_cons, ih]
        rfl
    refine ⟨⟨n0.1, by omega, by show 1 ≤ 1000; decide⟩, ?_⟩
    rw [et]
    have tl : (⟨(List.replicate n.toNat (97 + d.toNat)).toArray⟩ : Str).length = n.toNat := by simp [Str.length]
    wtm_at "rd"
    refine rd_lenS (by rw [tl]; omega) ?_
    rw [tl]
    wtm_at "rd"
    refine use_draw g6.pool (by omega) (by omega) fun a H7 a0 a1 g => ?_
    have g7 := g6.trans g
    clear g
    wtm_at "rd"
    refine use_draw g7.pool (by decide) (by decide) fun m H8 m0' m1' g => ?_
    have g8 := g7.trans g
    clear g
    wtm_at "rd"
    intro l fl
    have nl := g8.pool.ne fl
    have fl0 := g8.free _ fl
    have g9 := g8.new (o := .lst []) fl
    wtm_at "rd"
    generalize hmb : decide (m = 1) = mb
    generalize hT : (⟨(List.replicate n.toNat (97 + d.toNat)).toArray⟩ : Str) = T at *
    have nm : ∀ k : Nat, nameK b sp (List.replicate n.toNat (97 + d.toNat)) a.toNat mb k =
        if mb = true ∧ k % 2 = 1 then ⟨#[97 + ((b + sp * (k : Int)) % 26).toNat]⟩ else cutS T none (some a) ++ ⟨#[97 + ((b + sp * (k : Int)) % 26).toNat]⟩ ++ cutS T (some a) none := by
      intro k
      unfold nameK
      rw [← hT, cutS_to a0, cutS_from a0]
      split
      · rfl
      · show _ = (⟨(List.take a.toNat (List.replicate n.toNat (97 + d.toNat))).toArray⟩ : Str) ++ ⟨[97 + ((b + sp * (k : Int)) % 26).toNat].toArray⟩ ++ ⟨(List.drop a.toNat (List.replicate n.toNat (97 + d.toNat))).toArray⟩
        rw [str_app, str_app]
        rfl
    have hTl : T.length ≤ 7 := by rw [tl]; omega
    generalize hN : nameK b sp (List.replicate n.toNat (97 + d.toNat)) a.toNat mb = nk at *
    refine turnsR (fun i σ H1 => ∃ u1 u2, σ = [some (.ref p), some (.int many), some (.str (Str.ofString "abcdefghijklmnopqrstuvwxyz")), some (.int b), some (.int sp), some (.str T), some (.int a), some (.bl mb), some (.ref l), u1, u2] ∧
      Go p H H1 ∧ H1 l = some (.lst ((List.range i).map fun k => V.str (nk k)))) ⟨_, _, rfl, g9, upd_same⟩ ?_ ?_
    · rintro i σ H1 hi ⟨u1, u2, rfl, g, hl⟩
      wtm_at "rd"
      have ir : 0 ≤ (b + sp * (0 + (i : Int))) % 26 ∧ (b + sp * (0 + (i : Int))) % 26 < 26 := by omega
      refine rd_ixS letters_len (letters_at ir.1 ir.2) ?_
      wtm_at "rd"
      refine rd_tyL hl ?_
      wtm_at "rd"
      refine rd_slS (by omega) ?_
      wtm_at "rd"
      have e0 : (0 + (i : Int)) = (i : Int) := Int.zero_add _
      rw [e0]
      have cut1 : (cutS T none (some a)).length ≤ 7 := by
        have := congrArg List.length (congrArg (fun z : Str => z.cps.toList) (cutS_to (z := T) a0))
        simp only [List.length_take] at this
        simp only [Str.length] at hTl ⊢
        simp only [Array.length_toList] at this
        omega
      have cut2 : (cutS T (some a) none).length ≤ 7 := by
        have := congrArg List.length (congrArg (fun z : Str => z.cps.toList) (cutS_from (z := T) a0))
        simp only [List.length_drop] at this
        simp only [Str.length] at hTl ⊢
        simp only [Array.length_toList] at this
        omega
      generalize hc : (⟨#[97 + ((b + sp * (i : Int)) % 26).toNat]⟩ : Str) = ch
      have chl : ch.length = 1 := by rw [← hc]; rfl
      refine rd_addS (Nat.le_trans (Nat.add_le_add cut1 (Nat.le_of_eq chl)) (by decide)) ?_
      wtm_at "rd"
      refine rd_slS (by omega) ?_
      wtm_at "rd"
      have cut3 : (cutS T none (some a) ++ ch).length ≤ 8 := by
        have : (cutS T none (some a) ++ ch).length = (cutS T none (some a)).length + ch.length := by
          show ((cutS T none (some a)).cps ++ ch.cps).size = _
          rw [Array.size_append]
          rfl
        omega
      refine rd_addS (Nat.le_trans (Nat.add_le_add cut3 cut2) (by decide)) ?_
      wtm_at "rd"
      intro t ft
      have nt : l ≠ t := ne_of_none hl ft
      wtm_at "rd"
      have hl2 := at_upd (o := .lst [.str (cutS T none (some a) ++ ch ++ cutS T (some a) none), .str ch]) nt hl
      have g' := g.new (o := .lst [.str (cutS T none (some a) ++ ch ++ cutS T (some a) none), .str ch]) ft
      have len : ((List.range i).map fun k => V.str (nk k)).length < 100000 := by
        rw [List.length_map, List.length_range]
        omega
      have fin : ∀ z : Str, z = nk i → Go p H (upd (upd H1 t (.lst [.str (cutS T none (some a) ++ ch ++ cutS T (some a) none), .str ch])) l (.lst (((List.range i).map fun k => V.str (nk k)) ++ [.str z]))) ∧
          (upd (upd H1 t (.lst [.str (cutS T none (some a) ++ ch ++ cutS T (some a) none), .str ch])) l (.lst (((List.range i).map fun k => V.str (nk k)) ++ [.str z]))) l = some (.lst ((List.range (i + 1)).map fun k => V.str (nk k))) := by
        rintro z rfl
        refine ⟨g'.put fl0 nl, ?_⟩
        rw [upd_same, List.range_succ, List.map_append]
        rfl
      have ne := nm i
      rw [hc] at ne
      refine rd_b (fun c => ?_) (fun c => ?_)
      · wtm_at "rd"
        refine rd_ixL (SqL.of upd_same) (bToI_pick _) ?_
        wtm_at "rd"
        have z : (if decide ((i : Int) % 2 = 1) = true then V.str ch else V.str (cutS T none (some a) ++ ch ++ cutS T (some a) none)) = V.str (nk i) := by
          rw [ne]
          by_cases h : i % 2 = 1
          · rw [if_pos (decide_eq_true (by omega)), if_pos ⟨c, h⟩]
          · rw [if_neg (by rw [decide_eq_true_eq]; omega), if_neg (fun z => h z.2)]
        rw [z]
        refine rd_append hl2 len ?_
        exact ⟨_, _, rfl, (fin _ rfl).1, (fin _ rfl).2⟩
      · wtm_at "rd"
        refine rd_ixL (SqL.of upd_same) (bToI_pick _) ?_
        wtm_at "rd"
        have z : (if false = true then V.str ch else V.str (cutS T none (some a) ++ ch ++ cutS T (some a) none)) = V.str (nk i) := by
          rw [ne, if_neg Bool.false_ne_true, if_neg (fun z => by rw [c] at z; exact Bool.false_ne_true z.1)]
        rw [z]
        refine rd_append hl2 len ?_
        exact ⟨_, _, rfl, (fin _ rfl).1, (fin _ rfl).2⟩
    · rintro σ H1 ⟨u1, u2, rfl, g, hl⟩
      wtm_at "rd"
      refine rd_sortS (xs := (List.range many.toNat).map nk) (SqL.of (by rw [List.map_map]; exact hl)) (by rw [List.length_map, List.length_range]; omega) ?_
      intro ys py sy l2 fl2
      have nd2 : ((List.range many.toNat).map nk).Nodup := by
        rw [← hN]
        exact names_nodup (by omega) isp (by omega)
      have nu : NamesU ((List.range many.toNat).map nk) := ⟨nd2, fun y hy => by
        obtain ⟨k, _, rfl⟩ := List.mem_map.mp hy
        rw [← hN]
        exact nameK_ok (by omega) (by omega) (by omega)⟩
      have nu2 := nu.perm py
      exact q l2 ys _ (g.new fl2) (g.free _ fl2) upd_same ⟨asc_of_sorted sy nu2.nd, nu2.ok⟩ (by rw [py.length_eq, List.length_map, List.length_range])
end
end Law

namespace Law
open PySem PySem.Spec PyProof.Rows L2 U
local macro_rules | `(tactic| wtm_at "rd1") => `(tactic| first
  | with_reducible refine rd_seq ?_
  | ((with_reducible refine rd_var (v := ?vv) ?hv ?_); (case hv => exact rfl))
  | with_reducible refine rd_c ?_
  | with_reducible refine rd_cons ?_
  | with_reducible refine rd_nil ?_
  | with_reducible refine rd_op ?_
  | with_reducible refine rd_asg ?_
  | with_reducible refine rd_name ?_
  | with_reducible refine rd_c1 ?_
  | with_reducible refine rd_cb ?_
  | with_reducible refine rd_test ?_
  | with_reducible refine rd_B ?_
  | with_reducible refine rd_bl ?_
  | with_reducible refine rd_if ?_
  | with_reducible refine rd_ret ?_
  | with_reducible refine rd_drop ?_
  | with_reducible refine rd_next ?_
  | with_reducible refine rd_addI ?_
  | with_reducible refine rd_ltI ?_
  | with_reducible refine rd_eqI ?_
  | with_reducible refine rd_neI ?_
  | with_reducible refine rd_eqS ?_
  | with_reducible refine rd_neS ?_
  | with_reducible refine rd_gtI ?_
  | with_reducible refine rd_geI ?_
  | with_reducible refine rd_leI ?_
  | with_reducible refine rd_ltS ?_
  | with_reducible refine rd_subI ?_
  | ((with_reducible refine rd_modI ?hc ?_); (case hc => first | decide | omega))
  | ((with_reducible refine rd_mulI ?hc ?_); (case hc => first | exact mul_bI | exact .inl (.inr (by decide)) | exact .inl (.inl (by decide)) | exact .inl (.inr (by omega)) | exact .inl (.inl (by omega))))
  | ((with_reducible refine rd_divI ?hc ?_); (case hc => first | decide | omega))
  | ((with_reducible refine rd_powI ?hc ?_); (case hc => exact ⟨by decide, by decide, by decide⟩))
  | with_reducible refine rd_lst ?_
  | with_reducible refine rd_tup ?_
  | ((with_reducible refine rd_sz ?hv ?_); (case hv => exact rfl))
  | with_reducible refine rd_and ?_
  | with_reducible refine rd_or ?_
  | with_reducible refine rd_not ?_
  | with_reducible refine rd_andV ?_
  | with_reducible refine rd_orV ?_
  | with_reducible refine rd_notV ?_
  | with_reducible refine rd_ifE ?_
  | with_reducible refine rd_T ?_
  | with_reducible refine rd_F ?_
  | with_reducible refine rd_chain ?_
  | with_reducible refine rd_is ?_
  | with_reducible refine rd_isNot ?_
  | with_reducible refine rd_absI ?_
  | with_reducible refine rd_maxI ?_
  | with_reducible refine rd_minI ?_
  | with_reducible refine rd_intI ?_
  | with_reducible refine rd_intB ?_
  | with_reducible refine rd_sub ?_
  | with_reducible refine rd_sl ?_
  | with_reducible refine rd_noPart ?_
  | with_reducible refine rd_part ?_
  | with_reducible refine rd_exI ?_
  | with_reducible refine rd_bm ?_
  | with_reducible refine rd_bm0 ?_
  | with_reducible refine rd_un ?_
  | with_reducible refine rd_neg ?_
  | with_reducible refine rd_c2 ?_
  | with_reducible refine rd_retN ?_
  | with_reducible refine rd_break ?_
  | with_reducible refine rd_cont ?_
  | with_reducible refine rd_for ?_
  | with_reducible refine rd_rng1 ?_
  | with_reducible refine rd_rng2 ?_
  | with_reducible refine rd_iList ?_
  | with_reducible refine rd_iTup ?_
  | with_reducible refine rd_iEnum ?_
  | ((with_reducible refine rd_forR ?h0 ?h1 ?_); (case h0 => omega); (case h1 => omega))
  | with_reducible refine rd_lc ?_
  | with_reducible refine rd_gcons ?_
  | with_reducible refine rd_gnil ?_
  | with_reducible refine rd_dget ?_
  | with_reducible refine rd_dput ?_
  | with_reducible refine rd_dnew ?_
  | with_reducible refine rd_dc ?_
  | with_reducible refine rd_iItems ?_
  | with_reducible refine rd_iKeys ?_
  | with_reducible refine rd_din ?_
  | with_reducible refine rd_par ?_
  | with_reducible refine rd_two ?_
  | with_reducible refine rd_reprB ?_
  | with_reducible refine rd_ck ?_
  | ((with_reducible refine rd_len ?hl ?_); (case hl => exact rfl))
  | with_reducible refine rd_nT ?_
  | with_reducible refine rd_nF ?_
  | with_reducible refine rd_dnin ?_
  | with_reducible refine rd_isB ?_
  | with_reducible refine rd_isNotB ?_
  | with_reducible refine rd_daug ?_
  | with_reducible refine rd_yesT ?_
  | ((with_reducible refine rd_wp ?hw ?_); (case hw => exact rfl)))
local macro_rules | `(tactic| wtm_at "rd") => `(tactic| repeat wtm_at "rd1")

/-- the same names in another order -/
def spShuf (K : PySem.W.Frag) : Sp := fun vs H Q _ => ∃ (p src : Addr) (xs : List Str), vs = [.ref p, .ref src] ∧ PoolAt H p ∧ H src = some (.lst (xs.map V.str)) ∧ (∀ x ∈ xs, PyData.strOk x = true) ∧ xs.length ≤ 1000 ∧
  ∀ (l : Addr) (ys : List Str) (H' : Hp), Go p H H' → H l = none → H' l = some (.lst (ys.map V.str)) → ys.Perm xs → Q (.ref l) H'
def spEdgeOf : Sp := fun vs H Q _ => ∃ x y : Str, vs = [.str x, .str y] ∧ ∀ t, H t = none → Q (.ref t) (upd H t (.tup (if sLt x y then [.str x, .str y] else [.str y, .str x])))
def spWants : Sp := fun vs H Q _ => ∃ (p : Addr) (kind a b m : Int), vs = [.ref p, .int kind, .int a, .int b, .int m] ∧ PoolAt H p ∧ 0 ≤ kind ∧ kind ≤ 10 ∧ ∀ (r : Bool) (H' : Hp), Go p H H' → Q (.bl r) H'
section
variable {P : Program} {w : World} {K : PySem.W.Frag} {mg : Str → Option Value} {base : Heap}
theorem ok_shuffle {f : Addr} {fd : FuncData} (F : Fun K "_law_shuffle" "_law_shuffle" s__law_shuffle f fd) (B : Bt mg) (C : C1 P w K mg base) : FnG P w K mg base CX0 2 f fd ["_law_pool_here", "_law_some"] (spShuf K) := by
  refine fnG0 F sc__law_shuffle (fun vs H Q E h => ?_) (fun cdv A outer s H vs Q E hr h => ?_)
  · obtain ⟨p, src, xs, rfl, _⟩ := h
    rfl
  · obtain ⟨p, src, xs, rfl, hp, hs, ok, hz, q⟩ := h
    have nd := sc__law_shuffle.nd
    refine ⟨_, (pss_cons (ps_set (i := 2) nd rfl (by first | exact Or.inl rfl | exact Or.inr rfl) (pe_callTy (kList K rfl rfl) (by rfl) B.list bb_list (pa_cons (pv 1) pa_nil)))
  (pss_cons (ps_set (i := 3) nd rfl (by first | exact Or.inl rfl | exact Or.inr rfl) (pe_lst pa_nil))
  (pss_cons (ps_while PassesOwn.never (pt_cmpR (kNe K rfl hr.u64) (pv 2) (pe_lst pa_nil) (nomark _)) (pss_one (ps_expr (pe_bm PySem.F.plainAttrs_list PySem.F.slot_list_append PySem.F.type_list_append mt_append (pv 3) (pa_cons (pe_bm PySem.F.plainAttrs_list PySem.F.slot_list_pop PySem.F.type_list_pop mt_popAt (pv 2) (pa_cons (pe_c C._law_draw hr (by decide) rfl (pa_cons (pv 0) (pa_cons (pe_callB (kLen K rfl) (by rfl) B.len bb_len (pa_cons (pv 2) pa_nil)) pa_nil))) pa_nil)) pa_nil)))))
  (pss_one (ps_ret (pv 3)))))), ?_⟩
    wtm_at "rd"
    refine rd_listL (SqL.of hs) ?_
    intro a fa
    have g1 := (Go.refl hp).new (o := .lst (xs.map V.str)) fa
    have na := hp.ne fa
    wtm_at "rd"
    intro l fl
    have g2 := g1.new (o := .lst []) fl
    have fl0 := g1.free _ fl
    have nl := g1.pool.ne fl
    have nla := new_ne fl
    wtm_at "rd"
    refine ⟨fun m σ H1 => ∃ zs ys : List Str, m = zs.length ∧ σ = [some (.ref p), some (.ref src), some (.ref a), some (.ref l)] ∧ Go p H H1 ∧ H1 a = some (.lst (zs.map V.str)) ∧ H1 l = some (.lst (ys.map V.str)) ∧ (ys ++ zs).Perm xs,
      ⟨_, xs, [], rfl, rfl, g2, at_upd (Ne.symm nla) upd_same, upd_same, .refl _⟩, ?_⟩
    rintro m σ H1 ⟨zs, ys, rfl, rfl, g, ha, hl, pm⟩
    have lz := pm.length_eq
    rw [List.length_append] at lz
    wtm_at "rd"
    intro t ft
    have g3 := g.new (o := .lst []) ft
    refine rd_neNil (SqL.of (at_upd (ne_of_none ha ft) ha)) (SqL.of upd_same) (fun x hx => ok x (pm.mem_iff.mp (List.mem_append_right _ hx))) ?_
    wtm_at "rd"
    refine rd_b (fun c => ?_) (fun c => ?_)
    · have hz0 : 0 < zs.length := by
        cases zs with
        | nil => cases c
        | cons _ _ => simp
      refine ⟨fun σ' H' => ∃ zs' ys' : List Str, zs'.length < zs.length ∧ σ' = [some (.ref p), some (.ref src), some (.ref a), some (.ref l)] ∧ Go p H H' ∧ H' a = some (.lst (zs'.map V.str)) ∧ H' l = some (.lst (ys'.map V.str)) ∧ (ys' ++ zs').Perm xs,
        fun σ' H' ⟨zs', ys', h1, h2⟩ => ⟨_, h1, zs', ys', rfl, h2⟩, ?_⟩
      wtm_at "rd"
      refine rd_tyL (at_upd (ne_of_none hl ft) hl) ?_
      wtm_at "rd"
      refine rd_tyL (at_upd (ne_of_none ha ft) ha) ?_
      wtm_at "rd"
      refine rd_lenL (SqL.of (at_upd (ne_of_none ha ft) ha)) ?_
      rw [List.length_map]
      wtm_at "rd"
      refine use_draw g3.pool (by omega) (by omega) fun r H2 r0 r1 g => ?_
      have ha2 := g.at (at_upd (ne_of_none ha ft) ha) (Ne.symm na)
      have hl2 := g.at (at_upd (ne_of_none hl ft) hl) (Ne.symm nl)
      have g4 := g3.trans g
      clear g
      wtm_at "rd"
      have hr2 : r.toNat < zs.length := by omega
      refine rd_popAt ha2 r0 rfl (by rw [List.length_map]; omega) (v := .str zs[r.toNat]) (by rw [List.getElem?_map, List.getElem?_eq_getElem hr2]; rfl) ?_
      have hl3 := at_upd (o := .lst ((zs.map V.str).eraseIdx r.toNat)) (nla) hl2
      have g5 := g4.put (o := .lst ((zs.map V.str).eraseIdx r.toNat)) fa na
      wtm_at "rd"
      refine rd_append hl3 (by rw [List.length_map]; omega) ?_
      have g6 := g5.put (o := .lst (ys.map V.str ++ [.str zs[r.toNat]])) fl0 nl
      refine ⟨zs.eraseIdx r.toNat, ys ++ [zs[r.toNat]], ?_, rfl, g6, ?_, ?_, ?_⟩
      · rw [List.length_eraseIdx_of_lt hr2]
        omega
      · rw [upd_ne (Ne.symm nla), upd_same, erase_map]
      · rw [upd_same, List.map_append]
        rfl
      · refine List.Perm.trans ?_ pm
        rw [List.append_assoc]
        refine List.Perm.append_left _ ?_
        exact erase_perm hr2
    · have e : zs = [] := by
        cases zs with
        | nil => rfl
        | cons _ _ => cases c
      subst e
      rw [List.append_nil] at pm
      wtm_at "rd"
      exact q l ys _ g3 fl0 (at_upd (ne_of_none hl ft) hl) pm
theorem ok_edge_of {f : Addr} {fd : FuncData} (F : Fun K "_law_edge_of" "_law_edge_of" s__law_edge_of f fd) (B : Bt mg) : FnG P w K mg base CX0 1 f fd ["_law_one", "_law_other"] spEdgeOf := by
  refine fnG0 F sc__law_edge_of (fun vs H Q E h => ?_) (fun cdv A outer s H vs Q E hr h => ?_)
  · obtain ⟨x, y, rfl, _⟩ := h
    rfl
  · obtain ⟨x, y, rfl, q⟩ := h
    have nd := sc__law_edge_of.nd
    refine ⟨_, (pss_cons (ps_if (pt_cmpR uLt (pv 0) (pv 1) (nomark _)) (pss_one (ps_ret (pe_tup (pa_cons (pv 0) (pa_cons (pv 1) pa_nil))))) pss_nil)
  (pss_one (ps_ret (pe_tup (pa_cons (pv 1) (pa_cons (pv 0) pa_nil)))))), ?_⟩
    wtm_at "rd"
    refine rd_split (fun c => ?_) (fun c => ?_)
    · have c : sLt x y := c
      rw [if_pos c] at q
      wtm_at "rd"
      exact fun t ft => q t ft
    · have c : ¬ sLt x y := c
      rw [if_neg c] at q
      wtm_at "rd"
      exact fun t ft => q t ft
theorem ok_wants {f : Addr} {fd : FuncData} (F : Fun K "_law_wants_edge" "_law_wants_edge" s__law_wants_edge f fd) (B : Bt mg) (C : C1 P w K mg base) : FnG P w K mg base CX0 2 f fd ["_law_pool_here", "_law_kind", "_law_at", "_law_position", "_law_many"] spWants := by
  refine fnG0 F sc__law_wants_edge (fun vs H Q E h => ?_) (fun cdv A outer s H vs Q E hr h => ?_)
  · obtain ⟨p, k, a, b, m, rfl, _⟩ := h
    rfl
  · obtain ⟨p, k, a, b, m, rfl, hp, k0, k1, q⟩ := h
    have nd := sc__law_wants_edge.nd
    refine ⟨_, (pss_cons (ps_if (pt_cmpR uLt (pv 1) pe_int (nomark _)) (pss_one (ps_ret (pe_cmpR (kEq K rfl hr.u64) (pe_c C._law_draw hr (by decide) rfl (pa_cons (pv 0) (pa_cons (pe_op (kAdd K rfl) pe_int (pe_op uMul pe_int (pv 1))) pa_nil))) pe_int (nomark _)))) pss_nil)
  (pss_cons (ps_if (PW.pt (pw_or (pt_cmpR (kEq K rfl hr.u64) (pe_op uSub (pv 2) (pv 3)) pe_int (nomark _)) (pw_or1 (PW.pt (pw_and (pt_cmpR (kEq K rfl hr.u64) (pv 3) pe_int (nomark _)) (pw_and1 (pt_cmpR (kEq K rfl hr.u64) (pv 2) (pe_op uSub (pv 4) pe_int) (nomark _)))))))) (pss_one (ps_ret pe_bl)) pss_nil)
  (pss_one (ps_ret (pe_and (pe_cmpR uLt (pv 1) pe_int (nomark _)) (pe_one (pe_cmpR (kEq K rfl hr.u64) (pe_c C._law_draw hr (by decide) rfl (pa_cons (pv 0) (pa_cons pe_int pa_nil))) pe_int (nomark _)))))))), ?_⟩
    wtm_at "rd"
    refine rd_split (fun c => ?_) (fun c => ?_)
    · wtm_at "rd"
      refine use_draw hp (by omega) (by omega) fun r H2 r0 r1 g => ?_
      wtm_at "rd"
      exact q _ _ g
    · wtm_at "rd"
      refine rd_split (fun c => ?_) (fun c => ?_)
      · wtm_at "rd"
        exact q _ _ (Go.refl hp)
      · wtm_at "rd"
        refine rd_split (fun c => ?_) (fun c => ?_)
        · wtm_at "rd"
          refine rd_split (fun c => ?_) (fun c => ?_)
          · wtm_at "rd"
            exact q _ _ (Go.refl hp)
          · wtm_at "rd"
            refine rd_split (fun c => ?_) (fun c => ?_)
            · wtm_at "rd"
              refine use_draw hp (by decide) (by decide) fun r H2 r0 r1 g => ?_
              wtm_at "rd"
              exact q _ _ g
            · wtm_at "rd"
              exact q _ _ (Go.refl hp)
        · wtm_at "rd"
          refine rd_split (fun c => ?_) (fun c => ?_)
          · wtm_at "rd"
            refine use_draw hp (by decide) (by decide) fun r H2 r0 r1 g => ?_
            wtm_at "rd"
            exact q _ _ g
          · wtm_at "rd"
            exact q _ _ (Go.refl hp)
end
end Law

namespace Law
open PySem PySem.Spec PyProof.Rows L2 U
local macro_rules | `(tactic| wtm_at "rd1") => `(tactic| first
  | with_reducible refine rd_seq ?_
  | ((with_reducible refine rd_var (v := ?vv) ?hv ?_); (case hv => exact rfl))
  | with_reducible refine rd_c ?_
  | with_reducible refine rd_cons ?_
  | with_reducible refine rd_nil ?_
  | with_reducible refine rd_op ?_
  | with_reducible refine rd_asg ?_
  | with_reducible refine rd_name ?_
  | with_reducible refine rd_c1 ?_
  | with_reducible refine rd_cb ?_
  | with_reducible refine rd_test ?_
  | with_reducible refine rd_B ?_
  | with_reducible refine rd_bl ?_
  | with_reducible refine rd_if ?_
  | with_reducible refine rd_ret ?_
  | with_reducible refine rd_drop ?_
  | with_reducible refine rd_next ?_
  | with_reducible refine rd_addI ?_
  | with_reducible refine rd_ltI ?_
  | with_reducible refine rd_eqI ?_
  | with_reducible refine rd_neI ?_
  | with_reducible refine rd_eqS ?_
  | with_reducible refine rd_neS ?_
  | with_reducible refine rd_gtI ?_
  | with_reducible refine rd_geI ?_
  | with_reducible refine rd_leI ?_
  | with_reducible refine rd_ltS ?_
  | with_reducible refine rd_subI ?_
  | ((with_reducible refine rd_modI ?hc ?_); (case hc => first | decide | omega))
  | ((with_reducible refine rd_mulI ?hc ?_); (case hc => first | exact mul_bI | exact .inl (.inr (by decide)) | exact .inl (.inl (by decide)) | exact .inl (.inr (by omega)) | exact .inl (.inl (by omega))))
  | ((with_reducible refine rd_divI ?hc ?_); (case hc => first | decide | omega))
  | ((with_reducible refine rd_powI ?hc ?_); (case hc => exact ⟨by decide, by decide, by decide⟩))
  | with_reducible refine rd_lst ?_
  | with_reducible refine rd_tup ?_
  | ((with_reducible refine rd_sz ?hv ?_); (case hv => exact rfl))
  | with_reducible refine rd_and ?_
  | with_reducible refine rd_or ?_
  | with_reducible refine rd_not ?_
  | with_reducible refine rd_andV ?_
  | with_reducible refine rd_orV ?_
  | with_reducible refine rd_notV ?_
  | with_reducible refine rd_ifE ?_
  | with_reducible refine rd_T ?_
  | with_reducible refine rd_F ?_
  | with_reducible refine rd_chain ?_
  | with_reducible refine rd_is ?_
  | with_reducible refine rd_isNot ?_
  | with_reducible refine rd_absI ?_
  | with_reducible refine rd_maxI ?_
  | with_reducible refine rd_minI ?_
  | with_reducible refine rd_intI ?_
  | with_reducible refine rd_intB ?_
  | with_reducible refine rd_sub ?_
  | with_reducible refine rd_sl ?_
  | with_reducible refine rd_noPart ?_
  | with_reducible refine rd_part ?_
  | with_reducible refine rd_exI ?_
  | with_reducible refine rd_bm ?_
  | with_reducible refine rd_bm0 ?_
  | with_reducible refine rd_un ?_
  | with_reducible refine rd_neg ?_
  | with_reducible refine rd_c2 ?_
  | with_reducible refine rd_retN ?_
  | with_reducible refine rd_break ?_
  | with_reducible refine rd_cont ?_
  | with_reducible refine rd_for ?_
  | with_reducible refine rd_rng1 ?_
  | with_reducible refine rd_rng2 ?_
  | with_reducible refine rd_iList ?_
  | with_reducible refine rd_iTup ?_
  | with_reducible refine rd_iEnum ?_
  | ((with_reducible refine rd_forR ?h0 ?h1 ?_); (case h0 => omega); (case h1 => omega))
  | with_reducible refine rd_lc ?_
  | with_reducible refine rd_gcons ?_
  | with_reducible refine rd_gnil ?_
  | with_reducible refine rd_dget ?_
  | with_reducible refine rd_dput ?_
  | with_reducible refine rd_dnew ?_
  | with_reducible refine rd_dc ?_
  | with_reducible refine rd_iItems ?_
  | with_reducible refine rd_iKeys ?_
  | with_reducible refine rd_din ?_
  | with_reducible refine rd_par ?_
  | with_reducible refine rd_two ?_
  | with_reducible refine rd_reprB ?_
  | with_reducible refine rd_ck ?_
  | ((with_reducible refine rd_len ?hl ?_); (case hl => exact rfl))
  | with_reducible refine rd_nT ?_
  | with_reducible refine rd_nF ?_
  | with_reducible refine rd_dnin ?_
  | with_reducible refine rd_isB ?_
  | with_reducible refine rd_isNotB ?_
  | with_reducible refine rd_daug ?_
  | with_reducible refine rd_yesT ?_
  | ((with_reducible refine rd_wp ?hw ?_); (case hw => exact rfl)))
local macro_rules | `(tactic| wtm_at "rd") => `(tactic| repeat wtm_at "rd1")

/-- a new graph and a state of it -/
def spGraph : Sp := fun vs H Q _ => ∃ (p : Addr) (most : Int), vs = [.ref p, .int most] ∧ PoolAt H p ∧ 1 ≤ most ∧ most ≤ 25 ∧
  ∀ (t g n e st : Addr) (ns ord : List Str) (es : List (Addr × Str × Str)) (ws : List (Str × Int)) (H' : Hp), Go p H H' → H' t = some (.tup [.ref g, .ref st]) → GrAt H' g n e ns es → H' st = some (.dK (kvsOf ws)) →
    H g = none → H st = none → 1 ≤ ns.length → ns.length ≤ most.toNat → GrOk ns (es.map (·.2)) → ord.Perm ns → StOk ord ws → (∀ x ∈ es, numOf ws x.2.1 ≠ numOf ws x.2.2) → es.length ≤ 1000 → H t = none → Q (.ref t) H'
theorem PoolAt.offT {H : Hp} {p q : Addr} {xs : List V} (h : PoolAt H p) (hq : H q = some (.tup xs)) : q ≠ p := by
  rintro rfl
  obtain ⟨b, s, h, _⟩ := h
  rw [hq] at h
  cases h
theorem PoolAt.offD {H : Hp} {p q : Addr} {xs : List (Key × V)} (h : PoolAt H p) (hq : H q = some (.dK xs)) : q ≠ p := by
  rintro rfl
  obtain ⟨b, s, h, _⟩ := h
  rw [hq] at h
  cases h
/-- what stays while edges are found -/
structure GK (H : Hp) (p or st ed : Addr) (ord : List Str) (ws : List (Str × Int)) (es : List (Addr × Str × Str)) (H' : Hp) : Prop where
  go : Go p H H'
  ho : H' or = some (.lst (ord.map V.str))
  hs : H' st = some (.dK (kvsOf ws))
  he : H' ed = some (.lst (es.map fun x => V.ref x.1))
  pr : ∀ x ∈ es, H' x.1 = some (.tup [.str x.2.1, .str x.2.2])
theorem GK.new {H H' : Hp} {p or st ed t : Addr} {ord : List Str} {ws : List (Str × Int)} {es : List (Addr × Str × Str)} {o : HO} (h : GK H p or st ed ord ws es H') (n : H' t = none) : GK H p or st ed ord ws es (upd H' t o) :=
  ⟨h.go.new n, at_upd (ne_of_none h.ho n) h.ho, at_upd (ne_of_none h.hs n) h.hs, at_upd (ne_of_none h.he n) h.he, fun x hx => at_upd (ne_of_none (h.pr x hx) n) (h.pr x hx)⟩
theorem GK.step {H H' H2 : Hp} {p or st ed : Addr} {ord : List Str} {ws : List (Str × Int)} {es : List (Addr × Str × Str)} (h : GK H p or st ed ord ws es H') (no : or ≠ p) (ne : ed ≠ p) (g : Go p H' H2) : GK H p or st ed ord ws es H2 :=
  ⟨h.go.trans g, g.at h.ho no, g.at h.hs (h.go.pool.offD h.hs), g.at h.he ne, fun x hx => g.at (h.pr x hx) (h.go.pool.offT (h.pr x hx))⟩
theorem GK.add {H H' : Hp} {p or st ed t : Addr} {ord : List Str} {ws : List (Str × Int)} {es : List (Addr × Str × Str)} {e : Str × Str} (h : GK H p or st ed ord ws es H') (hf : H ed = none) (ne : ed ≠ p) (noe : or ≠ ed)
    (ht : H' t = some (.tup [.str e.1, .str e.2])) : GK H p or st ed ord ws (es ++ [(t, e)]) (upd H' ed (.lst ((es.map fun x => V.ref x.1) ++ [.ref t]))) := by
  have nt : ∀ {b : Addr} {xs : List V}, H' b = some (.tup xs) → b ≠ ed := fun {b xs} hb => ne_of hb h.he (by intro z; cases z)
  refine ⟨h.go.put hf (Ne.symm ne), at_upd noe h.ho, at_upd (ne_of h.hs h.he (by intro z; cases z)) h.hs, ?_, ?_⟩
  · rw [upd_same, List.map_append]
    rfl
  · intro x hx
    rcases List.mem_append.mp hx with hx | hx
    · exact at_upd (nt (h.pr x hx)) (h.pr x hx)
    · have : x = (t, e) := by simpa using hx
      subst this
      exact at_upd (nt ht) ht
section
variable {P : Program} {w : World} {K : PySem.W.Frag} {mg : Str → Option Value} {base : Heap}
structure C2 (P : Program) (w : World) (K : PySem.W.Frag) (mg : Str → Option Value) (base : Heap) : Prop where
  _law_draw : Cal P w K mg base CX0 1 "_law_draw" spDraw
  _law_draw_names : Cal P w K mg base CX0 2 "_law_draw_names" spNames
  _law_shuffle : Cal P w K mg base CX0 2 "_law_shuffle" (spShuf K)
  _law_edge_of : Cal P w K mg base CX0 1 "_law_edge_of" spEdgeOf
  _law_wants_edge : Cal P w K mg base CX0 2 "_law_wants_edge" spWants
theorem ok_draw_graph {f : Addr} {fd : FuncData} (F : Fun K "_law_draw_graph" "_law_draw_graph" s__law_draw_graph f fd) (B : Bt mg) (C : C2 P w K mg base) : FnG P w K mg base CX0 3 f fd ["_law_pool_here", "_law_most"] spGraph := by
  refine fnG0 F sc__law_draw_graph (fun vs H Q E h => ?_) (fun cdv A outer s H vs Q E hr h => ?_)
  · obtain ⟨p, most, rfl, _⟩ := h
    rfl
  · obtain ⟨p, most, rfl, hp, m0, m1, q⟩ := h
    have nd := sc__law_draw_graph.nd
    have hu := hr.u1
    refine ⟨_, (pss_cons (ps_set (i := 2) nd rfl (by first | exact Or.inl rfl | exact Or.inr rfl) (pe_c C._law_shuffle hr (by decide) rfl (pa_cons (pv 0) (pa_cons (pe_c C._law_draw_names hr (by decide) rfl (pa_cons (pv 0) (pa_cons (pe_op (kAdd K rfl) pe_int (pe_c C._law_draw hr (by decide) rfl (pa_cons (pv 0) (pa_cons (pv 1) pa_nil)))) pa_nil))) pa_nil))))
  (pss_cons (ps_set (i := 3) nd rfl (by first | exact Or.inl rfl | exact Or.inr rfl) (pe_c C._law_draw hr (by decide) rfl (pa_cons (pv 0) (pa_cons pe_int pa_nil))))
  (pss_cons (ps_set (i := 4) nd rfl (by first | exact Or.inl rfl | exact Or.inr rfl) pe_dnewK)
  (pss_cons (ps_set (i := 5) nd rfl (by first | exact Or.inl rfl | exact Or.inr rfl) pe_int)
  (pss_cons (ps_for PassesOwn.never rfl (ki_list K rfl (pv 2)) (pg_name (i := 6) nd rfl (by first | exact Or.inl rfl | exact Or.inr rfl)) (pss_cons (ps_set (i := 5) nd rfl (by first | exact Or.inl rfl | exact Or.inr rfl) (pe_op uMod (pe_op (kAdd K rfl) (pv 5) (pe_ix (kIx K rfl) (pe_lst (pa_cons (pe_c C._law_draw hr (by decide) rfl (pa_cons (pv 0) (pa_cons pe_int pa_nil))) (pa_cons (pe_op (kAdd K rfl) pe_int (pe_op uDiv (pe_c C._law_draw hr (by decide) rfl (pa_cons (pv 0) (pa_cons pe_int pa_nil))) pe_int)) pa_nil))) (pe_callTy cInt (by rfl) B.int bb_int (pa_cons (pe_cmpR uGt (pv 3) pe_int (nomark _)) pa_nil)) (fun _ _ => rfl))) pe_int))
  (pss_one (ps_dput hu (pv 4) (pv 6) (pv 5) rfl))))
  (pss_cons (ps_set (i := 7) nd rfl (by first | exact Or.inl rfl | exact Or.inr rfl) (pe_lst pa_nil))
  (pss_cons (ps_for PassesOwn.never rfl (pi_enum (by rfl) B.enumerate (pa_cons (pv 2) pa_nil)) (kg_tup (n := 2) K rfl rfl (pgs_cons (pg_name (i := 8) nd rfl (by first | exact Or.inl rfl | exact Or.inr rfl)) (pgs_cons (pg_name (i := 9) nd rfl (by first | exact Or.inl rfl | exact Or.inr rfl)) pgs_nil))) (pss_one (ps_for PassesOwn.never rfl (pi_enum (by rfl) B.enumerate (pa_cons (pe_slice (kSl K rfl) (pv 2) po_none (po_some (pv 8))) pa_nil)) (kg_tup (n := 2) K rfl rfl (pgs_cons (pg_name (i := 10) nd rfl (by first | exact Or.inl rfl | exact Or.inr rfl)) (pgs_cons (pg_name (i := 11) nd rfl (by first | exact Or.inl rfl | exact Or.inr rfl)) pgs_nil))) (pss_one (ps_if (PW.pt (pw_and (pt_cmpR (kNe K rfl hr.u64) (pe_dget hu (pv 4) (pv 9) (fun _ _ => rfl)) (pe_dget hu (pv 4) (pv 11) (fun _ _ => rfl)) (nomark _)) (pw_and1 (pt_val (pe_c C._law_wants_edge hr (by decide) rfl (pa_cons (pv 0) (pa_cons (pv 3) (pa_cons (pv 8) (pa_cons (pv 10) (pa_cons (pe_callB (kLen K rfl) (by rfl) B.len bb_len (pa_cons (pv 2) pa_nil)) pa_nil)))))))))) (pss_one (ps_expr (pe_bm PySem.F.plainAttrs_list PySem.F.slot_list_append PySem.F.type_list_append mt_append (pv 7) (pa_cons (pe_c C._law_edge_of hr (by decide) rfl (pa_cons (pv 9) (pa_cons (pv 11) pa_nil))) pa_nil)))) pss_nil)))))
  (pss_one (ps_ret (pe_tup (pa_cons (pe_tup (pa_cons (pe_callTy (kTuple K rfl) (by rfl) B.tuple bb_tuple (pa_cons (pe_callB (kSorted K rfl hr.u64) (by rfl) B.sorted bb_sorted (pa_cons (pv 2) pa_nil)) pa_nil)) (pa_cons (pe_callTy (kTuple K rfl) (by rfl) B.tuple bb_tuple (pa_cons (pe_callB (kSorted K rfl hr.u64) (by rfl) B.sorted bb_sorted (pa_cons (pv 7) pa_nil)) pa_nil)) pa_nil))) (pa_cons (pv 4) pa_nil)))))))))))), ?_⟩
    wtm_at "rd"
    refine use_draw hp (by omega) (by omega) fun r H1 r0 r1 g1 => ?_
    wtm_at "rd"
    refine ⟨p, 1 + r, rfl, by omega, by omega, g1.pool, fun l0 nm0 H2 g fl0 hl0 nm ln => ?_⟩
    have g2 := g1.trans g
    clear g
    wtm_at "rd"
    refine ⟨p, l0, nm0, rfl, g2.pool, hl0, (fun x hx => (nm.ok x hx).sok), by omega, fun or ord H3 g fo ho po => ?_⟩
    have no := g.pool.off ho
    have g3 := g2.trans g
    clear g
    have lno : ord.length = (1 + r).toNat := by rw [po.length_eq, ln]
    have nu : NamesU ord := nm.u.perm po
    wtm_at "rd"
    refine use_draw g3.pool (by decide) (by decide) fun kind H4 k0 k1 g => ?_
    have ho4 := g.at ho no
    have g4 := g3.trans g
    clear g
    wtm_at "rd"
    intro st fst
    have nos : or ≠ st := ne_of_none ho4 fst
    have ho5 := at_upd (o := .dK []) nos ho4
    have g5 := g4.new (o := .dK []) fst
    have nst := g4.pool.ne fst
    have fst0 := g4.free _ fst
    wtm_at "rd"
    refine rd_forL (SqL.of ho5) ?_
    refine turnsL (K := K) (xs := ord.map V.str) (fun i σ H' => ∃ (vl : Int) (ws : List (Str × Int)) (u : Option V), σ = [some (.ref p), some (.int most), some (.ref or), some (.int kind), some (.ref st), some (.int vl), u, none, none, none, none, none] ∧
      Go p H H' ∧ H' or = some (.lst (ord.map V.str)) ∧ H' st = some (.dK (kvsOf ws)) ∧ StOk (ord.take i) ws ∧ 0 ≤ vl ∧ vl < 3) ⟨0, [], none, rfl, g5, ho5, upd_same, StOk.nil, by decide, by decide⟩ ?_ ?_ ?_
    · rintro i σ H' hi ⟨vl, ws, u, rfl, g, h1, h2, h3⟩
      exact SqL.of h1
    · rintro i x σ H' hx ⟨vl, ws, u, rfl, g, h1, h2, h3, v0, v1⟩
      obtain ⟨hi, rfl⟩ := map_at hx
      wtm_at "rd"
      refine use_draw g.pool (by decide) (by decide) fun q1 Ha q10 q11 ga => ?_
      have h1a := ga.at h1 no
      have h2a := ga.at h2 (Ne.symm nst)
      have g := g.trans ga
      wtm_at "rd"
      refine use_draw g.pool (by decide) (by decide) fun q2 Hb q20 q21 gb => ?_
      have h1b := gb.at h1a no
      have h2b := gb.at h2a (Ne.symm nst)
      have g := g.trans gb
      wtm_at "rd"
      intro t ft
      have g := g.new (o := .lst [.int q1, .int (1 + q2 / 3)]) ft
      have h1c := at_upd (o := .lst [.int q1, .int (1 + q2 / 3)]) (ne_of_none h1b ft) h1b
      have h2c := at_upd (o := .lst [.int q1, .int (1 + q2 / 3)]) (ne_of_none h2b ft) h2b
      wtm_at "rd"
      refine rd_ixL (SqL.of upd_same) (bToI_pick _) ?_
      obtain ⟨z, hz⟩ : ∃ z, (if decide (1 < kind) = true then V.int (1 + q2 / 3) else V.int q1) = .int z := by split <;> exact ⟨_, rfl⟩
      rw [hz]
      wtm_at "rd"
      have lw : (kvsOf ws).length < 100000 := by
        have := congrArg List.length h3.key
        rw [List.length_map, List.length_take] at this
        rw [List.length_map]
        omega
      refine rd_dset h2c (k := .inr ord[i]) rfl lw ?_
      rw [put_kvs (h3.not nu.nd hi)]
      refine ⟨_, _, _, rfl, g.put fst0 nst, at_upd nos h1c, upd_same, h3.add hi (Int.emod_nonneg _ (by decide)) (Int.emod_lt_of_pos _ (by decide)), Int.emod_nonneg _ (by decide), Int.emod_lt_of_pos _ (by decide)⟩
    rintro σ H5 ⟨vl, ws, u, rfl, g, h1, h2, h3, v0, v1⟩
    rw [List.length_map, List.take_length] at h3
    clear g5 ho5 v0 v1
    wtm_at "rd"
    intro ed fed
    have noe : or ≠ ed := ne_of_none h1 fed
    have nse : st ≠ ed := ne_of_none h2 fed
    have npe := g.pool.ne fed
    have fed0 := g.free _ fed
    have g := g.new (o := .lst []) fed
    have h1 := at_upd (o := .lst []) noe h1
    have h2 := at_upd (o := .lst []) nse h2
    wtm_at "rd"
    refine rd_forE (SqL.of h1) ?_
    have gk : GK H p or st ed ord ws [] (upd H5 ed (.lst [])) := ⟨g, h1, h2, upd_same, fun x hx => nomatch hx⟩
    have nep : ed ≠ p := Ne.symm npe
    have EI0 : EdgesIn ord (numOf ws) 0 0 [] := ⟨by simp, fun x hx => nomatch hx⟩
    refine turnsW (walk_enum (K := K) (a := or) (xs := ord.map V.str)) (fun i σ H' => ∃ (es : List (Addr × Str × Str)) (u8 u9 u10 u11 : Option V), σ = [some (.ref p), some (.int most), some (.ref or), some (.int kind), some (.ref st), some (.int vl), u, some (.ref ed), u8, u9, u10, u11] ∧
      GK H p or st ed ord ws es H' ∧ EdgesIn ord (numOf ws) i 0 es ∧ es.length ≤ 30 * i) ⟨[], _, _, _, _, rfl, gk, EI0, by decide⟩ ?_ ?_ ?_
    · rintro i σ H' hi ⟨es, u8, u9, u10, u11, rfl, k, _⟩
      exact SqL.of k.ho
    · rintro i x σ H6 H7 hi ⟨es, u8, u9, u10, u11, rfl, k, ei, el⟩ ⟨T, x1, y1, rfl, fT, rfl, e1, e2⟩
      have hx := Option.some.inj e1
      subst hx
      obtain ⟨hio, rfl⟩ := map_at e2
      have k := k.new (o := .tup [.int (i : Nat), .str ord[i]]) fT
      refine rd_unp (SqT.of upd_same) rfl ?_
      wtm_at "rd"
      refine rd_slL (SqL.of k.ho) ?_
      rw [cutV_to (by rw [List.length_map]; omega), ← List.map_take]
      intro t2 ft2
      have n2e : t2 ≠ ed := Ne.symm (ne_of_none k.he ft2)
      have n2p : t2 ≠ p := Ne.symm (k.go.pool.ne ft2)
      have k := k.new (o := .lst ((ord.take i).map V.str)) ft2
      wtm_at "rd"
      refine rd_forE (SqL.of upd_same) ?_
      have lti : (ord.take i).length = i := by rw [List.length_take]; omega
      refine turnsW (walk_enum (K := K) (a := t2) (xs := (ord.take i).map V.str)) (fun j σ H' => ∃ (es : List (Addr × Str × Str)) (u10 u11 : Option V), σ = [some (.ref p), some (.int most), some (.ref or), some (.int kind), some (.ref st), some (.int vl), u, some (.ref ed), some (.int (i : Nat)), some (.str ord[i]), u10, u11] ∧
        GK H p or st ed ord ws es H' ∧ H' t2 = some (.lst ((ord.take i).map V.str)) ∧ EdgesIn ord (numOf ws) i j es ∧ es.length ≤ 30 * i + j) ⟨es, u10, u11, rfl, k, upd_same, ei, by omega⟩ ?_ ?_ ?_
      · rintro j σ H' hj ⟨es, u10, u11, rfl, k, h2, _⟩
        exact SqL.of h2
      · rintro j x σ H8 H9 hj ⟨es, u10, u11, rfl, k, ht2, ei, el⟩ ⟨T', x1, y1, rfl, fT', rfl, e1, e2⟩
        have hx := Option.some.inj e1
        subst hx
        obtain ⟨hjo, rfl⟩ := map_at e2
        have hji : j < i := by rw [lti] at hjo; exact hjo
        have hjo' : j < ord.length := by omega
        rw [List.getElem_take]
        have ht2 := at_upd (o := .tup [.int (j : Nat), .str ord[j]]) (ne_of_none ht2 fT') ht2
        have k := k.new (o := .tup [.int (j : Nat), .str ord[j]]) fT'
        refine rd_unp (SqT.of upd_same) rfl ?_
        wtm_at "rd"
        refine rd_dat (.inl k.hs) (h3.val (List.getElem_mem hio)) rfl ?_
        wtm_at "rd"
        refine rd_dat (.inl k.hs) (h3.val (List.getElem_mem hjo')) rfl ?_
        wtm_at "rd"
        refine rd_nsplit (fun c => ?_) (fun c => ?_)
        · wtm_at "rd"
          refine rd_lenL (SqL.of k.ho) ?_
          wtm_at "rd"
          refine ⟨p, kind, _, _, _, rfl, k.go.pool, k0, by omega, fun b H10 g => ?_⟩
          have k := k.step no nep g
          have ht2 := g.at ht2 n2p
          wtm_at "rd"
          refine rd_b (fun c2 => ?_) (fun c2 => ?_)
          · wtm_at "rd"
            refine rd_tyL k.he ?_
            wtm_at "rd"
            refine ⟨_, _, rfl, fun t ft => ?_⟩
            rw [eOf_pair]
            have k := k.new (o := .tup [.str (eOf ord[i] ord[j]).1, .str (eOf ord[i] ord[j]).2]) ft
            have ht2 := at_upd (o := .tup [.str (eOf ord[i] ord[j]).1, .str (eOf ord[i] ord[j]).2]) (ne_of_none ht2 ft) ht2
            wtm_at "rd"
            refine rd_append k.he (by rw [List.length_map]; omega) ?_
            refine ⟨_, _, _, rfl, k.add (e := eOf ord[i] ord[j]) fed0 nep noe upd_same, at_upd n2e ht2, ei.add nu.nd hji hio hjo' c, by rw [List.length_append]; simp only [List.length_singleton]; omega⟩
          · wtm_at "rd"
            exact ⟨_, _, _, rfl, k, ht2, ei.step (by omega), by omega⟩
        · wtm_at "rd"
          exact ⟨_, _, _, rfl, k, ht2, ei.step (by omega), by omega⟩
      · rintro σ H8 ⟨es, u10, u11, rfl, k, ht2, ei, el⟩
        rw [List.length_map, lti] at ei el
        exact ⟨_, _, _, _, _, rfl, k, ei.step (by omega), by omega⟩
    · rintro σ H6 ⟨es, u8, u9, u10, u11, rfl, k, ei, el⟩
      rw [List.length_map] at ei el
      wtm_at "rd"
      refine rd_sortS (SqL.of k.ho) (by omega) ?_
      intro ns pn sn l1 fl1
      have k := k.new (o := .lst (ns.map V.str)) fl1
      wtm_at "rd"
      refine rd_tupleL (SqL.of upd_same) ?_
      intro n fn
      have hn : upd (upd H6 l1 (.lst (ns.map V.str))) n (.tup (ns.map V.str)) n = some (.tup (ns.map V.str)) := upd_same
      have k := k.new (o := .tup (ns.map V.str)) fn
      wtm_at "rd"
      refine rd_sortE (SqL.of k.he) (fun x hx => SqT.of (k.pr x hx)) (by omega) ?_
      intro es2 pe se l2 fl2
      have hn := at_upd (o := .lst (es2.map fun x => V.ref x.1)) (ne_of_none hn fl2) hn
      have k := k.new (o := .lst (es2.map fun x => V.ref x.1)) fl2
      wtm_at "rd"
      refine rd_tupleL (SqL.of upd_same) ?_
      intro e fe
      have hn := at_upd (o := .tup (es2.map fun x => V.ref x.1)) (ne_of_none hn fe) hn
      have he := @upd_same (upd (upd (upd H6 l1 (.lst (ns.map V.str))) n (.tup (ns.map V.str))) l2 (.lst (es2.map fun x => V.ref x.1))) e (.tup (es2.map fun x => V.ref x.1))
      have k := k.new (o := .tup (es2.map fun x => V.ref x.1)) fe
      wtm_at "rd"
      intro g fg
      have fg0 := k.go.free _ fg
      have hn := at_upd (o := .tup [.ref n, .ref e]) (ne_of_none hn fg) hn
      have he := at_upd (o := .tup [.ref n, .ref e]) (ne_of_none he fg) he
      have hg := @upd_same (upd (upd (upd (upd H6 l1 (.lst (ns.map V.str))) n (.tup (ns.map V.str))) l2 (.lst (es2.map fun x => V.ref x.1))) e (.tup (es2.map fun x => V.ref x.1))) g (.tup [.ref n, .ref e])
      have k := k.new (o := .tup [.ref n, .ref e]) fg
      wtm_at "rd"
      intro t ft
      have hn := at_upd (o := .tup [.ref g, .ref st]) (ne_of_none hn ft) hn
      have he := at_upd (o := .tup [.ref g, .ref st]) (ne_of_none he ft) he
      have hg := at_upd (o := .tup [.ref g, .ref st]) (ne_of_none hg ft) hg
      have k0 := k
      have k := k.new (o := .tup [.ref g, .ref st]) ft
      have nn := nu.perm pn
      have pe2 : (es2.map (·.2)).Perm (es.map (·.2)) := pe.map _
      have inE : ∀ x ∈ es2, ∃ i' j', ∃ (hi : i' < ord.length) (hj : j' < ord.length), j' < i' ∧ x.2 = eOf ord[i'] ord[j'] ∧ numOf ws ord[i'] ≠ numOf ws ord[j'] := fun x hx => by
        obtain ⟨i', j', hi, hj, h1, _, h2, h3⟩ := ei.of x (pe.mem_iff.mp hx)
        exact ⟨i', j', hi, hj, h1, h2, h3⟩
      refine q t g n e st ns ord es2 ws _ k.go upd_same ⟨hg, hn, he, fun x hx => k.pr x (pe.mem_iff.mp hx)⟩ k.hs fg0 fst0 (by rw [pn.length_eq]; omega) (by rw [pn.length_eq]; omega) ⟨⟨asc_of_sorted sn nn.nd, nn.ok⟩, ?_, ?_, ?_⟩ pn.symm h3 ?_ (by rw [pe.length_eq]; omega) (k0.go.free _ ft)
      · refine ascE_of_sorted ?_ (pe2.nodup_iff.mpr ei.nd)
        rw [List.pairwise_map]
        exact se
      · intro y hy
        obtain ⟨x, hx, rfl⟩ := List.mem_map.mp hy
        obtain ⟨i', j', hi, hj, h1, h2, h3⟩ := inE x hx
        rw [h2]
        refine eOf_lt fun z => h3 (by rw [z])
      · intro y hy
        obtain ⟨x, hx, rfl⟩ := List.mem_map.mp hy
        obtain ⟨i', j', hi, hj, h1, h2, h3⟩ := inE x hx
        rw [h2]
        have m1 := pn.mem_iff.mpr (List.getElem_mem hi)
        have m2 := pn.mem_iff.mpr (List.getElem_mem hj)
        rcases eOf_cases ord[i'] ord[j'] with z | z <;> rw [z]
        · exact ⟨m1, m2⟩
        · exact ⟨m2, m1⟩
      · intro x hx
        obtain ⟨i', j', hi, hj, h1, h2, h3⟩ := inE x hx
        rw [h2]
        rcases eOf_cases ord[i'] ord[j'] with z | z <;> rw [z]
        · exact h3
        · exact Ne.symm h3
end
end Law

/-! lifts: the plain laws -/
namespace U
open PySem PySem.Spec PyProof.Rows L2
/-- the dict of numbers over ns, in that order -/
abbrev kvF (ns : List Str) (f : Str → Int) : List (Key × V) := ns.map fun n => (Sum.inr n, V.int (f n))
def updf (f : Str → Int) (n : Str) (v : Int) : Str → Int := fun m => if m = n then v else f m
theorem kvF_congr {ns : List Str} {f g : Str → Int} (h : ∀ n ∈ ns, f n = g n) : kvF ns f = kvF ns g := List.map_congr_left fun n hn => by rw [h n hn]
theorem kvF_val : ∀ {ns : List Str} {f : Str → Int} {n : Str}, n ∈ ns → valV (kvF ns f) (.inr n) = some (.int (f n))
  | m :: ns, f, n, h => by
    by_cases e : n = m
    · subst e
      rw [kvF, List.map_cons, valV_pos rfl]
    · have e' : ¬ (Sum.inr m : Key) = Sum.inr n := fun z => e (Sum.inr.inj z).symm
      rw [kvF, List.map_cons, valV_neg e']
      refine kvF_val ?_
      rcases List.mem_cons.mp h with z | z
      · exact absurd z e
      · exact z
theorem kvF_none : ∀ {ns : List Str} {f : Str → Int} {n : Str}, n ∉ ns → valV (kvF ns f) (.inr n) = none
  | [], _, _, _ => rfl
  | m :: ns, f, n, h => by
    have e' : ¬ (Sum.inr m : Key) = Sum.inr n := fun z => h (by rw [← Sum.inr.inj z]; exact List.mem_cons_self)
    rw [kvF, List.map_cons, valV_neg e']
    exact kvF_none fun z => h (List.mem_cons_of_mem _ z)
theorem kvF_put {ns : List Str} {f : Str → Int} {n : Str} {v : Int} (h : n ∈ ns) : putK (kvF ns f) (.inr n) (.int v) = kvF ns (updf f n v) := by
  unfold putK
  rw [if_pos]
  · rw [kvF, kvF, List.map_map]
    refine List.map_congr_left fun m _ => ?_
    show (if (Sum.inr m : Key) = Sum.inr n then ((Sum.inr m : Key), V.int v) else (Sum.inr m, V.int (f m))) = (Sum.inr m, V.int (updf f n v m))
    unfold updf
    by_cases e : m = n
    · rw [if_pos (by rw [e]), if_pos e]
    · rw [if_neg (fun z => e (Sum.inr.inj z)), if_neg e]
  · rw [valV_any, kvF_val h]
    rfl
theorem kvF_new {ns : List Str} {f : Str → Int} {n : Str} {v : Int} (h : n ∉ ns) : putK (kvF ns f) (.inr n) (.int v) = kvF (ns ++ [n]) (updf f n v) := by
  rw [putK_new _ (kvF_none h), kvF, kvF, List.map_append]
  congr 1
  · refine List.map_congr_left fun m hm => ?_
    unfold updf
    rw [if_neg (fun e => h (by rw [← e]; exact hm))]
  · show [((Sum.inr n : Key), V.int v)] = [(Sum.inr n, V.int (updf f n v n))]
    unfold updf
    rw [if_pos rfl]
theorem kvs_F {ord : List Str} {ws : List (Str × Int)} (h : StOk ord ws) (nd : ord.Nodup) : kvsOf ws = kvF ord (numOf ws) := by
  obtain ⟨hk, _⟩ := h
  subst hk
  rw [kvF, List.map_map]
  refine List.map_congr_left fun p hp => ?_
  show ((Sum.inr p.1 : Key), V.int p.2) = (Sum.inr p.1, V.int (numOf ws p.1))
  have : (p.1, numOf ws p.1) ∈ ws := num_mem (List.mem_map_of_mem hp)
  congr 2
  -- one number a name
  have uniq : ∀ {ws : List (Str × Int)}, (ws.map (·.1)).Nodup → ∀ {x : Str} {a b : Int}, (x, a) ∈ ws → (x, b) ∈ ws → a = b := by
    intro ws
    induction ws with
    | nil => intro _ _ _ _ h; cases h
    | cons q ws ih =>
      intro nd x a b ha hb
      rw [List.map_cons, List.nodup_cons] at nd
      rcases List.mem_cons.mp ha with ea | ha <;> rcases List.mem_cons.mp hb with eb | hb
      · rw [← ea] at eb
        exact (Prod.mk.inj eb).2.symm
      · exact absurd (List.mem_map_of_mem (f := (·.1)) hb) (by rw [← ea] at nd; exact nd.1)
      · exact absurd (List.mem_map_of_mem (f := (·.1)) ha) (by rw [← eb] at nd; exact nd.1)
      · exact ih nd.2 ha hb
  exact uniq nd hp this

/-! ### neighbours, moves -/
def nbrF (es : List (Str × Str)) (x : Str) : List Str := es.flatMap fun e => (if e.1 = x then [e.2] else []) ++ (if e.2 = x then [e.1] else [])
theorem mem_nbrF {es : List (Str × Str)} {x z : Str} : z ∈ nbrF es x ↔ (x, z) ∈ es ∨ (z, x) ∈ es := by
  unfold nbrF
  rw [List.mem_flatMap]
  constructor
  · rintro ⟨e, he, h⟩
    rcases List.mem_append.mp h with h | h
    · split at h
      · rename_i c
        have : z = e.2 := by simpa using h
        subst this
        subst c
        exact .inl he
      · cases h
    · split at h
      · rename_i c
        have : z = e.1 := by simpa using h
        subst this
        subst c
        exact .inr he
      · cases h
  · rintro (h | h)
    · exact ⟨_, h, by simp⟩
    · exact ⟨_, h, by simp⟩
def freeB (es : List (Str × Str)) (f : Str → Int) (n : Str) (v : Int) : Bool := !decide (v ∈ (nbrF es n).map f ++ [f n])
def movesOf (es : List (Str × Str)) (f : Str → Int) (n : Str) : List (Str × Int) := (([0, 1, 2] : List Int).filter (freeB es f n)).map fun v => (n, v)
def movesF (ns : List Str) (es : List (Str × Str)) (f : Str → Int) (ps : List Str) : List (Str × Int) := ns.flatMap fun n => if n ∈ ps then [] else movesOf es f n
structure Legal (ns : List Str) (es : List (Str × Str)) (f : Str → Int) (ps : List Str) (m : Str × Int) : Prop where
  mem : m.1 ∈ ns
  pin : m.1 ∉ ps
  val : 0 ≤ m.2 ∧ m.2 < 3
  own : m.2 ≠ f m.1
  nbr : ∀ z, (m.1, z) ∈ es ∨ (z, m.1) ∈ es → m.2 ≠ f z
theorem legal_of {ns : List Str} {es : List (Str × Str)} {f : Str → Int} {ps : List Str} {m : Str × Int} (h : m ∈ movesF ns es f ps) : Legal ns es f ps m := by
  unfold movesF at h
  obtain ⟨n, hn, h⟩ := List.mem_flatMap.mp h
  split at h
  · cases h
  · rename_i hp
    unfold movesOf at h
    obtain ⟨v, hv, rfl⟩ := List.mem_map.mp h
    obtain ⟨h1, h2⟩ := List.mem_filter.mp hv
    unfold freeB at h2
    have h2 : v ∉ (nbrF es n).map f ++ [f n] := by simpa using h2
    have h3 : v = 0 ∨ v = 1 ∨ v = 2 := by simpa using h1
    refine ⟨hn, hp, by show 0 ≤ v ∧ v < 3; omega, fun e => h2 (List.mem_append_right _ (by rw [show v = f n from e]; exact List.mem_singleton_self _)), fun z hz e => h2 (List.mem_append_left _ ?_)⟩
    rw [show v = f z from e]
    exact List.mem_map_of_mem (mem_nbrF.mpr hz)
/-- one move after another -/
inductive Plays (ns : List Str) (es : List (Str × Str)) (ps : List Str) (f : Str → Int) : List (Str × Int) → (Str → Int) → Prop
  | nil : Plays ns es ps f [] f
  | snoc {ms : List (Str × Int)} {f' : Str → Int} {m : Str × Int} : Plays ns es ps f ms f' → Legal ns es f' ps m → Plays ns es ps f (ms ++ [m]) (updf f' m.1 m.2)
/-! ### counting -/
def dlt (d : Int) : Int := if d % 3 = 0 then 0 else if d % 3 = 1 then 1 else -1
def slp (f : Str → Int) (a b : Str) : Int := if (f b - f a) % 3 = 1 then 1 else -1
/-- the state and the numbers behind the moves -/
def countF (f h : Str → Int) : List (Str × Int) → (Str → Int) × (Str → Int)
  | [] => (f, h)
  | (n, v) :: r => countF (updf f n v) (updf h n (h n + dlt (f n - v))) r
theorem countF_snoc {n : Str} {v : Int} : ∀ {ms : List (Str × Int)} {f h : Str → Int}, countF f h (ms ++ [(n, v)]) = (updf (countF f h ms).1 n v, updf (countF f h ms).2 n ((countF f h ms).2 n + dlt ((countF f h ms).1 n - v)))
  | [], _, _ => rfl
  | (m, w) :: ms, _, _ => by
    rw [List.cons_append, countF, countF_snoc, countF]
structure EsOk (ns : List Str) (es : List (Str × Str)) (f : Str → Int) : Prop where
  ne : ∀ e ∈ es, e.1 ≠ e.2
  mem : ∀ e ∈ es, e.1 ∈ ns ∧ e.2 ∈ ns
  tri : ∀ n ∈ ns, 0 ≤ f n ∧ f n < 3
  pro : ∀ e ∈ es, f e.1 ≠ f e.2
theorem slp_pm (f : Str → Int) (a b : Str) : slp f a b = 1 ∨ slp f a b = -1 := by
  unfold slp
  split
  · exact .inl rfl
  · exact .inr rfl
theorem move_keeps {ns : List Str} {es : List (Str × Str)} {ps : List Str} {f0 f h : Str → Int} {m : Str × Int} (ok : EsOk ns es f) (l : Legal ns es f ps m) (t : ∀ e ∈ es, slp f0 e.1 e.2 - slp f e.1 e.2 = 2 * (h e.1 - h e.2)) :
    EsOk ns es (updf f m.1 m.2) ∧ ∀ e ∈ es, slp f0 e.1 e.2 - slp (updf f m.1 m.2) e.1 e.2 = 2 * (updf h m.1 (h m.1 + dlt (f m.1 - m.2)) e.1 - updf h m.1 (h m.1 + dlt (f m.1 - m.2)) e.2) := by
  obtain ⟨n, v⟩ := m
  have hv := l.val
  have ho := l.own
  have hm := l.mem
  simp only at hv ho hm
  refine ⟨⟨ok.ne, ok.mem, fun x hx => ?_, fun e he => ?_⟩, fun e he => ?_⟩
  · show 0 ≤ updf f n v x ∧ updf f n v x < 3
    unfold updf
    split
    · exact hv
    · exact ok.tri x hx
  · show updf f n v e.1 ≠ updf f n v e.2
    have hne := ok.ne e he
    have hp := ok.pro e he
    unfold updf
    by_cases h1 : e.1 = n
    · rw [if_pos h1, if_neg (fun z => hne (h1.trans z.symm))]
      exact l.nbr e.2 (.inl (by show (n, e.2) ∈ es; rw [← h1]; exact he))
    · by_cases h2 : e.2 = n
      · rw [if_neg h1, if_pos h2]
        exact Ne.symm (l.nbr e.1 (.inr (by show (e.1, n) ∈ es; rw [← h2]; exact he)))
      · rw [if_neg h1, if_neg h2]
        exact hp
  · show slp f0 e.1 e.2 - slp (updf f n v) e.1 e.2 = 2 * (updf h n (h n + dlt (f n - v)) e.1 - updf h n (h n + dlt (f n - v)) e.2)
    have hne := ok.ne e he
    have hp := ok.pro e he
    have t1 := ok.tri e.1 (ok.mem e he).1
    have t2 := ok.tri e.2 (ok.mem e he).2
    have te := t e he
    by_cases h1 : e.1 = n
    · have h2 : ¬ e.2 = n := fun z => hne (h1.trans z.symm)
      have nb := l.nbr e.2 (.inl (by show (n, e.2) ∈ es; rw [← h1]; exact he))
      simp only at nb
      have e1 : updf f n v e.1 = v := if_pos h1
      have e2 : updf f n v e.2 = f e.2 := if_neg h2
      have e3 : updf h n (h n + dlt (f n - v)) e.1 = h e.1 + dlt (f e.1 - v) := by rw [h1]; exact if_pos rfl
      have e4 : updf h n (h n + dlt (f n - v)) e.2 = h e.2 := if_neg h2
      rw [e3, e4]
      rw [← h1] at ho
      unfold slp dlt at *
      rw [e1, e2]
      generalize f e.1 = x at *
      generalize f e.2 = y at *
      generalize h e.1 = hx at *
      generalize h e.2 = hy at *
      generalize (if (f0 e.2 - f0 e.1) % 3 = 1 then (1 : Int) else -1) = s0 at *
      have : hx - hy + hx - hy = 2 * (hx - hy) := by omega
      split at te <;> split <;> split <;> try split
      all_goals omega
    · by_cases h2 : e.2 = n
      · have nb := l.nbr e.1 (.inr (by show (e.1, n) ∈ es; rw [← h2]; exact he))
        simp only at nb
        have e1 : updf f n v e.1 = f e.1 := if_neg h1
        have e2 : updf f n v e.2 = v := if_pos h2
        have e3 : updf h n (h n + dlt (f n - v)) e.1 = h e.1 := if_neg h1
        have e4 : updf h n (h n + dlt (f n - v)) e.2 = h e.2 + dlt (f e.2 - v) := by rw [h2]; exact if_pos rfl
        rw [e3, e4]
        rw [← h2] at ho
        unfold slp dlt at *
        rw [e1, e2]
        generalize f e.1 = x at *
        generalize f e.2 = y at *
        generalize h e.1 = hx at *
        generalize h e.2 = hy at *
        generalize (if (f0 e.2 - f0 e.1) % 3 = 1 then (1 : Int) else -1) = s0 at *
        split at te <;> split <;> split <;> try split
        all_goals omega
      · have e1 : updf f n v e.1 = f e.1 := if_neg h1
        have e2 : updf f n v e.2 = f e.2 := if_neg h2
        have e3 : updf h n (h n + dlt (f n - v)) e.1 = h e.1 := if_neg h1
        have e4 : updf h n (h n + dlt (f n - v)) e.2 = h e.2 := if_neg h2
        rw [e3, e4, ← te]
        unfold slp
        rw [e1, e2]
theorem plays_ok {ns : List Str} {es : List (Str × Str)} {ps : List Str} {f0 : Str → Int} (ok : EsOk ns es f0) {ms : List (Str × Int)} {f : Str → Int} (p : Plays ns es ps f0 ms f) :
    (countF f0 (fun _ => 0) ms).1 = f ∧ EsOk ns es f ∧ ∀ e ∈ es, slp f0 e.1 e.2 - slp f e.1 e.2 = 2 * ((countF f0 (fun _ => 0) ms).2 e.1 - (countF f0 (fun _ => 0) ms).2 e.2) := by
  induction p with
  | nil => exact ⟨rfl, ok, fun e _ => by show slp f0 e.1 e.2 - slp f0 e.1 e.2 = 2 * ((0 : Int) - 0); omega⟩
  | @snoc ms f' m p l ih =>
    obtain ⟨i1, i2, i3⟩ := ih
    obtain ⟨n, v⟩ := m
    rw [countF_snoc, i1]
    obtain ⟨k1, k2⟩ := move_keeps i2 l i3
    exact ⟨rfl, k1, k2⟩
/-! ### fitting -/
def fitB (f h : Str → Int) (a b : Str) : Bool := if slp f a b = 1 then decide (0 ≤ h a - h b) && decide (h a - h b ≤ 1) else decide (0 ≤ h b - h a) && decide (h b - h a ≤ 1)
def Fits (es : List (Str × Str)) (f h : Str → Int) : Prop := ∀ e ∈ es, fitB f h e.1 e.2 = true
theorem fit_iff {f h : Str → Int} {a b : Str} : fitB f h a b = true ↔ (if slp f a b = 1 then 0 ≤ h a - h b ∧ h a - h b ≤ 1 else 0 ≤ h b - h a ∧ h b - h a ≤ 1) := by
  unfold fitB
  split <;> simp
theorem fits_count {ns : List Str} {es : List (Str × Str)} {ps : List Str} {f0 : Str → Int} (ok : EsOk ns es f0) {ms : List (Str × Int)} {f : Str → Int} (p : Plays ns es ps f0 ms f) : Fits es f0 (countF f0 (fun _ => 0) ms).2 := by
  intro e he
  have t := (plays_ok ok p).2.2 e he
  rw [fit_iff]
  have h1 := slp_pm f e.1 e.2
  have h0 := slp_pm f0 e.1 e.2
  split <;> omega
theorem fits_min {es : List (Str × Str)} {f h k : Str → Int} (a : Fits es f h) (b : Fits es f k) : Fits es f fun n => min (h n) (k n) := by
  intro e he
  have x := fit_iff.mp (a e he)
  have y := fit_iff.mp (b e he)
  rw [fit_iff]
  split
  · rename_i c
    rw [if_pos c] at x y
    omega
  · rename_i c
    rw [if_neg c] at x y
    omega
theorem fits_max {es : List (Str × Str)} {f h k : Str → Int} (a : Fits es f h) (b : Fits es f k) : Fits es f fun n => max (h n) (k n) := by
  intro e he
  have x := fit_iff.mp (a e he)
  have y := fit_iff.mp (b e he)
  rw [fit_iff]
  split
  · rename_i c
    rw [if_pos c] at x y
    omega
  · rename_i c
    rw [if_neg c] at x y
    omega
end U

/-! medians, distances -/
namespace U
open PySem PySem.Spec PyProof.Rows L2
/-- the lower median -/
def IsMed (xs : List Int) (m : Int) : Prop := ∃ ys : List Int, ys.Perm xs ∧ ys.Pairwise (fun a b => a ≤ b) ∧ ys[(xs.length - 1) / 2]? = some m
theorem countP_all {p : Int → Bool} : ∀ {xs : List Int}, (∀ x ∈ xs, p x = true) → xs.countP p = xs.length := fun h => List.countP_eq_length.mpr h
theorem countP_zero {p : Int → Bool} {xs : List Int} (h : ∀ x ∈ xs, p x = false) : xs.countP p = 0 := List.countP_eq_zero.mpr fun x hx => by rw [h x hx]; exact Bool.false_ne_true
structure Cnt (xs : List Int) (m : Int) : Prop where
  le : (xs.length - 1) / 2 + 1 ≤ xs.countP fun a => decide (a ≤ m)
  lt : xs.countP (fun a => decide (a < m)) ≤ (xs.length - 1) / 2
theorem med_cnt {xs : List Int} {m : Int} (h : IsMed xs m) : Cnt xs m := by
  obtain ⟨ys, pm, srt, hk⟩ := h
  have hl := pm.length_eq
  rw [← hl] at hk
  obtain ⟨hlt, e⟩ := List.getElem?_eq_some_iff.mp hk
  have sg := List.pairwise_iff_getElem.mp srt
  have cp : ∀ p : Int → Bool, xs.countP p = ys.countP p := fun p => (pm.countP_eq p).symm
  constructor
  · rw [cp, ← hl]
    have : (ys.take ((ys.length - 1) / 2 + 1)).countP (fun a => decide (a ≤ m)) = (ys.take ((ys.length - 1) / 2 + 1)).length := countP_all fun x hx => by
      obtain ⟨j, hj, rfl⟩ := List.mem_iff_getElem.mp hx
      rw [List.length_take] at hj
      rw [List.getElem_take, decide_eq_true_eq, ← e]
      rcases Nat.lt_or_ge j ((ys.length - 1) / 2) with c | c
      · exact sg _ _ _ _ c
      · have : j = (ys.length - 1) / 2 := by omega
        subst this
        exact Int.le_refl _
    have h2 : ys.countP (fun a => decide (a ≤ m)) = (ys.take ((ys.length - 1) / 2 + 1)).countP (fun a => decide (a ≤ m)) + (ys.drop ((ys.length - 1) / 2 + 1)).countP (fun a => decide (a ≤ m)) := by
      rw [← List.countP_append, List.take_append_drop]
    rw [h2, this, List.length_take]
    omega
  · rw [cp, ← hl]
    have : (ys.drop ((ys.length - 1) / 2)).countP (fun a => decide (a < m)) = 0 := countP_zero fun x hx => by
      obtain ⟨j, hj, rfl⟩ := List.mem_iff_getElem.mp hx
      rw [List.length_drop] at hj
      rw [List.getElem_drop, decide_eq_false_iff_not, ← e]
      rcases Nat.eq_zero_or_pos j with c | c
      · subst c
        exact Int.lt_irrefl _
      · have := sg ((ys.length - 1) / 2) ((ys.length - 1) / 2 + j) hlt (by omega) (by omega)
        omega
    have h2 : ys.countP (fun a => decide (a < m)) = (ys.take ((ys.length - 1) / 2)).countP (fun a => decide (a < m)) + (ys.drop ((ys.length - 1) / 2)).countP (fun a => decide (a < m)) := by
      rw [← List.countP_append, List.take_append_drop]
    rw [h2, this]
    have := List.countP_le_length (p := fun a => decide (a < m)) (l := ys.take ((ys.length - 1) / 2))
    rw [List.length_take] at this
    omega
theorem countP_map_le {α : Type} {f g : α → Int} {p q : Int → Bool} : ∀ {hs : List α}, (∀ h ∈ hs, p (f h) = true → q (g h) = true) → (hs.map f).countP p ≤ (hs.map g).countP q
  | [], _ => by simp
  | h :: hs, k => by
    rw [List.map_cons, List.map_cons, List.countP_cons, List.countP_cons]
    have ih := countP_map_le (f := f) (g := g) (p := p) (q := q) (hs := hs) fun x hx => k x (List.mem_cons_of_mem _ hx)
    have := k h List.mem_cons_self
    by_cases c : p (f h) = true
    · rw [if_pos c, if_pos (this c)]
      omega
    · rw [if_neg c]
      omega
theorem med_fit {α : Type} {hs : List α} {f g : α → Int} {m n : Int} (hm : IsMed (hs.map f) m) (hn : IsMed (hs.map g) n) (h : ∀ x ∈ hs, 0 ≤ f x - g x ∧ f x - g x ≤ 1) : 0 ≤ m - n ∧ m - n ≤ 1 := by
  obtain ⟨a1, a2⟩ := med_cnt hm
  obtain ⟨b1, b2⟩ := med_cnt hn
  rw [List.length_map] at a1 a2 b1 b2
  constructor
  · by_cases c : m < n
    · have := countP_map_le (f := f) (g := g) (p := fun a => decide (a ≤ m)) (q := fun a => decide (a < n)) (hs := hs) fun x hx e => by
        have := h x hx
        simp only [decide_eq_true_eq] at e ⊢
        omega
      omega
    · omega
  · by_cases c : n + 1 < m
    · have := countP_map_le (f := g) (g := f) (p := fun a => decide (a ≤ n)) (q := fun a => decide (a < m)) (hs := hs) fun x hx e => by
        have := h x hx
        simp only [decide_eq_true_eq] at e ⊢
        omega
      omega
    · omega
theorem fits_med {es : List (Str × Str)} {f k : Str → Int} {hs : List (Str → Int)} (a : ∀ h ∈ hs, Fits es f h) (m : ∀ e ∈ es, IsMed (hs.map fun h => h e.1) (k e.1) ∧ IsMed (hs.map fun h => h e.2) (k e.2)) : Fits es f k := by
  intro e he
  rw [fit_iff]
  split
  · rename_i c
    refine med_fit (m e he).1 (m e he).2 fun h hh => ?_
    have x := fit_iff.mp (a h hh e he)
    rw [if_pos c] at x
    exact x
  · rename_i c
    refine med_fit (m e he).2 (m e he).1 fun h hh => ?_
    have x := fit_iff.mp (a h hh e he)
    rw [if_neg c] at x
    exact x
/-! ### distances -/
def ab (x y : Int) : Int := ((x - y).natAbs : Int)
def sumab (xs : List Int) (x : Int) : Int := (xs.map fun a => ab x a).sum
theorem up_ge {m x : Int} (h : m ≤ x) : ∀ xs : List Int, (x - m) * ((xs.countP fun a => decide (a ≤ m)) : Int) - (x - m) * ((xs.length : Int) - (xs.countP fun a => decide (a ≤ m))) ≤ sumab xs x - sumab xs m
  | [] => by simp [sumab]
  | a :: xs => by
    have ih := up_ge h xs
    have e1 : sumab (a :: xs) x = ab x a + sumab xs x := by simp [sumab]
    have e2 : sumab (a :: xs) m = ab m a + sumab xs m := by simp [sumab]
    rw [e1, e2, List.countP_cons, List.length_cons]
    by_cases c : a ≤ m
    · rw [if_pos (decide_eq_true c)]
      have d : ab x a - ab m a = x - m := by unfold ab; omega
      have z1 : (x - m) * (((xs.countP fun a => decide (a ≤ m)) + 1 : Nat) : Int) = (x - m) * ((xs.countP fun a => decide (a ≤ m)) : Int) + (x - m) := by rw [Int.natCast_add, Int.mul_add]; simp
      have z2 : (x - m) * (((xs.length + 1 : Nat) : Int) - (((xs.countP fun a => decide (a ≤ m)) + 1 : Nat) : Int)) = (x - m) * ((xs.length : Int) - (xs.countP fun a => decide (a ≤ m))) := by
        congr 1
        omega
      rw [z1, z2]
      omega
    · rw [if_neg (by rw [decide_eq_true_eq]; exact c)]
      simp only [Nat.add_zero]
      have d : -(x - m) ≤ ab x a - ab m a := by unfold ab; omega
      have z2 : (x - m) * (((xs.length + 1 : Nat) : Int) - ((xs.countP fun a => decide (a ≤ m)) : Int)) = (x - m) * ((xs.length : Int) - (xs.countP fun a => decide (a ≤ m))) + (x - m) := by
        have : ((xs.length + 1 : Nat) : Int) - ((xs.countP fun a => decide (a ≤ m)) : Int) = ((xs.length : Int) - (xs.countP fun a => decide (a ≤ m))) + 1 := by omega
        rw [this, Int.mul_add, Int.mul_one]
      rw [z2]
      omega
theorem down_ge {m x : Int} (h : x ≤ m) : ∀ xs : List Int, (m - x) * ((xs.length : Int) - (xs.countP fun a => decide (a < m))) - (m - x) * ((xs.countP fun a => decide (a < m)) : Int) ≤ sumab xs x - sumab xs m
  | [] => by simp [sumab]
  | a :: xs => by
    have ih := down_ge h xs
    have e1 : sumab (a :: xs) x = ab x a + sumab xs x := by simp [sumab]
    have e2 : sumab (a :: xs) m = ab m a + sumab xs m := by simp [sumab]
    rw [e1, e2, List.countP_cons, List.length_cons]
    by_cases c : a < m
    · rw [if_pos (decide_eq_true c)]
      have d : -(m - x) ≤ ab x a - ab m a := by unfold ab; omega
      have z1 : (m - x) * (((xs.countP fun a => decide (a < m)) + 1 : Nat) : Int) = (m - x) * ((xs.countP fun a => decide (a < m)) : Int) + (m - x) := by rw [Int.natCast_add, Int.mul_add]; simp
      have z2 : (m - x) * (((xs.length + 1 : Nat) : Int) - (((xs.countP fun a => decide (a < m)) + 1 : Nat) : Int)) = (m - x) * ((xs.length : Int) - (xs.countP fun a => decide (a < m))) := by
        congr 1
        omega
      rw [z1, z2]
      omega
    · rw [if_neg (by rw [decide_eq_true_eq]; exact c)]
      simp only [Nat.add_zero]
      have d : ab x a - ab m a = m - x := by unfold ab; omega
      have z2 : (m - x) * (((xs.length + 1 : Nat) : Int) - ((xs.countP fun a => decide (a < m)) : Int)) = (m - x) * ((xs.length : Int) - (xs.countP fun a => decide (a < m))) + (m - x) := by
        have : ((xs.length + 1 : Nat) : Int) - ((xs.countP fun a => decide (a < m)) : Int) = ((xs.length : Int) - (xs.countP fun a => decide (a < m))) + 1 := by omega
        rw [this, Int.mul_add, Int.mul_one]
      rw [z2]
      omega
/-- no number is nearer than the median -/
theorem med_near {xs : List Int} {m : Int} (h : IsMed xs m) (x : Int) : sumab xs m ≤ sumab xs x := by
  obtain ⟨c1, c2⟩ := med_cnt h
  rcases Int.le_total m x with c | c
  · have u := up_ge c xs
    have : 0 ≤ (x - m) * ((((xs.countP fun a => decide (a ≤ m)) : Int)) - ((xs.length : Int) - (xs.countP fun a => decide (a ≤ m)))) := Int.mul_nonneg (by omega) (by omega)
    rw [Int.mul_sub] at this
    omega
  · have u := down_ge c xs
    have hl := List.countP_le_length (p := fun a => decide (a ≤ m)) (l := xs)
    have : 0 ≤ (m - x) * (((xs.length : Int) - (xs.countP fun a => decide (a < m))) - ((xs.countP fun a => decide (a < m)) : Int)) := Int.mul_nonneg (by omega) (by omega)
    rw [Int.mul_sub] at this
    omega
/-- the distance of two over ns -/
def dist (ns : List Str) (f g : Str → Int) : Int := (ns.map fun n => ab (f n) (g n)).sum
def total (ns : List Str) (f : Str → Int) (hs : List (Str → Int)) : Int := (hs.map fun h => dist ns f h).sum
theorem sum_add {α : Type} {F G : α → Int} : ∀ {xs : List α}, (xs.map fun x => F x + G x).sum = (xs.map F).sum + (xs.map G).sum
  | [] => rfl
  | x :: xs => by
    simp only [List.map_cons, List.sum_cons]
    rw [sum_add]
    omega
theorem sum_zero {α : Type} : ∀ {xs : List α}, (xs.map fun _ => (0 : Int)).sum = 0
  | [] => rfl
  | x :: xs => by
    simp only [List.map_cons, List.sum_cons]
    rw [sum_zero]
    rfl
theorem sum_swap {α β : Type} {F : α → β → Int} : ∀ {xs : List α} {ys : List β}, (xs.map fun x => (ys.map fun y => F x y).sum).sum = (ys.map fun y => (xs.map fun x => F x y).sum).sum
  | [], ys => by
    show (0 : Int) = (ys.map fun _ => (0 : Int)).sum
    rw [sum_zero]
  | x :: xs, ys => by
    simp only [List.map_cons, List.sum_cons]
    rw [sum_swap, ← sum_add]
theorem sum_le {α : Type} {F G : α → Int} : ∀ {xs : List α}, (∀ x ∈ xs, F x ≤ G x) → (xs.map F).sum ≤ (xs.map G).sum
  | [], _ => Int.le_refl _
  | x :: xs, h => by
    simp only [List.map_cons, List.sum_cons]
    have := sum_le (xs := xs) fun y hy => h y (List.mem_cons_of_mem _ hy)
    have := h x List.mem_cons_self
    omega
theorem total_med {ns : List Str} {k : Str → Int} {hs : List (Str → Int)} (m : ∀ n ∈ ns, IsMed (hs.map fun h => h n) (k n)) (f : Str → Int) : total ns k hs ≤ total ns f hs := by
  unfold total dist
  rw [sum_swap (F := fun (h : Str → Int) (n : Str) => ab (k n) (h n)) (xs := hs) (ys := ns), sum_swap (F := fun (h : Str → Int) (n : Str) => ab (f n) (h n)) (xs := hs) (ys := ns)]
  refine sum_le fun n hn => ?_
  have := med_near (m n hn) (f n)
  unfold sumab at this
  rw [List.map_map, List.map_map] at this
  exact this
/-- between, node by node -/
def betw (ns : List Str) (f a b : Str → Int) : Bool := ns.all fun n => decide (min (a n) (b n) ≤ f n) && decide (f n ≤ max (a n) (b n))
theorem dist_tri {f a b : Str → Int} : ∀ {ns : List Str}, dist ns a b ≤ dist ns a f + dist ns f b
  | [] => by simp [dist]
  | n :: ns => by
    have := dist_tri (f := f) (a := a) (b := b) (ns := ns)
    unfold dist at *
    simp only [List.map_cons, List.sum_cons]
    have : ab (a n) (b n) ≤ ab (a n) (f n) + ab (f n) (b n) := by unfold ab; omega
    omega
theorem betw_iff {f a b : Str → Int} : ∀ {ns : List Str}, betw ns f a b = decide (dist ns a f + dist ns f b = dist ns a b)
  | [] => by simp [betw, dist]
  | n :: ns => by
    have ih := betw_iff (f := f) (a := a) (b := b) (ns := ns)
    have tr := dist_tri (f := f) (a := a) (b := b) (ns := ns)
    have e : betw (n :: ns) f a b = ((decide (min (a n) (b n) ≤ f n) && decide (f n ≤ max (a n) (b n))) && betw ns f a b) := rfl
    rw [e, ih]
    have d1 : ∀ g h : Str → Int, dist (n :: ns) g h = ab (g n) (h n) + dist ns g h := fun g h => by simp [dist]
    rw [d1, d1, d1]
    generalize dist ns a f = p at *
    generalize dist ns f b = q at *
    generalize dist ns a b = r at *
    rw [Bool.eq_iff_iff]
    simp only [Bool.and_eq_true, decide_eq_true_eq]
    unfold ab
    omega
end U

namespace Law
open PySem PySem.Spec PyProof.Rows L2 U
/-- a graph and a state of it stand -/
structure GSt (H : Hp) (g n e st : Addr) (ns ord : List Str) (es : List (Addr × Str × Str)) (f : Str → Int) : Prop where
  gr : GrAt H g n e ns es
  ok : GrOk ns (es.map (·.2))
  pm : ord.Perm ns
  l2 : ns.length ≤ 100
  l3 : es.length ≤ 1000
  st : H st = some (.dK (kvF ord f))
  tri : ∀ x ∈ ns, 0 ≤ f x ∧ f x < 3
  pro : ∀ x ∈ es, f x.2.1 ≠ f x.2.2
section
variable {H H' : Hp} {g n e st p : Addr} {ns ord : List Str} {es : List (Addr × Str × Str)} {f : Str → Int}
theorem GSt.same (h : GSt H g n e st ns ord es f) (s : Same H H') : GSt H' g n e st ns ord es f := ⟨h.gr.same s, h.ok, h.pm, h.l2, h.l3, s _ _ h.st, h.tri, h.pro⟩
theorem GSt.go (h : GSt H g n e st ns ord es f) (hp : PoolAt H p) (b : Go p H H') : GSt H' g n e st ns ord es f := by
  obtain ⟨ys, hy⟩ := hp.isL
  exact ⟨h.gr.but hy b.but, h.ok, h.pm, h.l2, h.l3, b.but.dK hy h.st, h.tri, h.pro⟩
theorem GSt.nd (h : GSt H g n e st ns ord es f) : ns.Nodup := asc_nodup h.ok.names.asc
theorem GSt.ndo (h : GSt H g n e st ns ord es f) : ord.Nodup := h.pm.nodup_iff.mpr h.nd
theorem GSt.inO (h : GSt H g n e st ns ord es f) : ∀ x ∈ ns, x ∈ ord := fun x hx => h.pm.mem_iff.mpr hx
theorem GSt.inE (h : GSt H g n e st ns ord es f) : ∀ x ∈ es, x.2.1 ∈ ns ∧ x.2.2 ∈ ns := fun x hx => h.ok.mem _ (List.mem_map_of_mem hx)
theorem GSt.sok (h : GSt H g n e st ns ord es f) : ∀ x ∈ ns, PyData.strOk x = true := fun x hx => (h.ok.names.ok x hx).sok
theorem GSt.eok (h : GSt H g n e st ns ord es f) : EsOk ns (es.map (·.2)) f := by
  refine ⟨fun x hx z => ?_, h.ok.mem, h.tri, fun x hx => ?_⟩
  · have := h.ok.lt x hx
    rw [z] at this
    exact sLt_irrefl _ this
  · obtain ⟨y, hy, rfl⟩ := List.mem_map.mp hx
    exact h.pro y hy
end
theorem use_graph {H : Hp} {p : Addr} {most : Int} {Q : VK} {E : XK} (h : PoolAt H p) (m0 : 1 ≤ most) (m1 : most ≤ 25)
    (k : ∀ (t g n e st : Addr) (ns ord : List Str) (es : List (Addr × Str × Str)) (f : Str → Int) (H' : Hp), Go p H H' → H' t = some (.tup [.ref g, .ref st]) → GSt H' g n e st ns ord es f → 1 ≤ ns.length → H t = none → H g = none → H st = none → Q (.ref t) H') : spGraph [.ref p, .int most] H Q E := by
  refine ⟨p, most, rfl, h, m0, m1, fun t g n e st ns ord es ws H' go ht hg hs ng nst l1 l2 ok pm so pro el nt => ?_⟩
  have ndo : ord.Nodup := pm.nodup_iff.mpr (asc_nodup ok.names.asc)
  refine k t g n e st ns ord es (numOf ws) H' go ht ⟨hg, ok, pm, by omega, el, ?_, fun x hx => so.at (pm.mem_iff.mpr hx), pro⟩ l1 nt ng nst
  rw [← kvs_F so ndo]
  exact hs
end Law

namespace Law
open PySem PySem.Spec PyProof.Rows L2 U
local macro_rules | `(tactic| wtm_at "rd1") => `(tactic| first
  | with_reducible refine rd_seq ?_
  | ((with_reducible refine rd_var (v := ?vv) ?hv ?_); (case hv => exact rfl))
  | with_reducible refine rd_c ?_
  | with_reducible refine rd_cons ?_
  | with_reducible refine rd_nil ?_
  | with_reducible refine rd_op ?_
  | with_reducible refine rd_asg ?_
  | with_reducible refine rd_name ?_
  | with_reducible refine rd_c1 ?_
  | with_reducible refine rd_cb ?_
  | with_reducible refine rd_test ?_
  | with_reducible refine rd_B ?_
  | with_reducible refine rd_bl ?_
  | with_reducible refine rd_if ?_
  | with_reducible refine rd_ret ?_
  | with_reducible refine rd_drop ?_
  | with_reducible refine rd_next ?_
  | with_reducible refine rd_addI ?_
  | with_reducible refine rd_ltI ?_
  | with_reducible refine rd_eqI ?_
  | with_reducible refine rd_neI ?_
  | with_reducible refine rd_eqS ?_
  | with_reducible refine rd_neS ?_
  | with_reducible refine rd_gtI ?_
  | with_reducible refine rd_geI ?_
  | with_reducible refine rd_leI ?_
  | with_reducible refine rd_ltS ?_
  | with_reducible refine rd_subI ?_
  | ((with_reducible refine rd_modI ?hc ?_); (case hc => first | decide | omega))
  | ((with_reducible refine rd_mulI ?hc ?_); (case hc => first | exact mul_bI | exact .inl (.inr (by decide)) | exact .inl (.inl (by decide)) | exact .inl (.inr (by omega)) | exact .inl (.inl (by omega))))
  | ((with_reducible refine rd_divI ?hc ?_); (case hc => first | decide | omega))
  | ((with_reducible refine rd_powI ?hc ?_); (case hc => exact ⟨by decide, by decide, by decide⟩))
  | with_reducible refine rd_lst ?_
  | with_reducible refine rd_tup ?_
  | ((with_reducible refine rd_sz ?hv ?_); (case hv => exact rfl))
  | with_reducible refine rd_and ?_
  | with_reducible refine rd_or ?_
  | with_reducible refine rd_not ?_
  | with_reducible refine rd_andV ?_
  | with_reducible refine rd_orV ?_
  | with_reducible refine rd_notV ?_
  | with_reducible refine rd_ifE ?_
  | with_reducible refine rd_T ?_
  | with_reducible refine rd_F ?_
  | with_reducible refine rd_chain ?_
  | with_reducible refine rd_is ?_
  | with_reducible refine rd_isNot ?_
  | with_reducible refine rd_absI ?_
  | with_reducible refine rd_maxI ?_
  | with_reducible refine rd_minI ?_
  | with_reducible refine rd_intI ?_
  | with_reducible refine rd_intB ?_
  | with_reducible refine rd_sub ?_
  | with_reducible refine rd_sl ?_
  | with_reducible refine rd_noPart ?_
  | with_reducible refine rd_part ?_
  | with_reducible refine rd_exI ?_
  | with_reducible refine rd_bm ?_
  | with_reducible refine rd_bm0 ?_
  | with_reducible refine rd_un ?_
  | with_reducible refine rd_neg ?_
  | with_reducible refine rd_c2 ?_
  | with_reducible refine rd_retN ?_
  | with_reducible refine rd_break ?_
  | with_reducible refine rd_cont ?_
  | with_reducible refine rd_for ?_
  | with_reducible refine rd_rng1 ?_
  | with_reducible refine rd_rng2 ?_
  | with_reducible refine rd_iList ?_
  | with_reducible refine rd_iTup ?_
  | with_reducible refine rd_iEnum ?_
  | ((with_reducible refine rd_forR ?h0 ?h1 ?_); (case h0 => omega); (case h1 => omega))
  | with_reducible refine rd_lc ?_
  | with_reducible refine rd_gcons ?_
  | with_reducible refine rd_gnil ?_
  | with_reducible refine rd_dget ?_
  | with_reducible refine rd_dput ?_
  | with_reducible refine rd_dnew ?_
  | with_reducible refine rd_dc ?_
  | with_reducible refine rd_iItems ?_
  | with_reducible refine rd_iKeys ?_
  | with_reducible refine rd_din ?_
  | with_reducible refine rd_par ?_
  | with_reducible refine rd_two ?_
  | with_reducible refine rd_reprB ?_
  | with_reducible refine rd_ck ?_
  | ((with_reducible refine rd_len ?hl ?_); (case hl => exact rfl))
  | with_reducible refine rd_nT ?_
  | with_reducible refine rd_nF ?_
  | with_reducible refine rd_dnin ?_
  | with_reducible refine rd_isB ?_
  | with_reducible refine rd_isNotB ?_
  | with_reducible refine rd_daug ?_
  | with_reducible refine rd_yesT ?_
  | ((with_reducible refine rd_wp ?hw ?_); (case hw => exact rfl)))
local macro_rules | `(tactic| wtm_at "rd") => `(tactic| repeat wtm_at "rd1")

/-- the ends of the node's edges, sorted -/
def spNbr : Sp := fun vs H Q _ => ∃ (g n e : Addr) (x : Str) (ns : List Str) (es : List (Addr × Str × Str)), vs = [.ref g, .str x] ∧ GrAt H g n e ns es ∧ es.length ≤ 10000 ∧
  ∀ (l : Addr) (ys : List Str) (H' : Hp), Same H H' → H l = none → H' l = some (.lst (ys.map V.str)) → ys.Perm (nbrF (es.map (·.2)) x) → ys.Pairwise (fun a b => ¬ sLt b a) → Q (.ref l) H'
section
variable {P : Program} {w : World} {K : PySem.W.Frag} {mg : Str → Option Value} {base : Heap}
theorem nbrF_take {es : List (Str × Str)} {x : Str} {i : Nat} (h : i < es.length) : nbrF (es.take (i + 1)) x = nbrF (es.take i) x ++ ((if es[i].1 = x then [es[i].2] else []) ++ (if es[i].2 = x then [es[i].1] else [])) := by
  unfold nbrF
  rw [List.take_succ, List.getElem?_eq_getElem h, List.flatMap_append]
  simp
theorem nbrF_len {x : Str} : ∀ {es : List (Str × Str)}, (nbrF es x).length ≤ 2 * es.length
  | [] => by simp [nbrF]
  | e :: es => by
    have := nbrF_len (x := x) (es := es)
    unfold nbrF at *
    rw [List.flatMap_cons, List.length_append, List.length_append, List.length_cons]
    split <;> split <;> simp only [List.length_cons, List.length_nil] <;> omega
theorem ok_nbr {f : Addr} {fd : FuncData} (F : Fun K "_law_neighbors_of" "_law_neighbors_of" s__law_neighbors_of f fd) (B : Bt mg) : FnG P w K mg base CX0 1 f fd ["_law_graph", "_law_node"] spNbr := by
  refine fnG0 F sc__law_neighbors_of (fun vs H Q E h => ?_) (fun cdv A outer s H vs Q E hr h => ?_)
  · obtain ⟨g, n, e, x, ns, es, rfl, _⟩ := h
    rfl
  · obtain ⟨g, n, e, x, ns, es, rfl, hg, hl, q⟩ := h
    have nd := sc__law_neighbors_of.nd
    refine ⟨_, (pss_cons (ps_set (i := 2) nd rfl (by first | exact Or.inl rfl | exact Or.inr rfl) (pe_lst pa_nil))
  (pss_cons (ps_for PassesOwn.never rfl (ki_tup K rfl (pe_ix (kIx K rfl) (pv 0) pe_int (fun _ _ => rfl))) (kg_tup (n := 2) K rfl rfl (pgs_cons (pg_name (i := 3) nd rfl (by first | exact Or.inl rfl | exact Or.inr rfl)) (pgs_cons (pg_name (i := 4) nd rfl (by first | exact Or.inl rfl | exact Or.inr rfl)) pgs_nil))) (pss_cons (ps_if (pt_cmpR (kEq K rfl hr.u64) (pv 3) (pv 1) (nomark _)) (pss_one (ps_expr (pe_bm PySem.F.plainAttrs_list PySem.F.slot_list_append PySem.F.type_list_append mt_append (pv 2) (pa_cons (pv 4) pa_nil)))) pss_nil)
  (pss_one (ps_if (pt_cmpR (kEq K rfl hr.u64) (pv 4) (pv 1) (nomark _)) (pss_one (ps_expr (pe_bm PySem.F.plainAttrs_list PySem.F.slot_list_append PySem.F.type_list_append mt_append (pv 2) (pa_cons (pv 3) pa_nil)))) pss_nil))))
  (pss_one (ps_ret (pe_callB (kSorted K rfl hr.u64) (by rfl) B.sorted bb_sorted (pa_cons (pv 2) pa_nil)))))), ?_⟩
    wtm_at "rd"
    intro l fl
    have s1 : Same H (upd H l (.lst [])) := Same.new fl
    have hg1 := hg.same s1
    wtm_at "rd"
    refine rd_ixT (SqT.of hg1.top) (v := .ref e) rfl ?_
    refine rd_forT (SqT.of hg1.edges) ?_
    refine turnsT (K := K) (xs := es.map fun x => V.ref x.1) (fun i σ H' => ∃ u1 u2 : Option V, σ = [some (.ref g), some (.str x), some (.ref l), u1, u2] ∧ Same H H' ∧ H' l = some (.lst ((nbrF ((es.map (·.2)).take i) x).map V.str))) ⟨_, _, rfl, s1, upd_same⟩ ?_ ?_ ?_
    · rintro i σ H' hi ⟨u1, u2, rfl, s, h⟩
      exact SqT.of (hg.same s).edges
    · rintro i y σ H' hy ⟨u1, u2, rfl, s, h⟩
      obtain ⟨hi, rfl⟩ := map_at hy
      have hi2 : i < (es.map (·.2)).length := by rw [List.length_map]; exact hi
      have st := nbrF_take (x := x) hi2
      rw [List.getElem_map] at st
      have len : (nbrF ((es.map (·.2)).take i) x).length ≤ 2 * i := by
        have := nbrF_len (x := x) (es := (es.map (·.2)).take i)
        rw [List.length_take] at this
        omega
      refine rd_unp (SqT.of ((hg.same s).pairs es[i] (List.getElem_mem hi))) rfl ?_
      wtm_at "rd"
      refine rd_split (fun c => ?_) (fun c => ?_)
      · rw [if_pos c] at st
        wtm_at "rd"
        refine rd_tyL h ?_
        wtm_at "rd"
        refine rd_append h (by rw [List.length_map]; omega) ?_
        wtm_at "rd"
        refine rd_split (fun c2 => ?_) (fun c2 => ?_)
        · rw [if_pos c2] at st
          wtm_at "rd"
          refine rd_tyL upd_same ?_
          wtm_at "rd"
          refine rd_append upd_same (by rw [List.length_append, List.length_map]; simp only [List.length_singleton]; omega) ?_
          refine ⟨_, _, rfl, same_put (same_put s fl) fl, ?_⟩
          rw [upd_same, st]
          simp [List.map_append]
        · rw [if_neg c2] at st
          wtm_at "rd"
          refine ⟨_, _, rfl, same_put s fl, ?_⟩
          rw [upd_same, st]
          simp [List.map_append]
      · rw [if_neg c] at st
        wtm_at "rd"
        refine rd_split (fun c2 => ?_) (fun c2 => ?_)
        · rw [if_pos c2] at st
          wtm_at "rd"
          refine rd_tyL h ?_
          wtm_at "rd"
          refine rd_append h (by rw [List.length_map]; omega) ?_
          refine ⟨_, _, rfl, same_put s fl, ?_⟩
          rw [upd_same, st]
          simp [List.map_append]
        · rw [if_neg c2] at st
          wtm_at "rd"
          refine ⟨_, _, rfl, s, ?_⟩
          rw [h, st]
          simp
    · rintro σ H' ⟨u1, u2, rfl, s, h⟩
      rw [List.length_map, List.take_of_length_le (by rw [List.length_map]; exact Nat.le_refl _)] at h
      wtm_at "rd"
      refine rd_sortS (SqL.of h) ?_ ?_
      · have := nbrF_len (x := x) (es := es.map (·.2))
        rw [List.length_map] at this
        omega
      · intro ys py sy l2 fl2
        exact q l2 ys _ (same_add s fl2) (new_of_same s fl2) upd_same py sy
end
end Law

namespace Law
open PySem PySem.Spec PyProof.Rows L2 U
local macro_rules | `(tactic| wtm_at "rd1") => `(tactic| first
  | with_reducible refine rd_seq ?_
  | ((with_reducible refine rd_var (v := ?vv) ?hv ?_); (case hv => exact rfl))
  | with_reducible refine rd_c ?_
  | with_reducible refine rd_cons ?_
  | with_reducible refine rd_nil ?_
  | with_reducible refine rd_op ?_
  | with_reducible refine rd_asg ?_
  | with_reducible refine rd_name ?_
  | with_reducible refine rd_c1 ?_
  | with_reducible refine rd_cb ?_
  | with_reducible refine rd_test ?_
  | with_reducible refine rd_B ?_
  | with_reducible refine rd_bl ?_
  | with_reducible refine rd_if ?_
  | with_reducible refine rd_ret ?_
  | with_reducible refine rd_drop ?_
  | with_reducible refine rd_next ?_
  | with_reducible refine rd_addI ?_
  | with_reducible refine rd_ltI ?_
  | with_reducible refine rd_eqI ?_
  | with_reducible refine rd_neI ?_
  | with_reducible refine rd_eqS ?_
  | with_reducible refine rd_neS ?_
  | with_reducible refine rd_gtI ?_
  | with_reducible refine rd_geI ?_
  | with_reducible refine rd_leI ?_
  | with_reducible refine rd_ltS ?_
  | with_reducible refine rd_subI ?_
  | ((with_reducible refine rd_modI ?hc ?_); (case hc => first | decide | omega))
  | ((with_reducible refine rd_mulI ?hc ?_); (case hc => first | exact mul_bI | exact .inl (.inr (by decide)) | exact .inl (.inl (by decide)) | exact .inl (.inr (by omega)) | exact .inl (.inl (by omega))))
  | ((with_reducible refine rd_divI ?hc ?_); (case hc => first | decide | omega))
  | ((with_reducible refine rd_powI ?hc ?_); (case hc => exact ⟨by decide, by decide, by decide⟩))
  | with_reducible refine rd_lst ?_
  | with_reducible refine rd_tup ?_
  | ((with_reducible refine rd_sz ?hv ?_); (case hv => exact rfl))
  | with_reducible refine rd_and ?_
  | with_reducible refine rd_or ?_
  | with_reducible refine rd_not ?_
  | with_reducible refine rd_andV ?_
  | with_reducible refine rd_orV ?_
  | with_reducible refine rd_notV ?_
  | with_reducible refine rd_ifE ?_
  | with_reducible refine rd_T ?_
  | with_reducible refine rd_F ?_
  | with_reducible refine rd_chain ?_
  | with_reducible refine rd_is ?_
  | with_reducible refine rd_isNot ?_
  | with_reducible refine rd_absI ?_
  | with_reducible refine rd_maxI ?_
  | with_reducible refine rd_minI ?_
  | with_reducible refine rd_intI ?_
  | with_reducible refine rd_intB ?_
  | with_reducible refine rd_sub ?_
  | with_reducible refine rd_sl ?_
  | with_reducible refine rd_noPart ?_
  | with_reducible refine rd_part ?_
  | with_reducible refine rd_exI ?_
  | with_reducible refine rd_bm ?_
  | with_reducible refine rd_bm0 ?_
  | with_reducible refine rd_un ?_
  | with_reducible refine rd_neg ?_
  | with_reducible refine rd_c2 ?_
  | with_reducible refine rd_retN ?_
  | with_reducible refine rd_break ?_
  | with_reducible refine rd_cont ?_
  | with_reducible refine rd_for ?_
  | with_reducible refine rd_rng1 ?_
  | with_reducible refine rd_rng2 ?_
  | with_reducible refine rd_iList ?_
  | with_reducible refine rd_iTup ?_
  | with_reducible refine rd_iEnum ?_
  | ((with_reducible refine rd_forR ?h0 ?h1 ?_); (case h0 => omega); (case h1 => omega))
  | with_reducible refine rd_lc ?_
  | with_reducible refine rd_gcons ?_
  | with_reducible refine rd_gnil ?_
  | with_reducible refine rd_dget ?_
  | with_reducible refine rd_dput ?_
  | with_reducible refine rd_dnew ?_
  | with_reducible refine rd_dc ?_
  | with_reducible refine rd_iItems ?_
  | with_reducible refine rd_iKeys ?_
  | with_reducible refine rd_din ?_
  | with_reducible refine rd_par ?_
  | with_reducible refine rd_two ?_
  | with_reducible refine rd_reprB ?_
  | with_reducible refine rd_ck ?_
  | ((with_reducible refine rd_len ?hl ?_); (case hl => exact rfl))
  | with_reducible refine rd_nT ?_
  | with_reducible refine rd_nF ?_
  | with_reducible refine rd_dnin ?_
  | with_reducible refine rd_isB ?_
  | with_reducible refine rd_isNotB ?_
  | with_reducible refine rd_daug ?_
  | with_reducible refine rd_yesT ?_
  | ((with_reducible refine rd_wp ?hw ?_); (case hw => exact rfl)))
local macro_rules | `(tactic| wtm_at "rd") => `(tactic| repeat wtm_at "rd1")

/-- the moves' pairs stand -/
def TupsAt (H : Hp) (ms : List (Addr × Str × Int)) : Prop := ∀ m ∈ ms, H m.1 = some (.tup [.str m.2.1, .int m.2.2])
theorem TupsAt.nil {H : Hp} : TupsAt H [] := fun m hm => nomatch hm
theorem TupsAt.same {H H' : Hp} {ms : List (Addr × Str × Int)} (h : TupsAt H ms) (s : Same H H') : TupsAt H' ms := fun m hm => s _ _ (h m hm)
theorem TupsAt.app {H : Hp} {ms ms2 : List (Addr × Str × Int)} (h : TupsAt H ms) (h2 : TupsAt H ms2) : TupsAt H (ms ++ ms2) := fun m hm => (List.mem_append.mp hm).elim (h m) (h2 m)
theorem TupsAt.put {H : Hp} {ms : List (Addr × Str × Int)} {a : Addr} {xs ys : List V} (h : TupsAt H ms) (ha : H a = some (.lst xs)) : TupsAt (upd H a (.lst ys)) ms := fun m hm => at_upd (ne_of (h m hm) ha (by intro z; cases z)) (h m hm)
theorem TupsAt.new {H : Hp} {ms : List (Addr × Str × Int)} {a : Addr} {o : HO} (h : TupsAt H ms) (ha : H a = none) : TupsAt (upd H a o) ms := fun m hm => at_upd (ne_of_none (h m hm) ha) (h m hm)
def spMoves (K : PySem.W.Frag) : Sp := fun vs H Q _ => ∃ (g n e st ps : Addr) (ns ord pn : List Str) (es : List (Addr × Str × Str)) (f : Str → Int), vs = [.ref g, .ref st, .ref ps] ∧ GrAt H g n e ns es ∧ es.length ≤ 10000 ∧ ns.length ≤ 1000 ∧
  H st = some (.dK (kvF ord f)) ∧ (∀ x ∈ ns, x ∈ ord) ∧ (∀ x ∈ es, x.2.1 ∈ ns ∧ x.2.2 ∈ ns) ∧ SqT K H ps (pn.map V.str) ∧
  ∀ (l : Addr) (ms : List (Addr × Str × Int)) (H' : Hp), Same H H' → H l = none → H' l = some (.lst (ms.map fun m => V.ref m.1)) → TupsAt H' ms → ms.map (·.2) = movesF ns (es.map (·.2)) f pn → Q (.ref l) H'
theorem movesOf_len {es : List (Str × Str)} {f : Str → Int} {n : Str} : (movesOf es f n).length ≤ 3 := by
  unfold movesOf
  rw [List.length_map]
  exact List.length_filter_le _ _
theorem movesF_len {es : List (Str × Str)} {f : Str → Int} {ps : List Str} : ∀ {ns : List Str}, (movesF ns es f ps).length ≤ 3 * ns.length
  | [] => by simp [movesF]
  | n :: ns => by
    have := movesF_len (es := es) (f := f) (ps := ps) (ns := ns)
    have := movesOf_len (es := es) (f := f) (n := n)
    unfold movesF at *
    rw [List.flatMap_cons, List.length_append, List.length_cons]
    split
    · simp only [List.length_nil]
      omega
    · omega
theorem movesF_take {ns : List Str} {es : List (Str × Str)} {f : Str → Int} {ps : List Str} {i : Nat} (h : i < ns.length) : movesF (ns.take (i + 1)) es f ps = movesF (ns.take i) es f ps ++ (if ns[i] ∈ ps then [] else movesOf es f ns[i]) := by
  unfold movesF
  rw [List.take_succ, List.getElem?_eq_getElem h, List.flatMap_append]
  simp
section
variable {P : Program} {w : World} {K : PySem.W.Frag} {mg : Str → Option Value} {base : Heap}
structure C3 (P : Program) (w : World) (K : PySem.W.Frag) (mg : Str → Option Value) (base : Heap) : Prop where
  _law_neighbors_of : Cal P w K mg base CX0 1 "_law_neighbors_of" spNbr
end
end Law

namespace Law
open PySem PySem.Spec PyProof.Rows L2 U
local macro_rules | `(tactic| wtm_at "rd1") => `(tactic| first
  | with_reducible refine rd_seq ?_
  | ((with_reducible refine rd_var (v := ?vv) ?hv ?_); (case hv => exact rfl))
  | with_reducible refine rd_c ?_
  | with_reducible refine rd_cons ?_
  | with_reducible refine rd_nil ?_
  | with_reducible refine rd_op ?_
  | with_reducible refine rd_asg ?_
  | with_reducible refine rd_name ?_
  | with_reducible refine rd_c1 ?_
  | with_reducible refine rd_cb ?_
  | with_reducible refine rd_test ?_
  | with_reducible refine rd_B ?_
  | with_reducible refine rd_bl ?_
  | with_reducible refine rd_if ?_
  | with_reducible refine rd_ret ?_
  | with_reducible refine rd_drop ?_
  | with_reducible refine rd_next ?_
  | with_reducible refine rd_addI ?_
  | with_reducible refine rd_ltI ?_
  | with_reducible refine rd_eqI ?_
  | with_reducible refine rd_neI ?_
  | with_reducible refine rd_eqS ?_
  | with_reducible refine rd_neS ?_
  | with_reducible refine rd_gtI ?_
  | with_reducible refine rd_geI ?_
  | with_reducible refine rd_leI ?_
  | with_reducible refine rd_ltS ?_
  | with_reducible refine rd_subI ?_
  | ((with_reducible refine rd_modI ?hc ?_); (case hc => first | decide | omega))
  | ((with_reducible refine rd_mulI ?hc ?_); (case hc => first | exact mul_bI | exact .inl (.inr (by decide)) | exact .inl (.inl (by decide)) | exact .inl (.inr (by omega)) | exact .inl (.inl (by omega))))
  | ((with_reducible refine rd_divI ?hc ?_); (case hc => first | decide | omega))
  | ((with_reducible refine rd_powI ?hc ?_); (case hc => exact ⟨by decide, by decide, by decide⟩))
  | with_reducible refine rd_lst ?_
  | with_reducible refine rd_tup ?_
  | ((with_reducible refine rd_sz ?hv ?_); (case hv => exact rfl))
  | with_reducible refine rd_and ?_
  | with_reducible refine rd_or ?_
  | with_reducible refine rd_not ?_
  | with_reducible refine rd_andV ?_
  | with_reducible refine rd_orV ?_
  | with_reducible refine rd_notV ?_
  | with_reducible refine rd_ifE ?_
  | with_reducible refine rd_T ?_
  | with_reducible refine rd_F ?_
  | with_reducible refine rd_chain ?_
  | with_reducible refine rd_is ?_
  | with_reducible refine rd_isNot ?_
  | with_reducible refine rd_absI ?_
  | with_reducible refine rd_maxI ?_
  | with_reducible refine rd_minI ?_
  | with_reducible refine rd_intI ?_
  | with_reducible refine rd_intB ?_
  | with_reducible refine rd_sub ?_
  | with_reducible refine rd_sl ?_
  | with_reducible refine rd_noPart ?_
  | with_reducible refine rd_part ?_
  | with_reducible refine rd_exI ?_
  | with_reducible refine rd_bm ?_
  | with_reducible refine rd_bm0 ?_
  | with_reducible refine rd_un ?_
  | with_reducible refine rd_neg ?_
  | with_reducible refine rd_c2 ?_
  | with_reducible refine rd_retN ?_
  | with_reducible refine rd_break ?_
  | with_reducible refine rd_cont ?_
  | with_reducible refine rd_for ?_
  | with_reducible refine rd_rng1 ?_
  | with_reducible refine rd_rng2 ?_
  | with_reducible refine rd_iList ?_
  | with_reducible refine rd_iTup ?_
  | with_reducible refine rd_iEnum ?_
  | ((with_reducible refine rd_forR ?h0 ?h1 ?_); (case h0 => omega); (case h1 => omega))
  | with_reducible refine rd_lc ?_
  | with_reducible refine rd_gcons ?_
  | with_reducible refine rd_gnil ?_
  | with_reducible refine rd_dget ?_
  | with_reducible refine rd_dput ?_
  | with_reducible refine rd_dnew ?_
  | with_reducible refine rd_dc ?_
  | with_reducible refine rd_iItems ?_
  | with_reducible refine rd_iKeys ?_
  | with_reducible refine rd_din ?_
  | with_reducible refine rd_par ?_
  | with_reducible refine rd_two ?_
  | with_reducible refine rd_reprB ?_
  | with_reducible refine rd_ck ?_
  | ((with_reducible refine rd_len ?hl ?_); (case hl => exact rfl))
  | with_reducible refine rd_nT ?_
  | with_reducible refine rd_nF ?_
  | with_reducible refine rd_dnin ?_
  | with_reducible refine rd_isB ?_
  | with_reducible refine rd_isNotB ?_
  | with_reducible refine rd_daug ?_
  | with_reducible refine rd_yesT ?_
  | ((with_reducible refine rd_wp ?hw ?_); (case hw => exact rfl)))
local macro_rules | `(tactic| wtm_at "rd") => `(tactic| repeat wtm_at "rd1")

theorem rd_rAdd {i j : Int} {H : Hp} {Q : VK} (h : Q (.int (i + j)) H) : rAdd (.int i) (.int j) H Q := ⟨i, j, rfl, rfl, h⟩
theorem moves_dp {K : PySem.W.Frag} {H : Hp} : ∀ {ms : List (Addr × Str × Int)}, TupsAt H ms → DpAll K H (ms.map fun m => V.ref m.1) (ms.map fun m => PyData.tuple [.str m.2.1, .int m.2.2])
  | [], _ => .nil
  | m :: ms, h => .cons (.tup (SqT.of (h m List.mem_cons_self)) (.cons (.str _) (.cons (.int _) .nil))) (moves_dp fun x hx => h x (List.mem_cons_of_mem _ hx))
theorem moves_can : ∀ {ms : List (Addr × Str × Int)}, (∀ m ∈ ms, PyData.strOk m.2.1 = true) → PyData.canLayAll0 (ms.map fun m => PyData.tuple [.str m.2.1, .int m.2.2]) = true
  | [], _ => by simp [PyData.canLayAll0]
  | m :: ms, h => by
    rw [List.map_cons, PyData.canLayAll0, moves_can fun x hx => h x (List.mem_cons_of_mem _ hx), PyData.canLay0, PyData.canLayAll0, PyData.canLayAll0, PyData.canLayAll0, PyData.canLay0, PyData.canLay0, h m List.mem_cons_self]
    rfl
theorem moves_dep : ∀ {ms : List (Addr × Str × Int)}, PyData.depthAll (ms.map fun m => PyData.tuple [.str m.2.1, .int m.2.2]) ≤ 60
  | [] => by simp [PyData.depthAll]
  | m :: ms => by
    have := moves_dep (ms := ms)
    rw [List.map_cons, PyData.depthAll, PyData.depth, PyData.depthAll, PyData.depthAll, PyData.depthAll, PyData.depth, PyData.depth]
    omega
/-- [..] != [], of moves -/
theorem rd_neMoves {K : PySem.W.Frag} {H : Hp} {Q : VK} {p q : Addr} {ms : List (Addr × Str × Int)} (hp : H p = some (.lst (ms.map fun m => V.ref m.1))) (tm : TupsAt H ms) (ok : ∀ m ∈ ms, PyData.strOk m.2.1 = true) (hq : H q = some (.lst [])) (h : Q (.bl (!ms.isEmpty)) H) : rNeU K (.ref p) (.ref q) H Q := by
  refine rd_neNilD (SqL.of hp) (moves_dp tm) (SqL.of hq) (moves_can ok) moves_dep ?_
  cases ms <;> exact h
def spDrawMoves (K : PySem.W.Frag) : Sp := fun vs H Q _ => ∃ (p g n e st ps : Addr) (most : Int) (ns ord pn : List Str) (es : List (Addr × Str × Str)) (f : Str → Int), vs = [.ref p, .ref g, .ref st, .ref ps, .int most] ∧ PoolAt H p ∧ GSt H g n e st ns ord es f ∧ 0 ≤ most ∧ most ≤ 1000 ∧ SqT K H ps (pn.map V.str) ∧
  ∀ (t l c : Addr) (ms : List (Addr × Str × Int)) (f' : Str → Int) (H' : Hp), Go p H H' → H t = none → H l = none → H c = none → H' t = some (.tup [.ref l, .ref c]) → H' l = some (.lst (ms.map fun m => V.ref m.1)) → TupsAt H' ms → H' c = some (.dK (kvF ord f')) → ms.length ≤ 1000 → (ms.length : Int) ≤ most →
    Plays ns (es.map (·.2)) pn f (ms.map (·.2)) f' → Q (.ref t) H'
def spCount : Sp := fun vs H Q _ => ∃ (g n e st mv : Addr) (ns ord : List Str) (es : List (Addr × Str × Str)) (f : Str → Int) (ms : List (Addr × Str × Int)), vs = [.ref g, .ref st, .ref mv] ∧ GSt H g n e st ns ord es f ∧ H mv = some (.lst (ms.map fun m => V.ref m.1)) ∧ TupsAt H ms ∧ (∀ m ∈ ms, m.2.1 ∈ ns) ∧
  ∀ (d : Addr) (H' : Hp), Same H H' → H d = none → H' d = some (.dK (kvF ns (countF f (fun _ => 0) (ms.map (·.2))).2)) → Q (.ref d) H'
theorem TupsAt.go {p : Addr} {H H' : Hp} {ms : List (Addr × Str × Int)} (h : TupsAt H ms) (hp : PoolAt H p) (g : Go p H H') : TupsAt H' ms := fun m hm => by
  obtain ⟨ys, hy⟩ := hp.isL
  exact g.but.tup hy (h m hm)
theorem Go.of_same {p : Addr} {H H' : Hp} (hp : PoolAt H p) (s : Same H H') : Go p H H' := ⟨But.of_same s, fun b n => new_of_same s n, by
  obtain ⟨b, s', h, ok⟩ := hp
  exact ⟨b, s', s _ _ h, ok⟩⟩
theorem Go.dK {p d : Addr} {H H' : Hp} {kvs : List (Key × V)} (g : Go p H H') (hp : PoolAt H p) (h : H d = some (.dK kvs)) : H' d = some (.dK kvs) := by
  obtain ⟨ys, hy⟩ := hp.isL
  exact g.but.dK hy h
theorem Go.tup {p d : Addr} {H H' : Hp} {xs : List V} (g : Go p H H') (hp : PoolAt H p) (h : H d = some (.tup xs)) : H' d = some (.tup xs) := by
  obtain ⟨ys, hy⟩ := hp.isL
  exact g.but.tup hy h
section
variable {P : Program} {w : World} {K : PySem.W.Frag} {mg : Str → Option Value} {base : Heap}
structure C4 (P : Program) (w : World) (K : PySem.W.Frag) (mg : Str → Option Value) (base : Heap) : Prop where
  _law_draw : Cal P w K mg base CX0 1 "_law_draw" spDraw
  _law_moves_of : Cal P w K mg base CX0 2 "_law_moves_of" (spMoves K)
end
end Law

/-! dicts of references, double comprehensions, defaults, repr -/
namespace U
open PySem PySem.Spec PyProof.Rows L2
abbrev kvG (ns : List Str) (F : Str → V) : List (Key × V) := ns.map fun n => (Sum.inr n, F n)
def updV {α : Type} (f : Str → α) (n : Str) (v : α) : Str → α := fun m => if m = n then v else f m
theorem kvG_val : ∀ {ns : List Str} {F : Str → V} {n : Str}, n ∈ ns → valV (kvG ns F) (.inr n) = some (F n)
  | m :: ns, F, n, h => by
    by_cases e : n = m
    · subst e
      rw [kvG, List.map_cons, valV_pos rfl]
    · have e' : ¬ (Sum.inr m : Key) = Sum.inr n := fun z => e (Sum.inr.inj z).symm
      rw [kvG, List.map_cons, valV_neg e']
      refine kvG_val ?_
      rcases List.mem_cons.mp h with z | z
      · exact absurd z e
      · exact z
theorem kvG_none : ∀ {ns : List Str} {F : Str → V} {n : Str}, n ∉ ns → valV (kvG ns F) (.inr n) = none
  | [], _, _, _ => rfl
  | m :: ns, F, n, h => by
    have e' : ¬ (Sum.inr m : Key) = Sum.inr n := fun z => h (by rw [← Sum.inr.inj z]; exact List.mem_cons_self)
    rw [kvG, List.map_cons, valV_neg e']
    exact kvG_none fun z => h (List.mem_cons_of_mem _ z)
theorem kvG_new {ns : List Str} {F : Str → V} {n : Str} {v : V} (h : n ∉ ns) : putK (kvG ns F) (.inr n) v = kvG (ns ++ [n]) (updV F n v) := by
  rw [putK_new _ (kvG_none h), kvG, kvG, List.map_append]
  congr 1
  · refine List.map_congr_left fun m hm => ?_
    unfold updV
    rw [if_neg (fun e => h (by rw [← e]; exact hm))]
  · show [((Sum.inr n : Key), v)] = [(Sum.inr n, updV F n v n)]
    unfold updV
    rw [if_pos rfl]
theorem kvG_at {ns : List Str} {F : Str → V} {i : Nat} {x y : V} (hx : ((kvG ns F)[i]?.map fun kv => kV kv.1) = some x) (hy : (kvG ns F)[i]?.map Prod.snd = some y) : ∃ hi : i < ns.length, x = .str ns[i] ∧ y = F ns[i] := by
  rw [kvG, List.getElem?_map] at hx hy
  by_cases hi : i < ns.length
  · rw [List.getElem?_eq_getElem hi] at hx hy
    exact ⟨hi, (Option.some.inj hx).symm, (Option.some.inj hy).symm⟩
  · rw [List.getElem?_eq_none (by omega)] at hx
    cases hx
/-! f(e, ..) where defaults fill the rest -/
structure CalD (P : Program) (w : World) (K : PySem.W.Frag) (mg : Str → Option Value) (base : Heap) (CX : CXT) (k : Nat) (x : Str) (dvs : List V) (sp : Sp) : Prop where
  ex : ∃ (f : Addr) (fd : FuncData) (ps : List Str) (ds : List Value), FnG P w K mg base CX k f fd ps sp ∧ mg x = some (.ref f) ∧ PySem.W.keepIn K (.ref f) = true ∧ Vals dvs ds ∧ Binds K fd ps ds
def tCD (sp : Sp) (dvs : List V) (E : XK) (t : TA) : TE := fun σ H Q => t σ H fun vs H1 => sp (vs ++ dvs) H1 Q E
theorem pe_cD {X : Cx} {CX : L2.CXT} {k j : Nat} {x : Str} {dvs : List V} {sp : Sp} {E : XK} {e : Expr} {es : List Expr} {t : TA} {p pos : Pos} (c : CalD X.prog X.w X.K X.mg X.base CX k x dvs sp) (hr : Rm j X.A) (hk : k ≤ j) (hg : Gl X x) (hx : Passes CX X E) (ha : PA X (e :: es) t)
    (hdb : (x == ("__debug__" : Str)) = false := by decide) (he : starEach (e :: es) X.env = (false, eval e X.env) :: starEach es X.env := by rfl) (hpl : (backTo pos (starEach es X.env)).any (·.1) = false := by rfl) :
    PE X (.Call (.Name x p) (e :: es) [] pos) (tCD sp dvs E t) := by
  obtain ⟨f, fd, ps, ds, F, hm, kp, rd, b⟩ := c.ex
  refine ⟨fun pins s σ H Q I h => wpAny_Call_Name_kw (ld_glob I hg hm ?_ hdb)⟩
  refine PySem.W.callWith_K (h₀ := X.base) I.ok.mod.kin kp (thn (ha.run pos pins s σ H _ I h) ?_) he hpl
  rintro us s1 ⟨vs, H1, I1, r, q⟩
  refine ⟨I1.kIn, ?_⟩
  have r2 : Vals (vs ++ dvs) (us ++ ds) := r.append rd
  have count : (us ++ ds).length = ps.length := r2.length ▸ F.len _ _ _ _ q
  have bd := b s1 us I1.kIn count
  refine wpAny_call (codeAny_mono (F.go X.A X.stack s1 H1 ⟨us, []⟩ (us ++ ds) (vs ++ dvs) Q E (hr.mono hk) I1.env0 bd r2 q) ?_)
  intro res s' hq
  cases res with
  | error er => exact hx pins σ H1 s1 er s' I1 hq
  | ok fl =>
    cases fl with
    | ret u => exact I1.after hq
    | next => exact hq.elim
    | brk => exact hq.elim
    | cont => exact hq.elim
/-! two fors in a comprehension -/
def In1 (J1 : It) (g1 : TG) (tt1 : TT) (te : TE) (vs1 : List Nat) (σ2 : L2.St) (D : Addr) (H4 : Hp) (R : Hp → Prop) : Prop := ∃ W1 : Nat → Nat → Hp → Prop, (∃ m, W1 0 m H4) ∧ ∀ j k H, W1 j k H →
  (J1.stop j H ∧ R H) ∨ (J1.go j H ∧ ∃ Nx1 : Hp → Prop, (∀ H', Nx1 H' → ∃ k', k' < k ∧ W1 (j + 1) k' H') ∧ ∀ x H', J1.yld j H x H' → g1 x (wipe σ2 vs1) H' fun σ3 H5 => wipe σ3 vs1 = wipe σ2 vs1 ∧ tt1 σ3 H5 fun b H6 =>
    if b = true then te σ3 H6 fun y H7 => ∃ acc, H7 D = some (.lst acc) ∧ acc.length < sizeLine ∧ Nx1 (upd H7 D (.lst (acc ++ [y]))) else Nx1 H6)
def Lc2B (J : It) (g : TG) (tt : TT) (wi1 : TI) (g1 : TG) (tt1 : TT) (te : TE) (vs vs1 : List Nat) (σ : L2.St) (H1 : Hp) (D : Addr) (Qd : Hp → Prop) : Prop := ∃ W : Nat → Nat → Hp → Prop, (∃ m, W 0 m (upd H1 D (.lst []))) ∧ ∀ i m H, W i m H →
  (J.stop i H ∧ Qd H) ∨ (J.go i H ∧ ∃ Nx : Hp → Prop, (∀ H', Nx H' → ∃ m', m' < m ∧ W (i + 1) m' H') ∧ ∀ x H', J.yld i H x H' → g x (wipe σ vs) H' fun σ2 H2 => wipe σ2 vs = wipe σ vs ∧ tt σ2 H2 fun b H3 =>
    if b = true then wi1 σ2 H3 fun J1 H4 => In1 J1 g1 tt1 te vs1 σ2 D H4 Nx else Nx H3)
section
variable {σ : L2.St} {H : Hp} {Q : VK} {te : TE} {g g1 : TG} {wi wi1 : TI} {tt tt1 : TT} {vs vs1 : List Nat} {L : Addr} {Qd R : Hp → Prop} {J J1 : It} {n : Nat} {G : Hp → Prop} {Y : Nat → Hp → V → Hp → Prop} {K : PySem.W.Frag}
theorem rd_lc2 (h : wi σ H fun J H1 => ∀ D, H1 D = none → Lc2B J g tt wi1 g1 tt1 te vs vs1 σ H1 D fun H2 => Q (.ref D) H2) : tLc2 wi g tt wi1 g1 tt1 te vs vs1 σ H Q := h
theorem lc2W (w : Walk J n G Y) (Pv : Nat → Hp → Prop) (h0 : Pv 0 (upd H L (.lst []))) (hG : ∀ i H, i ≤ n → Pv i H → G H)
    (hs : ∀ i x H H', i < n → Pv i H → Y i H x H' → g x (wipe σ vs) H' fun σ2 H2 => wipe σ2 vs = wipe σ vs ∧ tt σ2 H2 fun b H3 =>
      if b = true then wi1 σ2 H3 fun J1 H4 => In1 J1 g1 tt1 te vs1 σ2 L H4 (Pv (i + 1)) else Pv (i + 1) H3) (hd : ∀ H, Pv n H → Qd H) : Lc2B J g tt wi1 g1 tt1 te vs vs1 σ H L Qd := by
  refine ⟨fun i m H => m = n - i ∧ i ≤ n ∧ Pv i H, ⟨n, by simp, Nat.zero_le _, h0⟩, ?_⟩
  rintro i m H ⟨rfl, hi, p⟩
  have q := hG i H hi p
  by_cases hlt : i < n
  · exact .inr ⟨w.goes i H hlt q, Pv (i + 1), fun H' p' => ⟨n - (i + 1), by omega, rfl, hlt, p'⟩, fun x H' y => hs i x H H' hlt p (w.yields i H x H' hlt q y)⟩
  · have e : i = n := by omega
    subst e
    exact .inl ⟨w.stops H q, hd H p⟩
theorem in1W (w : Walk J1 n G Y) (Pv : Nat → Hp → Prop) (h0 : Pv 0 H) (hG : ∀ i H, i ≤ n → Pv i H → G H)
    (hs : ∀ j x H H', j < n → Pv j H → Y j H x H' → g1 x (wipe σ vs1) H' fun σ3 H5 => wipe σ3 vs1 = wipe σ vs1 ∧ tt1 σ3 H5 fun b H6 =>
      if b = true then te σ3 H6 fun y H7 => ∃ acc, H7 L = some (.lst acc) ∧ acc.length < sizeLine ∧ Pv (j + 1) (upd H7 L (.lst (acc ++ [y]))) else Pv (j + 1) H6) (hd : ∀ H, Pv n H → R H) : In1 J1 g1 tt1 te vs1 σ L H R := by
  refine ⟨fun i m H => m = n - i ∧ i ≤ n ∧ Pv i H, ⟨n, by simp, Nat.zero_le _, h0⟩, ?_⟩
  rintro i m H ⟨rfl, hi, p⟩
  have q := hG i H hi p
  by_cases hlt : i < n
  · exact .inr ⟨w.goes i H hlt q, Pv (i + 1), fun H' p' => ⟨n - (i + 1), by omega, rfl, hlt, p'⟩, fun x H' y => hs i x H H' hlt p (w.yields i H x H' hlt q y)⟩
  · have e : i = n := by omega
    subst e
    exact .inl ⟨w.stops H q, hd H p⟩
theorem rd_cd {sp : Sp} {dvs : List V} {E : XK} {t : TA} (h : t σ H fun vs H1 => sp (vs ++ dvs) H1 Q E) : tCD sp dvs E t σ H Q := h
/-- d.clear() -/
theorem rd_clear {p : Addr} {kvs : List (Key × V)} (hs : H p = some (.dK kvs)) (h : Q .non (upd H p (.dK []))) : True := trivial
end
/-! repr -/
section
variable {X : Cx} {pins : List (Addr × Obj)} {σ : L2.St} {H : Hp} {s : Shared}
def encK : Key → PyData
  | .inl i => .int i
  | .inr x => .str x
/-- what repr is asked of: data, dicts of numbers among it -/
inductive Dr (K : PySem.W.Frag) (H : Hp) : V → PyData → Prop
  | of {v : V} {d : PyData} : Dp K H v d → d.hasDict = false → Dr K H v d
  | dct {a : Addr} {ns : List Str} {f : Str → Int} : H a = some (.dK (kvF ns f)) → Dr K H (.ref a) (.dict (ns.map fun n => (.str n, .int (f n))))
theorem kv_pairs {h : Heap} {f : Str → Int} : ∀ {ns : List Str} {vs : List (Key × Value)}, KV (kvF ns f) vs → PyProof.V.PairsRead h encK vs (ns.map fun n => (.str n, .int (f n))) []
  | [], vs, r => by
    cases r
    exact .nil
  | n :: ns, vs, r => by
    cases r with
    | @cons p q ps qs hpq t =>
      obtain ⟨h1, h2⟩ := hpq
      obtain ⟨k, v⟩ := q
      have h1' : (Sum.inr n : Key) = k := h1
      subst h1'
      obtain ⟨tk, rfl⟩ : ∃ t, v = Value.int (f n) t := h2
      exact .cons (k := .inr n) (as := []) (bs := []) (Reads.int _ _) (kv_pairs t)
theorem key_reads {h : Heap} {P : Program} {w : World} : ∀ (k : Key) (key : Value), (mixKind P w).is k key = true → Reads h key (encK k) [] := by
  intro k key hk
  rcases keyIs_shape hk with ⟨i, t, rfl, rfl⟩ | ⟨x, t, rfl, rfl⟩
  · exact Reads.int _ _
  · exact Reads.str _ _
end
end U
namespace U
open PySem PySem.Spec PyProof.Rows L2
/-! name = {k: v for ..}, the name a local -/
abbrev InBlk (X : Cx) (scope : Scope) (Φ : Cx → Prop) : Prop :=
  ∀ (s : Shared) (H : Hp) (C : Addr) (cl : List (Str × Addr)) (fp : List Addr), Φ (X.blk s H scope (compEnvC scope cl C X.env) fp)
section
variable {X : Cx}
theorem sw_dict {kx vx : Expr} {gs : List Comprehension} {scope : Scope} {pos py : Pos} {y : Str} {l : Nat} {env : Env}
    (hk : env.scope.kind = .function) (hy : env.scope.names.lookup y = some .local) (hl : (py.line == pos.line) = true)
    (ha : (scope.names.any fun (n, k) => n == y && (k == .local || k == .cell)) = false) :
    swapsWith (.DictComp kx vx gs scope pos) (some (.Name y py)) l env = pure true := by
  have q1 : env.kindOf y = some .local := hy
  have q2 : env.blockKind = .function := by
    unfold Env.blockKind
    rw [hk]
    rfl
  unfold swapsWith
  simp only [q1, q2, ha, hl, Expr.pos]
  rfl
theorem ps_setDc {i : Nat} {y : Str} {py : Pos} {kx vx tg iter : Expr} {ifs : List Expr} {scope : Scope} {own : List (Str × Nat)} {pos spos : Pos} {wi : TI} {g : TG} {tt : TT} {tk tv : TE}
    (hc : X.calm = true) (hN : X.N.Nodup) (hy : X.N[i]? = some y) (hyl : X.env.scope.names.lookup y = some .local)
    (hsw : swapsWith (.DictComp kx vx [⟨tg, iter, ifs, 0⟩] scope pos) (some (.Name y py)) spos.line X.env = pure true) (hi : PI X tg iter wi) (ok : BlkOk X.N X.env.scope scope own)
    (hg : InBlk X scope fun Y => PG Y tg g) (ht : InBlk X scope fun Y => PTs Y ifs tt) (hk : InBlk X scope fun Y => PE Y kx tk) (he : InBlk X scope fun Y => PE Y vx tv)
    (hs : ∀ x, foldedSetIterable iter X.env x = pure x := by intro _; rfl) :
    PS X (.Assign [.Name y py] (.DictComp kx vx [⟨tg, iter, ifs, 0⟩] scope pos) spos) (tAsg (tDc wi g tt tk tv (own.map (·.2))) (gName i)) := by
  refine ⟨fun pins s σ H D I want => ?_⟩
  rw [exec_Assign_Name_used _ _ _ _ hsw]
  refine wpAny_bind (wpAny_standAt (wpAny_bind ?_))
  have want : tDc wi g tt tk tv (own.map (·.2)) σ H fun x H1 => gName i x σ H1 D.nx := want
  show wpAny _ X.A (do
    let _ ← comprehension (.DictComp kx vx [⟨tg, iter, ifs, 0⟩] scope pos) scope X.env (firstIterPos [⟨tg, iter, ifs, 0⟩] pos) newDict false (eval iter X.env) (some (assign (.Name y py) X.env))) _ _ s
  refine wpAny_bind (thn (dc_core (Qf := fun _ s' => SP X pins D .next s') hc hN I hi ok hg ht hk he hs want fun L C s' m H' J q hn fpo => ?_) fun _ s' done => wpAny_pure (wpAny_pure done))
  show wpAny _ _ (assign (.Name y py) X.env (.ref L)) _ _ _
  refine wpAny_assign_Name (store_ok2 (v := V.ref L) J hN hy (.inl hyl) rfl (fun s2 J2 ⟨a, sb, ha⟩ => ?_) (.inr hyl))
  obtain ⟨p0, p1, p2, p3, p4, p5⟩ := fpo
  have apart : C ≠ a := by
    cases ha with
    | inl z => rw [z]; exact p1
    | inr z => exact fun e => p4 y a z e.symm
  refine ⟨m, hn.sameBut sb apart, fun h3 sb3 => ⟨_, H', J2.turned (t' := s2.toks) (fun b o hb e => (sb3.2 b hb).trans e) p0 p1 p3 p4 p5, q⟩⟩
end
end U

/-! repr of a list of data, dicts among it -/
namespace U
open PySem PySem.Spec PyProof.Rows L2
mutual
def tupOnly : PyData → Bool
  | .none | .bool _ | .int _ | .str _ => true
  | .tuple xs => tupOnlyAll xs
  | .list _ | .dict _ => false
def tupOnlyAll : List PyData → Bool
  | [] => true
  | x :: xs => tupOnly x && tupOnlyAll xs
end
mutual
theorem reads_nil {h : Heap} : ∀ (d : PyData) (v : Value) (as : List Addr), Reads h v d as → tupOnly d = true → as = []
  | .none, _, _, r, _ => by cases r; rfl
  | .bool _, _, _, r, _ => by cases r; rfl
  | .int _, _, _, r, _ => by cases r; rfl
  | .str _, _, _, r, _ => by cases r; rfl
  | .tuple xs, _, _, r, t => by
    cases r with
    | tuple h1 h2 h3 h4 => exact readsAll_nil xs _ _ h4 (by simpa [tupOnly] using t)
  | .list _, _, _, _, t => by simp [tupOnly] at t
  | .dict _, _, _, _, t => by simp [tupOnly] at t
theorem readsAll_nil {h : Heap} : ∀ (ds : List PyData) (vs : List Value) (as : List Addr), ReadsAll h vs ds as → tupOnlyAll ds = true → as = []
  | [], _, _, r, _ => by cases r; rfl
  | d :: ds, _, _, r, t => by
    rw [tupOnlyAll, Bool.and_eq_true] at t
    cases r with
    | cons r1 r2 => rw [reads_nil d _ _ r1 t.1, readsAll_nil ds _ _ r2 t.2]; rfl
end
/-- an item of the list: data of tuples, or a dict of numbers -/
inductive Di (K : PySem.W.Frag) (H : Hp) : V → PyData → Prop
  | of {v : V} {d : PyData} : Dp K H v d → tupOnly d = true → Di K H v d
  | dct {a : Addr} {ns : List Str} {f : Str → Int} : H a = some (.dK (kvF ns f)) → Di K H (.ref a) (.dict (ns.map fun n => (.str n, .int (f n))))
inductive DiAll (K : PySem.W.Frag) (H : Hp) : List V → List PyData → Prop
  | nil : DiAll K H [] []
  | cons {v : V} {vs : List V} {d : PyData} {ds : List PyData} : Di K H v d → DiAll K H vs ds → DiAll K H (v :: vs) (d :: ds)
structure Shows (d : PyData) : Prop where
  sh : d.showable = true
  lv : d.leavesShort 13 = true
  bk : d.bulk ≤ 2 ^ 20
  dp : d.depth ≤ 50
def rReprL (K : PySem.W.Frag) : List V → Hp → VK → Prop := fun xs H Q => match xs with
  | [.ref a] => (∃ xs ds, H a = some (.lst xs) ∧ (a == sysModules) = false ∧ DiAll K H xs ds ∧ Shows (.list ds) ∧ Q (.str (PyData.list ds).shown) H) ∨
      ∃ d, Dp K H (.ref a) d ∧ d.hasDict = false ∧ Shows d ∧ Q (.str d.shown) H
  | _ => False
section
variable {X : Cx} {pins : List (Addr × Obj)} {σ : L2.St} {H : Hp} {s : Shared}
theorem Di.reads (I : Inv X pins σ H s) {v : V} {d : PyData} {u : Value} (h : Di X.K H v d) (r : RelV v u) : ∃ as, Reads s.heap u d as ∧ sysModules ∉ as := by
  cases h with
  | of h t =>
    obtain ⟨as, q⟩ := Dp.reads I _ _ _ h r
    have := reads_nil _ _ _ q t
    subst this
    exact ⟨_, q, List.not_mem_nil⟩
  | dct h =>
    cases r
    obtain ⟨_, hd, vs, rel, dd⟩ := dk_of I.hok h
    refine ⟨_, PyProof.V.reads_dictOf key_reads dd (kv_pairs rel), ?_⟩
    intro z
    rw [List.mem_singleton] at z
    rw [z] at hd
    simp at hd
theorem DiAll.reads (I : Inv X pins σ H s) : ∀ {vs : List V} {ds : List PyData} {us : List Value}, DiAll X.K H vs ds → Vals vs us → ∃ as, ReadsAll s.heap us ds as ∧ sysModules ∉ as
  | [], _, _, h, r => by
    cases h
    cases r
    exact ⟨_, .nil, List.not_mem_nil⟩
  | v :: vs, _, _, h, r => by
    cases h with
    | cons h1 h2 =>
      cases r with
      | cons r1 r2 =>
        obtain ⟨as, q1, n1⟩ := h1.reads I r1
        obtain ⟨bs, q2, n2⟩ := DiAll.reads I h2 r2
        exact ⟨_, .cons q1 q2, fun z => (List.mem_append.mp z).elim n1 n2⟩
theorem kReprL (K : PySem.W.Frag) (hK : X.K = K) (hg : X.A.guards = some []) (hu : X.A.units + 64 < cLine) : CallR X (.builtin "repr") (rReprL K) := by
  subst hK
  intro pins s σ H xs us Q I r h
  match xs, h with
  | [.ref a], h =>
    cases r with
    | cons r rr =>
      cases rr
      cases r
      have fin : ∀ (d : PyData) (as : List Addr), Reads s.heap (.ref a) d as → (d.hasDict = true → sysModules ∉ as) → Shows d → Q (.str d.shown) H → wpAny (model X.prog X.w) X.A (call (.builtin "repr") [.ref a]) (EP X pins σ Q) X.xe s := by
        intro d as rd hsm S q
        have hdp := S.dp
        refine PySem.repr_of_reads' rd S.sh hsm hg (by omega) (fun b o e => e) (fun h' u tk hk => ⟨.str d.shown, H, I.kept (t' := tk) hk, ⟨_, rfl⟩, q⟩) (PyData.shown_fits_bulk (by decide) (by decide) S.lv S.bk)
      rcases h with ⟨xs, ds, ha, hn, hd, S, q⟩ | ⟨d, hd, hx, S, q⟩
      · obtain ⟨its, rv, ⟨o, n, ho, hc, _, hdat⟩, _⟩ := I.list (SqL.of ha)
        obtain ⟨as, ra, na⟩ := hd.reads I rv
        refine fin _ _ (Reads.list ho hc hdat (by simpa using ra)) (fun _ z => ?_) S q
        rcases List.mem_cons.mp z with z | z
        · rw [← z] at hn
          simp at hn
        · exact na z
      · obtain ⟨as, ra⟩ := Dp.reads I d _ _ hd rfl
        exact fin d as ra (fun z => by rw [hx] at z; cases z) S q
/-- a list display: its place is not that of the modules' table -/
def tLstS (t : TA) : TE := fun σ H Q => t σ H fun xs H1 => xs.length ≤ sizeLine ∧ ∀ p, H1 p = none → (p == sysModules) = false → Q (.ref p) (upd H1 p (.lst xs))
theorem pe_lstS {es : List Expr} {t : TA} {pos : Pos} (h : PA X es t) : PE X (.List es pos) (tLstS t) := by
  refine ⟨fun pins s σ H Q I hq => ?_⟩
  refine wpAny_List_spliced (thn (h.run pos pins s σ H _ I hq) fun us s1 ⟨xs, H1, I1, r, z, q⟩ => ⟨by rw [← r.length]; exact z, ?_⟩)
  have hf : H1 s1.heap.objs.size = none := I1.hok.fresh (Nat.le_refl _)
  have hb := I1.big
  refine ⟨.ref s1.heap.objs.size, upd H1 s1.heap.objs.size (.lst xs), I1.laid (t' := s1.toks) (fun b u e => Heap.get?_push_of_some _ e) (Nat.le_refl _) ?_, rfl, q _ hf (beq_eq_false_iff_ne.mpr (Ne.symm (Nat.ne_of_lt hb)))⟩
  exact ⟨z, us, 0, r, Heap.get?_push_size _ rfl⟩
end
/-! the shapes -/
abbrev dStrs (ns : List Str) : PyData := .tuple (ns.map PyData.str)
abbrev dGr (ns : List Str) (es : List (Str × Str)) : PyData := .tuple [dStrs ns, .tuple (es.map fun e => .tuple [.str e.1, .str e.2])]
abbrev dSt (ord : List Str) (f : Str → Int) : PyData := .dict (ord.map fun n => (.str n, .int (f n)))
abbrev dMv (ms : List (Str × Int)) : PyData := .list (ms.map fun m => .tuple [.str m.1, .int m.2])
theorem IsName.lv {z : Str} (h : IsName z) : (PyData.str z).leavesShort 13 = true := by
  rw [PyData.leavesShort, List.all_eq_true]
  intro x hx
  have := h.ch x hx
  rw [decide_eq_true_eq]
  omega
theorem IsName.bk {z : Str} (h : IsName z) : (PyData.str z).bulk ≤ 8 := by
  rw [PyData.bulk]
  exact h.hi
theorem lvs_strs : ∀ {ns : List Str}, (∀ n ∈ ns, IsName n) → PyData.leavesShortAll 13 (ns.map PyData.str) = true ∧ PyData.showableAll (ns.map PyData.str) = true ∧ PyData.bulkAll (ns.map PyData.str) ≤ 9 * ns.length ∧ PyData.depthAll (ns.map PyData.str) = 0
  | [], _ => by simp [PyData.leavesShortAll, PyData.showableAll, PyData.bulkAll, PyData.depthAll]
  | n :: ns, h => by
    obtain ⟨a, b, c, d⟩ := lvs_strs (ns := ns) fun x hx => h x (List.mem_cons_of_mem _ hx)
    have hn := h n List.mem_cons_self
    have := hn.bk
    simp only [List.map_cons, PyData.leavesShortAll, PyData.showableAll, PyData.bulkAll, PyData.depthAll, List.length_cons, hn.lv, a, b, d, PyData.showable, Bool.and_self, PyData.depth, true_and]
    exact ⟨by omega, rfl⟩
theorem lvs_edges : ∀ {es : List (Str × Str)}, (∀ e ∈ es, IsName e.1 ∧ IsName e.2) → PyData.leavesShortAll 13 (es.map fun e => .tuple [.str e.1, .str e.2]) = true ∧ PyData.showableAll (es.map fun e => .tuple [.str e.1, .str e.2]) = true ∧
    PyData.bulkAll (es.map fun e => .tuple [.str e.1, .str e.2]) ≤ 19 * es.length ∧ PyData.depthAll (es.map fun e => .tuple [.str e.1, .str e.2]) ≤ 1
  | [], _ => by simp [PyData.leavesShortAll, PyData.showableAll, PyData.bulkAll, PyData.depthAll]
  | e :: es, h => by
    obtain ⟨a, b, c, d⟩ := lvs_edges (es := es) fun x hx => h x (List.mem_cons_of_mem _ hx)
    obtain ⟨h1, h2⟩ := h e List.mem_cons_self
    have := h1.bk
    have := h2.bk
    simp only [List.map_cons, PyData.leavesShortAll, PyData.showableAll, PyData.bulkAll, PyData.depthAll, List.length_cons, PyData.leavesShort, PyData.showable, PyData.bulk, PyData.depth, a, b] at *
    have l1 := h1.lv
    have l2 := h2.lv
    simp only [PyData.leavesShort] at l1 l2
    rw [l1, l2]
    refine ⟨rfl, rfl, ?_, ?_⟩
    · omega
    · omega
theorem int3_lv {i : Int} (h0 : 0 ≤ i) (h1 : i < 3) : (PyData.int i).leavesShort 13 = true ∧ (PyData.int i).showable = true := by
  have : i = 0 ∨ i = 1 ∨ i = 2 := by omega
  rcases this with rfl | rfl | rfl <;> exact ⟨by decide +kernel, by decide +kernel⟩
theorem lvs_st {f : Str → Int} : ∀ {ns : List Str}, (∀ n ∈ ns, IsName n ∧ 0 ≤ f n ∧ f n < 3) → PyData.leavesShortKv 13 (ns.map fun n => (.str n, .int (f n))) = true ∧ PyData.showableKv (ns.map fun n => (.str n, .int (f n))) = true ∧
    PyData.bulkKv (ns.map fun n => (.str n, .int (f n))) ≤ 10 * ns.length ∧ PyData.depthKv (ns.map fun n => (.str n, .int (f n))) = 0
  | [], _ => by simp [PyData.leavesShortKv, PyData.showableKv, PyData.bulkKv, PyData.depthKv]
  | n :: ns, h => by
    obtain ⟨a, b, c, d⟩ := lvs_st (ns := ns) fun x hx => h x (List.mem_cons_of_mem _ hx)
    obtain ⟨h1, h2, h3⟩ := h n List.mem_cons_self
    have := h1.bk
    obtain ⟨i1, i2⟩ := int3_lv h2 h3
    have l1 := h1.lv
    simp only [List.map_cons, PyData.leavesShortKv, PyData.showableKv, PyData.bulkKv, PyData.depthKv, List.length_cons, a, b, d, i1, i2, l1, PyData.depth, Bool.and_self, PyData.bulk, true_and]
    rw [PyData.showable]
    simp only [PyData.bulk] at *
    exact ⟨rfl, by omega, rfl⟩
theorem lvs_moves : ∀ {ms : List (Str × Int)}, (∀ m ∈ ms, IsName m.1 ∧ 0 ≤ m.2 ∧ m.2 < 3) → PyData.leavesShortAll 13 (ms.map fun m => .tuple [.str m.1, .int m.2]) = true ∧ PyData.showableAll (ms.map fun m => .tuple [.str m.1, .int m.2]) = true ∧
    PyData.bulkAll (ms.map fun m => .tuple [.str m.1, .int m.2]) ≤ 11 * ms.length ∧ PyData.depthAll (ms.map fun m => .tuple [.str m.1, .int m.2]) ≤ 1 ∧ PyData.hasDictAll (ms.map fun m => .tuple [.str m.1, .int m.2]) = false
  | [], _ => by simp [PyData.leavesShortAll, PyData.showableAll, PyData.bulkAll, PyData.depthAll, PyData.hasDictAll]
  | m :: ms, h => by
    obtain ⟨a, b, c, d, e⟩ := lvs_moves (ms := ms) fun x hx => h x (List.mem_cons_of_mem _ hx)
    obtain ⟨h1, h2, h3⟩ := h m List.mem_cons_self
    have := h1.bk
    obtain ⟨i1, i2⟩ := int3_lv h2 h3
    have l1 := h1.lv
    have e1 : (PyData.tuple [.str m.1, .int m.2]).leavesShort 13 = true := by
      rw [PyData.leavesShort, PyData.leavesShortAll, PyData.leavesShortAll, PyData.leavesShortAll, l1, i1]
      rfl
    have e2 : (PyData.tuple [.str m.1, .int m.2]).showable = true := by
      rw [PyData.showable, PyData.showableAll, PyData.showableAll, PyData.showableAll, i2, PyData.showable]
      rfl
    have e3 : (PyData.tuple [.str m.1, .int m.2]).bulk ≤ 10 := by
      simp only [PyData.bulk, PyData.bulkAll] at *
      omega
    have e4 : (PyData.tuple [.str m.1, .int m.2]).depth = 1 := by simp [PyData.depth, PyData.depthAll]
    have e5 : (PyData.tuple [.str m.1, .int m.2]).hasDict = false := by simp [PyData.hasDict, PyData.hasDictAll]
    rw [List.map_cons, PyData.leavesShortAll, PyData.showableAll, PyData.bulkAll, PyData.depthAll, PyData.hasDictAll, List.length_cons, e1, e2, e4, e5, a, b, e]
    exact ⟨rfl, rfl, by omega, by omega, rfl⟩
theorem shows_moves {ms : List (Str × Int)} (h : ∀ m ∈ ms, IsName m.1 ∧ 0 ≤ m.2 ∧ m.2 < 3) (l : ms.length ≤ 2000) : Shows (dMv ms) ∧ (dMv ms).hasDict = false := by
  obtain ⟨a, b, c, d, e⟩ := lvs_moves h
  refine ⟨⟨by rw [PyData.showable]; exact b, by rw [PyData.leavesShort]; exact a, ?_, ?_⟩, by rw [PyData.hasDict]; exact e⟩
  · rw [PyData.bulk]
    omega
  · rw [PyData.depth]
    omega
theorem shows_all {ns ord pn : List Str} {es : List (Str × Str)} {f : Str → Int} (h1 : ∀ n ∈ ns, IsName n) (h2 : ∀ e ∈ es, IsName e.1 ∧ IsName e.2) (h3 : ∀ n ∈ ord, IsName n ∧ 0 ≤ f n ∧ f n < 3) (h4 : ∀ n ∈ pn, IsName n)
    (l1 : ns.length ≤ 100) (l2 : es.length ≤ 1000) (l3 : ord.length ≤ 100) (l4 : pn.length ≤ 100) : Shows (.list [dGr ns es, dSt ord f, dStrs pn]) := by
  obtain ⟨a1, b1, c1, d1⟩ := lvs_strs h1
  obtain ⟨a2, b2, c2, d2⟩ := lvs_edges h2
  obtain ⟨a3, b3, c3, d3⟩ := lvs_st h3
  obtain ⟨a4, b4, c4, d4⟩ := lvs_strs h4
  refine ⟨?_, ?_, ?_, ?_⟩
  · simp [PyData.showable, PyData.showableAll, b1, b2, b3, b4]
  · simp [PyData.leavesShort, PyData.leavesShortAll, a1, a2, a3, a4]
  · simp only [PyData.bulk, PyData.bulkAll]
    omega
  · simp only [PyData.depth, PyData.depthAll]
    omega
end U

namespace Law
open PySem PySem.Spec PyProof.Rows L2 U
local macro_rules | `(tactic| wtm_at "rd1") => `(tactic| first
  | with_reducible refine rd_seq ?_
  | ((with_reducible refine rd_var (v := ?vv) ?hv ?_); (case hv => exact rfl))
  | with_reducible refine rd_c ?_
  | with_reducible refine rd_cons ?_
  | with_reducible refine rd_nil ?_
  | with_reducible refine rd_op ?_
  | with_reducible refine rd_asg ?_
  | with_reducible refine rd_name ?_
  | with_reducible refine rd_c1 ?_
  | with_reducible refine rd_cb ?_
  | with_reducible refine rd_test ?_
  | with_reducible refine rd_B ?_
  | with_reducible refine rd_bl ?_
  | with_reducible refine rd_if ?_
  | with_reducible refine rd_ret ?_
  | with_reducible refine rd_drop ?_
  | with_reducible refine rd_next ?_
  | with_reducible refine rd_addI ?_
  | with_reducible refine rd_ltI ?_
  | with_reducible refine rd_eqI ?_
  | with_reducible refine rd_neI ?_
  | with_reducible refine rd_eqS ?_
  | with_reducible refine rd_neS ?_
  | with_reducible refine rd_gtI ?_
  | with_reducible refine rd_geI ?_
  | with_reducible refine rd_leI ?_
  | with_reducible refine rd_ltS ?_
  | with_reducible refine rd_subI ?_
  | ((with_reducible refine rd_modI ?hc ?_); (case hc => first | decide | omega))
  | ((with_reducible refine rd_mulI ?hc ?_); (case hc => first | exact mul_bI | exact .inl (.inr (by decide)) | exact .inl (.inl (by decide)) | exact .inl (.inr (by omega)) | exact .inl (.inl (by omega))))
  | ((with_reducible refine rd_divI ?hc ?_); (case hc => first | decide | omega))
  | ((with_reducible refine rd_powI ?hc ?_); (case hc => exact ⟨by decide, by decide, by decide⟩))
  | with_reducible refine rd_lst ?_
  | with_reducible refine rd_tup ?_
  | ((with_reducible refine rd_sz ?hv ?_); (case hv => exact rfl))
  | with_reducible refine rd_and ?_
  | with_reducible refine rd_or ?_
  | with_reducible refine rd_not ?_
  | with_reducible refine rd_andV ?_
  | with_reducible refine rd_orV ?_
  | with_reducible refine rd_notV ?_
  | with_reducible refine rd_ifE ?_
  | with_reducible refine rd_T ?_
  | with_reducible refine rd_F ?_
  | with_reducible refine rd_chain ?_
  | with_reducible refine rd_is ?_
  | with_reducible refine rd_isNot ?_
  | with_reducible refine rd_absI ?_
  | with_reducible refine rd_maxI ?_
  | with_reducible refine rd_minI ?_
  | with_reducible refine rd_intI ?_
  | with_reducible refine rd_intB ?_
  | with_reducible refine rd_sub ?_
  | with_reducible refine rd_sl ?_
  | with_reducible refine rd_noPart ?_
  | with_reducible refine rd_part ?_
  | with_reducible refine rd_exI ?_
  | with_reducible refine rd_bm ?_
  | with_reducible refine rd_bm0 ?_
  | with_reducible refine rd_un ?_
  | with_reducible refine rd_neg ?_
  | with_reducible refine rd_c2 ?_
  | with_reducible refine rd_retN ?_
  | with_reducible refine rd_break ?_
  | with_reducible refine rd_cont ?_
  | with_reducible refine rd_for ?_
  | with_reducible refine rd_rng1 ?_
  | with_reducible refine rd_rng2 ?_
  | with_reducible refine rd_iList ?_
  | with_reducible refine rd_iTup ?_
  | with_reducible refine rd_iEnum ?_
  | ((with_reducible refine rd_forR ?h0 ?h1 ?_); (case h0 => omega); (case h1 => omega))
  | with_reducible refine rd_lc ?_
  | with_reducible refine rd_gcons ?_
  | with_reducible refine rd_gnil ?_
  | with_reducible refine rd_dget ?_
  | with_reducible refine rd_dput ?_
  | with_reducible refine rd_dnew ?_
  | with_reducible refine rd_dc ?_
  | with_reducible refine rd_iItems ?_
  | with_reducible refine rd_iKeys ?_
  | with_reducible refine rd_din ?_
  | with_reducible refine rd_par ?_
  | with_reducible refine rd_two ?_
  | with_reducible refine rd_reprB ?_
  | with_reducible refine rd_ck ?_
  | ((with_reducible refine rd_len ?hl ?_); (case hl => exact rfl))
  | with_reducible refine rd_nT ?_
  | with_reducible refine rd_nF ?_
  | with_reducible refine rd_dnin ?_
  | with_reducible refine rd_isB ?_
  | with_reducible refine rd_isNotB ?_
  | with_reducible refine rd_daug ?_
  | with_reducible refine rd_yesT ?_
  | ((with_reducible refine rd_wp ?hw ?_); (case hw => exact rfl)))
local macro_rules | `(tactic| wtm_at "rd") => `(tactic| repeat wtm_at "rd1")

theorem take_snoc {α : Type} {xs : List α} {i : Nat} (hi : i < xs.length) : xs.take (i + 1) = xs.take i ++ [xs[i]] := by
  rw [List.take_succ, List.getElem?_eq_getElem hi]
  rfl
theorem not_take {α : Type} {xs : List α} {i : Nat} (nd : xs.Nodup) (hi : i < xs.length) : xs[i] ∉ xs.take i := by
  intro hm
  obtain ⟨j, hj, e⟩ := List.mem_iff_getElem.mp hm
  rw [List.length_take] at hj
  have e' : xs[j] = xs[i] := by rw [← e, List.getElem_take]
  have z := List.pairwise_iff_getElem.mp (List.nodup_iff_pairwise_ne.mp nd)
  exact z j i (by omega) hi (by omega) e'
theorem lk_same {H H' : Hp} {a : Addr} {kvs : List (Key × V)} (ha : H a = some (.dK kvs)) (but : But a H H') : Same H (upd H' a (.dK kvs)) := fun b o hb => by
  by_cases e : b = a
  · subst e
    rw [ha] at hb
    rw [upd_same]
    exact hb
  · exact at_upd e (but b o e hb)
/-- the lists of the nodes' neighbours -/
structure AdjAt (H : Hp) (d : Addr) (ns : List Str) (es : List (Str × Str)) (A : Str → Addr) : Prop where
  di : H d = some (.dK (kvG ns fun n => .ref (A n)))
  li : ∀ n ∈ ns, ∃ ys : List Str, H (A n) = some (.lst (ys.map V.str)) ∧ ys.Perm (nbrF es n) ∧ ys.Pairwise fun a b => ¬ sLt b a
theorem AdjAt.same {H H' : Hp} {d : Addr} {ns : List Str} {es : List (Str × Str)} {A : Str → Addr} (h : AdjAt H d ns es A) (s : Same H H') : AdjAt H' d ns es A :=
  ⟨s _ _ h.di, fun n hn => by
    obtain ⟨ys, h1, h2⟩ := h.li n hn
    exact ⟨ys, s _ _ h1, h2⟩⟩
/-- a graph stands -/
structure GrS (H : Hp) (g n e : Addr) (ns : List Str) (es : List (Addr × Str × Str)) : Prop where
  gr : GrAt H g n e ns es
  ok : GrOk ns (es.map (·.2))
  l2 : ns.length ≤ 100
  l3 : es.length ≤ 1000
theorem GSt.grs {H : Hp} {g n e st : Addr} {ns ord : List Str} {es : List (Addr × Str × Str)} {f : Str → Int} (h : GSt H g n e st ns ord es f) : GrS H g n e ns es := ⟨h.gr, h.ok, h.l2, h.l3⟩
theorem GrS.same {H H' : Hp} {g n e : Addr} {ns : List Str} {es : List (Addr × Str × Str)} (h : GrS H g n e ns es) (s : Same H H') : GrS H' g n e ns es := ⟨h.gr.same s, h.ok, h.l2, h.l3⟩
theorem GrS.nd {H : Hp} {g n e : Addr} {ns : List Str} {es : List (Addr × Str × Str)} (h : GrS H g n e ns es) : ns.Nodup := asc_nodup h.ok.names.asc
theorem GrS.inE {H : Hp} {g n e : Addr} {ns : List Str} {es : List (Addr × Str × Str)} (h : GrS H g n e ns es) : ∀ x ∈ es, x.2.1 ∈ ns ∧ x.2.2 ∈ ns := fun x hx => h.ok.mem _ (List.mem_map_of_mem hx)
theorem GrS.ne {H : Hp} {g n e : Addr} {ns : List Str} {es : List (Addr × Str × Str)} (h : GrS H g n e ns es) : ∀ x ∈ es.map (·.2), x.1 ≠ x.2 := fun x hx z => by
  have := h.ok.lt x hx
  rw [z] at this
  exact sLt_irrefl _ this
def spAdj : Sp := fun vs H Q _ => ∃ (g n e : Addr) (ns : List Str) (es : List (Addr × Str × Str)), vs = [.ref g] ∧ GrS H g n e ns es ∧
  ∀ (d : Addr) (A : Str → Addr) (H' : Hp), Same H H' → H d = none → AdjAt H' d ns (es.map (·.2)) A → Q (.ref d) H'
def spAdjF : Sp := fun vs H Q _ => ∃ (g n e : Addr) (ns : List Str) (es : List (Addr × Str × Str)), vs = [.ref g] ∧ GrS H g n e ns es ∧
  ∀ (d : Addr) (A : Str → Addr) (H' : Hp), Same H H' → H d = none → AdjAt H' d ns (es.map (·.2)) A → (∀ m ∈ ns, H (A m) = none) → Q (.ref d) H'
theorem adj_weak {vs : List V} {H : Hp} {Q : VK} {E : XK} (h : spAdj vs H Q E) : spAdjF vs H Q E := by
  obtain ⟨g, n, e, ns, es, e1, gs, q⟩ := h
  exact ⟨g, n, e, ns, es, e1, gs, fun d A H' s n a _ => q d A H' s n a⟩
theorem FnG.weak {P : Program} {w : World} {K : PySem.W.Frag} {mg : Str → Option Value} {base : Heap} {CX : CXT} {k : Nat} {f : Addr} {fd : FuncData} {ps : List Str} {sp sp' : Sp} (F : FnG P w K mg base CX k f fd ps sp) (h : ∀ vs H Q E, sp' vs H Q E → sp vs H Q E) : FnG P w K mg base CX k f fd ps sp' :=
  ⟨fun vs H Q E z => F.len vs H Q E (h vs H Q E z), fun A outer s H args us vs Q E r e b v z => F.go A outer s H args us vs Q E r e b v (h vs H Q E z)⟩
theorem Cal.weak {P : Program} {w : World} {K : PySem.W.Frag} {mg : Str → Option Value} {base : Heap} {CX : CXT} {k : Nat} {x : Str} {sp sp' : Sp} (C : Cal P w K mg base CX k x sp) (h : ∀ vs H Q E, sp' vs H Q E → sp vs H Q E) : Cal P w K mg base CX k x sp' := by
  obtain ⟨f, fd, ps, F, r⟩ := C.ex
  exact ⟨⟨f, fd, ps, FnG.weak F h, r⟩⟩
/-- what grows at d: lists, one a name, apart -/
structure Grow (H H' : Hp) (d : Addr) (ns : List Str) (A : Str → Addr) (L : Str → List Str) : Prop where
  sm : Same H H'
  di : H' d = some (.dK (kvG ns fun n => .ref (A n)))
  li : ∀ n ∈ ns, H' (A n) = some (.lst ((L n).map V.str)) ∧ H (A n) = none
  ap : ∀ n ∈ ns, ∀ m ∈ ns, A n = A m → n = m
theorem Grow.put {H H' : Hp} {d : Addr} {ns : List Str} {A : Str → Addr} {L : Str → List Str} {n : Str} {ys : List Str} (h : Grow H H' d ns A L) (hn : n ∈ ns) : Grow H (upd H' (A n) (.lst (ys.map V.str))) d ns A (updV L n ys) := by
  refine ⟨same_put h.sm (h.li n hn).2, at_upd (ne_of h.di (h.li n hn).1 (by intro z; cases z)) h.di, fun m hm => ⟨?_, (h.li m hm).2⟩, h.ap⟩
  unfold updV
  by_cases e : m = n
  · subst e
    rw [if_pos rfl, upd_same]
  · rw [if_neg e]
    exact at_upd (fun z => e (h.ap m hm n hn z)) (h.li m hm).1
section
variable {P : Program} {w : World} {K : PySem.W.Frag} {mg : Str → Option Value} {base : Heap}
theorem ok_adjF {f : Addr} {fd : FuncData} (F : Fun K "adjacency" "adjacency" s_adjacency f fd) (B : Bt mg) : FnG P w K mg base CX0 1 f fd ["graph"] spAdjF := by
  refine fnG0 F sc_adjacency (fun vs H Q E h => ?_) (fun cdv A outer s H vs Q E hr h => ?_)
  · obtain ⟨g, n, e, ns, es, rfl, _⟩ := h
    rfl
  · obtain ⟨g, n, e, ns, es, rfl, gs, q⟩ := h
    have nd := sc_adjacency.nd
    have hu := hr.u1
    refine ⟨_, (pss_cons (ps_asg (pv 0) (kg_tup (n := 2) K rfl rfl (pgs_cons (pg_name (i := 1) nd rfl (by first | exact Or.inl rfl | exact Or.inr rfl)) (pgs_cons (pg_name (i := 2) nd rfl (by first | exact Or.inl rfl | exact Or.inr rfl)) pgs_nil))))
  (pss_cons (ps_setDc (i := 3) (own := [("node", 4)]) rfl nd rfl rfl (sw_dict rfl rfl rfl (by decide +kernel)) (ki_tup K rfl (pv 1)) (blkOk_by (own := [("node", 4)]) (N := nN_adjacency) (sc := defScope s_adjacency) (by decide +kernel)) (fun _ _ _ _ _ => (pg_name (i := 4) nd rfl (by first | exact Or.inl rfl | exact Or.inr rfl))) (fun _ _ _ _ _ => pts_nil) (fun _ _ _ _ _ => (pv 4)) (fun _ _ _ _ _ => (pe_lst pa_nil)))
  (pss_cons (ps_for PassesOwn.never rfl (ki_tup K rfl (pv 2)) (kg_tup (n := 2) K rfl rfl (pgs_cons (pg_name (i := 5) nd rfl (by first | exact Or.inl rfl | exact Or.inr rfl)) (pgs_cons (pg_name (i := 6) nd rfl (by first | exact Or.inl rfl | exact Or.inr rfl)) pgs_nil))) (pss_cons (ps_expr (pe_bm PySem.F.plainAttrs_list PySem.F.slot_list_append PySem.F.type_list_append mt_append (pe_dget hu (pv 3) (pv 5) (fun _ _ => rfl)) (pa_cons (pv 6) pa_nil)))
  (pss_one (ps_expr (pe_bm PySem.F.plainAttrs_list PySem.F.slot_list_append PySem.F.type_list_append mt_append (pe_dget hu (pv 3) (pv 6) (fun _ _ => rfl)) (pa_cons (pv 5) pa_nil))))))
  (pss_one (ps_ret (pe_lock (pe_dc (own := [("node", 4), ("some", 7)]) rfl nd (pi_items (pv 3)) (blkOk_by (own := [("node", 4), ("some", 7)]) (N := nN_adjacency) (sc := defScope s_adjacency) (by decide +kernel)) (fun _ _ _ _ _ => (kg_tup (n := 2) K rfl rfl (pgs_cons (pg_name (i := 4) nd rfl (by first | exact Or.inl rfl | exact Or.inr rfl)) (pgs_cons (pg_name (i := 7) nd rfl (by first | exact Or.inl rfl | exact Or.inr rfl)) pgs_nil)))) (fun _ _ _ _ _ => pts_nil) (fun _ _ _ _ _ => (pv 4)) (fun _ _ _ _ _ => (pe_callB (kSorted K rfl hr.u64) (by rfl) B.sorted bb_sorted (pa_cons (pv 7) pa_nil)))))))))), ?_⟩
    wtm_at "rd"
    refine rd_unp (SqT.of gs.gr.top) rfl ?_
    wtm_at "rd"
    refine rd_forT (SqT.of gs.gr.nodes) ?_
    intro D fD
    refine dcW (walk_tup (K := K) (a := n) (xs := ns.map V.str)) (fun i H' => ∃ A : Str → Addr, Grow H H' D (ns.take i) A (fun _ => [])) ⟨fun _ => 0, Same.new fD, upd_same, (fun n hn => nomatch hn), fun n hn => nomatch hn⟩ ?_ ?_ ?_
    · rintro i H' hi ⟨A, gw⟩
      exact SqT.of (gw.sm _ _ gs.gr.nodes)
    · rintro i x H' H2 hi ⟨A, gw⟩ ⟨rfl, hx⟩
      obtain ⟨hin, rfl⟩ := map_at hx
      wtm_at "rd"
      intro t ft
      refine rd_accD (k := .inr ns[i]) rfl (at_upd (ne_of_none gw.di ft) gw.di) (by rw [List.length_map, List.length_take]; have := gs.l2; omega) ?_
      have ntD : t ≠ D := Ne.symm (ne_of_none gw.di ft)
      have nin := not_take gs.nd hin
      have nt : ∀ m ∈ ns.take i, A m ≠ t := fun m hm => ne_of_none (gw.li m hm).1 ft
      refine ⟨updV A ns[i] t, same_put (same_add gw.sm ft) fD, ?_, ?_, ?_⟩
      · rw [upd_same, kvG_new nin, take_snoc hin]
        congr 2
        refine List.map_congr_left fun m _ => ?_
        show ((Sum.inr m : Key), updV (fun n => V.ref (A n)) ns[i] (.ref t) m) = (Sum.inr m, V.ref (updV A ns[i] t m))
        unfold updV
        by_cases z : m = ns[i]
        · rw [if_pos z, if_pos z]
        · rw [if_neg z, if_neg z]
      · intro m hm
        rw [take_snoc hin] at hm
        unfold updV
        rcases List.mem_append.mp hm with hm | hm
        · rw [if_neg (fun z => nin (by rw [← z]; exact hm))]
          exact ⟨at_upd (ne_of (gw.li m hm).1 gw.di (by intro z; cases z)) (at_upd (nt m hm) (gw.li m hm).1), (gw.li m hm).2⟩
        · rw [List.mem_singleton] at hm
          rw [if_pos hm]
          exact ⟨at_upd ntD upd_same, new_of_same gw.sm ft⟩
      · intro m hm m2 hm2 z
        rw [take_snoc hin] at hm hm2
        unfold updV at z
        rcases List.mem_append.mp hm with hm | hm <;> rcases List.mem_append.mp hm2 with hm2 | hm2
        · rw [if_neg (fun y => nin (by rw [← y]; exact hm)), if_neg (fun y => nin (by rw [← y]; exact hm2))] at z
          exact gw.ap m hm m2 hm2 z
        · rw [List.mem_singleton] at hm2
          rw [if_neg (fun y => nin (by rw [← y]; exact hm)), if_pos hm2] at z
          exact absurd z (nt m hm)
        · rw [List.mem_singleton] at hm
          rw [if_pos hm, if_neg (fun y => nin (by rw [← y]; exact hm2))] at z
          exact absurd z.symm (nt m2 hm2)
        · rw [List.mem_singleton] at hm hm2
          rw [hm, hm2]
    rintro H1 ⟨A, gw⟩
    rw [List.length_map, List.take_length] at gw
    wtm_at "rd"
    refine rd_forT (SqT.of (gw.sm _ _ gs.gr.edges)) ?_
    refine turnsT (K := K) (xs := es.map fun x => V.ref x.1) (fun i σ H' => ∃ u4 u5 u6 u7 : Option V, σ = [some (.ref g), some (.ref n), some (.ref e), some (.ref D), u4, u5, u6, u7] ∧ Grow H H' D ns A (fun m => nbrF ((es.map (·.2)).take i) m)) ⟨_, _, _, _, rfl, gw⟩ ?_ ?_ ?_
    · rintro i σ H' hi ⟨u4, u5, u6, u7, rfl, gw⟩
      exact SqT.of (gw.sm _ _ gs.gr.edges)
    · rintro i y σ H' hy ⟨u4, u5, u6, u7, rfl, gw⟩
      obtain ⟨hi, rfl⟩ := map_at hy
      have hm := List.getElem_mem hi
      obtain ⟨m1, m2⟩ := gs.inE _ hm
      have hne : es[i].2.1 ≠ es[i].2.2 := gs.ne es[i].2 (List.mem_map_of_mem hm)
      have hi2 : i < (es.map (·.2)).length := by rw [List.length_map]; exact hi
      have len : ∀ m, (nbrF ((es.map (·.2)).take i) m).length ≤ 2000 := fun m => by
        have := nbrF_len (x := m) (es := (es.map (·.2)).take i)
        rw [List.length_take, List.length_map] at this
        have := gs.l3
        omega
      have tk : ∀ m, nbrF ((es.map (·.2)).take (i + 1)) m = nbrF ((es.map (·.2)).take i) m ++ ((if es[i].2.1 = m then [es[i].2.2] else []) ++ (if es[i].2.2 = m then [es[i].2.1] else [])) := fun m => by
        have := nbrF_take (x := m) hi2
        rw [List.getElem_map] at this
        exact this
      refine rd_unp (SqT.of (gw.sm _ _ (gs.gr.pairs _ hm))) rfl ?_
      wtm_at "rd"
      refine rd_dat (.inl gw.di) (kvG_val m1) rfl ?_
      refine rd_tyL (gw.li _ m1).1 ?_
      wtm_at "rd"
      refine rd_append (gw.li _ m1).1 (by rw [List.length_map]; have := len es[i].2.1; omega) ?_
      have gw2 := gw.put (ys := nbrF ((es.map (·.2)).take i) es[i].2.1 ++ [es[i].2.2]) m1
      rw [List.map_append] at gw2
      wtm_at "rd"
      refine rd_dat (.inl gw2.di) (kvG_val m2) rfl ?_
      have l2 := (gw2.li _ m2).1
      have e2 : updV (fun m => nbrF ((es.map (·.2)).take i) m) es[i].2.1 (nbrF ((es.map (·.2)).take i) es[i].2.1 ++ [es[i].2.2]) es[i].2.2 = nbrF ((es.map (·.2)).take i) es[i].2.2 := if_neg (Ne.symm hne)
      rw [e2] at l2
      refine rd_tyL l2 ?_
      wtm_at "rd"
      refine rd_append l2 (by rw [List.length_map]; have := len es[i].2.2; omega) ?_
      have gw3 := gw2.put (ys := nbrF ((es.map (·.2)).take i) es[i].2.2 ++ [es[i].2.1]) m2
      rw [List.map_append] at gw3
      refine ⟨_, _, _, _, rfl, gw3.sm, gw3.di, fun m hm => ⟨?_, (gw3.li m hm).2⟩, gw3.ap⟩
      refine (gw3.li m hm).1.trans ?_
      congr 3
      rw [tk]
      unfold updV
      by_cases c2 : m = es[i].2.2
      · subst c2
        rw [if_pos rfl, if_neg hne, if_pos rfl, List.nil_append]
      · rw [if_neg c2]
        by_cases c1 : m = es[i].2.1
        · subst c1
          rw [if_pos rfl, if_pos rfl, if_neg (Ne.symm hne), List.append_nil]
        · rw [if_neg c1, if_neg (Ne.symm c1), if_neg (Ne.symm c2), List.append_nil, List.append_nil]
    rintro σ H2 ⟨u4, u5, u6, u7, rfl, gw2⟩
    rw [List.length_map, List.take_of_length_le (by rw [List.length_map]; exact Nat.le_refl _)] at gw2
    wtm_at "rd"
    refine rd_lockE gw2.di fun od => ?_
    wtm_at "rd"
    refine rd_forI upd_same ?_
    intro D2 fD2
    have nDa := new_ne fD2
    have fD20 := new_old fD2
    refine dcW walk_items (fun i H' => ∃ A2 : Str → Addr, But D H2 H' ∧ H' D = some (.frz od (.dK (kvG ns fun n => .ref (A n)))) ∧ H' D2 = some (.dK (kvG (ns.take i) fun n => .ref (A2 n))) ∧ (∀ m ∈ ns.take i, ∃ ys : List Str, H' (A2 m) = some (.lst (ys.map V.str)) ∧ (ys.Perm (nbrF (es.map (·.2)) m) ∧ ys.Pairwise fun a b => ¬ sLt b a)) ∧ ∀ m ∈ ns.take i, H (A2 m) = none)
      ⟨fun _ => 0, But.upd.trans (But.new fD2), at_upd (Ne.symm nDa) upd_same, upd_same, (fun m hm => nomatch hm), fun m hm => nomatch hm⟩ ?_ ?_ ?_
    · rintro i H' hi ⟨A2, _, hf, _⟩
      exact hf
    · rintro i x H' H3 hi ⟨A2, but, hf, hD, hl, fre⟩ ⟨T, x1, y1, rfl, fT, rfl, e1, e2⟩
      obtain ⟨hin, rfl, rfl⟩ := kvG_at e1 e2
      have hmem := List.getElem_mem hin
      have nin := not_take gs.nd hin
      have but2 : But D H2 (upd H' T (.tup [.str ns[i], .ref (A ns[i])])) := but.trans (But.new fT)
      have hf2 := at_upd (o := .tup [.str ns[i], .ref (A ns[i])]) (ne_of_none hf fT) hf
      have hD3 := at_upd (o := .tup [.str ns[i], .ref (A ns[i])]) (ne_of_none hD fT) hD
      have hl2 : ∀ m ∈ ns.take i, ∃ ys : List Str, upd H' T (.tup [.str ns[i], .ref (A ns[i])]) (A2 m) = some (.lst (ys.map V.str)) ∧ (ys.Perm (nbrF (es.map (·.2)) m) ∧ ys.Pairwise fun a b => ¬ sLt b a) := fun m hm => by
        obtain ⟨ys, z1, z2⟩ := hl m hm
        exact ⟨ys, at_upd (ne_of_none z1 fT) z1, z2⟩
      refine rd_unp (SqT.of upd_same) rfl ?_
      have ha := but2 _ _ (ne_of (gw2.li _ hmem).1 gw2.di (by intro z; cases z)) (gw2.li _ hmem).1
      generalize upd H' T (.tup [.str ns[i], .ref (A ns[i])]) = H4 at but2 hf2 hD3 hl2 ha
      wtm_at "rd"
      refine rd_sortS (SqL.of ha) (by have := nbrF_len (x := ns[i]) (es := es.map (·.2)); rw [List.length_map] at this; have := gs.l3; omega) ?_
      intro ys py sy l2 fl2
      refine rd_accD (k := .inr ns[i]) rfl (at_upd (ne_of_none hD3 fl2) hD3) (by rw [List.length_map, List.length_take]; have := gs.l2; omega) ?_
      have nl2D : l2 ≠ D2 := Ne.symm (ne_of_none hD3 fl2)
      have nH : H l2 = none := new_of_same gw2.sm (but2.free (Ne.symm (ne_of_none hf2 fl2)) fl2)
      refine ⟨updV A2 ns[i] l2, fun b' o' nb hb' => at_upd (ne_of_none hb' fD20) ((but2.trans (But.new fl2)) b' o' nb hb'), at_upd (Ne.symm nDa) (at_upd (ne_of_none hf2 fl2) hf2), ?_, ?_, ?_⟩
      · rw [upd_same, kvG_new nin, take_snoc hin]
        congr 2
        refine List.map_congr_left fun m _ => ?_
        show ((Sum.inr m : Key), updV (fun n => V.ref (A2 n)) ns[i] (.ref l2) m) = (Sum.inr m, V.ref (updV A2 ns[i] l2 m))
        unfold updV
        by_cases z : m = ns[i]
        · rw [if_pos z, if_pos z]
        · rw [if_neg z, if_neg z]
      · intro m hm
        rw [take_snoc hin] at hm
        unfold updV
        rcases List.mem_append.mp hm with hm | hm
        · rw [if_neg (fun z => nin (by rw [← z]; exact hm))]
          obtain ⟨zs, z1, z2⟩ := hl2 m hm
          exact ⟨zs, at_upd (ne_of z1 hD3 (by intro z; cases z)) (at_upd (ne_of_none z1 fl2) z1), z2⟩
        · rw [List.mem_singleton] at hm
          subst hm
          rw [if_pos rfl]
          exact ⟨ys, at_upd nl2D upd_same, py, sy⟩
      · intro m hm
        rw [take_snoc hin] at hm
        unfold updV
        rcases List.mem_append.mp hm with hm | hm
        · rw [if_neg (fun z => nin (by rw [← z]; exact hm))]
          exact fre m hm
        · rw [List.mem_singleton] at hm
          subst hm
          rw [if_pos rfl]
          exact nH
    rintro H' ⟨A2, but, hf, hD, hl, fre⟩
    rw [List.length_map, List.take_length] at hD hl fre
    refine ⟨hf, q D2 A2 _ (gw2.sm.trans (lk_same gw2.di but)) (new_of_same gw2.sm fD20) ⟨at_upd nDa hD, fun m hm => ?_⟩ fre⟩
    obtain ⟨ys, z1, z2⟩ := hl m hm
    exact ⟨ys, at_upd (ne_of z1 hf (by intro z; cases z)) z1, z2⟩
theorem ok_adj {f : Addr} {fd : FuncData} (F : Fun K "adjacency" "adjacency" s_adjacency f fd) (B : Bt mg) : FnG P w K mg base CX0 1 f fd ["graph"] spAdj := FnG.weak (ok_adjF F B) fun _ _ _ _ h => adj_weak h
end
end Law

namespace Law
open PySem PySem.Spec PyProof.Rows L2 U
local macro_rules | `(tactic| wtm_at "rd1") => `(tactic| first
  | with_reducible refine rd_seq ?_
  | ((with_reducible refine rd_var (v := ?vv) ?hv ?_); (case hv => exact rfl))
  | with_reducible refine rd_c ?_
  | with_reducible refine rd_cons ?_
  | with_reducible refine rd_nil ?_
  | with_reducible refine rd_op ?_
  | with_reducible refine rd_asg ?_
  | with_reducible refine rd_name ?_
  | with_reducible refine rd_c1 ?_
  | with_reducible refine rd_cb ?_
  | with_reducible refine rd_test ?_
  | with_reducible refine rd_B ?_
  | with_reducible refine rd_bl ?_
  | with_reducible refine rd_if ?_
  | with_reducible refine rd_ret ?_
  | with_reducible refine rd_drop ?_
  | with_reducible refine rd_next ?_
  | with_reducible refine rd_addI ?_
  | with_reducible refine rd_ltI ?_
  | with_reducible refine rd_eqI ?_
  | with_reducible refine rd_neI ?_
  | with_reducible refine rd_eqS ?_
  | with_reducible refine rd_neS ?_
  | with_reducible refine rd_gtI ?_
  | with_reducible refine rd_geI ?_
  | with_reducible refine rd_leI ?_
  | with_reducible refine rd_ltS ?_
  | with_reducible refine rd_subI ?_
  | ((with_reducible refine rd_modI ?hc ?_); (case hc => first | decide | omega))
  | ((with_reducible refine rd_mulI ?hc ?_); (case hc => first | exact mul_bI | exact .inl (.inr (by decide)) | exact .inl (.inl (by decide)) | exact .inl (.inr (by omega)) | exact .inl (.inl (by omega))))
  | ((with_reducible refine rd_divI ?hc ?_); (case hc => first | decide | omega))
  | ((with_reducible refine rd_powI ?hc ?_); (case hc => exact ⟨by decide, by decide, by decide⟩))
  | with_reducible refine rd_lst ?_
  | with_reducible refine rd_tup ?_
  | ((with_reducible refine rd_sz ?hv ?_); (case hv => exact rfl))
  | with_reducible refine rd_and ?_
  | with_reducible refine rd_or ?_
  | with_reducible refine rd_not ?_
  | with_reducible refine rd_andV ?_
  | with_reducible refine rd_orV ?_
  | with_reducible refine rd_notV ?_
  | with_reducible refine rd_ifE ?_
  | with_reducible refine rd_T ?_
  | with_reducible refine rd_F ?_
  | with_reducible refine rd_chain ?_
  | with_reducible refine rd_is ?_
  | with_reducible refine rd_isNot ?_
  | with_reducible refine rd_absI ?_
  | with_reducible refine rd_maxI ?_
  | with_reducible refine rd_minI ?_
  | with_reducible refine rd_intI ?_
  | with_reducible refine rd_intB ?_
  | with_reducible refine rd_sub ?_
  | with_reducible refine rd_sl ?_
  | with_reducible refine rd_noPart ?_
  | with_reducible refine rd_part ?_
  | with_reducible refine rd_exI ?_
  | with_reducible refine rd_bm ?_
  | with_reducible refine rd_bm0 ?_
  | with_reducible refine rd_un ?_
  | with_reducible refine rd_neg ?_
  | with_reducible refine rd_c2 ?_
  | with_reducible refine rd_retN ?_
  | with_reducible refine rd_break ?_
  | with_reducible refine rd_cont ?_
  | with_reducible refine rd_for ?_
  | with_reducible refine rd_rng1 ?_
  | with_reducible refine rd_rng2 ?_
  | with_reducible refine rd_iList ?_
  | with_reducible refine rd_iTup ?_
  | with_reducible refine rd_iEnum ?_
  | ((with_reducible refine rd_forR ?h0 ?h1 ?_); (case h0 => omega); (case h1 => omega))
  | with_reducible refine rd_lc ?_
  | with_reducible refine rd_gcons ?_
  | with_reducible refine rd_gnil ?_
  | with_reducible refine rd_dget ?_
  | with_reducible refine rd_dput ?_
  | with_reducible refine rd_dnew ?_
  | with_reducible refine rd_dc ?_
  | with_reducible refine rd_iItems ?_
  | with_reducible refine rd_iKeys ?_
  | with_reducible refine rd_din ?_
  | with_reducible refine rd_lc2 ?_
  | with_reducible refine rd_cd ?_
  | with_reducible refine rd_par ?_
  | with_reducible refine rd_two ?_
  | with_reducible refine rd_reprB ?_
  | with_reducible refine rd_ck ?_
  | ((with_reducible refine rd_len ?hl ?_); (case hl => exact rfl))
  | with_reducible refine rd_nT ?_
  | with_reducible refine rd_nF ?_
  | with_reducible refine rd_dnin ?_
  | with_reducible refine rd_isB ?_
  | with_reducible refine rd_isNotB ?_
  | with_reducible refine rd_daug ?_
  | with_reducible refine rd_yesT ?_
  | ((with_reducible refine rd_wp ?hw ?_); (case hw => exact rfl)))
local macro_rules | `(tactic| wtm_at "rd") => `(tactic| repeat wtm_at "rd1")

def valsF (es : List (Str × Str)) (f : Str → Int) (x : Str) (pn : List Str) : List Int := if x ∈ pn then [] else ([0, 1, 2] : List Int).filter (freeB es f x)
theorem movesF_vals {ns : List Str} {es : List (Str × Str)} {f : Str → Int} {pn : List Str} : movesF ns es f pn = ns.flatMap fun n => (valsF es f n pn).map fun v => (n, v) := by
  unfold movesF
  congr 1
  funext n
  unfold valsF
  split
  · rfl
  · rfl
theorem vals_len {es : List (Str × Str)} {f : Str → Int} {x : Str} {pn : List Str} : (valsF es f x pn).length ≤ 3 := by
  unfold valsF
  split
  · simp
  · exact List.length_filter_le _ _
def spVals (K : PySem.W.Frag) : Sp := fun vs H Q _ => ∃ (st al ps : Addr) (x : Str) (ord ys pn : List Str) (es : List (Str × Str)) (f : Str → Int), vs = [.ref st, .str x, .ref al, .ref ps] ∧ H st = some (.dK (kvF ord f)) ∧ x ∈ ord ∧ H al = some (.lst (ys.map V.str)) ∧ (∀ y ∈ ys, y ∈ ord) ∧
  ys.Perm (nbrF es x) ∧ ys.length ≤ 2000 ∧ SqT K H ps (pn.map V.str) ∧ ∀ (l : Addr) (H' : Hp), Same H H' → H l = none → H' l = some (.lst ((valsF es f x pn).map V.int)) → Q (.ref l) H'
section
variable {P : Program} {w : World} {K : PySem.W.Frag} {mg : Str → Option Value} {base : Heap}
theorem ok_vals {f : Addr} {fd : FuncData} {va : Addr} (F : Fun K "values_for" "values_for" s_values_for f fd) (B : Bt mg) (hV : mg "VALUES" = some (.ref va)) (sV : ∀ H, SqT K H va ([0, 1, 2].map V.int)) : FnG P w K mg base CX0 1 f fd ["state", "node", "adjacent", "pinned"] (spVals K) := by
  refine fnG0 F sc_values_for (fun vs H Q E h => ?_) (fun cdv A outer s H vs Q E hr h => ?_)
  · obtain ⟨st, al, ps, x, ord, ys, pn, es, f, rfl, _⟩ := h
    rfl
  · obtain ⟨st, al, ps, x, ord, ys, pn, es, f, rfl, hst, hx, hal, hys, py, yl, hps, q⟩ := h
    have nd := sc_values_for.nd
    have hu := hr.u1
    refine ⟨_, (pss_cons (ps_if (pt_cmpR (kIn K rfl) (pv 1) (pv 3) rfl) (pss_one (ps_ret (pe_lst pa_nil))) pss_nil)
  (pss_cons (ps_set (i := 4) nd rfl (by first | exact Or.inl rfl | exact Or.inr rfl) (pe_op (kAdd K rfl) (pe_lst (pa_cons (pe_dget hu (pv 0) (pv 1) (fun _ _ => rfl)) pa_nil)) (pe_lc (own := [("other", 5)]) rfl nd (ki_list K rfl (pv 2)) (blkOk_by (own := [("other", 5)]) (N := nN_values_for) (sc := defScope s_values_for) (by decide +kernel)) (fun _ _ _ _ _ => (pg_name (i := 5) nd rfl (by first | exact Or.inl rfl | exact Or.inr rfl))) (fun _ _ _ _ _ => pts_nil) (fun _ _ _ _ _ => (pe_dget hu (pv 0) (pv 5) (fun _ _ => rfl))))))
  (pss_one (ps_ret (pe_lc (own := [("value", 6)]) rfl nd (ki_tup K rfl (pe_gl (v := .ref va) rfl ⟨_, hV, rfl⟩)) (blkOk_by (own := [("value", 6)]) (N := nN_values_for) (sc := defScope s_values_for) (by decide +kernel)) (fun _ _ _ _ _ => (pg_name (i := 6) nd rfl (by first | exact Or.inl rfl | exact Or.inr rfl))) (fun _ _ _ _ _ => (pts_one (pt_cmpR (kNotIn K rfl) (pv 6) (pv 4) rfl))) (fun _ _ _ _ _ => (pv 6))))))), ?_⟩
    wtm_at "rd"
    refine rd_inST hps ?_
    wtm_at "rd"
    unfold valsF at q
    refine rd_split (fun c => ?_) (fun c => ?_)
    · rw [if_pos c] at q
      wtm_at "rd"
      exact fun l fl => q l _ (Same.new fl) fl upd_same
    · rw [if_neg c] at q
      wtm_at "rd"
      refine rd_dat (.inl hst) (kvF_val hx) rfl ?_
      wtm_at "rd"
      intro t ft
      have s1 := Same.new (o := .lst [.int (f x)]) ft
      have ht := @upd_same H t (.lst [.int (f x)])
      generalize upd H t (.lst [.int (f x)]) = H1 at s1 ht
      wtm_at "rd"
      refine rd_forL (SqL.of (s1 _ _ hal)) ?_
      intro D fD
      refine lcL (K := K) (xs := ys.map V.str) (fun j H' => Same H1 H' ∧ H' D = some (.lst (((ys.take j).map f).map V.int))) ⟨Same.new fD, upd_same⟩ ?_ ?_ ?_
      · rintro j H' hj ⟨sb, _⟩
        exact SqL.of (sb _ _ (s1 _ _ hal))
      · rintro j y H' hy ⟨sb, hD⟩
        obtain ⟨hj, rfl⟩ := map_at hy
        wtm_at "rd"
        refine rd_dat (.inl (sb _ _ (s1 _ _ hst))) (kvF_val (hys _ (List.getElem_mem hj))) rfl ?_
        refine rd_acc hD (by rw [List.length_map, List.length_map, List.length_take]; omega) ?_
        refine ⟨same_put sb fD, ?_⟩
        rw [upd_same, take_snoc hj, List.map_append, List.map_append]
        rfl
      rintro H2 ⟨sb, hD⟩
      rw [List.length_map, List.take_length] at hD
      have s2 := s1.trans sb
      wtm_at "rd"
      refine rd_catL (sb _ _ ht) hD (by rw [List.length_map, List.length_map]; simp only [List.length_singleton]; omega) ?_
      intro ex fex
      have s3 := same_add (o := .lst ([V.int (f x)] ++ (ys.map f).map V.int)) s2 fex
      have hex : upd H2 ex (.lst ([V.int (f x)] ++ (ys.map f).map V.int)) ex = some (.lst (([f x] ++ ys.map f).map V.int)) := by
        rw [upd_same, List.map_append]
        rfl
      generalize upd H2 ex (.lst ([V.int (f x)] ++ (ys.map f).map V.int)) = H3 at s3 hex
      wtm_at "rd"
      refine rd_forT (sV _) ?_
      intro D2 fD2
      refine lcT (K := K) (xs := ([0, 1, 2] : List Int).map V.int) (fun j H' => Same H3 H' ∧ H' D2 = some (.lst (((([0, 1, 2] : List Int).take j).filter (freeB es f x)).map V.int))) ⟨Same.new fD2, upd_same⟩ ?_ ?_ ?_
      · rintro j H' hj _
        exact sV _
      · rintro j y H' hy ⟨sc, hD2⟩
        obtain ⟨hj, rfl⟩ := map_at hy
        have fb : freeB es f x ([0, 1, 2] : List Int)[j] = !decide (([0, 1, 2] : List Int)[j] ∈ [f x] ++ ys.map f) := by
          unfold freeB
          congr 1
          refine decide_eq_decide.mpr ?_
          rw [List.mem_append, List.mem_append, (py.map f).mem_iff]
          exact Or.comm
        have tj := take_snoc hj
        have fl : ((([0, 1, 2] : List Int).take j).filter (freeB es f x)).length ≤ 3 := by
          have h2 := List.length_filter_le (freeB es f x) (([0, 1, 2] : List Int).take j)
          rw [List.length_take] at h2
          simp only [List.length_cons, List.length_nil] at h2
          omega
        generalize ([0, 1, 2] : List Int)[j] = v at *
        wtm_at "rd"
        refine rd_ninIL (SqL.of (sc _ _ hex)) ?_
        wtm_at "rd"
        rw [← fb]
        cases c2 : freeB es f x v with
        | true =>
          rw [if_pos rfl]
          wtm_at "rd"
          refine rd_acc hD2 (by rw [List.length_map]; omega) ?_
          refine ⟨same_put sc fD2, ?_⟩
          rw [upd_same, tj, List.filter_append, List.map_append, List.filter_cons_of_pos c2, List.filter_nil]
          rfl
        | false =>
          rw [if_neg Bool.false_ne_true]
          refine ⟨sc, ?_⟩
          rw [hD2, tj, List.filter_append, List.filter_cons_of_neg (by rw [c2]; exact Bool.false_ne_true), List.filter_nil, List.append_nil]
      · rintro H4 ⟨sc, hD2⟩
        exact q D2 H4 (s3.trans sc) (new_of_same s3 fD2) hD2
structure C5 (P : Program) (w : World) (K : PySem.W.Frag) (mg : Str → Option Value) (base : Heap) : Prop where
  adjacency : Cal P w K mg base CX0 1 "adjacency" spAdj
  values_for : Cal P w K mg base CX0 1 "values_for" (spVals K)
def spAvail (K : PySem.W.Frag) : Sp := fun vs H Q _ => ∃ (g n e st ps : Addr) (ns ord pn : List Str) (es : List (Addr × Str × Str)) (f : Str → Int), vs = [.ref g, .ref st, .ref ps] ∧ GSt H g n e st ns ord es f ∧ SqT K H ps (pn.map V.str) ∧
  ∀ (l : Addr) (ms : List (Addr × Str × Int)) (H' : Hp), Same H H' → H l = none → H' l = some (.lst (ms.map fun m => V.ref m.1)) → TupsAt H' ms → ms.map (·.2) = movesF ns (es.map (·.2)) f pn → Q (.ref l) H'
end
end Law

namespace Law
open PySem PySem.Spec PyProof.Rows L2 U
local macro_rules | `(tactic| wtm_at "rd1") => `(tactic| first
  | with_reducible refine rd_seq ?_
  | ((with_reducible refine rd_var (v := ?vv) ?hv ?_); (case hv => exact rfl))
  | with_reducible refine rd_c ?_
  | with_reducible refine rd_cons ?_
  | with_reducible refine rd_nil ?_
  | with_reducible refine rd_op ?_
  | with_reducible refine rd_asg ?_
  | with_reducible refine rd_name ?_
  | with_reducible refine rd_c1 ?_
  | with_reducible refine rd_cb ?_
  | with_reducible refine rd_test ?_
  | with_reducible refine rd_B ?_
  | with_reducible refine rd_bl ?_
  | with_reducible refine rd_if ?_
  | with_reducible refine rd_ret ?_
  | with_reducible refine rd_drop ?_
  | with_reducible refine rd_next ?_
  | with_reducible refine rd_addI ?_
  | with_reducible refine rd_ltI ?_
  | with_reducible refine rd_eqI ?_
  | with_reducible refine rd_neI ?_
  | with_reducible refine rd_eqS ?_
  | with_reducible refine rd_neS ?_
  | with_reducible refine rd_gtI ?_
  | with_reducible refine rd_geI ?_
  | with_reducible refine rd_leI ?_
  | with_reducible refine rd_ltS ?_
  | with_reducible refine rd_subI ?_
  | ((with_reducible refine rd_modI ?hc ?_); (case hc => first | decide | omega))
  | ((with_reducible refine rd_mulI ?hc ?_); (case hc => first | exact mul_bI | exact .inl (.inr (by decide)) | exact .inl (.inl (by decide)) | exact .inl (.inr (by omega)) | exact .inl (.inl (by omega))))
  | ((with_reducible refine rd_divI ?hc ?_); (case hc => first | decide | omega))
  | ((with_reducible refine rd_powI ?hc ?_); (case hc => exact ⟨by decide, by decide, by decide⟩))
  | with_reducible refine rd_lst ?_
  | with_reducible refine rd_tup ?_
  | ((with_reducible refine rd_sz ?hv ?_); (case hv => exact rfl))
  | with_reducible refine rd_and ?_
  | with_reducible refine rd_or ?_
  | with_reducible refine rd_not ?_
  | with_reducible refine rd_andV ?_
  | with_reducible refine rd_orV ?_
  | with_reducible refine rd_notV ?_
  | with_reducible refine rd_ifE ?_
  | with_reducible refine rd_T ?_
  | with_reducible refine rd_F ?_
  | with_reducible refine rd_chain ?_
  | with_reducible refine rd_is ?_
  | with_reducible refine rd_isNot ?_
  | with_reducible refine rd_absI ?_
  | with_reducible refine rd_maxI ?_
  | with_reducible refine rd_minI ?_
  | with_reducible refine rd_intI ?_
  | with_reducible refine rd_intB ?_
  | with_reducible refine rd_sub ?_
  | with_reducible refine rd_sl ?_
  | with_reducible refine rd_noPart ?_
  | with_reducible refine rd_part ?_
  | with_reducible refine rd_exI ?_
  | with_reducible refine rd_bm ?_
  | with_reducible refine rd_bm0 ?_
  | with_reducible refine rd_un ?_
  | with_reducible refine rd_neg ?_
  | with_reducible refine rd_c2 ?_
  | with_reducible refine rd_retN ?_
  | with_reducible refine rd_break ?_
  | with_reducible refine rd_cont ?_
  | with_reducible refine rd_for ?_
  | with_reducible refine rd_rng1 ?_
  | with_reducible refine rd_rng2 ?_
  | with_reducible refine rd_iList ?_
  | with_reducible refine rd_iTup ?_
  | with_reducible refine rd_iEnum ?_
  | ((with_reducible refine rd_forR ?h0 ?h1 ?_); (case h0 => omega); (case h1 => omega))
  | with_reducible refine rd_lc ?_
  | with_reducible refine rd_gcons ?_
  | with_reducible refine rd_gnil ?_
  | with_reducible refine rd_dget ?_
  | with_reducible refine rd_dput ?_
  | with_reducible refine rd_dnew ?_
  | with_reducible refine rd_dc ?_
  | with_reducible refine rd_iItems ?_
  | with_reducible refine rd_iKeys ?_
  | with_reducible refine rd_din ?_
  | with_reducible refine rd_lc2 ?_
  | with_reducible refine rd_cd ?_
  | with_reducible refine rd_par ?_
  | with_reducible refine rd_two ?_
  | with_reducible refine rd_reprB ?_
  | with_reducible refine rd_ck ?_
  | ((with_reducible refine rd_len ?hl ?_); (case hl => exact rfl))
  | with_reducible refine rd_nT ?_
  | with_reducible refine rd_nF ?_
  | with_reducible refine rd_dnin ?_
  | with_reducible refine rd_isB ?_
  | with_reducible refine rd_isNotB ?_
  | with_reducible refine rd_daug ?_
  | with_reducible refine rd_yesT ?_
  | ((with_reducible refine rd_wp ?hw ?_); (case hw => exact rfl)))
local macro_rules | `(tactic| wtm_at "rd") => `(tactic| repeat wtm_at "rd1")

def spIsInt (K : PySem.W.Frag) : Sp := fun vs H Q _ => ∃ (x : V) (a : Ty), vs = [x] ∧ TyIs K H x a ∧ Q (.bl (decide (a = .int))) H
def spHas : Sp := fun vs H Q _ => ∃ (g n e : Addr) (x : Str) (ns : List Str) (es : List (Addr × Str × Str)), vs = [.ref g, .str x] ∧ GrAt H g n e ns es ∧ Q (.bl (decide (x ∈ ns))) H
def spIsVal : Sp := fun vs H Q _ => ∃ v : Int, vs = [.int v] ∧ Q (.bl (decide (0 ≤ v) && decide (v ≤ 2))) H
def spIsMove (K : PySem.W.Frag) : Sp := fun vs H Q _ => ∃ (g n e st ad c ps : Addr) (x : Str) (v : Int) (ns ord pn : List Str) (es : List (Addr × Str × Str)) (f : Str → Int) (Ad : Str → Addr), vs = [.ref g, .ref st, .ref ad, .ref c, .ref ps] ∧ GSt H g n e st ns ord es f ∧
  AdjAt H ad ns (es.map (·.2)) Ad ∧ H c = some (.tup [.str x, .int v]) ∧ Legal ns (es.map (·.2)) f pn (x, v) ∧ SqT K H ps (pn.map V.str) ∧ ∀ H' : Hp, Same H H' → Q (.bl true) H'
def playF (f : Str → Int) (ms : List (Str × Int)) : Str → Int := ms.foldl (fun f m => updf f m.1 m.2) f
def LegalSeq (ns : List Str) (es : List (Str × Str)) (pn : List Str) (f : Str → Int) (ms : List (Str × Int)) : Prop := ∀ i (h : i < ms.length), Legal ns es (playF f (ms.take i)) pn ms[i]
theorem playF_snoc {f : Str → Int} {ms : List (Str × Int)} {m : Str × Int} : playF f (ms ++ [m]) = updf (playF f ms) m.1 m.2 := by
  unfold playF
  rw [List.foldl_append]
  rfl
theorem plays_seq {ns : List Str} {es : List (Str × Str)} {pn : List Str} {f : Str → Int} {ms : List (Str × Int)} {f' : Str → Int} (h : Plays ns es pn f ms f') : LegalSeq ns es pn f ms ∧ f' = playF f ms := by
  induction h with
  | nil => exact ⟨(fun i h => nomatch h), rfl⟩
  | @snoc ms f' m p l ih =>
    obtain ⟨i1, i2⟩ := ih
    refine ⟨fun i h => ?_, by rw [playF_snoc, ← i2]⟩
    rw [List.length_append, List.length_singleton] at h
    by_cases c : i < ms.length
    · rw [List.take_append_of_le_length (by omega), List.getElem_append_left c]
      exact i1 i c
    · have : i = ms.length := by omega
      subst this
      rw [List.take_append_of_le_length (Nat.le_refl _), List.take_length, List.getElem_append_right (Nat.le_refl _)]
      simp only [Nat.sub_self, List.getElem_cons_zero]
      rw [← i2]
      exact l
theorem upd_ok {ns : List Str} {es : List (Str × Str)} {pn : List Str} {f : Str → Int} {m : Str × Int} (ok : EsOk ns es f) (l : Legal ns es f pn m) : EsOk ns es (updf f m.1 m.2) := by
  refine (move_keeps (f0 := f) (h := fun _ => 0) ok l fun e _ => ?_).1
  omega
theorem seq_ok {ns : List Str} {es : List (Str × Str)} {pn : List Str} {f : Str → Int} {ms : List (Str × Int)} (ok : EsOk ns es f) (l : LegalSeq ns es pn f ms) : ∀ i, i ≤ ms.length → EsOk ns es (playF f (ms.take i))
  | 0, _ => by
    rw [List.take_zero]
    exact ok
  | i + 1, h => by
    rw [take_snoc (by omega : i < ms.length), playF_snoc]
    exact upd_ok (seq_ok ok l i (by omega)) (l i (by omega))
theorem GSt.re {H : Hp} {g n e st st' : Addr} {ns ord : List Str} {es : List (Addr × Str × Str)} {f f' : Str → Int} (h : GSt H g n e st ns ord es f) (hs : H st' = some (.dK (kvF ord f'))) (ok : EsOk ns (es.map (·.2)) f') : GSt H g n e st' ns ord es f' :=
  ⟨h.gr, h.ok, h.pm, h.l2, h.l3, hs, ok.tri, fun x hx => ok.pro _ (List.mem_map_of_mem hx)⟩
def spApply (K : PySem.W.Frag) : Sp := fun vs H Q _ => ∃ (g n e st mv ps : Addr) (ns ord pn : List Str) (es : List (Addr × Str × Str)) (f : Str → Int) (ms : List (Addr × Str × Int)), vs = [.ref g, .ref st, .ref mv, .ref ps] ∧ GSt H g n e st ns ord es f ∧
  H mv = some (.lst (ms.map fun m => V.ref m.1)) ∧ TupsAt H ms ∧ LegalSeq ns (es.map (·.2)) pn f (ms.map (·.2)) ∧ SqT K H ps (pn.map V.str) ∧
  ∀ (d : Addr) (H' : Hp), Same H H' → H d = none → H' d = some (.dK (kvF ord (playF f (ms.map (·.2))))) → Q (.ref d) H'
def spCheck : Sp := fun vs H Q _ => ∃ (g n e st : Addr) (ns ord : List Str) (es : List (Addr × Str × Str)) (f : Str → Int), vs = [.ref g, .ref st] ∧ GSt H g n e st ns ord es f ∧ ∀ H' : Hp, Same H H' → Q .non H'
def spPins : Sp := fun vs H Q _ => ∃ (p g n e st : Addr) (ns ord : List Str) (es : List (Addr × Str × Str)) (f : Str → Int), vs = [.ref p, .ref g] ∧ PoolAt H p ∧ GSt H g n e st ns ord es f ∧
  ∀ (t : Addr) (pn : List Str) (H' : Hp), Go p H H' → H t = none → H' t = some (.tup (pn.map V.str)) → (∀ x ∈ pn, x ∈ ns) → pn.length ≤ 100 → Q (.ref t) H'
section
variable {P : Program} {w : World} {K : PySem.W.Frag} {mg : Str → Option Value} {base : Heap}
theorem ok_is_integer {f : Addr} {fd : FuncData} (F : Fun K "is_integer" "is_integer" s_is_integer f fd) (B : Bt mg) (Bb : mg "bool" = none) : FnG P w K mg base CX0 1 f fd ["candidate"] (spIsInt K) := by
  refine fnG0 F sc_is_integer (fun vs H Q E h => ?_) (fun cdv A outer s H vs Q E hr h => ?_)
  · obtain ⟨x, a, rfl, _⟩ := h
    rfl
  · obtain ⟨x, a, rfl, hx, q⟩ := h
    have nd := sc_is_integer.nd
    refine ⟨_, (pss_one (ps_ret (pe_and (pe_callB (kIsi K rfl) (by rfl) B.isinstance bb_isinstance (pa_cons (pv 0) (pa_cons (pe_ty rfl B.int bb_int) pa_nil))) (pe_one (pe_not (pe_callB (kIsi K rfl) (by rfl) B.isinstance bb_isinstance (pa_cons (pv 0) (pa_cons (pe_ty rfl Bb bb_bool) pa_nil)))))))), ?_⟩
    wtm_at "rd"
    refine rd_isi hx (t := .int) (by decide +kernel) ?_
    wtm_at "rd"
    refine rd_b (fun c => ?_) (fun c => ?_)
    · wtm_at "rd"
      refine rd_isi hx (t := .bl) (by decide +kernel) ?_
      wtm_at "rd"
      have : (!isT a .bl) = decide (a = .int) := by revert c; cases a <;> decide +kernel
      rw [this]
      exact q
    · have : decide (a = Ty.int) = false := by revert c; cases a <;> decide +kernel
      rw [this] at q
      exact q
theorem ok_has {f : Addr} {fd : FuncData} (F : Fun K "has_node" "has_node" s_has_node f fd) (B : Bt mg) : FnG P w K mg base CX0 1 f fd ["graph", "candidate"] spHas := by
  refine fnG0 F sc_has_node (fun vs H Q E h => ?_) (fun cdv A outer s H vs Q E hr h => ?_)
  · obtain ⟨g, n, e, x, ns, es, rfl, _⟩ := h
    rfl
  · obtain ⟨g, n, e, x, ns, es, rfl, hg, q⟩ := h
    have nd := sc_has_node.nd
    refine ⟨_, (pss_one (ps_ret (pe_and (pe_callB (kIsi K rfl) (by rfl) B.isinstance bb_isinstance (pa_cons (pv 1) (pa_cons (pe_ty rfl B.str bb_str) pa_nil))) (pe_one (pe_cmpR (kIn K rfl) (pv 1) (pe_ix (kIx K rfl) (pv 0) pe_int (fun _ _ => rfl)) rfl))))), ?_⟩
    wtm_at "rd"
    refine rd_isi ty_str (t := .str) (by decide +kernel) ?_
    rw [show isT .str .str = true from by decide +kernel]
    wtm_at "rd"
    refine rd_ixT (SqT.of hg.top) (v := .ref n) rfl ?_
    refine rd_inST (SqT.of hg.nodes) ?_
    exact q
structure C6 (P : Program) (w : World) (K : PySem.W.Frag) (mg : Str → Option Value) (base : Heap) : Prop where
  is_integer : Cal P w K mg base CX0 1 "is_integer" (spIsInt K)
theorem ok_is_value {f : Addr} {fd : FuncData} (F : Fun K "is_value" "is_value" s_is_value f fd) (B : Bt mg) (C : C6 P w K mg base) : FnG P w K mg base CX0 2 f fd ["candidate"] spIsVal := by
  refine fnG0 F sc_is_value (fun vs H Q E h => ?_) (fun cdv A outer s H vs Q E hr h => ?_)
  · obtain ⟨v, rfl, _⟩ := h
    rfl
  · obtain ⟨v, rfl, q⟩ := h
    have nd := sc_is_value.nd
    refine ⟨_, (pss_one (ps_ret (pe_and (pe_c C.is_integer hr (by decide) rfl (pa_cons (pv 0) pa_nil)) (pe_one (pe_chain uLe uLe pe_int (pv 0) pe_int))))), ?_⟩
    wtm_at "rd"
    refine ⟨_, .int, rfl, ty_int, ?_⟩
    wtm_at "rd"
    refine rd_T ?_
    wtm_at "rd"
    refine rd_split (fun c => ?_) (fun c => ?_)
    · wtm_at "rd"
      rw [decide_eq_true c, Bool.true_and] at q
      exact q
    · rw [decide_eq_false c, Bool.false_and] at q
      exact q
structure C7 (P : Program) (w : World) (K : PySem.W.Frag) (mg : Str → Option Value) (base : Heap) : Prop where
  has_node : Cal P w K mg base CX0 1 "has_node" spHas
  is_value : Cal P w K mg base CX0 2 "is_value" spIsVal
  values_for : Cal P w K mg base CX0 1 "values_for" (spVals K)
theorem ok_is_move {f : Addr} {fd : FuncData} (F : Fun K "is_move" "is_move" s_is_move f fd) (B : Bt mg) (C : C7 P w K mg base) : FnG P w K mg base CX0 3 f fd ["graph", "state", "adjacent", "candidate", "pinned"] (spIsMove K) := by
  refine fnG0 F sc_is_move (fun vs H Q E h => ?_) (fun cdv A outer s H vs Q E hr h => ?_)
  · obtain ⟨g, n, e, st, ad, c, ps, x, v, ns, ord, pn, es, f, Ad, rfl, _⟩ := h
    rfl
  · obtain ⟨g, n, e, st, ad, c, ps, x, v, ns, ord, pn, es, f, Ad, rfl, gs, had, hc, lg, hps, q⟩ := h
    have nd := sc_is_move.nd
    have hu := hr.u1
    refine ⟨_, (pss_cons (ps_if (PW.pt (pw_or (pt_not (pt_val (pe_callB (kIsi K rfl) (by rfl) B.isinstance bb_isinstance (pa_cons (pv 3) (pa_cons (pe_ty rfl B.tuple bb_tuple) pa_nil))))) (pw_or1 (pt_cmpR (kNe K rfl hr.u64) (pe_callB (kLen K rfl) (by rfl) B.len bb_len (pa_cons (pv 3) pa_nil)) pe_int (nomark _))))) (pss_one (ps_ret pe_bl)) pss_nil)
  (pss_cons (ps_if (PW.pt (pw_or (pt_not (pt_val (pe_c C.has_node hr (by decide) rfl (pa_cons (pv 0) (pa_cons (pe_ix (kIx K rfl) (pv 3) pe_int (fun _ _ => rfl)) pa_nil))))) (pw_or1 (pt_not (pt_val (pe_c C.is_value hr (by decide) rfl (pa_cons (pe_ix (kIx K rfl) (pv 3) pe_int (fun _ _ => rfl)) pa_nil))))))) (pss_one (ps_ret pe_bl)) pss_nil)
  (pss_one (ps_ret (pe_cmpR (kIn K rfl) (pe_ix (kIx K rfl) (pv 3) pe_int (fun _ _ => rfl)) (pe_c C.values_for hr (by decide) rfl (pa_cons (pv 1) (pa_cons (pe_ix (kIx K rfl) (pv 3) pe_int (fun _ _ => rfl)) (pa_cons (pe_dget hu (pv 2) (pe_ix (kIx K rfl) (pv 3) pe_int (fun _ _ => rfl)) (fun _ _ => rfl)) (pa_cons (pv 4) pa_nil))))) rfl))))), ?_⟩
    have hm : x ∈ ns := lg.mem
    have hv := lg.val
    simp only at hv
    obtain ⟨ys, y1, y2, _⟩ := had.li _ hm
    have yl : ys.length ≤ 2000 := by
      have := nbrF_len (x := x) (es := es.map (·.2))
      rw [List.length_map] at this
      rw [y2.length_eq]
      have := gs.l3
      omega
    have yin : ∀ y ∈ ys, y ∈ ord := fun y hy => by
      rcases mem_nbrF.mp (y2.mem_iff.mp hy) with h | h
      · exact gs.inO _ (gs.ok.mem _ h).2
      · exact gs.inO _ (gs.ok.mem _ h).1
    wtm_at "rd"
    refine rd_isi (ty_tup hc) (t := .tup) (by decide +kernel) ?_
    rw [show isT .tup .tup = true from by decide +kernel]
    wtm_at "rd"
    refine rd_lenT (SqT.of hc) ?_
    wtm_at "rd"
    refine rd_nno rfl ?_
    wtm_at "rd"
    refine rd_ixT (SqT.of hc) (v := .str x) rfl ?_
    wtm_at "rd"
    refine ⟨g, n, e, x, ns, es, rfl, gs.gr, ?_⟩
    rw [decide_eq_true hm]
    wtm_at "rd"
    refine rd_ixT (SqT.of hc) (v := .int v) rfl ?_
    wtm_at "rd"
    refine ⟨v, rfl, ?_⟩
    rw [decide_eq_true hv.1, decide_eq_true (by omega : v ≤ 2), Bool.and_self]
    wtm_at "rd"
    refine rd_ixT (SqT.of hc) (v := .int v) rfl ?_
    wtm_at "rd"
    refine rd_ixT (SqT.of hc) (v := .str x) rfl ?_
    wtm_at "rd"
    refine rd_ixT (SqT.of hc) (v := .str x) rfl ?_
    refine rd_dat (.inl had.di) (kvG_val hm) rfl ?_
    wtm_at "rd"
    refine ⟨st, _, ps, x, ord, ys, pn, es.map (·.2), f, rfl, gs.st, gs.inO _ hm, y1, yin, y2, yl, hps, fun l H' s1 fl hl => ?_⟩
    refine rd_inIL (SqL.of hl) ?_
    have hin : v ∈ valsF (es.map (·.2)) f x pn := by
      unfold valsF
      rw [if_neg lg.pin]
      refine List.mem_filter.mpr ⟨?_, ?_⟩
      · have : v = 0 ∨ v = 1 ∨ v = 2 := by omega
        rcases this with rfl | rfl | rfl <;> simp
      · unfold freeB
        rw [Bool.not_eq_true', decide_eq_false_iff_not]
        intro z
        rcases List.mem_append.mp z with z | z
        · obtain ⟨y, hy, ey⟩ := List.mem_map.mp z
          exact lg.nbr y (mem_nbrF.mp hy) ey.symm
        · rw [List.mem_singleton] at z
          exact lg.own z
    rw [decide_eq_true hin]
    exact q H' s1
structure C8 (P : Program) (w : World) (K : PySem.W.Frag) (mg : Str → Option Value) (base : Heap) : Prop where
  adjacency : Cal P w K mg base CX0 1 "adjacency" spAdj
  is_move : Cal P w K mg base CX0 3 "is_move" (spIsMove K)
theorem ok_apply {f : Addr} {fd : FuncData} (F : Fun K "apply_moves" "apply_moves" s_apply_moves f fd) (B : Bt mg) (C : C8 P w K mg base) : FnG P w K mg base CX0 4 f fd ["graph", "state", "moves", "pinned"] (spApply K) := by
  refine fnG0 F sc_apply_moves (fun vs H Q E h => ?_) (fun cdv A outer s H vs Q E hr h => ?_)
  · obtain ⟨g, n, e, st, mv, ps, ns, ord, pn, es, f, ms, rfl, _⟩ := h
    rfl
  · obtain ⟨g, n, e, st, mv, ps, ns, ord, pn, es, f, ms, rfl, gs, hmv, tm, lq, hps, q⟩ := h
    have nd := sc_apply_moves.nd
    have hu := hr.u1
    refine ⟨_, (pss_cons (ps_if (pt_not (pt_val (pe_callB (kIsi K rfl) (by rfl) B.isinstance bb_isinstance (pa_cons (pv 2) (pa_cons (pe_ty rfl B.list bb_list) pa_nil))))) (pss_one ps_dead) pss_nil)
  (pss_cons (ps_set (i := 4) nd rfl (by first | exact Or.inl rfl | exact Or.inr rfl) (pe_c C.adjacency hr (by decide) rfl (pa_cons (pv 0) pa_nil)))
  (pss_cons (ps_set (i := 5) nd rfl (by first | exact Or.inl rfl | exact Or.inr rfl) (pe_callTy cDict (by rfl) B.dict bb_dict (pa_cons (pv 1) pa_nil)))
  (pss_cons (ps_for PassesOwn.never rfl (pi_enum (by rfl) B.enumerate (pa_cons (pv 2) pa_nil)) (kg_tup (n := 2) K rfl rfl (pgs_cons (pg_name (i := 6) nd rfl (by first | exact Or.inl rfl | exact Or.inr rfl)) (pgs_cons (pg_name (i := 7) nd rfl (by first | exact Or.inl rfl | exact Or.inr rfl)) pgs_nil))) (pss_cons (ps_if (pt_not (pt_val (pe_c C.is_move hr (by decide) rfl (pa_cons (pv 0) (pa_cons (pv 5) (pa_cons (pv 4) (pa_cons (pv 7) (pa_cons (pv 3) pa_nil)))))))) (pss_one ps_dead) pss_nil)
  (pss_one (ps_dput hu (pv 5) (pe_ix (kIx K rfl) (pv 7) pe_int (fun _ _ => rfl)) (pe_ix (kIx K rfl) (pv 7) pe_int (fun _ _ => rfl)) rfl))))
  (pss_one (ps_ret (pv 5))))))), ?_⟩
    wtm_at "rd"
    refine rd_isi (ty_lst hmv) (t := .lst) (by decide +kernel) ?_
    rw [show isT .lst .lst = true from by decide +kernel]
    wtm_at "rd"
    refine ⟨g, n, e, ns, es, rfl, gs.grs, fun ad Ad H1 s1 _ had => ?_⟩
    wtm_at "rd"
    refine ⟨_, .inl (s1 _ _ gs.st), fun c fc => ?_⟩
    have fc0 := new_of_same s1 fc
    have s2 := same_add (o := .dK (kvF ord f)) s1 fc
    have had2 := had.same (Same.new (o := .dK (kvF ord f)) fc)
    have hc2 := @upd_same H1 c (.dK (kvF ord f))
    have nca : c ≠ ad := Ne.symm (ne_of_none had.di fc)
    have ncl : ∀ m ∈ ns, Ad m ≠ c := fun m hm => by
      obtain ⟨ys, y1, _⟩ := had.li m hm
      exact ne_of_none y1 fc
    generalize upd H1 c (.dK (kvF ord f)) = H2 at s2 had2 hc2
    wtm_at "rd"
    refine rd_forE (SqL.of (s2 _ _ hmv)) ?_
    refine turnsW (walk_enum (K := K) (a := mv) (xs := ms.map fun m => V.ref m.1)) (fun i σ H' => ∃ u6 u7 : Option V, σ = [some (.ref g), some (.ref st), some (.ref mv), some (.ref ps), some (.ref ad), some (.ref c), u6, u7] ∧ Same H H' ∧ AdjAt H' ad ns (es.map (·.2)) Ad ∧ H' c = some (.dK (kvF ord (playF f ((ms.map (·.2)).take i)))))
      ⟨_, _, rfl, s2, had2, hc2⟩ ?_ ?_ ?_
    · rintro i σ H' hi ⟨u6, u7, rfl, s, _⟩
      exact SqL.of (s _ _ hmv)
    · rintro i y σ H3 H4 hi ⟨u6, u7, rfl, s, ha, hc⟩ ⟨T, x1, y1, rfl, fT, rfl, e1, e2⟩
      have hx := Option.some.inj e1
      subst hx
      obtain ⟨hin, rfl⟩ := map_at e2
      have hmem := List.getElem_mem hin
      have hi2 : i < (ms.map (·.2)).length := by rw [List.length_map]; exact hin
      have lg := lq i hi2
      have okf := seq_ok gs.eok lq i (by omega)
      have tk := take_snoc hi2
      rw [List.getElem_map] at lg tk
      have sT := same_add (o := .tup [.int (i : Nat), .ref ms[i].1]) s fT
      have haT := ha.same (Same.new (o := .tup [.int (i : Nat), .ref ms[i].1]) fT)
      have hcT := at_upd (o := .tup [.int (i : Nat), .ref ms[i].1]) (ne_of_none hc fT) hc
      refine rd_unp (SqT.of upd_same) rfl ?_
      generalize upd H3 T (.tup [.int (i : Nat), .ref ms[i].1]) = H5 at sT haT hcT
      have htm := tm _ hmem
      generalize ms[i] = m at *
      wtm_at "rd"
      refine ⟨g, n, e, c, ad, m.1, ps, m.2.1, m.2.2, ns, ord, pn, es, _, Ad, rfl, (gs.same sT).re hcT okf, haT, sT _ _ htm, lg, Same.seqT sT hps, fun H6 s6 => ?_⟩
      wtm_at "rd"
      have s06 := sT.trans s6
      refine rd_ixT (SqT.of (s06 _ _ htm)) (v := .int m.2.2) rfl ?_
      wtm_at "rd"
      refine rd_ixT (SqT.of (s06 _ _ htm)) (v := .str m.2.1) rfl ?_
      refine rd_dset (s6 _ _ hcT) (k := .inr m.2.1) rfl (by rw [List.length_map, gs.pm.length_eq]; have := gs.l2; omega) ?_
      rw [kvF_put (gs.inO _ lg.mem)]
      refine ⟨_, _, rfl, same_put s06 fc0, ?_, ?_⟩
      · have h6 := haT.same s6
        refine ⟨at_upd (Ne.symm nca) h6.di, fun m' hm' => ?_⟩
        obtain ⟨ys, z1, z2⟩ := h6.li m' hm'
        exact ⟨ys, at_upd (ncl m' hm') z1, z2⟩
      · rw [upd_same, tk, playF_snoc]
    · rintro σ H3 ⟨u6, u7, rfl, s, ha, hc⟩
      rw [List.length_map, List.take_of_length_le (by rw [List.length_map]; exact Nat.le_refl _)] at hc
      wtm_at "rd"
      exact q c H3 s fc0 hc
structure C9 (P : Program) (w : World) (K : PySem.W.Frag) (mg : Str → Option Value) (base : Heap) : Prop where
  is_value : Cal P w K mg base CX0 2 "is_value" spIsVal
  _law_draw : Cal P w K mg base CX0 1 "_law_draw" spDraw
structure C9p (P : Program) (w : World) (K : PySem.W.Frag) (mg : Str → Option Value) (base : Heap) : Prop where
  _law_draw : Cal P w K mg base CX0 1 "_law_draw" spDraw
theorem ok_pins {f : Addr} {fd : FuncData} (F : Fun K "_law_draw_pins" "_law_draw_pins" s__law_draw_pins f fd) (B : Bt mg) (C : C9p P w K mg base) : FnG P w K mg base CX0 2 f fd ["_law_pool_here", "_law_graph"] spPins := by
  refine fnG0 F sc__law_draw_pins (fun vs H Q E h => ?_) (fun cdv A outer s H vs Q E hr h => ?_)
  · obtain ⟨p, g, n, e, st, ns, ord, es, f, rfl, _⟩ := h
    rfl
  · obtain ⟨p, g, n, e, st, ns, ord, es, f, rfl, hp, gs, q⟩ := h
    have nd := sc__law_draw_pins.nd
    refine ⟨_, (pss_cons (ps_if (pt_cmpR (kEq K rfl hr.u64) (pe_c C._law_draw hr (by decide) rfl (pa_cons (pv 0) (pa_cons pe_int pa_nil))) pe_int (nomark _)) (pss_one (ps_ret (pe_tup pa_nil))) pss_nil)
  (pss_one (ps_ret (pe_callTy (kTuple K rfl) (by rfl) B.tuple bb_tuple (pa_cons (pe_lc (own := [("_law_node", 2)]) rfl nd (ki_tup K rfl (pe_ix (kIx K rfl) (pv 1) pe_int (fun _ _ => rfl))) (blkOk_by (own := [("_law_node", 2)]) (N := nN__law_draw_pins) (sc := defScope s__law_draw_pins) (by decide +kernel)) (fun _ _ _ _ _ => (pg_name (i := 2) nd rfl (by first | exact Or.inl rfl | exact Or.inr rfl))) (fun _ _ _ _ _ => (pts_one (pt_cmpR (kEq K rfl hr.u64) (pe_c C._law_draw hr (by decide) rfl (pa_cons (pv 0) (pa_cons pe_int pa_nil))) pe_int (nomark _)))) (fun _ _ _ _ _ => (pv 2))) pa_nil))))), ?_⟩
    wtm_at "rd"
    refine use_draw hp (by decide) (by decide) fun r H1 r0 r1 g1 => ?_
    wtm_at "rd"
    refine rd_split (fun c => ?_) (fun c => ?_)
    · wtm_at "rd"
      intro t ft
      exact q t [] _ (g1.new ft) (g1.free _ ft) upd_same (fun x hx => nomatch hx) (by decide)
    · wtm_at "rd"
      have gs1 := gs.go hp g1
      refine rd_ixT (SqT.of gs1.gr.top) (v := .ref n) rfl ?_
      refine rd_forT (SqT.of gs1.gr.nodes) ?_
      intro D fD
      have fD0 := g1.free _ fD
      have npD := g1.pool.ne fD
      refine lcT (K := K) (xs := ns.map V.str) (fun i H' => ∃ pn : List Str, Go p H H' ∧ H' D = some (.lst (pn.map V.str)) ∧ (∀ x ∈ pn, x ∈ ns) ∧ pn.length ≤ i) ⟨[], g1.new fD, upd_same, (fun x hx => nomatch hx), by decide⟩ ?_ ?_ ?_
      · rintro i H' hi ⟨pn, g, _⟩
        exact SqT.of (gs.go hp g).gr.nodes
      · rintro i y H' hy ⟨pn, g, hD, hin, hl⟩
        obtain ⟨hi, rfl⟩ := map_at hy
        have hm := List.getElem_mem hi
        wtm_at "rd"
        refine use_draw g.pool (by decide) (by decide) fun r2 H2 _ _ g2 => ?_
        have g3 := g.trans g2
        have hD2 := g2.at hD (Ne.symm npD)
        wtm_at "rd"
        refine rd_split (fun c2 => ?_) (fun c2 => ?_)
        · wtm_at "rd"
          refine rd_acc hD2 (by rw [List.length_map]; have := gs.l2; omega) ?_
          refine ⟨pn ++ [ns[i]], g3.put fD0 npD, ?_, ?_, by rw [List.length_append]; simp only [List.length_singleton]; omega⟩
          · rw [upd_same, List.map_append]
            rfl
          · intro x hx
            rcases List.mem_append.mp hx with h | h
            · exact hin x h
            · rw [List.mem_singleton] at h
              rw [h]
              exact hm
        · exact ⟨pn, g3, hD2, hin, by omega⟩
      rintro H3 ⟨pn, g, hD, hin, hl⟩
      rw [List.length_map] at hl
      wtm_at "rd"
      refine rd_tupleL (SqL.of hD) ?_
      intro t ft
      exact q t pn _ (g.new ft) (g.free _ ft) upd_same hin (by have := gs.l2; omega)
end
end Law

/-! exceptions that outlive their handler; own classes over own classes -/
namespace U
open PySem PySem.Spec PyProof.Rows L2
/-- at a: an exception of the class cls, its dict at d -/
def exk (a : Addr) (cls : Value) (d : Option Addr) : HO := .ext fun h => ∃ oe vs, h.get? a = some oe ∧ Zc cls d oe ∧ oe.data = .fields vs
theorem exk_ok {P : Program} {w : World} {H : Hp} {h : Heap} {a : Addr} {cls : Value} {d : Option Addr} {oe : Obj} {vs : Array Value} (e : h.get? a = some oe) (z : Zc cls d oe) (f : oe.data = .fields vs) : ObjOk P w H h a (exk a cls d) := by
  refine ⟨⟨oe, vs, e, z, f⟩, ⟨_, e⟩, fun h1 h2 t k => ?_⟩
  obtain ⟨o2, v2, e2, z2, f2⟩ := t
  exact ⟨o2, v2, k _ e2, z2, f2⟩
theorem exk_at {P : Program} {w : World} {H : Hp} {h : Heap} {a : Addr} {cls : Value} {d : Option Addr} (hok : HOk P w H h) (e : H a = some (exk a cls d)) : ∃ oe vs, h.get? a = some oe ∧ Zc cls d oe ∧ oe.data = .fields vs := by
  have t : ObjOk P w H h a (.ext fun h => ∃ oe vs, h.get? a = some oe ∧ Zc cls d oe ∧ oe.data = .fields vs) := hok a _ e
  exact t.1
section
variable {X : Cx} {pins : List (Addr × Obj)} {σ : L2.St} {H : Hp} {sI s' : Shared} {B : Heap} {a : Addr} {cls : Value} {d : Option Addr} {oe : Obj} {vs : Array Value}
/-- back on the ground, the exception tracked -/
theorem landed_k (I : Inv X pins σ H sI) (nb : ∀ b o, sI.heap.get? b = some o → b ∉ frs X.stack → B.get? b = some o) (st : B.StaysIn s'.heap) (up : sI.heap.UpToSlots s'.heap) (os : s'.os = sI.os) (ag : AllBare s'.gens)
    (hB : B.get? a = none) (nfr : a ∉ frs X.stack) (na : H a = none) (he : s'.heap.get? a = some oe) (hz : Zc cls d oe) (hd : oe.data = .fields vs) : Inv X pins σ (upd H a (exk a cls d)) s' := by
  have fr : ∀ b ∈ frs X.stack, ∀ o, sI.heap.get? b = some o → ∃ sl, s'.heap.get? b = some { o with slots := sl } := by
    intro b hb o e
    obtain ⟨_, o1, e1, h1⟩ := I.stack.mem hb
    rw [e] at e1
    cases e1
    exact up b o e h1
  have sIa : ∀ o, sI.heap.get? a ≠ some o := fun o e => by
    rw [nb a o e nfr] at hB
    cases hB
  have ok1 : HOk X.prog X.w H s'.heap := (I.inGround nb).kept st
  have ok2 : HOk X.prog X.w (upd H a (exk a cls d)) s'.heap := by
    intro b o e
    by_cases hb : b = a
    · subst hb
      rw [upd_same] at e
      cases e
      exact exk_ok he hz hd
    · rw [upd_ne hb] at e
      exact (ok1 b o e).stay (fun c v _ q => q) (fun c q => at_upd (ne_of_none q na) q) fun c xs q => at_upd (ne_of_none q na) q
  have J := I.call (ch := []) (h' := s'.heap) (g' := s'.gens) (t' := s'.toks) (d' := s'.drawn) (H' := upd H a (exk a cls d))
    { keep := fun b o e _ hb _ => st b o (nb b o e hb)
      slot := fun b o e _ hb _ => fr b hb o e
      free := fun b o e n _ => no_upd (fun z => sIa o (by rw [← z]; exact e)) n
      there := fun b o e _ => by
        by_cases hb : b ∈ frs X.stack
        · obtain ⟨sl, q⟩ := fr b hb o e
          exact ⟨_, q⟩
        · exact ⟨o, st b o (nb b o e hb)⟩
      tups := fun _ _ e => at_upd (ne_of_none e na) e
      frzs := fun _ _ _ e => at_upd (ne_of_none e na) e
      tbls := fun b ps e => ⟨#[], by rw [at_upd (ne_of_none e na) e]; simp⟩ } ok2 ag (fun _ z => nomatch z)
  obtain ⟨b1, b2, b3, b4, b5⟩ := s'
  have e5 : b5 = sI.os := os
  subst e5
  exact J
end
/-- the wish of 'except x as n', the exception tracked: slot i is n's -/
def wKeep (K : PySem.W.Frag) (c : Value) (i : Nat) (ts : TS) (Wout : WX) (D : Ends) : WX := fun cls d σ H =>
  ∃ b, PySem.W.exmOne K cls c = some b ∧ (b = false → Wout cls d σ H) ∧
    (b = true → ∀ a, H a = none → ts { nx := fun σ1 H1 => D.nx (σ1.set i none) H1, rt := D.rt, bk := fun σ1 H1 => D.bk (σ1.set i none) H1, ct := fun σ1 H1 => D.ct (σ1.set i none) H1 } (σ.set i (some (.ref a))) (upd H a (exk a cls d)))
section
variable {X : Cx} {x n : Str} {c : Value} {i : Nat} {body suite : List Stmt} {b₀ : Stmt} {np pos pos' : Pos} {tb : WX → TS} {ts : TS} {Wout : WX}
theorem ps_try_keep (hs : X.stack = X.env :: X.outer) (hf : X.env.frame = some X.env.locals) (hN : X.N.Nodup) (hi : X.N[i]? = some n) (hln : X.env.kindOf n = some .local) (hc : L2.Names X x c) (tk : Takes X Wout)
    (hb : ∀ (W : WX) (pn : List (Addr × Obj)) (xe : Value → Shared → Prop), Takes (X.tr pn xe) W → PassesOwn (model X.prog X.w) X.A X.env xe → PSs (X.tr pn xe) body (tb W))
    (hsu : ∀ (a : Addr) (pn : List (Addr × Obj)), PSs (X.suite a pn) (b₀ :: suite) ts) :
    PS X (.Try body [.ExceptHandler (some (.Name x np)) (some n) (b₀ :: suite) pos'] [] [] pos) (fun D σ H => tb (wKeep X.K c i ts Wout D) D σ H) := by
  refine ⟨fun pins s σ H D I want => ?_⟩
  have okX := I.ok
  have frX : X.A.frames = some (X.env :: X.outer) := by rw [okX.frames, hs]
  refine wpAny_Try_except ?_
  have run := (hb (wKeep X.K c i ts Wout D) (X.pn ++ pins) (fun e t1 => wpAny (model X.prog X.w) X.A (noteFrame e X.env) (fun _ t2 => wpAny (model X.prog X.w) X.A (setFlight e none) (fun _ t3 =>
    wpAny (model X.prog X.w) X.A (handleBy e X.env [.ExceptHandler (some (.Name x np)) (some n) (b₀ :: suite) pos']) (SP X pins D) X.xe t3) X.xe t2) X.xe t1) ?_ PassesOwn.looking).run [] s σ H D (I.toTry _) want
  · refine wpAny_mono run (fun f t1 h => ?_) fun _ _ z => z
    cases f with
    | next =>
      obtain ⟨σ1, H1, J, q⟩ := h
      exact wpAny_execs_nil ⟨σ1, H1, J.ofTry okX, q⟩
    | brk =>
      obtain ⟨σ1, H1, J, q⟩ := h
      exact ⟨σ1, H1, J.ofTry okX, q⟩
    | cont =>
      obtain ⟨σ1, H1, J, q⟩ := h
      exact ⟨σ1, H1, J.ofTry okX, q⟩
    | ret v =>
      obtain ⟨v1, σ1, H1, J, r, q⟩ := h
      exact ⟨v1, σ1, H1, J.ofTry okX, r, q⟩
  · intro u t0 xx
    obtain ⟨a, B, sI, pins1, σ1, H1, cls, d, rfl, J1, nb, up, sky, na, os, ag, b, hb1, hno, hyes⟩ := xx
    have J : Inv X pins σ1 H1 sI := J1.ofTry okX
    have sky1 : Sky B (X.env :: X.outer) a (Zc cls d) X.env.locals t0.heap := by rw [← hs]; exact sky
    show wpAny (model X.prog X.w) X.A (noteFrame (.ref a) X.env) _ _ _
    refine Sky.land Zc.steady frX hf sky1 fun h3 fl3 up3 => ?_
    have J3 : Inv X pins σ1 H1 { t0 with heap := h3 } := J.landed nb fl3.1 (up.trans up3) os ag
    obtain ⟨oe3, vs3, he3, hz3, hd3⟩ := fl3.there
    have off : ∀ {h : Heap} {o : Obj} {vs : Array Value}, h.FunFrames B (X.env :: X.outer) → h.get? a = some o → o.data = .fields vs → a ∉ frs (X.env :: X.outer) := by
      intro h o vs ff e dd hm
      obtain ⟨_, o1, e1, hnf⟩ := ff.mem hm
      rw [e] at e1
      cases e1
      exact hnf _ dd
    have nfr := off fl3.2.2.1 he3 hd3
    have nL : a ≠ X.env.locals := fun z => nfr (List.mem_filterMap.mpr ⟨X.env, List.mem_cons_self, by rw [hf, z]⟩)
    have nF : a ∉ X.fs := by
      intro hm
      obtain ⟨e, he, q⟩ := List.mem_filterMap.mp hm
      exact nfr (List.mem_filterMap.mpr ⟨e, List.mem_cons_of_mem _ he, q⟩)
    have S3 := J3.suite he3 hd3 na nL nF
    refine wpAny_handleBy_cons (codeAny_handlers_test ?_) (by intro q; cases q)
    have LT : PySem.W.Looks (model X.prog X.w) h3 (typeOf (.ref a)) cls := fun A Q E s k q => wpAny_typeOf_ref (k _ _ he3) (by rw [hz3.1]; exact q)
    have LM := PySem.W.exm_one (M := model X.prog X.w) (J3.kIn) LT hb1
    have named : ∀ {Q E : Value → Shared → Prop}, Q c { t0 with heap := h3 } → wpAny (model X.prog X.w) (X.A.mark (some (.ref a))) (eval (.Name x np) X.env) Q E { t0 with heap := h3 } := by
      intro Q E q
      obtain ⟨hg, hdbg, hm | ⟨hm, hv, hnn⟩⟩ := hc
      · exact ld_glob (X := X.suite a ((a, oe3) :: (X.pn ++ pins))) S3 hg hm q hdbg
      · exact ld_blt (X := X.suite a ((a, oe3) :: (X.pn ++ pins))) S3 hg hm hv q hnn hdbg
    refine named (LM.here ?_)
    cases b with
    | false =>
      show wpAny _ X.A (handleBy (.ref a) X.env []) _ _ _
      refine wpAny_handleBy_nil ?_
      obtain ⟨k1, k2, k3, oe, vs, T, oT, ts1, he, hz, hd, h1, hr⟩ := id fl3
      unfold PySem.passOn
      refine wpAny_bind (wpAny_field he hd h1 ?_)
      rw [if_neg (show ¬ ((Value.ref T == Value.none) = true) from by simp)]
      have onward : wpAny (model X.prog X.w) X.A (setFlight (.ref a) X.env.frame) (fun _ s4 => wpAny (model X.prog X.w) X.A (throw (.ref a) : Sem Flow) (SP X pins D) X.xe s4) X.xe { t0 with heap := h3 } := by
        rw [hf]
        refine HandSPX.setFlight_upZ fl3 fun h4 hh4 up4 => wpAny_throw (tk _ _ ?_)
        exact ⟨a, B, sI, pins, σ1, H1, cls, d, rfl, J, nb, (up.trans up3).trans up4, .inr (.inr (by rw [hs]; exact hh4)), na, os, ag, hno rfl⟩
      first
        | exact wpAny_bind (wpAny_pure (wpAny_bind onward))
        | exact wpAny_bind onward
    | true =>
      refine codeAny_handlers_suite_as ?_
      refine HandSPX.lands_againZ fl3 fun h4 fl4 up4 => ?_
      obtain ⟨oe4, vs4, he4, hz4, hd4⟩ := fl4.there
      have J4 : Inv X pins σ1 (upd H1 a (exk a cls d)) { t0 with heap := h4 } := landed_k J nb fl4.1 ((up.trans up3).trans up4) os ag fl4.2.1 (by rw [hs]; exact nfr) na he4 hz4 hd4
      have S4 : Inv (X.suite a (X.pn ++ pins)) [] σ1 (upd H1 a (exk a cls d)) { t0 with heap := h4 } :=
        ⟨J4.ok.suite _ _, J4.os, J4.bare, J4.base, J4.loc, J4.cell, J4.free, J4.freeC, fun p hp => J4.pin p (by rw [List.append_nil] at hp; exact hp), J4.hok, J4.len⟩
      refine store_ok (X := X.suite a (X.pn ++ pins)) (v := .ref a) S4 hN hi (.inl hln) rfl (fun s5 S5 => ?_) (.inr hln)
      refine wpAny_mono ((hsu a (X.pn ++ pins)).run [] s5 _ _ _ S5 (hyes rfl a na)) (fun f s6 hsp => ?_) (fun _ _ z => False.elim z)
      have back : ∀ {σ6 : L2.St} {H6 : Hp}, Inv (X.suite a (X.pn ++ pins)) [] σ6 H6 s6 → Inv X pins σ6 H6 s6 := fun S =>
        ⟨okX, S.os, S.bare, S.base, S.loc, S.cell, S.free, S.freeC, fun p hp => S.pin p (List.mem_append_left _ hp), S.hok, S.len⟩
      have over : ∀ {σ6 : L2.St} {H6 : Hp} {Q : Shared → Prop}, Inv (X.suite a (X.pn ++ pins)) [] σ6 H6 s6 → (∀ s7, Inv X pins (σ6.set i none) H6 s7 → Q s7) →
          wpAny (model X.prog X.w) X.A (do bindName X.env n .none; unbindBehindTheSuite X.env n pos') (fun _ s7 => Q s7) X.xe s6 := fun S6 hq => gone_ok (back S6) hN hi hln hq
      cases f with
      | next =>
        obtain ⟨σ6, H6, S6, q6⟩ := hsp
        exact over S6 fun s7 J7 => ⟨_, _, J7, q6⟩
      | brk =>
        obtain ⟨σ6, H6, S6, q6⟩ := hsp
        exact over S6 fun s7 J7 => ⟨_, _, J7, q6⟩
      | cont =>
        obtain ⟨σ6, H6, S6, q6⟩ := hsp
        exact over S6 fun s7 J7 => ⟨_, _, J7, q6⟩
      | ret v =>
        obtain ⟨v6, σ6, H6, S6, r6, q6⟩ := hsp
        exact over S6 fun s7 J7 => ⟨_, _, _, J7, r6, q6⟩
end
/-! e.f of a tracked exception -/
def tXk (K : PySem.W.Frag) (f : Str) (te : TE) : TE := fun σ H Q => te σ H fun x H1 => ∃ (a C dd : Addr) (fs : List (Str × V)) (v : V), x = .ref a ∧ H1 a = some (exk a (.ref C) (some dd)) ∧ XfC K C ∧ PySem.W.findIn K (.ref C) f = some none ∧ H1 dd = some (.xd fs) ∧ fs.lookup f = some v ∧ Q v H1
theorem pe_xk {X : Cx} {e : Expr} {te : TE} {pos : Pos} {n : Str} (he : PE X e te) (hb : attributeBase e n X.env (eval e X.env) = eval e X.env := by rfl) : PE X (.Attribute e n pos) (tXk X.K n te) := by
  refine ⟨fun pins s σ H Q I want => attr_of hb (thn (he.run pins s σ H _ I want) fun u s1 got => ?_)⟩
  obtain ⟨x, H1, I1, rx, a, C, dd, fs, v, rfl, hk, T, hno, hdd, hl, q⟩ := got
  obtain rfl : u = Value.ref a := rx
  obtain ⟨oe, vs, h1, hz, hd⟩ := exk_at I1.hok hk
  have hx : ObjOk X.prog X.w H1 s1.heap dd (.xd fs) := I1.hok dd _ hdd
  obtain ⟨mA, hns, hr⟩ := hx
  obtain ⟨od, ho, hl2⟩ := lookIn_ns hns
  obtain ⟨u2, hu, ru⟩ := RelO.some_of (v := v) (o := mA n) (by rw [← hl]; exact hr n)
  have J : PySem.W.InstAt s1.heap a oe C (some od) := by
    refine ⟨h1, hz.1, ?_, ?_⟩
    · unfold PySem.W.notCls
      rw [hd] <;> rfl
    · rw [hz.2]
      exact ho
  exact HandSPX.exc_get I1.kIn J T.ga T.gg T.exC (PySem.W.findObj_own T.hdC hno rfl (by rw [hl2, hu])) (handed_of ru) ⟨v, H1, I1.tok _, ru, q⟩
/-! Base.__init__(self, ..), Base an own class over ValueError with no __init__ of its own -/
structure BaseI (K : PySem.W.Frag) (CB : Addr) : Prop where
  kp : PySem.W.keepIn K (.ref CB) = true
  ga : PySem.W.specialIn K (.ref CB) "__getattribute__" = some (some (.builtin "type.__getattribute__"))
  rd : PySem.W.readsIn K CB (.type "type") = true
  at_ : PySem.W.findCls K (.ref CB) (.type "type") "__init__" = some (.val (.builtin "ValueError.__init__"))
theorem pe_binit {X : Cx} {x : Str} {CB : Addr} {e : Expr} {es : List Expr} {ta : TA} {p1 p2 pos : Pos} {pl : Sem Bool} (hg : Gl X x) (hm : X.mg x = some (.ref CB)) (T : BaseI X.K CB) (ha : PA X (e :: es) ta)
    (hc : eval (.Call (.Attribute (.Name x p1) "__init__" p2) (e :: es) [] pos) X.env = (do
      let ov ← eval (.Name x p1) X.env
      standAt p2.atName
      let (f, first) ← holding [ov] (getMethod ov "__init__" pl)
      callWith pos f first (backTo pos (starEach (e :: es) X.env)) (backToKw pos (keywordEach [] X.env))) := by rfl)
    (hdb : (x == ("__debug__" : Str)) = false := by decide)
    (he : starEach (e :: es) X.env = (false, eval e X.env) :: starEach es X.env := by rfl) (hpl : (backTo pos (starEach es X.env)).any (·.1) = false := by rfl) :
    PE X (.Call (.Attribute (.Name x p1) "__init__" p2) (e :: es) [] pos) (tVeI X.K ta) := by
  refine ⟨fun pins s σ H Q I want => ?_⟩
  refine PySem.W.methodCall_KW (ld_glob I hg hm ?_ hdb) hc
  refine PySem.W.method_cls I.kIn T.ga (PySem.W.cls_value I.kIn T.rd T.at_ (by decide +kernel) ?_)
  show wpAny _ _ (callWith pos (Value.builtin "ValueError.__init__") [] (backTo pos (starEach (e :: es) X.env)) []) _ _ _
  refine PyProof.Rows.callWith_method1 (thn (ha.run pos pins _ σ H _ (I.tok _) want) fun us s1 ⟨vs, H1, I1, r1, a, C, ws, ev, hl, O, ea, q⟩ => ?_) he hpl
  subst ev
  cases r1 with
  | @cons _ u0 _ ur ra rest =>
    obtain rfl : u0 = Value.ref a := ra
    have few : ur.length ≤ sizeLine := by
      rw [← Paired.length rest, sizeLine_eq]
      omega
    exact oinit_ok O I1 ea few fun s2 J => ⟨.non, H1, J, rfl, q⟩
end U

/-! functions handed on: promises that speak of the cells which a handed function captured -/
namespace U
open PySem PySem.Spec PyProof.Rows L2 LamX NdefX
/-- the def at f keeps the promise sp, which may speak of the caller's frames and of the heap at the call -/
structure FnH (P : Program) (w : World) (K : PySem.W.Frag) (mg : Str → Option Value) (base : Heap) (CX : CXT) (k : Nat) (f : Addr) (fd : FuncData) (ps : List Str) (sp : List Env → Heap → Sp) : Prop where
  len : ∀ l h vs H Q E, sp l h vs H Q E → vs.length = ps.length
  go : ∀ (A : Around) (outer : List Env) (s : Shared) (H : Hp) (args : Args) (us : List Value) (vs : List V) (Q : VK) (E : XK), Rm k A →
    Env0 P w K mg base A outer s H → BindsTo s fd args (ps.zip us) → Vals vs us → sp outer s.heap vs H Q E → codeAny (model P w) A (.call (.ref f) args) (CR CX outer P w H s Q E) s
section
variable {P : Program} {w : World} {K : PySem.W.Frag} {mg : Str → Option Value} {base : Heap} {CX : CXT}
theorem fnH {x qual : Str} {st : Stmt} {f : Addr} {fd : FuncData} {N ps : List Str} {k : Nat} {sp : List Env → Heap → Sp} (F : Fun K x qual st f fd) (S : FnScope N ps (defScope st)) (len : ∀ l h vs H Q E, sp l h vs H Q E → vs.length = ps.length)
    (body : ∀ (cdv : Value) (A : Around) (outer : List Env) (s : Shared) (H : Hp) (vs : List V) (Q : VK) (E : XK), Rm k (A.deeper (envOfC qual (defScope st) s.heap.objs.size f cdv)) → sp outer s.heap vs H Q E →
      ∃ t, PSs (cxOf CX P w K mg base N qual (defScope st) f cdv A outer s H E) (defBody st) t ∧ t { nx := fun _ H' => Q .non H', rt := Q } (start N vs) H) :
    FnH P w K mg base CX (k + 1) f fd ps sp := by
  obtain ⟨oc, od, kV, doc, pm, an, cdv, ct, osl, rfl, lk, hcd⟩ := F.ex
  refine ⟨len, fun A outer s H args us vs Q E room e0 bd rel want => ?_⟩
  have count := len _ _ _ _ _ _ want
  have kin : K.In s.heap := e0.mod.kin.keeps fun b o e => (e0.bs b o e).1
  have kinds : ∀ y ∈ ps.zip us, (defScope st).names.lookup y.1 = some .local ∨ ((defScope st).names.lookup y.1 = some .cell ∧ ((cellsFrom (s.heap.objs.size + 1) (defScope st).names []).lookup y.1).isSome = true) := by
    rintro ⟨n, v⟩ hy
    cases S.par n (List.of_mem_zip hy).1 with
    | inl q => exact .inl q
    | inr q => exact .inr ⟨q, PySem.W.cellsFrom_some _ _ _ (.inl q)⟩
  apply codeAny_call_function room.r.depth (kin _ _ lk) rfl S.co S.gen rfl (PySem.W.codeRec_of kin hcd) (bd _ _ _ _ _)
  apply wpAny_newFunctionEnv_cells S.kind kinds
  intro env he s1 x
  subst he
  have lim : s.heap.NoLimit := e0.mod.nolimit.keeps fun b o e => (e0.bs b o e).1
  refine ⟨lim.keeps x.toInCall.keep, codeAny_func ?_⟩
  obtain ⟨t, ht, want'⟩ := body cdv A outer s H vs Q E (room.deeper _) want
  have I := inv_start (CX := CX) (P := P) (w := w) (K := K) (mg := mg) (base := base) (E := E) S room.r.hd e0 count rel x
  refine wpAny_mono (ht.run [] s1 (start N vs) H _ I want') ?_ fun e s' hs => hs
  intro fl s' hs
  cases fl with
  | ret u =>
    obtain ⟨v, σ', H', J, rv, q⟩ := hs
    exact ⟨v, H', J.os, J.bare, J.base, J.hok, rv, q⟩
  | next =>
    obtain ⟨σ', H', J, q⟩ := hs
    exact ⟨V.non, H', J.os, J.bare, J.base, J.hok, rfl, q⟩
  | brk => exact hs.elim fun _ z => z.elim fun _ z => z.2.elim
  | cont => exact hs.elim fun _ z => z.elim fun _ z => z.2.elim
structure CalH (P : Program) (w : World) (K : PySem.W.Frag) (mg : Str → Option Value) (base : Heap) (CX : CXT) (k : Nat) (x : Str) (sp : List Env → Heap → Sp) : Prop where
  ex : ∃ (f : Addr) (fd : FuncData) (ps : List Str), FnH P w K mg base CX k f fd ps sp ∧ mg x = some (.ref f) ∧ PySem.W.keepIn K (.ref f) = true ∧ Binds K fd ps []
end
/-- the captured cells as the callee may know them -/
structure Held (cl : List (Str × Addr)) (fr : List Str) (ws : List (Option V)) (l : List Env) (h : Heap) (H : Hp) : Prop where
  at_ : CellsAt cl fr ws h H
  off : ∀ y c, cl.lookup y = some c → c ∉ frs l
section
variable {X : Cx} {pins : List (Addr × Obj)} {σ : L2.St} {H : Hp} {s : Shared} {cl : List (Str × Addr)} {fr : List Str} {ws : List (Option V)} {js : List Nat}
/-- the def's own cells -/
theorem held_of (I : Inv X pins σ H s) (c : Caps X cl fr js) (own : ∀ y a, cl.lookup y = some a → X.fn y = true) : Held cl fr (js.map (slotAt σ)) X.stack s.heap H := by
  refine ⟨cells_of I c, fun y a e hm => ?_⟩
  have ea := c.sub y a e
  rcases List.mem_cons.mp (I.stkSub a hm) with z | z
  · exact I.cne y a ea z
  · obtain ⟨_, o, ho, _⟩ := I.ok.funs.mem z
    exact absurd (I.ok.cab y a (own y a e) ea) (Nat.not_le.mpr (Heap.lt_size ho))
/-- g(e, ..): the promise is told of the cells -/
def tCH (sp : List Env → Heap → Sp) (cl : List (Str × Addr)) (fr : List Str) (js : List Nat) (l : List Env) (E : XK) (t : TA) : TE := fun σ H Q => t σ H fun vs H1 => ∀ h, Held cl fr (js.map (slotAt σ)) l h H1 → sp l h vs H1 Q E
theorem pe_cH {CX : L2.CXT} {k j : Nat} {sp : List Env → Heap → Sp} {E : XK} {x : Str} {p pos : Pos} {e : Expr} {es : List Expr} {t : TA} (c : CalH X.prog X.w X.K X.mg X.base CX k x sp) (hr : Rm j X.A) (hk : k ≤ j) (hg : Gl X x) (hx : Passes CX X E)
    (cp : X.Ok → Caps X cl fr js) (own : ∀ y a, cl.lookup y = some a → X.fn y = true) (ha : PA X (e :: es) t)
    (hdb : (x == ("__debug__" : Str)) = false := by decide) (he : starEach (e :: es) X.env = (false, eval e X.env) :: starEach es X.env := by rfl) (hpl : (backTo pos (starEach es X.env)).any (·.1) = false := by rfl) :
    PE X (.Call (.Name x p) (e :: es) [] pos) (tCH sp cl fr js X.stack E t) := by
  obtain ⟨f, fd, ps, F, hm, kp, b⟩ := c.ex
  refine ⟨fun pins s σ H Q I h => wpAny_Call_Name_kw (ld_glob I hg hm ?_ hdb)⟩
  refine PySem.W.callWith_K (h₀ := X.base) I.ok.mod.kin kp (thn (ha.run pos pins s σ H _ I h) ?_) he hpl
  rintro us s1 ⟨vs, H1, I1, r, q⟩
  refine ⟨I1.kIn, ?_⟩
  have want := q s1.heap (held_of I1 (cp I1.ok) own)
  have count : us.length = ps.length := r.length ▸ F.len _ _ _ _ _ _ want
  have bd := b s1 us I1.kIn (by rw [List.append_nil]; exact count)
  rw [List.append_nil] at bd
  refine wpAny_call (codeAny_mono (F.go X.A X.stack s1 H1 ⟨us, []⟩ us vs Q E (hr.mono hk) I1.env0 bd r want) ?_)
  intro res s' hq
  cases res with
  | error er => exact hx pins σ H1 s1 er s' I1 hq
  | ok fl =>
    cases fl with
    | ret u => exact I1.after hq
    | next => exact hq.elim
    | brk => exact hq.elim
    | cont => exact hq.elim
/-- v(e, ..), v a slot that holds the handed function F, its cells as they stood at the entry -/
def tCallV (F : NF) (i : Nat) (ws : List (Option V)) (sp : Addr → List (Option V) → Sp) (E : XK) (t : TA) : TE := fun σ H Q => ∃ f, σ[i]? = some (some (.ref f)) ∧ H f = some (FnO f F) ∧
  t σ H fun vs H1 => H1 f = some (FnO f F) ∧ H1 F.c = some (CodeO F.c F.qual) ∧ sp f ws vs H1 Q E
theorem pe_callv {CX : L2.CXT} {F : NF} {ps : List Str} {i k j : Nat} {x : Str} {sp : Addr → List (Option V) → Sp} {E : XK} {t : TA} {e : Expr} {es : List Expr} {p pos : Pos} (Fn : ∀ f, NOk X.prog X.w X.K X.mg X.base CX k f F ps fr (sp f)) (hh : Held F.cl fr ws X.outer X.s_0.heap X.H_0) (hex : X.ex = [])
    (hr : Room j X.A) (hk : k ≤ j) (hx : Passes CX X E) (hN : X.N[i]? = some x) (hv : Vis X.env.scope x) (ha : PA X (e :: es) t)
    (hd : (x == ("__debug__" : Str)) = false := by decide) (hcd : (x == ("__classdict__" : Str)) = false := by decide)
    (he : starEach (e :: es) X.env = (false, eval e X.env) :: starEach es X.env := by rfl) (hpl : (backTo pos (starEach es X.env)).any (·.1) = false := by rfl) :
    PE X (.Call (.Name x p) (e :: es) [] pos) (tCallV F i ws sp E t) := by
  refine ⟨fun pins s σ H Q I want => ?_⟩
  obtain ⟨f, hs, hf, ht⟩ := want
  have ld := (pe_var (pos := p) hN hv hd hcd).run pins s σ H (fun v H1 => v = .ref f ∧ H1 = H) I ⟨.ref f, hs, rfl, rfl⟩
  refine wpAny_Call_Name_kw (thn ld fun u s1 got => ?_)
  obtain ⟨v, H1, I1, r1, e1, e2⟩ := got
  subst e1
  subst e2
  obtain rfl : u = Value.ref f := r1
  refine PySem.W.callWith_F (first := []) (fnAt_of I1 hf) (thn (ha.run pos pins s1 σ _ _ I1 ht) fun us s2 got2 => ?_) he hpl
  obtain ⟨vs, H2, I2, r, h1, h2, q⟩ := got2
  refine ⟨fnAt_of I2 h1, ?_⟩
  show wpAny _ _ (call (.ref f) us) _ _ _
  have cells : CellsAt F.cl fr ws s2.heap H2 := hh.at_.later hh.off (fun _ _ _ z => by rw [hex] at z; cases z) I2
  refine wpAny_call (codeAny_mono ((Fn f).run X.A X.stack s2 H2 us vs _ Q E (hr.mono hk) I2.env0 h1 h2 cells r q) fun res s' hq => ?_)
  cases res with
  | error er => exact hx pins σ H2 s2 er s' I2 hq
  | ok fl =>
    cases fl with
    | ret u => exact I2.after hq
    | next => exact hq.elim
    | brk => exact hq.elim
    | cont => exact hq.elim
end
end U

/-! enumerate(tuple) -/
namespace U
open PySem PySem.Spec PyProof.Rows L2
theorem meets_enumT (t : Addr) (items : Array Value) :
    Meets (Builtin.«enumerate.__new__» ⟨[.type "enumerate", .ref t], []⟩) (fun _ R s => s.heap.IsTuple t items ∧
      R (.ok (.ret (.ref (s.heap.push { cls := .type "tuple_iterator", data := .fields #[.ref t, .int 0 0] }).objs.size)))
        { s with heap := (s.heap.push { cls := .type "tuple_iterator", data := .fields #[.ref t, .int 0 0] }).push { cls := .type "enumerate", data := .fields #[.none, .bool false, .ref s.heap.objs.size, rawInt 0, .none, .none] } }) :=
  .of_wp fun prog w A R s want => by
    obtain ⟨hp, g, d, tk, os⟩ := s
    obtain ⟨ht, want⟩ := want
    have known := sub_enumerate
    have walkT : ∀ {A' : Around} {E Q : Value → Shared → Prop}, Q (.ref hp.objs.size) ⟨hp.push { cls := .type "tuple_iterator", data := .fields #[.ref t, .int 0 0] }, g, d, tk, os⟩ → wpAny (model prog w) A' (pyIter (.ref t)) Q E ⟨hp, g, d, tk, os⟩ :=
      fun q => wpAny_pyIter_tuple (s := ⟨hp, g, d, tk, os⟩) ht q
    obtain ⟨o, ho, hc, n, hd⟩ := id ht
    wp_walk using wpAny_loadPart' ho, walkT
    refine wpAny_stack_any fun st => wpAny_pure ?_
    split
    · rename_i c _ _ _ _ _
      cases (c == Value.type "enumerate")
      · wp_walk using wpAny_loadPart' ho, walkT
        exact ⟨_, rfl, want⟩
      · wp_walk using wpAny_loadPart' ho, walkT
        exact ⟨_, rfl, want⟩
    · wp_walk using wpAny_loadPart' ho, walkT
      exact ⟨_, rfl, want⟩
theorem call_enumT {prog : Program} {w : World} {A : Around} {E Q : Value → Shared → Prop} {s : Shared} {t : Addr} {items : Array Value} (ht : s.heap.IsTuple t items)
    (h : ∀ h', IsEnum h' (s.heap.objs.size + 1) s.heap.objs.size 0 .none → h'.IsTupleIter s.heap.objs.size t 0 → (∀ b o, s.heap.get? b = some o → h'.get? b = some o) → Q (.ref (s.heap.objs.size + 1)) { s with heap := h' }) :
    wpAny (model prog w) A (call (.type "enumerate") [.ref t]) Q E s := by
  refine callType_new F.called_enumerate (by decide) (F.typeCall_enumerate_1 _) (F.newCall_enumerate_1 _) (fun obj => F.args_object_init_2 obj _) F.entry_enumerate_new (meets_enumT t items) ⟨ht, ?_⟩
  have sz : (s.heap.push { cls := .type "tuple_iterator", data := .fields #[.ref t, .int 0 0] }).objs.size = s.heap.objs.size + 1 := Heap.size_push ..
  show _ ∧ _
  rw [sz]
  have made : IsEnum ((s.heap.push { cls := .type "tuple_iterator", data := .fields #[.ref t, .int 0 0] }).push
      { cls := .type "enumerate", data := .fields #[.none, .bool false, .ref s.heap.objs.size, rawInt 0, .none, .none] }) (s.heap.objs.size + 1) s.heap.objs.size 0 .none := by
    have z := Heap.get?_push_size (s.heap.push { cls := .type "tuple_iterator", data := .fields #[.ref t, .int 0 0] })
      (o := { cls := .type "enumerate", data := .fields #[.none, .bool false, .ref s.heap.objs.size, rawInt 0, .none, .none] }) rfl
    rw [sz] at z
    exact z
  exact ⟨⟨_, made, rfl⟩, h _ made ⟨_, Heap.get?_push_of_some _ (Heap.get?_push_size _ rfl), rfl, rfl⟩ fun b o x => Heap.get?_push_of_some _ (Heap.get?_push_of_some _ x)⟩
/-- the tuple at a, each item in a new pair -/
def Iet (K : PySem.W.Frag) (a : Addr) : It :=
  ⟨fun i H => ∃ (xs : List V) (x : V), SqT K H a xs ∧ xs[i]? = some x, fun i H v H' => ∃ T x, v = .ref T ∧ H T = none ∧ H' = upd H T (.tup [.int (i : Nat), x]) ∧ ∀ xs, SqT K H a xs → xs[i]? = some x, fun i H => ∃ xs : List V, SqT K H a xs ∧ xs.length = i⟩
theorem off_iter {h : Heap} {a it : Addr} {items : Array Value} {i : Nat} (ht : h.IsTuple a items) (hi : h.IsTupleIter it a i) : a ≠ it := by
  rintro rfl
  obtain ⟨o, ho, hc, _⟩ := ht
  obtain ⟨o2, ho2, hc2, _⟩ := hi
  rw [ho] at ho2
  cases ho2
  rw [hc] at hc2
  simp at hc2
theorem off_enum {h : Heap} {a e it : Addr} {items : Array Value} {c : Int} {old : Value} (ht : h.IsTuple a items) (he : IsEnum h e it c old) : e ≠ a := by
  rintro rfl
  obtain ⟨o, ho, hc, _⟩ := ht
  have he' : h.get? e = some _ := he
  rw [ho] at he'
  cases he'
  simp at hc
theorem turn_enumT {P : Program} {w : World} {K : PySem.W.Frag} {elts : List Expr} {kk : Nat} {tpos : Pos} (a e it : Addr) :
    Turn P w K (.Tuple elts kk tpos) (Iet K a) [e, it] e (fun i h => (∃ old, IsEnum h e it ((i : Nat) : Int) old) ∧ h.IsTupleIter it a i ∧ e ≠ it) where
  mem := by simp
  obj := fun i h st b hb => by
    obtain ⟨⟨old, he⟩, ⟨o, ho, hc, hd⟩, _⟩ := st
    rcases (by simpa using hb : b = e ∨ b = it) with z | z
    · subst z
      exact ⟨_, he, fun v q => nomatch q⟩
    · subst z
      exact ⟨o, ho, fun v q => by rw [hd] at q; cases q⟩
  keep := fun i h h' st k => by
    obtain ⟨⟨old, he⟩, hi, hne⟩ := st
    exact ⟨⟨old, k e (by simp) _ he⟩, hi.at fun o q => k it (by simp) o q, hne⟩
  item := by
    intro X hP hw hK hc i pins s σ H E I hf st hg
    subst hP hw hK
    obtain ⟨⟨old, he⟩, hit, hne⟩ := st
    obtain ⟨xs, x, hq, hx⟩ := hg
    obtain ⟨its, rv, p, hz⟩ := I.tuple hq
    obtain ⟨u, hu, ru⟩ := rv.get hx
    have ht : s.heap.IsTuple a its.toArray := p
    have lte : e < s.heap.objs.size := Heap.lt_size he
    have lti : it < s.heap.objs.size := by
      obtain ⟨_, q, _⟩ := hit
      exact Heap.lt_size q
    have hlt : i < its.toArray.size := by
      rw [List.size_toArray]
      exact (List.getElem?_eq_some_iff.mp hu).1
    have nea := off_enum ht he
    refine wpAny_pyNext_enum_itemD (Draws.tuple (A := X.A.in1) (I.ok.hd hc) it a (off_iter ht hit) its.toArray) he ⟨hit, ht⟩ hlt hne (by simp [hne, nea]) fun y h' tk hy ho st2 hT _ hk => ?_
    have hyu : y = u := by
      have hy' : its.toArray[i]? = some y := hy
      rw [List.getElem?_toArray, hu] at hy'
      exact (Option.some.inj hy').symm
    subst hyu
    refine ⟨_, rfl, wpAny_letOwnedTupleGo_enum (s := { s with heap := h', toks := tk + 1 }) ho fun h'' he' sb => ?_⟩
    have hT2 : h''.get? s.heap.objs.size = some { cls := .type "tuple", data := .seq #[.int i tk, y] } := (sb.2 _ (Nat.ne_of_gt lte)).trans hT
    have new : ObjOk X.prog X.w (upd H s.heap.objs.size (.tup [.int (i : Nat), x])) h'' s.heap.objs.size (.tup [.int (i : Nat), x]) :=
      ⟨by show 2 ≤ sizeLine; decide, [.int i tk, y], .cons ⟨_, rfl⟩ (.cons ru .nil), ⟨_, hT2, rfl, _, rfl⟩⟩
    have I1 : Inv X pins σ (upd H s.heap.objs.size (.tup [.int (i : Nat), x])) { s with heap := h'', toks := tk + 1 } :=
      I.turnedNew (ch := [e, it]) (fun b ob hb q => (sb.2 b (fun z => hb (by simp [z]))).trans (hk b ob (fun z => hb (by simp [z])) (fun z => hb (by simp [z])) q)) hf (Nat.le_refl _) new
    refine ⟨.ref s.heap.objs.size, _, I1, rfl, ⟨_, x, rfl, I.hok.fresh (Nat.le_refl _), rfl, fun ys hy => by rw [I.tuple_inj hy hq]; exact hx⟩, ⟨⟨y, ?_⟩, st2.1.at fun o q => (sb.2 it (Ne.symm hne)).trans q, hne⟩, fun b hb => ?_⟩
    · have e1 : ((i + 1 : Nat) : Int) = (i : Int) + 1 := by omega
      rw [e1]
      exact he'
    · have lb : b < s.heap.objs.size := by
        rcases (by simpa using hb : b = e ∨ b = it) with z | z
        · rw [z]; exact lte
        · rw [z]; exact lti
      rw [upd_ne (Nat.ne_of_lt lb)]
      exact (hf b hb).1
  done := by
    intro X hP hw hK hc i pins s σ H E I hf st hg
    subst hP hw hK
    obtain ⟨⟨old, he⟩, hit, hne⟩ := st
    obtain ⟨xs, hq, hx⟩ := hg
    obtain ⟨its, rv, p, hz⟩ := I.tuple hq
    have ht : s.heap.IsTuple a its.toArray := p
    obtain ⟨f0, f1, f2, f3, f4, f5⟩ := hf it (by simp)
    have hl := rv.length
    have hn : i = its.toArray.size := by
      rw [List.size_toArray, ← hl, hx]
    subst hn
    exact wpAny_pyNext_enum_endD (Draws.tuple (A := X.A.in1) (I.ok.hd hc) it a (off_iter ht hit) its.toArray) he ⟨hit, ht⟩ fun h' eb => ⟨rfl, I.turned (t' := s.toks) (fun b o hb q => eb b o hb q) f0 f1 f3 f4 f5⟩
  self := fun A i s Q E st h => by
    obtain ⟨⟨_, he⟩, _⟩ := st
    exact wpAny_pyIter_enum he h
def iEnumT (K : PySem.W.Frag) (ta : TA) : TI := fun σ H R => ta σ H fun vs H1 => ∃ a xs, vs = [.ref a] ∧ SqT K H1 a xs ∧ R (Iet K a) H1
theorem ki_enumT {X : Cx} (K : PySem.W.Frag) (hK : X.K = K) {e : Expr} {ta : TA} {p pos tpos : Pos} {elts : List Expr} {kk : Nat} (hg : Gl X "enumerate") (hm : X.mg "enumerate" = none) (ha : PA X [e] ta) (hs : starEach [e] X.env = [(false, eval e X.env)] := by rfl) :
    PI X (.Tuple elts kk tpos) (.Call (.Name "enumerate" p) [e] [] pos) (iEnumT K ta) := by
  subst hK
  refine ⟨fun pins s σ H R I want => ?_⟩
  refine Call_ (ld_blt I hg hm boot_enumerate (PyProof.Rows.callWith_type1 (thn (ha.run pos pins s σ H _ I want) fun us s1 ⟨vs, H1, I1, r1, q1⟩ => ?_) hs rfl))
  obtain ⟨a, xs, rfl, hq, q⟩ := q1
  cases r1 with
  | cons r rr =>
    cases rr
    cases r
    obtain ⟨its, rv, p', hz⟩ := I1.tuple hq
    refine call_enumT (show s1.heap.IsTuple a its.toArray from p') fun h' he hit hk => wpAny_pyIter_enum he ?_
    have I2 : Inv X pins σ H1 { s1 with heap := h' } := I1.kept (t' := s1.toks) hk
    refine ⟨s1.heap.objs.size + 1, [s1.heap.objs.size + 1, s1.heap.objs.size], _, _, H1, rfl, I2, turn_enumT a (s1.heap.objs.size + 1) s1.heap.objs.size, ⟨⟨.none, he⟩, hit, Nat.succ_ne_self _⟩, fun b hb => ?_, q⟩
    have up : s1.heap.objs.size ≤ b := by
      rcases (by simpa using hb : b = s1.heap.objs.size + 1 ∨ b = s1.heap.objs.size) with z | z
      · rw [z]; exact Nat.le_add_right _ _
      · rw [z]; exact Nat.le_refl _
    exact I1.fpOk up (I1.hok.fresh up)
theorem walk_enumT {K : PySem.W.Frag} {a : Addr} {xs : List V} : Walk (Iet K a) xs.length (fun H => SqT K H a xs) (YPair (fun i => some (.int (i : Nat))) (fun i => xs[i]?)) := by
  refine ⟨fun i _ hi q => ⟨xs, xs[i], q, by simp [hi]⟩, fun _ q => ⟨xs, q, rfl⟩, fun i H v H' _ q y => ?_⟩
  obtain ⟨T, x, h1, h2, h3, h4⟩ := y
  exact ⟨T, .int (i : Nat), x, h1, h2, h3, rfl, h4 xs q⟩
end U

/-! own exceptions with one field: made, raised, kept, read -/
namespace U
open PySem PySem.Spec PyProof.Rows L2
/-- __init__(self, v): the field f is v -/
def spInit1 (C : Addr) (f : Str) : Sp := fun vs H Q _ => ∃ (a : Addr) (v : V), vs = [.ref a, v] ∧ H a = some (exo a C none) ∧
  ∀ dx, H dx = none → dx ≠ a → Q .non (upd (upd H dx (exd dx [(f, v)])) a (exo a C (some dx)))
theorem rd_mk1 {C : Addr} {f : Str} {v : V} {H : Hp} {Q : XK} (h : ∀ (dd : Addr) (H' : Hp), Same H H' → H dd = none → H' dd = some (.xd [(f, v)]) → Q (.ref C) (some dd) H') :
    [v].length ≤ 1000 ∧ ∀ a, H a = none → spInit1 C f (.ref a :: ([v] ++ [])) (upd H a (exo a C none)) (fun w H2 => w = .non ∧ ∃ (d : Addr) (fs : List (Str × V)), H2 a = some (exo a C (some d)) ∧ H2 d = some (exd d fs) ∧ H d = none ∧ Q (.ref C) (some d) (upd (del H2 a) d (.xd fs))) (fun _ _ _ => False) := by
  refine ⟨(by show 1 ≤ 1000; decide), fun a na => ⟨a, v, rfl, upd_same, fun dx ndx nda => ⟨rfl, dx, [(f, v)], upd_same, ?_, ?_, ?_⟩⟩⟩
  · rw [upd_ne nda, upd_same]
  · rw [upd_ne nda] at ndx
    exact ndx
  · have nd0 : H dx = none := by
      rw [upd_ne nda] at ndx
      exact ndx
    refine h dx _ (fun b o e => ?_) nd0 upd_same
    have n1 : b ≠ dx := ne_of_none e nd0
    have n2 : b ≠ a := ne_of_none e na
    rw [upd_ne n1, del_ne n2, upd_ne n2, upd_ne n1, upd_ne n2]
    exact e
section
variable {σ : L2.St} {H : Hp} {Q : VK} {D : Ends} {K : PySem.W.Frag} {te : TE} {ta : TA}
theorem rd_vei {v : V} (h : ta σ H fun vs H1 => ∃ (a C : Addr) (ws : List V), vs = .ref a :: ws ∧ ws.length ≤ 1000 ∧ OexC K C ∧ H1 a = some (exo a C none) ∧ Q .non H1) : tVeI K ta σ H Q := h
theorem rd_ost {f : Str} {to : TE} (h : te σ H fun y H1 => to σ H1 fun x H2 => ∃ a C : Addr, x = .ref a ∧ OexC K C ∧ PySem.W.findIn K (.ref C) f = some none ∧
  ((H2 a = some (exo a C none) ∧ ∀ dx, H2 dx = none → dx ≠ a → D.nx σ (upd (upd H2 dx (exd dx [(f, y)])) a (exo a C (some dx)))) ∨
    ∃ (dx : Addr) (fs : List (Str × V)), H2 a = some (exo a C (some dx)) ∧ H2 dx = some (exd dx fs) ∧ fs.length ≤ 900 ∧ D.nx σ (upd H2 dx (exd dx ((f, y) :: fs))))) : tOst K f to te D σ H := h
theorem rd_mkO {C : Addr} {sp : Sp} {dvs : List V} {Q : XK} (h : ta σ H fun vs H1 => vs.length ≤ 1000 ∧ ∀ a, H1 a = none → sp (.ref a :: (vs ++ dvs)) (upd H1 a (exo a C none))
  (fun v H2 => v = .non ∧ ∃ (d : Addr) (fs : List (Str × V)), H2 a = some (exo a C (some d)) ∧ H2 d = some (exd d fs) ∧ H1 d = none ∧ Q (.ref C) (some d) (upd (del H2 a) d (.xd fs))) (fun _ _ _ => False)) : tMkO C sp dvs ta σ H Q := h
theorem rd_xk {f : Str} {x : V} {a C dd : Addr} {fs : List (Str × V)} {v : V} (hx : x = .ref a) (hk : H a = some (exk a (.ref C) (some dd))) (T : XfC K C) (hno : PySem.W.findIn K (.ref C) f = some none) (hd : H dd = some (.xd fs)) (hl : fs.lookup f = some v) (h : Q v H) :
    ∃ (a C dd : Addr) (fs : List (Str × V)) (v : V), x = .ref a ∧ H a = some (exk a (.ref C) (some dd)) ∧ XfC K C ∧ PySem.W.findIn K (.ref C) f = some none ∧ H dd = some (.xd fs) ∧ fs.lookup f = some v ∧ Q v H := ⟨a, C, dd, fs, v, hx, hk, T, hno, hd, hl, h⟩
end
/-! the class's facts, gathered -/
structure OwnX (K : PySem.W.Frag) (mg : Str → Option Value) (x : Str) (f : Str) (C CB fI : Addr) : Prop where
  gC : mg x = some (.ref C)
  ox : OexC K C
  no : PySem.W.findIn K (.ref C) f = some none
  iC : PySem.W.findIn K (.ref C) "__init__" = some (some (.ref fI))
  tI : PySem.W.typeIn K (.ref fI) = some (.type "function")
  xf : XfC K C
  gB : mg "InputError" = some (.ref CB)
  bi : BaseI K CB
  ex : PySem.W.exmOne K (.ref C) (.ref C) = some true
  eb : PySem.W.exmOne K (.ref C) (.ref CB) = some true
end U

/-! is_move of anything -/
namespace Law
open PySem PySem.Spec PyProof.Rows L2 U
local macro_rules | `(tactic| wtm_at "rd1") => `(tactic| first
  | with_reducible refine rd_seq ?_
  | ((with_reducible refine rd_var (v := ?vv) ?hv ?_); (case hv => exact rfl))
  | with_reducible refine rd_c ?_
  | with_reducible refine rd_cons ?_
  | with_reducible refine rd_nil ?_
  | with_reducible refine rd_op ?_
  | with_reducible refine rd_asg ?_
  | with_reducible refine rd_name ?_
  | with_reducible refine rd_c1 ?_
  | with_reducible refine rd_cb ?_
  | with_reducible refine rd_test ?_
  | with_reducible refine rd_B ?_
  | with_reducible refine rd_bl ?_
  | with_reducible refine rd_if ?_
  | with_reducible refine rd_ret ?_
  | with_reducible refine rd_drop ?_
  | with_reducible refine rd_next ?_
  | with_reducible refine rd_addI ?_
  | with_reducible refine rd_ltI ?_
  | with_reducible refine rd_eqI ?_
  | with_reducible refine rd_neI ?_
  | with_reducible refine rd_eqS ?_
  | with_reducible refine rd_neS ?_
  | with_reducible refine rd_gtI ?_
  | with_reducible refine rd_geI ?_
  | with_reducible refine rd_leI ?_
  | with_reducible refine rd_ltS ?_
  | with_reducible refine rd_subI ?_
  | ((with_reducible refine rd_modI ?hc ?_); (case hc => first | decide | omega))
  | ((with_reducible refine rd_mulI ?hc ?_); (case hc => first | exact mul_bI | exact .inl (.inr (by decide)) | exact .inl (.inl (by decide)) | exact .inl (.inr (by omega)) | exact .inl (.inl (by omega))))
  | ((with_reducible refine rd_divI ?hc ?_); (case hc => first | decide | omega))
  | ((with_reducible refine rd_powI ?hc ?_); (case hc => exact ⟨by decide, by decide, by decide⟩))
  | with_reducible refine rd_lst ?_
  | with_reducible refine rd_tup ?_
  | ((with_reducible refine rd_sz ?hv ?_); (case hv => exact rfl))
  | with_reducible refine rd_and ?_
  | with_reducible refine rd_or ?_
  | with_reducible refine rd_not ?_
  | with_reducible refine rd_andV ?_
  | with_reducible refine rd_orV ?_
  | with_reducible refine rd_notV ?_
  | with_reducible refine rd_ifE ?_
  | with_reducible refine rd_T ?_
  | with_reducible refine rd_F ?_
  | with_reducible refine rd_chain ?_
  | with_reducible refine rd_is ?_
  | with_reducible refine rd_isNot ?_
  | with_reducible refine rd_absI ?_
  | with_reducible refine rd_maxI ?_
  | with_reducible refine rd_minI ?_
  | with_reducible refine rd_intI ?_
  | with_reducible refine rd_intB ?_
  | with_reducible refine rd_sub ?_
  | with_reducible refine rd_sl ?_
  | with_reducible refine rd_noPart ?_
  | with_reducible refine rd_part ?_
  | with_reducible refine rd_exI ?_
  | with_reducible refine rd_bm ?_
  | with_reducible refine rd_bm0 ?_
  | with_reducible refine rd_un ?_
  | with_reducible refine rd_neg ?_
  | with_reducible refine rd_c2 ?_
  | with_reducible refine rd_retN ?_
  | with_reducible refine rd_break ?_
  | with_reducible refine rd_cont ?_
  | with_reducible refine rd_for ?_
  | with_reducible refine rd_rng1 ?_
  | with_reducible refine rd_rng2 ?_
  | with_reducible refine rd_iList ?_
  | with_reducible refine rd_iTup ?_
  | with_reducible refine rd_iEnum ?_
  | ((with_reducible refine rd_forR ?h0 ?h1 ?_); (case h0 => omega); (case h1 => omega))
  | with_reducible refine rd_lc ?_
  | with_reducible refine rd_gcons ?_
  | with_reducible refine rd_gnil ?_
  | with_reducible refine rd_dget ?_
  | with_reducible refine rd_dput ?_
  | with_reducible refine rd_dnew ?_
  | with_reducible refine rd_dc ?_
  | with_reducible refine rd_iItems ?_
  | with_reducible refine rd_iKeys ?_
  | with_reducible refine rd_din ?_
  | with_reducible refine rd_lc2 ?_
  | with_reducible refine rd_cd ?_
  | with_reducible refine rd_par ?_
  | with_reducible refine rd_two ?_
  | with_reducible refine rd_reprB ?_
  | with_reducible refine rd_ck ?_
  | ((with_reducible refine rd_len ?hl ?_); (case hl => exact rfl))
  | with_reducible refine rd_nT ?_
  | with_reducible refine rd_nF ?_
  | with_reducible refine rd_dnin ?_
  | with_reducible refine rd_isB ?_
  | with_reducible refine rd_isNotB ?_
  | with_reducible refine rd_daug ?_
  | with_reducible refine rd_yesT ?_
  | ((with_reducible refine rd_wp ?hw ?_); (case hw => exact rfl)))
local macro_rules | `(tactic| wtm_at "rd") => `(tactic| repeat wtm_at "rd1")

/-- c: not a move by its form (o = none), or a text and a number -/
inductive CandAt (K : PySem.W.Frag) (H : Hp) : V → Option (Str × Int) → Prop
  | odd {c : V} {a : Ty} : TyIs K H c a → isT a .tup = false → CandAt K H c none
  | len {a : Addr} {xs : List V} : H a = some (.tup xs) → xs.length ≠ 2 → CandAt K H (.ref a) none
  | node {a : Addr} {x y : V} {t : Ty} : H a = some (.tup [x, y]) → TyIs K H x t → isT t .str = false → CandAt K H (.ref a) none
  | val {a : Addr} {x : Str} {y : V} {t : Ty} : H a = some (.tup [.str x, y]) → TyIs K H y t → t ≠ .int → CandAt K H (.ref a) none
  | mv {a : Addr} {x : Str} {v : Int} : H a = some (.tup [.str x, .int v]) → CandAt K H (.ref a) (some (x, v))
def IsMv (ns : List Str) (es : List (Str × Str)) (f : Str → Int) (pn : List Str) (o : Option (Str × Int)) : Prop := ∃ m, o = some m ∧ Legal ns es f pn m
def spHasV (K : PySem.W.Frag) : Sp := fun vs H Q _ => ∃ (g n e : Addr) (x : V) (t : Ty) (ns : List Str) (es : List (Addr × Str × Str)), vs = [.ref g, x] ∧ GrAt H g n e ns es ∧ ((TyIs K H x t ∧ isT t .str = false ∧ Q (.bl false) H) ∨ ∃ s, x = .str s ∧ Q (.bl (decide (s ∈ ns))) H)
def spIsValV (K : PySem.W.Frag) : Sp := fun vs H Q _ => ∃ (y : V) (t : Ty), vs = [y] ∧ ((TyIs K H y t ∧ t ≠ .int ∧ Q (.bl false) H) ∨ ∃ v : Int, y = .int v ∧ Q (.bl (decide (0 ≤ v) && decide (v ≤ 2))) H)
def spIsMoveV (K : PySem.W.Frag) : Sp := fun vs H Q _ => ∃ (g n e st ad ps : Addr) (c : V) (o : Option (Str × Int)) (ns ord pn : List Str) (es : List (Addr × Str × Str)) (f : Str → Int) (Ad : Str → Addr), vs = [.ref g, .ref st, .ref ad, c, .ref ps] ∧ GSt H g n e st ns ord es f ∧
  AdjAt H ad ns (es.map (·.2)) Ad ∧ CandAt K H c o ∧ SqT K H ps (pn.map V.str) ∧ ∀ (b : Bool) (H' : Hp), Same H H' → (b = true ↔ IsMv ns (es.map (·.2)) f pn o) → Q (.bl b) H'
section
variable {P : Program} {w : World} {K : PySem.W.Frag} {mg : Str → Option Value} {base : Heap}
theorem ok_hasV {f : Addr} {fd : FuncData} (F : Fun K "has_node" "has_node" s_has_node f fd) (B : Bt mg) : FnG P w K mg base CX0 1 f fd ["graph", "candidate"] (spHasV K) := by
  refine fnG0 F sc_has_node (fun vs H Q E h => ?_) (fun cdv A outer s H vs Q E hr h => ?_)
  · obtain ⟨g, n, e, x, t, ns, es, rfl, _⟩ := h
    rfl
  · obtain ⟨g, n, e, x, t, ns, es, rfl, hg, q⟩ := h
    have nd := sc_has_node.nd
    refine ⟨_, (pss_one (ps_ret (pe_and (pe_callB (kIsi K rfl) (by rfl) B.isinstance bb_isinstance (pa_cons (pv 1) (pa_cons (pe_ty rfl B.str bb_str) pa_nil))) (pe_one (pe_cmpR (kIn K rfl) (pv 1) (pe_ix (kIx K rfl) (pv 0) pe_int (fun _ _ => rfl)) rfl))))), ?_⟩
    wtm_at "rd"
    rcases q with ⟨ht, hs, q⟩ | ⟨s, rfl, q⟩
    · refine rd_isi ht (t := .str) (by decide +kernel) ?_
      rw [hs]
      wtm_at "rd"
      exact q
    refine rd_isi ty_str (t := .str) (by decide +kernel) ?_
    rw [show isT .str .str = true from by decide +kernel]
    wtm_at "rd"
    refine rd_ixT (SqT.of hg.top) (v := .ref n) rfl ?_
    refine rd_inST (SqT.of hg.nodes) ?_
    exact q
theorem ok_is_valueV {f : Addr} {fd : FuncData} (F : Fun K "is_value" "is_value" s_is_value f fd) (B : Bt mg) (C : C6 P w K mg base) : FnG P w K mg base CX0 2 f fd ["candidate"] (spIsValV K) := by
  refine fnG0 F sc_is_value (fun vs H Q E h => ?_) (fun cdv A outer s H vs Q E hr h => ?_)
  · obtain ⟨y, t, rfl, _⟩ := h
    rfl
  · obtain ⟨y, t, rfl, q⟩ := h
    have nd := sc_is_value.nd
    refine ⟨_, (pss_one (ps_ret (pe_and (pe_c C.is_integer hr (by decide) rfl (pa_cons (pv 0) pa_nil)) (pe_one (pe_chain uLe uLe pe_int (pv 0) pe_int))))), ?_⟩
    wtm_at "rd"
    rcases q with ⟨ht, hs, q⟩ | ⟨v, rfl, q⟩
    · refine ⟨_, t, rfl, ht, ?_⟩
      rw [decide_eq_false hs]
      wtm_at "rd"
      exact q
    refine ⟨_, .int, rfl, ty_int, ?_⟩
    wtm_at "rd"
    refine rd_T ?_
    wtm_at "rd"
    refine rd_split (fun c => ?_) (fun c => ?_)
    · wtm_at "rd"
      rw [decide_eq_true c, Bool.true_and] at q
      exact q
    · rw [decide_eq_false c, Bool.false_and] at q
      exact q
structure C7V (P : Program) (w : World) (K : PySem.W.Frag) (mg : Str → Option Value) (base : Heap) : Prop where
  has_node : Cal P w K mg base CX0 1 "has_node" (spHasV K)
  is_value : Cal P w K mg base CX0 2 "is_value" (spIsValV K)
  values_for : Cal P w K mg base CX0 1 "values_for" (spVals K)
theorem ok_is_moveV {f : Addr} {fd : FuncData} (F : Fun K "is_move" "is_move" s_is_move f fd) (B : Bt mg) (C : C7V P w K mg base) : FnG P w K mg base CX0 3 f fd ["graph", "state", "adjacent", "candidate", "pinned"] (spIsMoveV K) := by
  refine fnG0 F sc_is_move (fun vs H Q E h => ?_) (fun cdv A outer s H vs Q E hr h => ?_)
  · obtain ⟨g, n, e, st, ad, ps, c, o, ns, ord, pn, es, f, Ad, rfl, _⟩ := h
    rfl
  · obtain ⟨g, n, e, st, ad, ps, c, o, ns, ord, pn, es, f, Ad, rfl, gs, had, hc, hps, q⟩ := h
    have nd := sc_is_move.nd
    have hu := hr.u1
    refine ⟨_, (pss_cons (ps_if (PW.pt (pw_or (pt_not (pt_val (pe_callB (kIsi K rfl) (by rfl) B.isinstance bb_isinstance (pa_cons (pv 3) (pa_cons (pe_ty rfl B.tuple bb_tuple) pa_nil))))) (pw_or1 (pt_cmpR (kNe K rfl hr.u64) (pe_callB (kLen K rfl) (by rfl) B.len bb_len (pa_cons (pv 3) pa_nil)) pe_int (nomark _))))) (pss_one (ps_ret pe_bl)) pss_nil)
  (pss_cons (ps_if (PW.pt (pw_or (pt_not (pt_val (pe_c C.has_node hr (by decide) rfl (pa_cons (pv 0) (pa_cons (pe_ix (kIx K rfl) (pv 3) pe_int (fun _ _ => rfl)) pa_nil))))) (pw_or1 (pt_not (pt_val (pe_c C.is_value hr (by decide) rfl (pa_cons (pe_ix (kIx K rfl) (pv 3) pe_int (fun _ _ => rfl)) pa_nil))))))) (pss_one (ps_ret pe_bl)) pss_nil)
  (pss_one (ps_ret (pe_cmpR (kIn K rfl) (pe_ix (kIx K rfl) (pv 3) pe_int (fun _ _ => rfl)) (pe_c C.values_for hr (by decide) rfl (pa_cons (pv 1) (pa_cons (pe_ix (kIx K rfl) (pv 3) pe_int (fun _ _ => rfl)) (pa_cons (pe_dget hu (pv 2) (pe_ix (kIx K rfl) (pv 3) pe_int (fun _ _ => rfl)) (fun _ _ => rfl)) (pa_cons (pv 4) pa_nil))))) rfl))))), ?_⟩
    have no : o = none → Q (.bl false) H := fun e => q false H (Same.refl _) ⟨(fun z => nomatch z), fun ⟨m, e1, _⟩ => by rw [e] at e1; cases e1⟩
    wtm_at "rd"
    cases hc with
    | odd ht hs =>
      refine rd_isi ht (t := .tup) (by decide +kernel) ?_
      rw [hs]
      wtm_at "rd"
      exact no rfl
    | len ht hl =>
      refine rd_isi (ty_tup ht) (t := .tup) (by decide +kernel) ?_
      rw [show isT .tup .tup = true from by decide +kernel]
      wtm_at "rd"
      refine rd_lenT (SqT.of ht) ?_
      wtm_at "rd"
      refine rd_nyes (by omega) ?_
      wtm_at "rd"
      exact no rfl
    | node ht hx hs =>
      refine rd_isi (ty_tup ht) (t := .tup) (by decide +kernel) ?_
      rw [show isT .tup .tup = true from by decide +kernel]
      wtm_at "rd"
      refine rd_lenT (SqT.of ht) ?_
      wtm_at "rd"
      refine rd_nno rfl ?_
      wtm_at "rd"
      refine rd_ixT (SqT.of ht) rfl ?_
      wtm_at "rd"
      refine ⟨g, n, e, _, _, ns, es, rfl, gs.gr, .inl ⟨hx, hs, ?_⟩⟩
      wtm_at "rd"
      exact no rfl
    | @val c x y t ht hy hs =>
      refine rd_isi (ty_tup ht) (t := .tup) (by decide +kernel) ?_
      rw [show isT .tup .tup = true from by decide +kernel]
      wtm_at "rd"
      refine rd_lenT (SqT.of ht) ?_
      wtm_at "rd"
      refine rd_nno rfl ?_
      wtm_at "rd"
      refine rd_ixT (SqT.of ht) (v := .str x) rfl ?_
      wtm_at "rd"
      refine ⟨g, n, e, _, .str, ns, es, rfl, gs.gr, .inr ⟨x, rfl, ?_⟩⟩
      by_cases hm : x ∈ ns
      · rw [decide_eq_true hm]
        wtm_at "rd"
        refine rd_ixT (SqT.of ht) (v := y) rfl ?_
        wtm_at "rd"
        refine ⟨y, t, rfl, .inl ⟨hy, hs, ?_⟩⟩
        wtm_at "rd"
        exact no rfl
      · rw [decide_eq_false hm]
        wtm_at "rd"
        exact no rfl
    | @mv c x v hc =>
      refine rd_isi (ty_tup hc) (t := .tup) (by decide +kernel) ?_
      rw [show isT .tup .tup = true from by decide +kernel]
      wtm_at "rd"
      refine rd_lenT (SqT.of hc) ?_
      wtm_at "rd"
      refine rd_nno rfl ?_
      wtm_at "rd"
      refine rd_ixT (SqT.of hc) (v := .str x) rfl ?_
      wtm_at "rd"
      refine ⟨g, n, e, _, .str, ns, es, rfl, gs.gr, .inr ⟨x, rfl, ?_⟩⟩
      have nol : ¬ Legal ns (es.map (·.2)) f pn (x, v) → Q (.bl false) H := fun z => q false H (Same.refl _) ⟨(fun z => nomatch z), fun ⟨m, e1, l⟩ => by cases e1; exact (z l).elim⟩
      by_cases hm : x ∈ ns
      case neg =>
        rw [decide_eq_false hm]
        wtm_at "rd"
        exact nol fun l => hm l.mem
      rw [decide_eq_true hm]
      wtm_at "rd"
      refine rd_ixT (SqT.of hc) (v := .int v) rfl ?_
      wtm_at "rd"
      refine ⟨.int v, .int, rfl, .inr ⟨v, rfl, ?_⟩⟩
      by_cases hv : 0 ≤ v ∧ v ≤ 2
      case neg =>
        rw [show (decide (0 ≤ v) && decide (v ≤ 2)) = false from by rw [← Bool.decide_and]; exact decide_eq_false hv]
        wtm_at "rd"
        exact nol fun l => hv (by have := l.val; simp only at this; omega)
      rw [decide_eq_true hv.1, decide_eq_true hv.2, Bool.and_self]
      obtain ⟨ys, y1, y2, _⟩ := had.li _ hm
      have yl : ys.length ≤ 2000 := by
        have := nbrF_len (x := x) (es := es.map (·.2))
        rw [List.length_map] at this
        rw [y2.length_eq]
        have := gs.l3
        omega
      have yin : ∀ y ∈ ys, y ∈ ord := fun y hy => by
        rcases mem_nbrF.mp (y2.mem_iff.mp hy) with h | h
        · exact gs.inO _ (gs.ok.mem _ h).2
        · exact gs.inO _ (gs.ok.mem _ h).1
      wtm_at "rd"
      refine rd_ixT (SqT.of hc) (v := .int v) rfl ?_
      wtm_at "rd"
      refine rd_ixT (SqT.of hc) (v := .str x) rfl ?_
      wtm_at "rd"
      refine rd_ixT (SqT.of hc) (v := .str x) rfl ?_
      refine rd_dat (.inl had.di) (kvG_val hm) rfl ?_
      wtm_at "rd"
      refine ⟨st, _, ps, x, ord, ys, pn, es.map (·.2), f, rfl, gs.st, gs.inO _ hm, y1, yin, y2, yl, hps, fun l H' s1 fl hl => ?_⟩
      refine rd_inIL (SqL.of hl) ?_
      refine q _ H' s1 ?_
      have fw : v ∈ valsF (es.map (·.2)) f x pn ↔ Legal ns (es.map (·.2)) f pn (x, v) := by
        unfold valsF
        constructor
        · intro hin
          by_cases hp : x ∈ pn
          · rw [if_pos hp] at hin
            cases hin
          rw [if_neg hp] at hin
          obtain ⟨_, fr⟩ := List.mem_filter.mp hin
          unfold freeB at fr
          rw [Bool.not_eq_true', decide_eq_false_iff_not] at fr
          refine ⟨hm, ?_, ?_, ?_, ?_⟩
          all_goals simp only
          all_goals first
            | exact hp
            | omega
            | exact fun z => fr (List.mem_append_right _ (List.mem_singleton.mpr z))
            | exact fun y hy z => fr (List.mem_append_left _ (List.mem_map.mpr ⟨y, mem_nbrF.mpr hy, z.symm⟩))
        · intro lg
          rw [if_neg lg.pin]
          refine List.mem_filter.mpr ⟨?_, ?_⟩
          · have : v = 0 ∨ v = 1 ∨ v = 2 := by omega
            rcases this with rfl | rfl | rfl <;> simp
          · unfold freeB
            rw [Bool.not_eq_true', decide_eq_false_iff_not]
            intro z
            rcases List.mem_append.mp z with z | z
            · obtain ⟨y, hy, ey⟩ := List.mem_map.mp z
              exact lg.nbr y (mem_nbrF.mp hy) ey.symm
            · rw [List.mem_singleton] at z
              exact lg.own z
      rw [decide_eq_true_iff, fw]
      exact ⟨fun l => ⟨_, rfl, l⟩, fun ⟨m, e1, l⟩ => by cases e1; exact l⟩
end
end Law

/-! calls with keywords and defaults of a def that may raise -/
namespace U
open PySem PySem.Spec PyProof.Rows L2
def tCK2 (sp : Sp) (np nk : Nat) (W : WX) (t tk : TA) : TE := fun σ H Q => t σ H fun vs H1 => vs.length = np ∧ tk σ H1 fun zs H2 => zs.length = nk ∧ sp (vs ++ zs) H2 Q fun cls d H' => W cls d σ H'
theorem pe_cKX {X : Cx} {W : WX} {k j : Nat} {x : Str} {np : Nat} {ks : List Str} {sp : Sp} {e : Expr} {es : List Expr} {kws : List Keyword} {t tk : TA} {p pos : Pos} (c : CalK X.prog X.w X.K X.mg X.base (L2.CX X.prog X.w) k x np ks sp) (hr : Rm j X.A) (hk : k ≤ j) (hg : Gl X x) (tx : Takes X W)
    (ha : PA X (e :: es) t) (hkw : PK X kws tk) (hall : (backToKw pos (keywordEach kws X.env)).all (·.1.isSome) = true := by rfl) (hks : (backToKw pos (keywordEach kws X.env)).filterMap (·.1) = ks := by rfl)
    (hdb : (x == ("__debug__" : Str)) = false := by decide) (he : starEach (e :: es) X.env = (false, eval e X.env) :: starEach es X.env := by rfl)
    (hpl : ((backTo pos (starEach (e :: es) X.env)).any (·.1) || (backToKw pos (keywordEach kws X.env)).any (·.1.isNone)) = false := by rfl) :
    PE X (.Call (.Name x p) (e :: es) kws pos) (tCK2 sp np ks.length W t tk) := by
  obtain ⟨f, fd, ps, F, hm, kp, b⟩ := c.ex
  refine ⟨fun pins s σ H Q I h => wpAny_Call_Name_kw (ld_glob I hg hm ?_ hdb)⟩
  refine PySem.W.callWith_KW (h₀ := X.base) I.ok.mod.kin kp hall (thn (ha.run pos pins s σ H _ I h) fun us s1 ⟨vs, H1, I1, r, hn, q⟩ => ?_) hpl he
  refine thn (hkw.run pos pins s1 σ H1 _ I1 q) fun ws s2 ⟨zs, H2, I2, rz, hz, q2⟩ => ⟨I2.kIn, ?_⟩
  rw [hks]
  have bd : BindsTo s2 fd ⟨us, ks.zip ws⟩ (ps.zip (us ++ ws)) := .of_eq (b us ws (by rw [← r.length]; exact hn) (by rw [← rz.length]; exact hz))
  refine wpAny_call (codeAny_mono (F.go X.A X.stack s2 H2 ⟨us, ks.zip ws⟩ (us ++ ws) (vs ++ zs) _ _ (hr.mono hk) I2.env0 bd (vals_app r rz) q2) ?_)
  intro res s' hq
  cases res with
  | error er => exact tx er s' (XE.of_call I2 (fun cls d H' z => z) hq)
  | ok fl =>
    cases fl with
    | ret u => exact I2.after hq
    | next => exact hq.elim
    | brk => exact hq.elim
    | cont => exact hq.elim
def tCD2 (sp : Sp) (dvs : List V) (W : WX) (t : TA) : TE := fun σ H Q => t σ H fun vs H1 => sp (vs ++ dvs) H1 Q fun cls d H' => W cls d σ H'
theorem pe_cDX {X : Cx} {W : WX} {k j : Nat} {x : Str} {dvs : List V} {sp : Sp} {e : Expr} {es : List Expr} {t : TA} {p pos : Pos} (c : CalD X.prog X.w X.K X.mg X.base (L2.CX X.prog X.w) k x dvs sp) (hr : Rm j X.A) (hk : k ≤ j) (hg : Gl X x) (tx : Takes X W) (ha : PA X (e :: es) t)
    (hdb : (x == ("__debug__" : Str)) = false := by decide) (he : starEach (e :: es) X.env = (false, eval e X.env) :: starEach es X.env := by rfl) (hpl : (backTo pos (starEach es X.env)).any (·.1) = false := by rfl) :
    PE X (.Call (.Name x p) (e :: es) [] pos) (tCD2 sp dvs W t) := by
  obtain ⟨f, fd, ps, ds, F, hm, kp, rd, b⟩ := c.ex
  refine ⟨fun pins s σ H Q I h => wpAny_Call_Name_kw (ld_glob I hg hm ?_ hdb)⟩
  refine PySem.W.callWith_K (h₀ := X.base) I.ok.mod.kin kp (thn (ha.run pos pins s σ H _ I h) ?_) he hpl
  rintro us s1 ⟨vs, H1, I1, r, q⟩
  refine ⟨I1.kIn, ?_⟩
  have r2 : Vals (vs ++ dvs) (us ++ ds) := r.append rd
  have count : (us ++ ds).length = ps.length := r2.length ▸ F.len _ _ _ _ q
  have bd := b s1 us I1.kIn count
  refine wpAny_call (codeAny_mono (F.go X.A X.stack s1 H1 ⟨us, []⟩ (us ++ ds) (vs ++ dvs) _ _ (hr.mono hk) I1.env0 bd r2 q) ?_)
  intro res s' hq
  cases res with
  | error er => exact tx er s' (XE.of_call I1 (fun cls d H' z => z) hq)
  | ok fl =>
    cases fl with
    | ret u => exact I1.after hq
    | next => exact hq.elim
    | brk => exact hq.elim
    | cont => exact hq.elim
/-- an own error with one field, its __init__ done -/
structure ErrX (P : Program) (w : World) (K : PySem.W.Frag) (mg : Str → Option Value) (base : Heap) (x f : Str) (C CB : Addr) : Prop where
  ex : ∃ (fI : Addr) (fd : FuncData), OwnX K mg x f C CB fI ∧ FnOk P w K mg base CX0 1 fI fd ["self", f] (spInit1 C f) ∧ Binds K fd ["self", f] []
theorem ErrX.ow {P : Program} {w : World} {K : PySem.W.Frag} {mg : Str → Option Value} {base : Heap} {x f : Str} {C CB : Addr} (h : ErrX P w K mg base x f C CB) : ∃ fI, OwnX K mg x f C CB fI := by
  obtain ⟨fI, fd, o, _⟩ := h.ex
  exact ⟨fI, o⟩
/-- raise X(e): reading rd_rz, e's, rd_mk1 -/
def tRz (C : Addr) (f : Str) (te : TE) (W : WX) : TS := fun _ σ H => tMkO C (spInit1 C f) [] (tCons te tNil) σ H fun cls d H' => W cls d σ H'
theorem ps_rz {X : Cx} {W : WX} {j : Nat} {x f : Str} {C CB : Addr} {e : Expr} {te : TE} {p p2 pos : Pos} (T : ErrX X.prog X.w X.K X.mg X.base x f C CB) (hr : Rm j X.A) (hk : 2 ≤ j) (hc : X.calm = true) (tk : Takes X W) (hg : Gl X x) (he : PE X e te)
    (hdb : (x == ("__debug__" : Str)) = false := by decide) (hs : starEach [e] X.env = (false, eval e X.env) :: starEach [] X.env := by rfl) (hpl : (backTo p2 (starEach [] X.env)).any (·.1) = false := by rfl) :
    PS X (.Raise (some (.Call (.Name x p) [e] [] p2)) none pos) (tRz C f te W) := by
  obtain ⟨fI, fd, T1, F1, b⟩ := T.ex
  exact ps_raise (pos := pos) hc tk (pmk_oex (p := p) (pos := p2) (dvs := []) T1.ox T1.iC T1.tI F1 (hr.r.mono hk) b .nil pass0 hg T1.gC (pa_cons he pa_nil (hs := hs)) hdb hs hpl)
theorem rd_rz {C : Addr} {f : Str} {te : TE} {W : WX} {D : Ends} {σ : L2.St} {H : Hp} (h : tCons te tNil σ H fun vs H1 => vs.length ≤ 1000 ∧ ∀ a, H1 a = none → spInit1 C f (.ref a :: (vs ++ [])) (upd H1 a (exo a C none))
  (fun v H2 => v = .non ∧ ∃ (d : Addr) (fs : List (Str × V)), H2 a = some (exo a C (some d)) ∧ H2 d = some (exd d fs) ∧ H1 d = none ∧ W (.ref C) (some d) σ (upd (del H2 a) d (.xd fs))) (fun _ _ _ => False)) : tRz C f te W D σ H := h
end U

/-! apply_moves of anything -/
namespace Law
open PySem PySem.Spec PyProof.Rows L2 U
local macro_rules | `(tactic| wtm_at "rd1") => `(tactic| first
  | with_reducible refine rd_seq ?_
  | ((with_reducible refine rd_var (v := ?vv) ?hv ?_); (case hv => exact rfl))
  | with_reducible refine rd_c ?_
  | with_reducible refine rd_cons ?_
  | with_reducible refine rd_nil ?_
  | with_reducible refine rd_op ?_
  | with_reducible refine rd_asg ?_
  | with_reducible refine rd_name ?_
  | with_reducible refine rd_c1 ?_
  | with_reducible refine rd_cb ?_
  | with_reducible refine rd_test ?_
  | with_reducible refine rd_B ?_
  | with_reducible refine rd_bl ?_
  | with_reducible refine rd_if ?_
  | with_reducible refine rd_ret ?_
  | with_reducible refine rd_drop ?_
  | with_reducible refine rd_next ?_
  | with_reducible refine rd_addI ?_
  | with_reducible refine rd_ltI ?_
  | with_reducible refine rd_eqI ?_
  | with_reducible refine rd_neI ?_
  | with_reducible refine rd_eqS ?_
  | with_reducible refine rd_neS ?_
  | with_reducible refine rd_gtI ?_
  | with_reducible refine rd_geI ?_
  | with_reducible refine rd_leI ?_
  | with_reducible refine rd_ltS ?_
  | with_reducible refine rd_subI ?_
  | ((with_reducible refine rd_modI ?hc ?_); (case hc => first | decide | omega))
  | ((with_reducible refine rd_mulI ?hc ?_); (case hc => first | exact mul_bI | exact .inl (.inr (by decide)) | exact .inl (.inl (by decide)) | exact .inl (.inr (by omega)) | exact .inl (.inl (by omega))))
  | ((with_reducible refine rd_divI ?hc ?_); (case hc => first | decide | omega))
  | ((with_reducible refine rd_powI ?hc ?_); (case hc => exact ⟨by decide, by decide, by decide⟩))
  | with_reducible refine rd_lst ?_
  | with_reducible refine rd_tup ?_
  | ((with_reducible refine rd_sz ?hv ?_); (case hv => exact rfl))
  | with_reducible refine rd_and ?_
  | with_reducible refine rd_or ?_
  | with_reducible refine rd_not ?_
  | with_reducible refine rd_andV ?_
  | with_reducible refine rd_orV ?_
  | with_reducible refine rd_notV ?_
  | with_reducible refine rd_ifE ?_
  | with_reducible refine rd_T ?_
  | with_reducible refine rd_F ?_
  | with_reducible refine rd_chain ?_
  | with_reducible refine rd_is ?_
  | with_reducible refine rd_isNot ?_
  | with_reducible refine rd_absI ?_
  | with_reducible refine rd_maxI ?_
  | with_reducible refine rd_minI ?_
  | with_reducible refine rd_intI ?_
  | with_reducible refine rd_intB ?_
  | with_reducible refine rd_sub ?_
  | with_reducible refine rd_sl ?_
  | with_reducible refine rd_noPart ?_
  | with_reducible refine rd_part ?_
  | with_reducible refine rd_exI ?_
  | with_reducible refine rd_bm ?_
  | with_reducible refine rd_bm0 ?_
  | with_reducible refine rd_un ?_
  | with_reducible refine rd_neg ?_
  | with_reducible refine rd_c2 ?_
  | with_reducible refine rd_retN ?_
  | with_reducible refine rd_break ?_
  | with_reducible refine rd_cont ?_
  | with_reducible refine rd_for ?_
  | with_reducible refine rd_rng1 ?_
  | with_reducible refine rd_rng2 ?_
  | with_reducible refine rd_iList ?_
  | with_reducible refine rd_iTup ?_
  | with_reducible refine rd_iEnum ?_
  | ((with_reducible refine rd_forR ?h0 ?h1 ?_); (case h0 => omega); (case h1 => omega))
  | with_reducible refine rd_lc ?_
  | with_reducible refine rd_gcons ?_
  | with_reducible refine rd_gnil ?_
  | with_reducible refine rd_dget ?_
  | with_reducible refine rd_dput ?_
  | with_reducible refine rd_dnew ?_
  | with_reducible refine rd_dc ?_
  | with_reducible refine rd_iItems ?_
  | with_reducible refine rd_iKeys ?_
  | with_reducible refine rd_din ?_
  | with_reducible refine rd_lc2 ?_
  | with_reducible refine rd_cd ?_
  | with_reducible refine rd_par ?_
  | with_reducible refine rd_two ?_
  | with_reducible refine rd_reprB ?_
  | with_reducible refine rd_ck ?_
  | ((with_reducible refine rd_len ?hl ?_); (case hl => exact rfl))
  | with_reducible refine rd_nT ?_
  | with_reducible refine rd_nF ?_
  | with_reducible refine rd_dnin ?_
  | with_reducible refine rd_isB ?_
  | with_reducible refine rd_isNotB ?_
  | with_reducible refine rd_daug ?_
  | with_reducible refine rd_yesT ?_
  | ((with_reducible refine rd_wp ?hw ?_); (case hw => exact rfl)))
local macro_rules | `(tactic| wtm_at "rd") => `(tactic| repeat wtm_at "rd1")

theorem rd_rz {C : Addr} {f : Str} {te : TE} {W : WX} {D : Ends} {σ : L2.St} {H : Hp} (h : tCons te tNil σ H fun vs H1 => vs.length ≤ 1000 ∧ ∀ a, H1 a = none → spInit1 C f (.ref a :: (vs ++ [])) (upd H1 a (exo a C none))
  (fun v H2 => v = .non ∧ ∃ (d : Addr) (fs : List (Str × V)), H2 a = some (exo a C (some d)) ∧ H2 d = some (exd d fs) ∧ H1 d = none ∧ W (.ref C) (some d) σ (upd (del H2 a) d (.xd fs))) (fun _ _ _ => False)) : tRz C f te W D σ H := h
/-- the error with v at the position leaves -/
def PosE (C : Addr) (v : V) (H : Hp) (E : XK) : Prop := ∀ (d : Addr) (H' : Hp), Same H H' → H d = none → H' d = some (.xd [("position", v)]) → E (.ref C) (some d) H'
/-- the list's elements: legal moves first, all of them or the next one not -/
def Runs (ns : List Str) (es : List (Str × Str)) (f : Str → Int) (pn : List Str) (os : List (Option (Str × Int))) (ms : List (Str × Int)) : Prop :=
  LegalSeq ns es pn f ms ∧ (os = ms.map some ∨ ∃ o r, os = ms.map some ++ o :: r ∧ ¬ IsMv ns es (playF f ms) pn o)
def spApplyX (K : PySem.W.Frag) (C : Addr) : Sp := fun vs H Q E => ∃ (g n e st ps : Addr) (c : V) (ns ord pn : List Str) (es : List (Addr × Str × Str)) (f : Str → Int), vs = [.ref g, .ref st, c, .ref ps] ∧ GSt H g n e st ns ord es f ∧ SqT K H ps (pn.map V.str) ∧
  ((∃ t, TyIs K H c t ∧ isT t .lst = false ∧ PosE C .non H E) ∨
   ∃ (mv : Addr) (cs : List V) (os : List (Option (Str × Int))) (ms : List (Str × Int)), c = .ref mv ∧ H mv = some (.lst cs) ∧ os.length = cs.length ∧ (∀ i (h : i < cs.length) (h' : i < os.length), CandAt K H cs[i] os[i]) ∧ Runs ns (es.map (·.2)) f pn os ms ∧
    (os = ms.map some → ∀ (d : Addr) (H' : Hp), Same H H' → H d = none → H' d = some (.dK (kvF ord (playF f ms))) → Q (.ref d) H') ∧
    (os ≠ ms.map some → PosE C (.int ms.length) H E))
theorem tyx_same {K : PySem.W.Frag} {H H' : Hp} {x : V} {t : Value} (h : TyX K H x t) (s : Same H H') : TyX K H' x t := by
  cases h with
  | base h =>
    cases h with
    | non => exact .base .non
    | bl x => exact .base (.bl x)
    | int x => exact .base (.int x)
    | str x => exact .base (.str x)
    | flt x => exact .base (.flt x)
    | lst e => exact .base (.lst (s _ _ e))
    | frz e => exact .base (.frz (s _ _ e))
    | tup e => exact .base (.tup (s _ _ e))
    | dK e => exact .base (.dK (s _ _ e))
    | dT e => exact .base (.dT (s _ _ e))
    | ins e a b c d f => exact .base (.ins (s _ _ e) a b c d f)
  | byt b => exact .byt b
  | set e => exact .set (s _ _ e)
  | kList e c => exact .kList e c
  | kTuple e c => exact .kTuple e c
  | kDict e c => exact .kDict e c
  | fTuple e => exact .fTuple (s _ _ e)
  | fDict e => exact .fDict (s _ _ e)
theorem CandAt.same {K : PySem.W.Frag} {H H' : Hp} {c : V} {o : Option (Str × Int)} (h : CandAt K H c o) (s : Same H H') : CandAt K H' c o := by
  cases h with
  | odd a b => exact .odd (tyx_same a s) b
  | len a b => exact .len (s _ _ a) b
  | node a b c => exact .node (s _ _ a) (tyx_same b s) c
  | val a b c => exact .val (s _ _ a) (tyx_same b s) c
  | mv a => exact .mv (s _ _ a)
structure C8V (P : Program) (w : World) (K : PySem.W.Frag) (mg : Str → Option Value) (base : Heap) : Prop where
  adjacency : Cal P w K mg base CX0 1 "adjacency" spAdj
  is_move : Cal P w K mg base CX0 3 "is_move" (spIsMoveV K)
section
variable {P : Program} {w : World} {K : PySem.W.Frag} {mg : Str → Option Value} {base : Heap}
theorem ok_applyX {f : Addr} {fd : FuncData} {CE CB : Addr} (F : Fun K "apply_moves" "apply_moves" s_apply_moves f fd) (B : Bt mg) (C : C8V P w K mg base) (T : ErrX P w K mg base "InvalidMove" "position" CE CB) : FnG P w K mg base (L2.CX P w) 4 f fd ["graph", "state", "moves", "pinned"] (spApplyX K CE) := by
  refine fnG F sc_apply_moves (fun vs H Q E h => ?_) (fun cdv A outer s H vs Q E hr h => ?_)
  · obtain ⟨g, n, e, st, ps, c, ns, ord, pn, es, f, rfl, _⟩ := h
    rfl
  · obtain ⟨g, n, e, st, ps, c, ns, ord, pn, es, f, rfl, gs, hps, alt⟩ := h
    have nd := sc_apply_moves.nd
    have hu := hr.u1
    refine ⟨_, (pss_cons (ps_if (pt_not (pt_val (pe_callB (kIsi K rfl) (by rfl) B.isinstance bb_isinstance (pa_cons (pv 2) (pa_cons (pe_ty rfl B.list bb_list) pa_nil))))) (pss_one (ps_rz T hr (by decide) rfl (takes_of rfl rfl rfl rfl) rfl pe_non)) pss_nil)
  (pss_cons (ps_set (i := 4) nd rfl (by first | exact Or.inl rfl | exact Or.inr rfl) (pe_c C.adjacency hr (by decide) rfl (pa_cons (pv 0) pa_nil)))
  (pss_cons (ps_set (i := 5) nd rfl (by first | exact Or.inl rfl | exact Or.inr rfl) (pe_callTy cDict (by rfl) B.dict bb_dict (pa_cons (pv 1) pa_nil)))
  (pss_cons (ps_for (passes_of rfl) rfl (pi_enum (by rfl) B.enumerate (pa_cons (pv 2) pa_nil)) (kg_tup (n := 2) K rfl rfl (pgs_cons (pg_name (i := 6) nd rfl (by first | exact Or.inl rfl | exact Or.inr rfl)) (pgs_cons (pg_name (i := 7) nd rfl (by first | exact Or.inl rfl | exact Or.inr rfl)) pgs_nil))) (pss_cons (ps_if (pt_not (pt_val (pe_c C.is_move hr (by decide) rfl (pa_cons (pv 0) (pa_cons (pv 5) (pa_cons (pv 4) (pa_cons (pv 7) (pa_cons (pv 3) pa_nil)))))))) (pss_one (ps_rz T hr (by decide) rfl (takes_of rfl rfl rfl rfl) rfl (pv 6))) pss_nil)
  (pss_one (ps_dput hu (pv 5) (pe_ix (kIx K rfl) (pv 7) pe_int (fun _ _ => rfl)) (pe_ix (kIx K rfl) (pv 7) pe_int (fun _ _ => rfl)) rfl))))
  (pss_one (ps_ret (pv 5))))))), ?_⟩
    wtm_at "rd"
    rcases alt with ⟨t, ht, hs, pe⟩ | ⟨mv, cs, os, ms, rfl, hmv, hol, hcs, ⟨lq, ro⟩, q1, q2⟩
    · refine rd_isi ht (t := .lst) (by decide +kernel) ?_
      rw [hs]
      wtm_at "rd"
      exact rd_mk1 fun dd H' s nd hd => pe dd H' s nd hd
    refine rd_isi (ty_lst hmv) (t := .lst) (by decide +kernel) ?_
    rw [show isT .lst .lst = true from by decide +kernel]
    wtm_at "rd"
    refine ⟨g, n, e, ns, es, rfl, gs.grs, fun ad Ad H1 s1 _ had => ?_⟩
    wtm_at "rd"
    refine ⟨_, .inl (s1 _ _ gs.st), fun c fc => ?_⟩
    have fc0 := new_of_same s1 fc
    have s2 := same_add (o := .dK (kvF ord f)) s1 fc
    have had2 := had.same (Same.new (o := .dK (kvF ord f)) fc)
    have hc2 := @upd_same H1 c (.dK (kvF ord f))
    have nca : c ≠ ad := Ne.symm (ne_of_none had.di fc)
    have ncl : ∀ m ∈ ns, Ad m ≠ c := fun m hm => by
      obtain ⟨ys, y1, _⟩ := had.li m hm
      exact ne_of_none y1 fc
    generalize upd H1 c (.dK (kvF ord f)) = H2 at s2 had2 hc2
    wtm_at "rd"
    refine rd_forE (SqL.of (s2 _ _ hmv)) ?_
    have le1 : ms.length ≤ cs.length := by
      rw [← hol]
      rcases ro with rfl | ⟨o, r, rfl, _⟩
      · rw [List.length_map]; exact Nat.le_refl _
      · rw [List.length_append, List.length_map]; omega
    refine turnsW (walk_enum (K := K) (a := mv) (xs := cs)) (fun i σ H' => ∃ u6 u7 : Option V, i ≤ ms.length ∧ σ = [some (.ref g), some (.ref st), some (.ref mv), some (.ref ps), some (.ref ad), some (.ref c), u6, u7] ∧ Same H H' ∧ AdjAt H' ad ns (es.map (·.2)) Ad ∧ H' c = some (.dK (kvF ord (playF f (ms.take i)))))
      ⟨_, _, Nat.zero_le _, rfl, s2, had2, hc2⟩ ?_ ?_ ?_
    · rintro i σ H' hi ⟨u6, u7, il, rfl, s, _⟩
      exact SqL.of (s _ _ hmv)
    · rintro i y σ H3 H4 hi ⟨u6, u7, il, rfl, s, ha, hc⟩ ⟨T1, x1, y1, rfl, fT, rfl, e1, e2⟩
      have hx := Option.some.inj e1
      subst hx
      have hin : i < cs.length := (List.getElem?_eq_some_iff.mp e2).1
      have hio : i < os.length := by omega
      obtain rfl : cs[i] = y1 := (List.getElem?_eq_some_iff.mp e2).2
      have hcd := hcs i hin hio
      have okf := seq_ok gs.eok lq i il
      have sT := same_add (o := .tup [.int (i : Nat), cs[i]]) s fT
      have haT := ha.same (Same.new (o := .tup [.int (i : Nat), cs[i]]) fT)
      have hcT := at_upd (o := .tup [.int (i : Nat), cs[i]]) (ne_of_none hc fT) hc
      refine rd_unp (SqT.of upd_same) rfl ?_
      generalize upd H3 T1 (.tup [.int (i : Nat), cs[i]]) = H5 at sT haT hcT
      wtm_at "rd"
      refine ⟨g, n, e, c, ad, ps, cs[i], os[i], ns, ord, pn, es, _, Ad, rfl, (gs.same sT).re hcT okf, haT, hcd.same sT, Same.seqT sT hps, fun b H6 s6 hb => ?_⟩
      have s06 := sT.trans s6
      by_cases c0 : i < ms.length
      · have hi2 := c0
        have ex : os[i] = some ms[i] := by
          rcases ro with rfl | ⟨o, r, rfl, _⟩
          · rw [List.getElem_map]
          · rw [List.getElem_append_left (by rw [List.length_map]; exact c0), List.getElem_map]
        have lg := lq i c0
        have : b = true := hb.mpr ⟨_, ex, lg⟩
        subst this
        have tk := take_snoc hi2
        rw [ex] at hcd
        generalize cs[i] = ci at *
        generalize ms[i] = m at *
        cases hcd with
        | @mv a x v htm =>
        wtm_at "rd"
        refine rd_ixT (SqT.of (s06 _ _ htm)) (v := .int v) rfl ?_
        wtm_at "rd"
        refine rd_ixT (SqT.of (s06 _ _ htm)) (v := .str x) rfl ?_
        refine rd_dset (s6 _ _ hcT) (k := .inr x) rfl (by rw [List.length_map, gs.pm.length_eq]; have := gs.l2; omega) ?_
        rw [kvF_put (gs.inO _ lg.mem)]
        refine ⟨_, _, by omega, rfl, same_put s06 fc0, ?_, ?_⟩
        · have h6 := haT.same s6
          refine ⟨at_upd (Ne.symm nca) h6.di, fun m' hm' => ?_⟩
          obtain ⟨ys, z1, z2⟩ := h6.li m' hm'
          exact ⟨ys, at_upd (ncl m' hm') z1, z2⟩
        · rw [upd_same, tk, playF_snoc]
      · have ei : i = ms.length := by omega
        subst ei
        rcases ro with rfl | ⟨o, r, rfl, no⟩
        · rw [List.length_map] at hio
          omega
        rw [List.take_length, List.getElem_append_right (by rw [List.length_map]; exact Nat.le_refl _)] at hb
        simp only [List.length_map, Nat.sub_self, List.getElem_cons_zero] at hb
        have : b = false := by
          cases b with
          | false => rfl
          | true => exact (no (hb.mp rfl)).elim
        subst this
        wtm_at "rd"
        refine rd_rz ?_
        wtm_at "rd"
        refine rd_mk1 fun dd H' s' nd' hd => ?_
        exact q2 (fun z => by have := congrArg List.length z; rw [List.length_append] at this; simp at this) dd H' (s06.trans s') (s06.free nd') hd
    · rintro σ H3 ⟨u6, u7, il, rfl, s, ha, hc⟩
      have el : ms.length = cs.length := by omega
      have eo : os = ms.map some := by
        rcases ro with rfl | ⟨o, r, rfl, _⟩
        · rfl
        · rw [List.length_append, List.length_map] at hol
          simp at hol
          omega
      rw [List.take_of_length_le (by omega)] at hc
      wtm_at "rd"
      exact q1 eo c H3 s fc0 hc
end
end Law

namespace Law
open PySem PySem.Spec PyProof.Rows L2 U
local macro_rules | `(tactic| wtm_at "rd1") => `(tactic| first
  | with_reducible refine rd_seq ?_
  | ((with_reducible refine rd_var (v := ?vv) ?hv ?_); (case hv => exact rfl))
  | with_reducible refine rd_c ?_
  | with_reducible refine rd_cons ?_
  | with_reducible refine rd_nil ?_
  | with_reducible refine rd_op ?_
  | with_reducible refine rd_asg ?_
  | with_reducible refine rd_name ?_
  | with_reducible refine rd_c1 ?_
  | with_reducible refine rd_cb ?_
  | with_reducible refine rd_test ?_
  | with_reducible refine rd_B ?_
  | with_reducible refine rd_bl ?_
  | with_reducible refine rd_if ?_
  | with_reducible refine rd_ret ?_
  | with_reducible refine rd_drop ?_
  | with_reducible refine rd_next ?_
  | with_reducible refine rd_addI ?_
  | with_reducible refine rd_ltI ?_
  | with_reducible refine rd_eqI ?_
  | with_reducible refine rd_neI ?_
  | with_reducible refine rd_eqS ?_
  | with_reducible refine rd_neS ?_
  | with_reducible refine rd_gtI ?_
  | with_reducible refine rd_geI ?_
  | with_reducible refine rd_leI ?_
  | with_reducible refine rd_ltS ?_
  | with_reducible refine rd_subI ?_
  | ((with_reducible refine rd_modI ?hc ?_); (case hc => first | decide | omega))
  | ((with_reducible refine rd_mulI ?hc ?_); (case hc => first | exact mul_bI | exact .inl (.inr (by decide)) | exact .inl (.inl (by decide)) | exact .inl (.inr (by omega)) | exact .inl (.inl (by omega))))
  | ((with_reducible refine rd_divI ?hc ?_); (case hc => first | decide | omega))
  | ((with_reducible refine rd_powI ?hc ?_); (case hc => exact ⟨by decide, by decide, by decide⟩))
  | with_reducible refine rd_lst ?_
  | with_reducible refine rd_tup ?_
  | ((with_reducible refine rd_sz ?hv ?_); (case hv => exact rfl))
  | with_reducible refine rd_and ?_
  | with_reducible refine rd_or ?_
  | with_reducible refine rd_not ?_
  | with_reducible refine rd_andV ?_
  | with_reducible refine rd_orV ?_
  | with_reducible refine rd_notV ?_
  | with_reducible refine rd_ifE ?_
  | with_reducible refine rd_T ?_
  | with_reducible refine rd_F ?_
  | with_reducible refine rd_chain ?_
  | with_reducible refine rd_is ?_
  | with_reducible refine rd_isNot ?_
  | with_reducible refine rd_absI ?_
  | with_reducible refine rd_maxI ?_
  | with_reducible refine rd_minI ?_
  | with_reducible refine rd_intI ?_
  | with_reducible refine rd_intB ?_
  | with_reducible refine rd_sub ?_
  | with_reducible refine rd_sl ?_
  | with_reducible refine rd_noPart ?_
  | with_reducible refine rd_part ?_
  | with_reducible refine rd_exI ?_
  | with_reducible refine rd_bm ?_
  | with_reducible refine rd_bm0 ?_
  | with_reducible refine rd_un ?_
  | with_reducible refine rd_neg ?_
  | with_reducible refine rd_c2 ?_
  | with_reducible refine rd_retN ?_
  | with_reducible refine rd_break ?_
  | with_reducible refine rd_cont ?_
  | with_reducible refine rd_for ?_
  | with_reducible refine rd_rng1 ?_
  | with_reducible refine rd_rng2 ?_
  | with_reducible refine rd_iList ?_
  | with_reducible refine rd_iTup ?_
  | with_reducible refine rd_iEnum ?_
  | ((with_reducible refine rd_forR ?h0 ?h1 ?_); (case h0 => omega); (case h1 => omega))
  | with_reducible refine rd_lc ?_
  | with_reducible refine rd_gcons ?_
  | with_reducible refine rd_gnil ?_
  | with_reducible refine rd_dget ?_
  | with_reducible refine rd_dput ?_
  | with_reducible refine rd_dnew ?_
  | with_reducible refine rd_dc ?_
  | with_reducible refine rd_iItems ?_
  | with_reducible refine rd_iKeys ?_
  | with_reducible refine rd_din ?_
  | with_reducible refine rd_par ?_
  | with_reducible refine rd_two ?_
  | with_reducible refine rd_reprB ?_
  | with_reducible refine rd_ck ?_
  | ((with_reducible refine rd_len ?hl ?_); (case hl => exact rfl))
  | with_reducible refine rd_nT ?_
  | with_reducible refine rd_nF ?_
  | with_reducible refine rd_dnin ?_
  | with_reducible refine rd_isB ?_
  | with_reducible refine rd_isNotB ?_
  | with_reducible refine rd_daug ?_
  | with_reducible refine rd_yesT ?_
  | ((with_reducible refine rd_wp ?hw ?_); (case hw => exact rfl)))
local macro_rules | `(tactic| wtm_at "rd") => `(tactic| repeat wtm_at "rd1")

theorem at_dlt {d : Int} {K : PySem.W.Frag} {H : Hp} {Q : VK} {p : Addr} (hp : H p = some (.lst [.int 0, .int 1, .int (-1)])) (h : Q (.int (dlt d)) H) : rIxU K (.ref p) (.int (d % 3)) H Q := by
  have : d % 3 = 0 ∨ d % 3 = 1 ∨ d % 3 = 2 := by omega
  unfold dlt at h
  rcases this with e | e | e <;> rw [e] at h ⊢ <;> exact rd_ixL (SqL.of hp) rfl h
section
variable {P : Program} {w : World} {K : PySem.W.Frag} {mg : Str → Option Value} {base : Heap}
end
end Law

namespace Law
open PySem PySem.Spec PyProof.Rows L2 U
local macro_rules | `(tactic| wtm_at "rd1") => `(tactic| first
  | with_reducible refine rd_seq ?_
  | ((with_reducible refine rd_var (v := ?vv) ?hv ?_); (case hv => exact rfl))
  | with_reducible refine rd_c ?_
  | with_reducible refine rd_cons ?_
  | with_reducible refine rd_nil ?_
  | with_reducible refine rd_op ?_
  | with_reducible refine rd_asg ?_
  | with_reducible refine rd_name ?_
  | with_reducible refine rd_c1 ?_
  | with_reducible refine rd_cb ?_
  | with_reducible refine rd_test ?_
  | with_reducible refine rd_B ?_
  | with_reducible refine rd_bl ?_
  | with_reducible refine rd_if ?_
  | with_reducible refine rd_ret ?_
  | with_reducible refine rd_drop ?_
  | with_reducible refine rd_next ?_
  | with_reducible refine rd_addI ?_
  | with_reducible refine rd_ltI ?_
  | with_reducible refine rd_eqI ?_
  | with_reducible refine rd_neI ?_
  | with_reducible refine rd_eqS ?_
  | with_reducible refine rd_neS ?_
  | with_reducible refine rd_gtI ?_
  | with_reducible refine rd_geI ?_
  | with_reducible refine rd_leI ?_
  | with_reducible refine rd_ltS ?_
  | with_reducible refine rd_subI ?_
  | ((with_reducible refine rd_modI ?hc ?_); (case hc => first | decide | omega))
  | ((with_reducible refine rd_mulI ?hc ?_); (case hc => first | exact mul_bI | exact .inl (.inr (by decide)) | exact .inl (.inl (by decide)) | exact .inl (.inr (by omega)) | exact .inl (.inl (by omega))))
  | ((with_reducible refine rd_divI ?hc ?_); (case hc => first | decide | omega))
  | ((with_reducible refine rd_powI ?hc ?_); (case hc => exact ⟨by decide, by decide, by decide⟩))
  | with_reducible refine rd_lst ?_
  | with_reducible refine rd_tup ?_
  | ((with_reducible refine rd_sz ?hv ?_); (case hv => exact rfl))
  | with_reducible refine rd_and ?_
  | with_reducible refine rd_or ?_
  | with_reducible refine rd_not ?_
  | with_reducible refine rd_andV ?_
  | with_reducible refine rd_orV ?_
  | with_reducible refine rd_notV ?_
  | with_reducible refine rd_ifE ?_
  | with_reducible refine rd_T ?_
  | with_reducible refine rd_F ?_
  | with_reducible refine rd_chain ?_
  | with_reducible refine rd_is ?_
  | with_reducible refine rd_isNot ?_
  | with_reducible refine rd_absI ?_
  | with_reducible refine rd_maxI ?_
  | with_reducible refine rd_minI ?_
  | with_reducible refine rd_intI ?_
  | with_reducible refine rd_intB ?_
  | with_reducible refine rd_sub ?_
  | with_reducible refine rd_sl ?_
  | with_reducible refine rd_noPart ?_
  | with_reducible refine rd_part ?_
  | with_reducible refine rd_exI ?_
  | with_reducible refine rd_bm ?_
  | with_reducible refine rd_bm0 ?_
  | with_reducible refine rd_un ?_
  | with_reducible refine rd_neg ?_
  | with_reducible refine rd_c2 ?_
  | with_reducible refine rd_retN ?_
  | with_reducible refine rd_break ?_
  | with_reducible refine rd_cont ?_
  | with_reducible refine rd_for ?_
  | with_reducible refine rd_rng1 ?_
  | with_reducible refine rd_rng2 ?_
  | with_reducible refine rd_iList ?_
  | with_reducible refine rd_iTup ?_
  | with_reducible refine rd_iEnum ?_
  | ((with_reducible refine rd_forR ?h0 ?h1 ?_); (case h0 => omega); (case h1 => omega))
  | with_reducible refine rd_lc ?_
  | with_reducible refine rd_gcons ?_
  | with_reducible refine rd_gnil ?_
  | with_reducible refine rd_dget ?_
  | with_reducible refine rd_dput ?_
  | with_reducible refine rd_dnew ?_
  | with_reducible refine rd_dc ?_
  | with_reducible refine rd_iItems ?_
  | with_reducible refine rd_iKeys ?_
  | with_reducible refine rd_din ?_
  | with_reducible refine rd_par ?_
  | with_reducible refine rd_two ?_
  | with_reducible refine rd_reprB ?_
  | with_reducible refine rd_ck ?_
  | ((with_reducible refine rd_len ?hl ?_); (case hl => exact rfl))
  | with_reducible refine rd_nT ?_
  | with_reducible refine rd_nF ?_
  | with_reducible refine rd_dnin ?_
  | with_reducible refine rd_isB ?_
  | with_reducible refine rd_isNotB ?_
  | with_reducible refine rd_daug ?_
  | with_reducible refine rd_yesT ?_
  | ((with_reducible refine rd_wp ?hw ?_); (case hw => exact rfl)))
local macro_rules | `(tactic| wtm_at "rd") => `(tactic| repeat wtm_at "rd1")

def spSlope : Sp := fun vs H Q _ => ∃ (st : Addr) (a b : Str) (ord : List Str) (f : Str → Int), vs = [.ref st, .str a, .str b] ∧ Rd H st (.dK (kvF ord f)) ∧ a ∈ ord ∧ b ∈ ord ∧ Q (.int (slp f a b)) H
/-- the numbers over ns stand at c -/
def spNum : Sp := fun vs H Q _ => ∃ (g n e st c : Addr) (ns ord : List Str) (es : List (Addr × Str × Str)) (f h : Str → Int), vs = [.ref g, .ref c] ∧ GSt H g n e st ns ord es f ∧ H c = some (.dK (kvF ns h)) ∧ ∀ H' : Hp, Same H H' → Q (.bl true) H'
def spFit : Sp := fun vs H Q _ => ∃ (st c : Addr) (a b : Str) (ord ns : List Str) (f h : Str → Int), vs = [.ref st, .ref c, .str a, .str b] ∧ H st = some (.dK (kvF ord f)) ∧ H c = some (.dK (kvF ns h)) ∧ a ∈ ord ∧ b ∈ ord ∧ a ∈ ns ∧ b ∈ ns ∧
  ∀ H' : Hp, Same H H' → Q (.bl (fitB f h a b)) H'
def spIsLift : Sp := fun vs H Q _ => ∃ (g n e st c : Addr) (ns ord : List Str) (es : List (Addr × Str × Str)) (f h : Str → Int), vs = [.ref g, .ref st, .ref c] ∧ GSt H g n e st ns ord es f ∧ H c = some (.dK (kvF ns h)) ∧
  ∀ H' : Hp, Same H H' → Q (.bl ((es.map (·.2)).all fun e => fitB f h e.1 e.2)) H'
section
variable {P : Program} {w : World} {K : PySem.W.Frag} {mg : Str → Option Value} {base : Heap}
structure D1c (mg : Str → Option Value) : Prop where
  UP : ∃ u, mg "UP" = some u ∧ RelV (.int 1) u
  DOWN : ∃ u, mg "DOWN" = some u ∧ RelV (.int (-1)) u
theorem ok_slope {f : Addr} {fd : FuncData} (F : Fun K "slope" "slope" s_slope f fd) (B : Bt mg) (C : D1c mg) : FnG P w K mg base CX0 1 f fd ["state", "node", "neighbor"] spSlope := by
  refine fnG0 F sc_slope (fun vs H Q E h => ?_) (fun cdv A outer s H vs Q E hr h => ?_)
  · obtain ⟨st, a, b, ord, f, rfl, _⟩ := h
    rfl
  · obtain ⟨st, a, b, ord, f, rfl, hst, ha, hb, q⟩ := h
    have nd := sc_slope.nd
    have hu := hr.u1
    refine ⟨_, (pss_one (ps_ret (pe_ifExp (pt_cmpR (kEq K rfl hr.u64) (pe_op uMod (pe_op uSub (pe_dget hu (pv 0) (pv 2) (fun _ _ => rfl)) (pe_dget hu (pv 0) (pv 1) (fun _ _ => rfl))) pe_int) pe_int (nomark _)) (pe_gl rfl C.UP) (pe_gl rfl C.DOWN)))), ?_⟩
    wtm_at "rd"
    refine rd_dat hst (kvF_val hb) rfl ?_
    wtm_at "rd"
    refine rd_dat hst (kvF_val ha) rfl ?_
    wtm_at "rd"
    unfold slp at q
    refine rd_split (fun c => ?_) (fun c => ?_)
    · rw [if_pos c] at q
      exact q
    · rw [if_neg c] at q
      exact q
structure D5 (P : Program) (w : World) (K : PySem.W.Frag) (mg : Str → Option Value) (base : Heap) : Prop where
  is_integer : Cal P w K mg base CX0 1 "is_integer" (spIsInt K)
  slope : Cal P w K mg base CX0 1 "slope" spSlope
  UP : ∃ u, mg "UP" = some u ∧ RelV (.int 1) u
theorem ok_num {f : Addr} {fd : FuncData} (F : Fun K "is_number_dict" "is_number_dict" s_is_number_dict f fd) (B : Bt mg) (C : D5 P w K mg base) : FnG P w K mg base CX0 2 f fd ["graph", "candidate"] spNum := by
  refine fnG0 F sc_is_number_dict (fun vs H Q E h => ?_) (fun cdv A outer s H vs Q E hr h => ?_)
  · obtain ⟨g, n, e, st, c, ns, ord, es, f, h, rfl, _⟩ := h
    rfl
  · obtain ⟨g, n, e, st, c, ns, ord, es, f, h, rfl, gs, hc, q⟩ := h
    have nd := sc_is_number_dict.nd
    have hu := hr.u1
    refine ⟨_, (pss_cons (ps_if (PW.pt (pw_or (pt_not (pt_val (pe_callB (kIsi K rfl) (by rfl) B.isinstance bb_isinstance (pa_cons (pv 1) (pa_cons (pe_ty rfl B.dict bb_dict) pa_nil))))) (pw_or1 (pt_cmpR (kNe K rfl hr.u64) (pe_callB (kLen K rfl) (by rfl) B.len bb_len (pa_cons (pv 1) pa_nil)) (pe_callB (kLen K rfl) (by rfl) B.len bb_len (pa_cons (pe_ix (kIx K rfl) (pv 0) pe_int (fun _ _ => rfl)) pa_nil)) (nomark _))))) (pss_one (ps_ret pe_bl)) pss_nil)
  (pss_one (ps_ret (pe_callB (kAll K rfl rfl) (by rfl) B.all bb_all (pa_cons (pe_lc (own := [("node", 2)]) rfl nd (ki_tup K rfl (pe_ix (kIx K rfl) (pv 0) pe_int (fun _ _ => rfl))) (blkOk_by (own := [("node", 2)]) (N := nN_is_number_dict) (sc := defScope s_is_number_dict) (by decide +kernel)) (fun _ _ _ _ _ => (pg_name (i := 2) nd rfl (by first | exact Or.inl rfl | exact Or.inr rfl))) (fun _ _ _ _ _ => pts_nil) (fun _ _ _ _ _ => (pe_and (pe_cmp (pc_din hu (pv 2) (pv 1))) (pe_one (pe_c C.is_integer hr (by decide) rfl (pa_cons (pe_dget hu (pv 1) (pv 2) (fun _ _ => rfl)) pa_nil)))))) pa_nil))))), ?_⟩
    wtm_at "rd"
    refine rd_isi (ty_dK hc) (t := .dct) (by decide +kernel) ?_
    rw [show isT .dct .dct = true from by decide +kernel]
    wtm_at "rd"
    refine rd_lenD hc ?_
    wtm_at "rd"
    refine rd_ixT (SqT.of gs.gr.top) (v := .ref n) rfl ?_
    wtm_at "rd"
    refine rd_lenT (SqT.of gs.gr.nodes) ?_
    rw [List.length_map, List.length_map]
    wtm_at "rd"
    refine rd_nno rfl ?_
    wtm_at "rd"
    refine rd_ixT (SqT.of gs.gr.top) (v := .ref n) rfl ?_
    refine rd_forT (SqT.of gs.gr.nodes) ?_
    intro D fD
    refine lcT (K := K) (xs := ns.map V.str) (fun i H' => Same H H' ∧ H' D = some (.lst ((List.replicate i true).map V.bl))) ⟨Same.new fD, upd_same⟩ ?_ ?_ ?_
    · rintro i H' hi ⟨s, _⟩
      exact SqT.of (s _ _ gs.gr.nodes)
    · rintro i y H' hy ⟨s, hD⟩
      obtain ⟨hi, rfl⟩ := map_at hy
      have hm := List.getElem_mem hi
      wtm_at "rd"
      refine rd_din1 (.inl (s _ _ hc)) (k := .inr ns[i]) rfl ?_
      rw [kvF_val hm]
      refine rd_bl ?_
      refine rd_T ?_
      wtm_at "rd"
      refine rd_dat (.inl (s _ _ hc)) (kvF_val hm) rfl ?_
      wtm_at "rd"
      refine ⟨_, .int, rfl, ty_int, ?_⟩
      refine rd_acc hD (by rw [List.length_map, List.length_replicate]; have := gs.l2; omega) ?_
      refine ⟨same_put s fD, ?_⟩
      rw [upd_same, List.replicate_succ', List.map_append]
      rfl
    · rintro H' ⟨s, hD⟩
      wtm_at "rd"
      refine rd_allL (SqL.of hD) ?_
      have : (List.replicate (ns.map V.str).length true).all id = true := by
        rw [List.all_eq_true]
        intro b hb
        exact List.eq_of_mem_replicate hb
      rw [this]
      exact q H' s
theorem ok_fit {f : Addr} {fd : FuncData} (F : Fun K "fits_edge" "fits_edge" s_fits_edge f fd) (B : Bt mg) (C : D5 P w K mg base) : FnG P w K mg base CX0 2 f fd ["state", "lift", "one", "other"] spFit := by
  refine fnG0 F sc_fits_edge (fun vs H Q E h => ?_) (fun cdv A outer s H vs Q E hr h => ?_)
  · obtain ⟨st, c, a, b, ord, ns, f, h, rfl, _⟩ := h
    rfl
  · obtain ⟨st, c, a, b, ord, ns, f, h, rfl, hst, hc, ao, bo, an, bn, q⟩ := h
    have nd := sc_fits_edge.nd
    have hu := hr.u1
    refine ⟨_, (pss_cons (ps_asg (pe_ifExp (pt_cmpR (kEq K rfl hr.u64) (pe_c C.slope hr (by decide) rfl (pa_cons (pv 0) (pa_cons (pv 2) (pa_cons (pv 3) pa_nil)))) (pe_gl rfl C.UP) (nomark _)) (pe_tup (pa_cons (pv 3) (pa_cons (pv 2) pa_nil))) (pe_tup (pa_cons (pv 2) (pa_cons (pv 3) pa_nil)))) (kg_tup (n := 2) K rfl rfl (pgs_cons (pg_name (i := 4) nd rfl (by first | exact Or.inl rfl | exact Or.inr rfl)) (pgs_cons (pg_name (i := 5) nd rfl (by first | exact Or.inl rfl | exact Or.inr rfl)) pgs_nil))))
  (pss_one (ps_ret (pe_chain uLe uLe pe_int (pe_op uSub (pe_dget hu (pv 1) (pv 5) (fun _ _ => rfl)) (pe_dget hu (pv 1) (pv 4) (fun _ _ => rfl))) pe_int)))), ?_⟩
    wtm_at "rd"
    refine ⟨st, a, b, ord, f, rfl, .inl hst, ao, bo, ?_⟩
    wtm_at "rd"
    unfold fitB at q
    refine rd_split (fun k => ?_) (fun k => ?_)
    · rw [if_pos k] at q
      wtm_at "rd"
      intro t ft
      refine rd_unp (SqT.of upd_same) rfl ?_
      have hc1 := at_upd (o := .tup [.str b, .str a]) (ne_of_none hc ft) hc
      have s1 := Same.new (o := .tup [.str b, .str a]) ft
      wtm_at "rd"
      refine rd_dat (.inl hc1) (kvF_val an) rfl ?_
      wtm_at "rd"
      refine rd_dat (.inl hc1) (kvF_val bn) rfl ?_
      wtm_at "rd"
      have z := q _ s1
      refine rd_split (fun k2 => ?_) (fun k2 => ?_)
      · rw [decide_eq_true k2, Bool.true_and] at z
        wtm_at "rd"
        exact z
      · rw [decide_eq_false k2, Bool.false_and] at z
        exact z
    · rw [if_neg k] at q
      wtm_at "rd"
      intro t ft
      refine rd_unp (SqT.of upd_same) rfl ?_
      have hc1 := at_upd (o := .tup [.str a, .str b]) (ne_of_none hc ft) hc
      have s1 := Same.new (o := .tup [.str a, .str b]) ft
      wtm_at "rd"
      refine rd_dat (.inl hc1) (kvF_val bn) rfl ?_
      wtm_at "rd"
      refine rd_dat (.inl hc1) (kvF_val an) rfl ?_
      wtm_at "rd"
      have z := q _ s1
      refine rd_split (fun k2 => ?_) (fun k2 => ?_)
      · rw [decide_eq_true k2, Bool.true_and] at z
        wtm_at "rd"
        exact z
      · rw [decide_eq_false k2, Bool.false_and] at z
        exact z
structure D6 (P : Program) (w : World) (K : PySem.W.Frag) (mg : Str → Option Value) (base : Heap) : Prop where
  is_number_dict : Cal P w K mg base CX0 2 "is_number_dict" spNum
  fits_edge : Cal P w K mg base CX0 2 "fits_edge" spFit
theorem ok_is_lift {f : Addr} {fd : FuncData} (F : Fun K "is_lift" "is_lift" s_is_lift f fd) (B : Bt mg) (C : D6 P w K mg base) : FnG P w K mg base CX0 3 f fd ["graph", "state", "candidate"] spIsLift := by
  refine fnG0 F sc_is_lift (fun vs H Q E h => ?_) (fun cdv A outer s H vs Q E hr h => ?_)
  · obtain ⟨g, n, e, st, c, ns, ord, es, f, h, rfl, _⟩ := h
    rfl
  · obtain ⟨g, n, e, st, c, ns, ord, es, f, h, rfl, gs, hc, q⟩ := h
    have nd := sc_is_lift.nd
    have hu := hr.u1
    refine ⟨_, (pss_cons (ps_if (pt_not (pt_val (pe_c C.is_number_dict hr (by decide) rfl (pa_cons (pv 0) (pa_cons (pv 2) pa_nil))))) (pss_one (ps_ret pe_bl)) pss_nil)
  (pss_one (ps_ret (pe_callB (kAll K rfl rfl) (by rfl) B.all bb_all (pa_cons (pe_lc (own := [("one", 3), ("other", 4)]) rfl nd (ki_tup K rfl (pe_ix (kIx K rfl) (pv 0) pe_int (fun _ _ => rfl))) (blkOk_by (own := [("one", 3), ("other", 4)]) (N := nN_is_lift) (sc := defScope s_is_lift) (by decide +kernel)) (fun _ _ _ _ _ => (kg_tup (n := 2) K rfl rfl (pgs_cons (pg_name (i := 3) nd rfl (by first | exact Or.inl rfl | exact Or.inr rfl)) (pgs_cons (pg_name (i := 4) nd rfl (by first | exact Or.inl rfl | exact Or.inr rfl)) pgs_nil)))) (fun _ _ _ _ _ => pts_nil) (fun _ _ _ _ _ => (pe_c C.fits_edge hr (by decide) rfl (pa_cons (pv 1) (pa_cons (pv 2) (pa_cons (pv 3) (pa_cons (pv 4) pa_nil))))))) pa_nil))))), ?_⟩
    wtm_at "rd"
    refine ⟨g, n, e, st, c, ns, ord, es, f, h, rfl, gs, hc, fun H1 s1 => ?_⟩
    wtm_at "rd"
    refine rd_ixT (SqT.of (s1 _ _ gs.gr.top)) (v := .ref e) rfl ?_
    refine rd_forT (SqT.of (s1 _ _ gs.gr.edges)) ?_
    intro D fD
    have fD0 := new_of_same s1 fD
    refine lcT (K := K) (xs := es.map fun x => V.ref x.1) (fun i H' => Same H H' ∧ H' D = some (.lst ((((es.map (·.2)).take i).map fun e => fitB f h e.1 e.2).map V.bl))) ⟨same_add s1 fD, upd_same⟩ ?_ ?_ ?_
    · rintro i H' hi ⟨s, _⟩
      exact SqT.of (s _ _ gs.gr.edges)
    · rintro i y H' hy ⟨s, hD⟩
      obtain ⟨hi, rfl⟩ := map_at hy
      have hm := List.getElem_mem hi
      have i2 : i < (es.map (·.2)).length := by rw [List.length_map]; exact hi
      have tk := take_snoc i2
      rw [List.getElem_map] at tk
      obtain ⟨m1, m2⟩ := gs.inE _ hm
      refine rd_unp (SqT.of (s _ _ (gs.gr.pairs _ hm))) rfl ?_
      wtm_at "rd"
      refine ⟨st, c, _, _, ord, ns, f, h, rfl, s _ _ gs.st, s _ _ hc, gs.inO _ m1, gs.inO _ m2, m1, m2, fun H2 s2 => ?_⟩
      refine rd_acc (s2 _ _ hD) (by rw [List.length_map, List.length_map, List.length_take]; have := gs.l3; omega) ?_
      refine ⟨same_put (s.trans s2) fD0, ?_⟩
      rw [upd_same, tk, List.map_append, List.map_append]
      rfl
    · rintro H' ⟨s, hD⟩
      rw [List.length_map, List.take_of_length_le (by rw [List.length_map]; exact Nat.le_refl _)] at hD
      wtm_at "rd"
      refine rd_allL (SqL.of hD) ?_
      rw [List.all_map]
      exact q H' s
end
end Law

/-! paths found level by level: the plain law -/
namespace U
open PySem PySem.Spec PyProof.Rows L2
/-- nodes found, each with its path, in the order in which they are found -/
abbrev keysF (kp : List (Str × List Str)) : List Str := kp.map (·.1)
def addF (ok : Str → Str → Bool) (c : Str × List Str) (kp : List (Str × List Str)) (o : Str) : List (Str × List Str) := if o ∉ keysF kp ∧ ok c.1 o = true then kp ++ [(o, c.2 ++ [o])] else kp
def addsF (ok : Str → Str → Bool) (c : Str × List Str) (os : List Str) (kp : List (Str × List Str)) : List (Str × List Str) := os.foldl (addF ok c) kp
def stF (adj : Str → List Str) (ok : Str → Str → Bool) (root : Str) : Nat → List (Str × List Str)
  | 0 => [(root, [root])]
  | i + 1 => match (stF adj ok root i)[i]? with
    | none => stF adj ok root i
    | some c => addsF ok c (adj c.1) (stF adj ok root i)
def pathsF (adj : Str → List Str) (ok : Str → Str → Bool) (root : Str) : List (Str × List Str) := stF adj ok root 1000
inductive Reach (adj : Str → List Str) (ok : Str → Str → Bool) (root : Str) : Str → Prop
  | refl : Reach adj ok root root
  | step {a b : Str} : Reach adj ok root a → b ∈ adj a → ok a b = true → Reach adj ok root b
theorem Reach.trans {adj : Str → List Str} {ok : Str → Str → Bool} {a b c : Str} (h : Reach adj ok a b) (k : Reach adj ok b c) : Reach adj ok a c := by
  induction k with
  | refl => exact h
  | step _ m o ih => exact .step ih m o
section
variable {adj : Str → List Str} {ok : Str → Str → Bool} {root : Str}
theorem addF_cases (c : Str × List Str) (kp : List (Str × List Str)) (o : Str) : (addF ok c kp o = kp ∧ (o ∈ keysF kp ∨ ok c.1 o = false)) ∨ (addF ok c kp o = kp ++ [(o, c.2 ++ [o])] ∧ o ∉ keysF kp ∧ ok c.1 o = true) := by
  unfold addF
  by_cases h : o ∉ keysF kp ∧ ok c.1 o = true
  · rw [if_pos h]
    exact .inr ⟨rfl, h⟩
  · rw [if_neg h]
    refine .inl ⟨rfl, ?_⟩
    by_cases m : o ∈ keysF kp
    · exact .inl m
    · refine .inr ?_
      cases e : ok c.1 o with
      | false => rfl
      | true => exact (h ⟨m, e⟩).elim
theorem addsF_snoc {c : Str × List Str} {os : List Str} {o : Str} {kp : List (Str × List Str)} : addsF ok c (os ++ [o]) kp = addF ok c (addsF ok c os kp) o := by
  unfold addsF
  rw [List.foldl_append]
  rfl
theorem addsF_pre {c : Str × List Str} : ∀ {os : List Str} {kp : List (Str × List Str)}, ∃ r, addsF ok c os kp = kp ++ r
  | [], kp => ⟨[], (List.append_nil kp).symm⟩
  | o :: os, kp => by
    obtain ⟨r, hr⟩ := addsF_pre (c := c) (os := os) (kp := addF ok c kp o)
    have e : addsF ok c (o :: os) kp = addsF ok c os (addF ok c kp o) := rfl
    rw [e, hr]
    rcases addF_cases c kp o with ⟨h, _⟩ | ⟨h, _⟩
    · rw [h]
      exact ⟨r, rfl⟩
    · rw [h, List.append_assoc]
      exact ⟨_, rfl⟩
/-- what is added: each a neighbour that may be gone to -/
theorem addsF_mem {c : Str × List Str} : ∀ {os : List Str} {kp : List (Str × List Str)} {x : Str × List Str}, x ∈ addsF ok c os kp → x ∈ kp ∨ (x.1 ∈ os ∧ ok c.1 x.1 = true ∧ x.2 = c.2 ++ [x.1])
  | [], kp, x, h => .inl h
  | o :: os, kp, x, h => by
    have e : addsF ok c (o :: os) kp = addsF ok c os (addF ok c kp o) := rfl
    rw [e] at h
    rcases addsF_mem h with h | ⟨h1, h2, h3⟩
    · rcases addF_cases c kp o with ⟨e, _⟩ | ⟨e, _, k⟩
      · rw [e] at h
        exact .inl h
      · rw [e] at h
        rcases List.mem_append.mp h with h | h
        · exact .inl h
        · rw [List.mem_singleton] at h
          subst h
          exact .inr ⟨List.mem_cons_self, k, rfl⟩
    · exact .inr ⟨List.mem_cons_of_mem _ h1, h2, h3⟩
theorem addsF_all {c : Str × List Str} : ∀ {os : List Str} {kp : List (Str × List Str)} {o : Str}, o ∈ os → ok c.1 o = true → o ∈ keysF (addsF ok c os kp)
  | o' :: os, kp, o, h, k => by
    have e : addsF ok c (o' :: os) kp = addsF ok c os (addF ok c kp o') := rfl
    rw [e]
    rcases List.mem_cons.mp h with rfl | h
    · obtain ⟨r, hr⟩ := addsF_pre (ok := ok) (c := c) (os := os) (kp := addF ok c kp o)
      rw [hr, keysF, List.map_append]
      refine List.mem_append_left _ ?_
      rcases addF_cases c kp o with ⟨e, m⟩ | ⟨e, _⟩
      · rw [e]
        rcases m with m | m
        · exact m
        · rw [k] at m
          cases m
      · rw [e, List.map_append]
        exact List.mem_append_right _ List.mem_cons_self
    · exact addsF_all h k
theorem addF_nodup {c : Str × List Str} {kp : List (Str × List Str)} {o : Str} (h : (keysF kp).Nodup) : (keysF (addF ok c kp o)).Nodup := by
  rcases addF_cases c kp o with ⟨e, _⟩ | ⟨e, m, _⟩
  · rw [e]
    exact h
  · rw [e, keysF, List.map_append, List.nodup_append]
    refine ⟨h, by simp, fun a ha b hb z => ?_⟩
    have : b = o := by simpa using hb
    rw [z, this] at ha
    exact m ha
theorem addsF_nodup {c : Str × List Str} : ∀ {os : List Str} {kp : List (Str × List Str)}, (keysF kp).Nodup → (keysF (addsF ok c os kp)).Nodup
  | [], _, h => h
  | o :: os, kp, h => addsF_nodup (os := os) (addF_nodup h)
theorem stF_at {i : Nat} {c : Str × List Str} (h : (stF adj ok root i)[i]? = some c) : stF adj ok root (i + 1) = addsF ok c (adj c.1) (stF adj ok root i) := by
  rw [stF, h]
theorem stF_end {i : Nat} (h : (stF adj ok root i)[i]? = none) : stF adj ok root (i + 1) = stF adj ok root i := by
  rw [stF, h]
theorem stF_pre (i : Nat) : ∃ r, stF adj ok root (i + 1) = stF adj ok root i ++ r := by
  cases h : (stF adj ok root i)[i]? with
  | none => rw [stF_end h]; exact ⟨[], (List.append_nil _).symm⟩
  | some c => rw [stF_at h]; exact addsF_pre
theorem stF_pre' (i : Nat) : ∀ k, ∃ r, stF adj ok root (i + k) = stF adj ok root i ++ r
  | 0 => ⟨[], (List.append_nil _).symm⟩
  | k + 1 => by
    obtain ⟨r, hr⟩ := stF_pre' i k
    obtain ⟨r2, h2⟩ := stF_pre (adj := adj) (ok := ok) (root := root) (i + k)
    exact ⟨r ++ r2, by rw [← Nat.add_assoc, h2, hr, List.append_assoc]⟩
theorem stF_stop {i : Nat} (h : (stF adj ok root i).length ≤ i) : ∀ k, stF adj ok root (i + k) = stF adj ok root i
  | 0 => rfl
  | k + 1 => by
    have e := stF_stop h k
    rw [← Nat.add_assoc, stF_end (by rw [e]; exact List.getElem?_eq_none (by omega)), e]
theorem stF_nodup : ∀ i, (keysF (stF adj ok root i)).Nodup
  | 0 => by simp [stF]
  | i + 1 => by
    cases h : (stF adj ok root i)[i]? with
    | none => rw [stF_end h]; exact stF_nodup i
    | some c => rw [stF_at h]; exact addsF_nodup (stF_nodup i)
theorem stF_root (i : Nat) : ∃ r, stF adj ok root i = (root, [root]) :: r := by
  obtain ⟨r, h⟩ := stF_pre' (adj := adj) (ok := ok) (root := root) 0 i
  rw [Nat.zero_add] at h
  exact ⟨r, h⟩
/-- a path: from the first to the last, each step to a neighbour that may be gone to -/
inductive PathTo (adj : Str → List Str) (ok : Str → Str → Bool) (root : Str) : Str → List Str → Prop
  | one : PathTo adj ok root root [root]
  | snoc {a b : Str} {p : List Str} : PathTo adj ok root a p → b ∈ adj a → ok a b = true → PathTo adj ok root b (p ++ [b])
theorem PathTo.reach {a : Str} {p : List Str} (h : PathTo adj ok root a p) : Reach adj ok root a := by
  induction h with
  | one => exact .refl
  | snoc _ m o ih => exact .step ih m o
theorem stF_path : ∀ i x, x ∈ stF adj ok root i → PathTo adj ok root x.1 x.2
  | 0, x, h => by
    rw [stF, List.mem_singleton] at h
    subst h
    exact .one
  | i + 1, x, h => by
    cases e : (stF adj ok root i)[i]? with
    | none => rw [stF_end e] at h; exact stF_path i x h
    | some c =>
      rw [stF_at e] at h
      rcases addsF_mem h with h | ⟨h1, h2, h3⟩
      · exact stF_path i x h
      · have := stF_path i c (List.mem_of_getElem? e)
        rw [h3]
        exact .snoc this h1 h2
theorem stF_reach {i : Nat} {x : Str} (h : x ∈ keysF (stF adj ok root i)) : Reach adj ok root x := by
  obtain ⟨y, hy, rfl⟩ := List.mem_map.mp h
  exact (stF_path i y hy).reach
/-- those whose turn has been have their neighbours found -/
theorem stF_closed : ∀ (i j : Nat) (c : Str × List Str), j < i → (stF adj ok root i)[j]? = some c → ∀ b ∈ adj c.1, ok c.1 b = true → b ∈ keysF (stF adj ok root i)
  | i + 1, j, c, hj, hc, b, hb, hk => by
    cases e : (stF adj ok root i)[i]? with
    | none =>
      rw [stF_end e] at hc ⊢
      have : j < (stF adj ok root i).length := (List.getElem?_eq_some_iff.mp hc).1
      have := List.getElem?_eq_none_iff.mp e
      exact stF_closed i j c (by omega) hc b hb hk
    | some d =>
      have li : i < (stF adj ok root i).length := (List.getElem?_eq_some_iff.mp e).1
      obtain ⟨r, hr⟩ := stF_pre (adj := adj) (ok := ok) (root := root) i
      have hc2 : (stF adj ok root i)[j]? = some c := by
        rw [hr, List.getElem?_append_left (by omega)] at hc
        exact hc
      by_cases q : j < i
      · have := stF_closed i j c q hc2 b hb hk
        rw [hr, keysF, List.map_append]
        exact List.mem_append_left _ this
      · have : j = i := by omega
        subst this
        rw [hc2] at e
        cases e
        rw [stF_at hc2]
        exact addsF_all hb hk
theorem stF_all {i : Nat} (h : (stF adj ok root i).length ≤ i) {x : Str} (r : Reach adj ok root x) : x ∈ keysF (stF adj ok root i) := by
  induction r with
  | refl =>
    obtain ⟨r, e⟩ := stF_root (adj := adj) (ok := ok) (root := root) i
    rw [e]
    exact List.mem_cons_self
  | step _ m o ih =>
    obtain ⟨y, hy, rfl⟩ := List.mem_map.mp ih
    obtain ⟨j, hj, e⟩ := List.mem_iff_getElem.mp hy
    exact stF_closed i j y (by omega) (by rw [List.getElem?_eq_getElem hj, e]) _ m o
/-- nodes of ns alone -/
theorem reach_mem {ns : List Str} (cl : ∀ x ∈ ns, ∀ y ∈ adj x, y ∈ ns) (h0 : root ∈ ns) {x : Str} (r : Reach adj ok root x) : x ∈ ns := by
  induction r with
  | refl => exact h0
  | step _ m _ ih => exact cl _ ih _ m
theorem nodup_len {α : Type} [DecidableEq α] : ∀ {xs ys : List α}, xs.Nodup → (∀ x ∈ xs, x ∈ ys) → xs.length ≤ ys.length
  | [], _, _, _ => Nat.zero_le _
  | x :: xs, ys, nd, h => by
    rw [List.nodup_cons] at nd
    have hx := h x List.mem_cons_self
    have := nodup_len (xs := xs) (ys := ys.erase x) nd.2 fun y hy => by
      refine (List.mem_erase_of_ne ?_).mpr (h y (List.mem_cons_of_mem _ hy))
      rintro rfl
      exact nd.1 hy
    rw [List.length_erase_of_mem hx] at this
    have : 0 < ys.length := List.length_pos_of_mem hx
    rw [List.length_cons]
    omega
theorem stF_len {ns : List Str} (cl : ∀ x ∈ ns, ∀ y ∈ adj x, y ∈ ns) (h0 : root ∈ ns) (i : Nat) : (stF adj ok root i).length ≤ ns.length := by
  have := nodup_len (stF_nodup (adj := adj) (ok := ok) (root := root) i) (ys := ns) fun x hx => reach_mem cl h0 (stF_reach hx)
  rw [List.length_map] at this
  exact this
theorem addsF_len {c : Str × List Str} : ∀ {os : List Str} {kp : List (Str × List Str)}, (addsF ok c os kp).length ≤ kp.length + os.length
  | [], kp => Nat.le_refl _
  | o :: os, kp => by
    have e : addsF ok c (o :: os) kp = addsF ok c os (addF ok c kp o) := rfl
    have := addsF_len (c := c) (os := os) (kp := addF ok c kp o)
    rw [e, List.length_cons]
    rcases addF_cases c kp o with ⟨z, _⟩ | ⟨z, _⟩ <;> rw [z] at this
    · rw [z]
      omega
    · rw [z]
      rw [List.length_append, List.length_singleton] at this
      omega
theorem stF_plen : ∀ i x, x ∈ stF adj ok root i → x.2.length ≤ i + 1
  | 0, x, h => by
    rw [stF, List.mem_singleton] at h
    subst h
    exact Nat.le_refl _
  | i + 1, x, h => by
    cases e : (stF adj ok root i)[i]? with
    | none =>
      rw [stF_end e] at h
      have := stF_plen i x h
      omega
    | some c =>
      rw [stF_at e] at h
      rcases addsF_mem h with h | ⟨h1, h2, h3⟩
      · have := stF_plen i x h
        omega
      · have := stF_plen i c (List.mem_of_getElem? e)
        rw [h3, List.length_append, List.length_singleton]
        omega
/-- where the loop ends, all is found -/
theorem stF_done {i : Nat} (h : (stF adj ok root i).length ≤ i) (hi : i ≤ 1000) : stF adj ok root i = pathsF adj ok root := by
  have e := stF_stop h (1000 - i)
  rw [Nat.add_sub_cancel' hi] at e
  exact e.symm
end

/-! ### neighbours in order -/
def sortS (xs : List Str) : List Str := xs.mergeSort fun a b => !decide (sLt b a)
theorem sortS_perm (xs : List Str) : (sortS xs).Perm xs := List.mergeSort_perm xs _
theorem nlt_trans {a b c : Str} (h : ¬ sLt b a) (k : ¬ sLt c b) : ¬ sLt c a := by
  intro z
  rcases sLt_tri a b with t | t | t
  · exact k (sLt_trans z t)
  · subst t
    exact k z
  · exact h t
theorem sortS_pw (xs : List Str) : (sortS xs).Pairwise fun a b => ¬ sLt b a := by
  have := List.pairwise_mergeSort (le := fun a b : Str => !decide (sLt b a)) (fun a b c h k => by
    simp only [Bool.not_eq_true', decide_eq_false_iff_not] at h k ⊢
    exact nlt_trans h k) (fun a b => by
    rw [Bool.or_eq_true]
    simp only [Bool.not_eq_true', decide_eq_false_iff_not]
    by_cases z : sLt b a
    · exact .inr (sLt_asymm z)
    · exact .inl z) xs
  exact this.imp fun h => by
    simp only [Bool.not_eq_true', decide_eq_false_iff_not] at h
    exact h
theorem sortS_asc {xs : List Str} (nd : xs.Nodup) : Asc (sortS xs) := asc_of_sorted (sortS_pw xs) ((sortS_perm xs).nodup_iff.mpr nd)
theorem sort_uniq {xs ys : List Str} (p : ys.Perm xs) (s : ys.Pairwise fun a b => ¬ sLt b a) (nd : xs.Nodup) : ys = sortS xs :=
  asc_unique (asc_of_sorted s (p.nodup_iff.mpr nd)) (sortS_asc nd) fun z => by rw [p.mem_iff, (sortS_perm xs).mem_iff]
theorem nbrF_nodup {ns : List Str} {es : List (Str × Str)} (ok : GrOk ns es) (x : Str) : (nbrF es x).Nodup := by
  unfold nbrF
  rw [List.nodup_iff_pairwise_ne, List.pairwise_flatMap]
  have m : ∀ {e : Str × Str} {z : Str}, z ∈ (if e.1 = x then [e.2] else []) ++ (if e.2 = x then [e.1] else []) → (e.1 = x ∧ z = e.2) ∨ (e.2 = x ∧ z = e.1) := by
    intro e z h
    rcases List.mem_append.mp h with h | h
    · split at h
      · rename_i c
        exact .inl ⟨c, by simpa using h⟩
      · cases h
    · split at h
      · rename_i c
        exact .inr ⟨c, by simpa using h⟩
      · cases h
  refine ⟨fun e he => ?_, ?_⟩
  · by_cases c : e.1 = x
    · have c2 : ¬ e.2 = x := fun z => by
        have := ok.lt e he
        rw [c, z] at this
        exact sLt_irrefl _ this
      rw [if_pos c, if_neg c2]
      simp
    · rw [if_neg c]
      split <;> simp
  · have nd := List.nodup_iff_pairwise_ne.mp (ascE_nodup ok.asc)
    refine List.Pairwise.imp_of_mem (fun {e d} he hd ne => ?_) nd
    intro z hz y hy zy
    subst zy
    have le := ok.lt e he
    have ld := ok.lt d hd
    rcases m hz with ⟨a1, a2⟩ | ⟨a1, a2⟩ <;> rcases m hy with ⟨b1, b2⟩ | ⟨b1, b2⟩
    · exact ne (Prod.ext (a1.trans b1.symm) (a2.symm.trans b2))
    · rw [a1, ← a2] at le
      rw [b1, ← b2] at ld
      exact sLt_asymm le ld
    · rw [a1, ← a2] at le
      rw [b1, ← b2] at ld
      exact sLt_asymm le ld
    · exact ne (Prod.ext (a2.symm.trans b2) (a1.trans b1.symm))
def nbS (es : List (Str × Str)) (x : Str) : List Str := sortS (nbrF es x)
theorem nbS_mem {es : List (Str × Str)} {x z : Str} : z ∈ nbS es x ↔ (x, z) ∈ es ∨ (z, x) ∈ es := by
  unfold nbS
  rw [(sortS_perm _).mem_iff]
  exact mem_nbrF
theorem nbS_of {ns : List Str} {es : List (Str × Str)} {x : Str} {ys : List Str} (ok : GrOk ns es) (p : ys.Perm (nbrF es x)) (s : ys.Pairwise fun a b => ¬ sLt b a) : ys = nbS es x := sort_uniq p s (nbrF_nodup ok x)
theorem nbS_in {ns : List Str} {es : List (Str × Str)} (ok : GrOk ns es) {x y : Str} (h : y ∈ nbS es x) : y ∈ ns := by
  rcases nbS_mem.mp h with h | h
  · exact (ok.mem _ h).2
  · exact (ok.mem _ h).1
end U

/-! paths found level by level: paths_from, sloped_paths -/
namespace Law
open PySem PySem.Spec PyProof.Rows L2 U
local macro_rules | `(tactic| wtm_at "rd1") => `(tactic| first
  | with_reducible refine rd_seq ?_
  | ((with_reducible refine rd_var (v := ?vv) ?hv ?_); (case hv => exact rfl))
  | with_reducible refine rd_c ?_
  | with_reducible refine rd_cons ?_
  | with_reducible refine rd_nil ?_
  | with_reducible refine rd_op ?_
  | with_reducible refine rd_asg ?_
  | with_reducible refine rd_name ?_
  | with_reducible refine rd_c1 ?_
  | with_reducible refine rd_cb ?_
  | with_reducible refine rd_test ?_
  | with_reducible refine rd_B ?_
  | with_reducible refine rd_bl ?_
  | with_reducible refine rd_if ?_
  | with_reducible refine rd_ret ?_
  | with_reducible refine rd_drop ?_
  | with_reducible refine rd_next ?_
  | with_reducible refine rd_addI ?_
  | with_reducible refine rd_ltI ?_
  | with_reducible refine rd_eqI ?_
  | with_reducible refine rd_neI ?_
  | with_reducible refine rd_eqS ?_
  | with_reducible refine rd_neS ?_
  | with_reducible refine rd_gtI ?_
  | with_reducible refine rd_geI ?_
  | with_reducible refine rd_leI ?_
  | with_reducible refine rd_ltS ?_
  | with_reducible refine rd_subI ?_
  | ((with_reducible refine rd_modI ?hc ?_); (case hc => first | decide | omega))
  | ((with_reducible refine rd_mulI ?hc ?_); (case hc => first | exact mul_bI | exact .inl (.inr (by decide)) | exact .inl (.inl (by decide)) | exact .inl (.inr (by omega)) | exact .inl (.inl (by omega))))
  | ((with_reducible refine rd_divI ?hc ?_); (case hc => first | decide | omega))
  | ((with_reducible refine rd_powI ?hc ?_); (case hc => exact ⟨by decide, by decide, by decide⟩))
  | with_reducible refine rd_lst ?_
  | with_reducible refine rd_tup ?_
  | ((with_reducible refine rd_sz ?hv ?_); (case hv => exact rfl))
  | with_reducible refine rd_and ?_
  | with_reducible refine rd_or ?_
  | with_reducible refine rd_not ?_
  | with_reducible refine rd_andV ?_
  | with_reducible refine rd_orV ?_
  | with_reducible refine rd_notV ?_
  | with_reducible refine rd_ifE ?_
  | with_reducible refine rd_T ?_
  | with_reducible refine rd_F ?_
  | with_reducible refine rd_chain ?_
  | with_reducible refine rd_is ?_
  | with_reducible refine rd_isNot ?_
  | with_reducible refine rd_absI ?_
  | with_reducible refine rd_maxI ?_
  | with_reducible refine rd_minI ?_
  | with_reducible refine rd_intI ?_
  | with_reducible refine rd_intB ?_
  | with_reducible refine rd_sub ?_
  | with_reducible refine rd_sl ?_
  | with_reducible refine rd_noPart ?_
  | with_reducible refine rd_part ?_
  | with_reducible refine rd_exI ?_
  | with_reducible refine rd_bm ?_
  | with_reducible refine rd_bm0 ?_
  | with_reducible refine rd_un ?_
  | with_reducible refine rd_neg ?_
  | with_reducible refine rd_c2 ?_
  | with_reducible refine rd_retN ?_
  | with_reducible refine rd_break ?_
  | with_reducible refine rd_cont ?_
  | with_reducible refine rd_for ?_
  | with_reducible refine rd_rng1 ?_
  | with_reducible refine rd_rng2 ?_
  | with_reducible refine rd_iList ?_
  | with_reducible refine rd_iTup ?_
  | with_reducible refine rd_iEnum ?_
  | ((with_reducible refine rd_forR ?h0 ?h1 ?_); (case h0 => omega); (case h1 => omega))
  | with_reducible refine rd_lc ?_
  | with_reducible refine rd_gcons ?_
  | with_reducible refine rd_gnil ?_
  | with_reducible refine rd_dget ?_
  | with_reducible refine rd_dput ?_
  | with_reducible refine rd_dnew ?_
  | with_reducible refine rd_dc ?_
  | with_reducible refine rd_iItems ?_
  | with_reducible refine rd_iKeys ?_
  | with_reducible refine rd_din ?_
  | with_reducible refine rd_lc2 ?_
  | with_reducible refine rd_cd ?_
  | with_reducible refine rd_par ?_
  | with_reducible refine rd_two ?_
  | with_reducible refine rd_reprB ?_
  | with_reducible refine rd_ck ?_
  | ((with_reducible refine rd_len ?hl ?_); (case hl => exact rfl))
  | with_reducible refine rd_nT ?_
  | with_reducible refine rd_nF ?_
  | with_reducible refine rd_dnin ?_
  | with_reducible refine rd_isB ?_
  | with_reducible refine rd_isNotB ?_
  | with_reducible refine rd_daug ?_
  | with_reducible refine rd_yesT ?_
  | ((with_reducible refine rd_wp ?hw ?_); (case hw => exact rfl)))
local macro_rules | `(tactic| wtm_at "rd") => `(tactic| repeat wtm_at "rd1")

theorem rd_disp {σ : L2.St} {H : Hp} {Q : VK} {tk tv : TE} (h : ∀ p, H p = none → tk σ (upd H p (.dK [])) fun x H1 => tv σ H1 fun y H2 => H2 p = some (.dK []) ∧ ∃ kvs : List (Key × V), [(x, y)] = kvs.map (fun kv => (kV kv.1, kv.2)) ∧ kvs.length ≤ 15 ∧ Q (.ref p) (upd H2 p (.dK (mergeK [] kvs)))) : tDisp [(tk, tv)] σ H Q := h
theorem rd_dispE {H2 : Hp} {p : Addr} {x y : V} {k : Key} {R : List (Key × V) → Prop} (hx : x = kV k) (h0 : H2 p = some (.dK [])) (q : R [(k, y)]) : H2 p = some (.dK []) ∧ ∃ kvs : List (Key × V), [(x, y)] = kvs.map (fun kv => (kV kv.1, kv.2)) ∧ kvs.length ≤ 15 ∧ R kvs :=
  ⟨h0, [(k, y)], by rw [hx]; rfl, (by show 1 ≤ 15; decide), q⟩
theorem rd_augI {n : Nat} {i : Int} {g : Int → Int → Int} {te : TE} {D : Ends} {σ : L2.St} {H : Hp} (hv : σ[n]? = some (some (.int i))) (h : te σ H fun y H1 => ipI g (.int i) y H1 fun z H2 => D.nx (σ.set n (some z)) H2) : tAug n te (ipI g) D σ H := ⟨_, hv, h⟩
theorem rd_ipI {g : Int → Int → Int} {i j : Int} {H : Hp} {Q : VK} (h : Q (.int (g i j)) H) : ipI g (.int i) (.int j) H Q := ⟨i, j, rfl, rfl, h⟩
theorem AdjAt.at {H : Hp} {d : Addr} {ns : List Str} {es : List (Str × Str)} {A : Str → Addr} (h : AdjAt H d ns es A) (ok : GrOk ns es) {n : Str} (hn : n ∈ ns) : H (A n) = some (.lst ((nbS es n).map V.str)) := by
  obtain ⟨ys, h1, h2, h3⟩ := h.li n hn
  rw [← nbS_of ok h2 h3]
  exact h1
/-- paths found stand at d -/
structure PathsAt (H : Hp) (d : Addr) (kp : List (Str × List Str)) (A : Str → Addr) : Prop where
  di : H d = some (.dK (kvG (keysF kp) fun n => .ref (A n)))
  li : ∀ c ∈ kp, H (A c.1) = some (.lst (c.2.map V.str))
theorem PathsAt.same {H H' : Hp} {d : Addr} {kp : List (Str × List Str)} {A : Str → Addr} (h : PathsAt H d kp A) (s : Same H H') : PathsAt H' d kp A := ⟨s _ _ h.di, fun c hc => s _ _ (h.li c hc)⟩
theorem kvG_congr {ns : List Str} {F G : Str → V} (h : ∀ n ∈ ns, F n = G n) : kvG ns F = kvG ns G := List.map_congr_left fun n hn => by rw [h n hn]
/-- one more path -/
theorem PathsAt.put {H : Hp} {d t : Addr} {kp : List (Str × List Str)} {A : Str → Addr} {o : Str} {p : List Str} (h : PathsAt H d kp A) (no : o ∉ keysF kp) (ht : H t = some (.lst (p.map V.str))) :
    PathsAt (upd H d (.dK (putK (kvG (keysF kp) fun n => .ref (A n)) (.inr o) (.ref t)))) d (kp ++ [(o, p)]) (updV A o t) := by
  refine ⟨?_, fun c hc => ?_⟩
  · rw [upd_same, kvG_new no, show keysF (kp ++ [(o, p)]) = keysF kp ++ [o] from List.map_append]
    congr 2
    refine kvG_congr fun m _ => ?_
    unfold updV
    by_cases z : m = o
    · rw [if_pos z, if_pos z]
    · rw [if_neg z, if_neg z]
  · unfold updV
    rcases List.mem_append.mp hc with hc | hc
    · rw [if_neg (fun z => no (by rw [← z]; exact List.mem_map_of_mem hc))]
      exact at_upd (ne_of (h.li c hc) h.di (by intro z; cases z)) (h.li c hc)
    · rw [List.mem_singleton] at hc
      subst hc
      rw [if_pos rfl]
      exact at_upd (ne_of ht h.di (by intro z; cases z)) ht
theorem PathsAt.off {H : Hp} {d q : Addr} {kp : List (Str × List Str)} {A : Str → Addr} {xs ys : List V} (h : PathsAt H d kp A) (hq : H q = some (.lst xs)) (off : ∀ c ∈ kp, A c.1 ≠ q) : PathsAt (upd H q (.lst ys)) d kp A :=
  ⟨at_upd (ne_of h.di hq (by intro z; cases z)) h.di, fun c hc => at_upd (off c hc) (h.li c hc)⟩
def slOk (f : Str → Int) (dir : Int) (a b : Str) : Bool := decide (slp f a b = dir)
abbrev slF (es : List (Str × Str)) (f : Str → Int) (dir : Int) (x : Str) : List (Str × List Str) := pathsF (nbS es) (slOk f dir) x
def spSloped : Sp := fun vs H Q _ => ∃ (g n e st : Addr) (x : Str) (dir : Int) (ns ord : List Str) (es : List (Addr × Str × Str)) (f : Str → Int), vs = [.ref g, .ref st, .str x, .int dir] ∧ GSt H g n e st ns ord es f ∧ x ∈ ns ∧
  ∀ (d : Addr) (A : Str → Addr) (H' : Hp), Same H H' → H d = none → (∀ c ∈ slF (es.map (·.2)) f dir x, H (A c.1) = none) → PathsAt H' d (slF (es.map (·.2)) f dir x) A → Q (.ref d) H'
section
variable {P : Program} {w : World} {K : PySem.W.Frag} {mg : Str → Option Value} {base : Heap}
structure B1c (P : Program) (w : World) (K : PySem.W.Frag) (mg : Str → Option Value) (base : Heap) : Prop where
  adjacency : Cal P w K mg base CX0 1 "adjacency" spAdj
  slope : Cal P w K mg base CX0 1 "slope" spSlope
theorem ok_sloped {f : Addr} {fd : FuncData} (F : Fun K "sloped_paths" "sloped_paths" s_sloped_paths f fd) (B : Bt mg) (C : B1c P w K mg base) : FnG P w K mg base CX0 2 f fd ["graph", "state", "node", "direction"] spSloped := by
  refine fnG0 F sc_sloped_paths (fun vs H Q E h => ?_) (fun cdv A outer s H vs Q E hr h => ?_)
  · obtain ⟨g, n, e, st, x, dir, ns, ord, es, f, rfl, _⟩ := h
    rfl
  · obtain ⟨g, n, e, st, x, dir, ns, ord, es, f, rfl, gs, hx, q⟩ := h
    have nd := sc_sloped_paths.nd
    have hu := hr.u1
    refine ⟨_, (pss_cons (ps_set (i := 4) nd rfl (by first | exact Or.inl rfl | exact Or.inr rfl) (pe_c C.adjacency hr (by decide) rfl (pa_cons (pv 0) pa_nil)))
  (pss_cons (ps_set (i := 5) nd rfl (by first | exact Or.inl rfl | exact Or.inr rfl) (pe_disp (pps_cons (pv 2) (pe_lst (pa_cons (pv 2) pa_nil)) pps_nil) (by rfl) (by rfl) (fun z => by cases z) (by decide)))
  (pss_cons (ps_set (i := 6) nd rfl (by first | exact Or.inl rfl | exact Or.inr rfl) (pe_lst (pa_cons (pv 2) pa_nil)))
  (pss_cons (ps_set (i := 7) nd rfl (by first | exact Or.inl rfl | exact Or.inr rfl) pe_int)
  (pss_cons (ps_while PassesOwn.never (pt_cmpR uLt (pv 7) (pe_callB (kLen K rfl) (by rfl) B.len bb_len (pa_cons (pv 6) pa_nil)) (nomark _)) (pss_cons (ps_set (i := 8) nd rfl (by first | exact Or.inl rfl | exact Or.inr rfl) (pe_ix (kIx K rfl) (pv 6) (pv 7) (fun _ _ => rfl)))
  (pss_cons (ps_aug (i := 7) nd rfl (Or.inl rfl) pe_int ip_add)
  (pss_one (ps_for PassesOwn.never rfl (ki_list K rfl (pe_dget hu (pv 4) (pv 8) (fun _ _ => rfl))) (pg_name (i := 9) nd rfl (by first | exact Or.inl rfl | exact Or.inr rfl)) (pss_one (ps_if (PW.pt (pw_and (pt_cmp (pc_dnotin hu (pv 9) (pv 5))) (pw_and1 (pt_cmpR (kEq K rfl hr.u64) (pe_c C.slope hr (by decide) rfl (pa_cons (pv 1) (pa_cons (pv 8) (pa_cons (pv 9) pa_nil)))) (pv 3) (nomark _))))) (pss_cons (ps_dput hu (pv 5) (pv 9) (pe_op (kAdd K rfl) (pe_dget hu (pv 5) (pv 8) (fun _ _ => rfl)) (pe_lst (pa_cons (pv 9) pa_nil))) rfl)
  (pss_one (ps_expr (pe_bm PySem.F.plainAttrs_list PySem.F.slot_list_append PySem.F.type_list_append mt_append (pv 6) (pa_cons (pv 9) pa_nil))))) pss_nil)))))))
  (pss_one (ps_ret (pv 5)))))))), ?_⟩
    wtm_at "rd"
    refine ⟨g, n, e, ns, es, rfl, gs.grs, fun ad Ad H1 s1 _ had => ?_⟩
    have gs1 := gs.same s1
    wtm_at "rd"
    refine rd_disp fun D fD => ?_
    wtm_at "rd"
    intro t ft
    have ntD := new_ne ft
    refine rd_dispE (x := .str x) (y := .ref t) (k := .inr x) rfl (at_upd (Ne.symm ntD) upd_same) ?_
    rw [show mergeK [] [((Sum.inr x : Key), V.ref t)] = [(Sum.inr x, V.ref t)] from rfl]
    have s2 : Same H1 (upd (upd (upd H1 D (.dK [])) t (.lst [.str x])) D (.dK [(.inr x, .ref t)])) := same_put (same_add (Same.new fD) ft) fD
    have ft1 := new_of_same (Same.new (o := .dK []) fD) ft
    have pa : PathsAt (upd (upd (upd H1 D (.dK [])) t (.lst [.str x])) D (.dK [(.inr x, .ref t)])) D (stF (nbS (es.map (·.2))) (slOk f dir) x 0) fun _ => t := ⟨upd_same, fun c hc => by
      rw [stF, List.mem_singleton] at hc
      subst hc
      exact at_upd ntD upd_same⟩
    generalize upd (upd (upd H1 D (.dK [])) t (.lst [.str x])) D (.dK [(.inr x, .ref t)]) = H2 at s2 pa
    wtm_at "rd"
    intro qa fq
    have fq1 := new_of_same s2 fq
    have s3 := same_add (o := .lst [.str x]) s2 fq
    have nDq : D ≠ qa := ne_of_none pa.di fq
    have pa3 := pa.same (Same.new (o := .lst [.str x]) fq)
    have ntq : t ≠ qa := ne_of_none (pa.li (x, [x]) List.mem_cons_self) fq
    have hq3 := @upd_same H2 qa (.lst [.str x])
    generalize upd H2 qa (.lst [.str x]) = H3 at s3 pa3 hq3
    wtm_at "rd"
    have cl : ∀ a ∈ ns, ∀ b ∈ nbS (es.map (·.2)) a, b ∈ ns := fun a _ b hb => nbS_in gs.ok hb
    refine ⟨fun m σ H' => ∃ (i : Nat) (A : Str → Addr) (u8 u9 : Option V), m = ns.length + 1 - i ∧ i ≤ ns.length ∧ σ = [some (.ref g), some (.ref st), some (.str x), some (.int dir), some (.ref ad), some (.ref D), some (.ref qa), some (.int i), u8, u9] ∧ Same H1 H' ∧
      PathsAt H' D (stF (nbS (es.map (·.2))) (slOk f dir) x i) A ∧ (∀ c ∈ stF (nbS (es.map (·.2))) (slOk f dir) x i, H1 (A c.1) = none ∧ A c.1 ≠ qa) ∧ H' qa = some (.lst ((keysF (stF (nbS (es.map (·.2))) (slOk f dir) x i)).map V.str)),
      ⟨_, 0, fun _ => t, _, _, rfl, Nat.zero_le _, rfl, s3, pa3, fun c _ => ⟨ft1, ntq⟩, hq3⟩, ?_⟩
    rintro m σ H' ⟨i, A, u8, u9, rfl, il, rfl, s, pa, fr, hq⟩
    have sl := stF_len (ok := slOk f dir) cl hx i
    have hin : ∀ c ∈ stF (nbS (es.map (·.2))) (slOk f dir) x i, c.1 ∈ ns := fun c hc => reach_mem cl hx (stF_reach (List.mem_map_of_mem hc))
    wtm_at "rd"
    refine rd_lenL (SqL.of hq) ?_
    rw [List.length_map, List.length_map]
    wtm_at "rd"
    refine rd_split (fun c0 => ?_) (fun c0 => ?_)
    case refine_2 =>
      rw [stF_done (by omega) (by have := gs.l2; omega)] at pa fr
      wtm_at "rd"
      exact q D A H' (s1.trans s) (new_of_same s1 fD) (fun c hc => new_of_same s1 (fr c hc).1) pa
    have hi : i < (stF (nbS (es.map (·.2))) (slOk f dir) x i).length := by omega
    refine ⟨fun σ' H' => ∃ (A : Str → Addr) (u8 u9 : Option V), σ' = [some (.ref g), some (.ref st), some (.str x), some (.int dir), some (.ref ad), some (.ref D), some (.ref qa), some (.int (i + 1 : Nat)), u8, u9] ∧ Same H1 H' ∧
      PathsAt H' D (stF (nbS (es.map (·.2))) (slOk f dir) x (i + 1)) A ∧ (∀ c ∈ stF (nbS (es.map (·.2))) (slOk f dir) x (i + 1), H1 (A c.1) = none ∧ A c.1 ≠ qa) ∧ H' qa = some (.lst ((keysF (stF (nbS (es.map (·.2))) (slOk f dir) x (i + 1))).map V.str)),
      fun σ' H' ⟨A, u8, u9, h1, h2, h3, h4, h5⟩ => ⟨ns.length + 1 - (i + 1), by omega, i + 1, A, u8, u9, rfl, by omega, h1, h2, h3, h4, h5⟩, ?_⟩
    have e1 : (stF (nbS (es.map (·.2))) (slOk f dir) x i)[i]? = some (stF (nbS (es.map (·.2))) (slOk f dir) x i)[i] := List.getElem?_eq_getElem hi
    have cm := List.getElem_mem hi
    rw [stF_at e1]
    wtm_at "rd"
    refine rd_ixL (SqL.of hq) (atI_nat (v := .str (stF (nbS (es.map (·.2))) (slOk f dir) x i)[i].1) (by rw [List.getElem?_map, List.getElem?_map, e1]; rfl)) ?_
    have cn := hin _ cm
    have cp := pa.li _ cm
    have cq := fr _ cm
    have cpl := stF_plen _ _ cm
    generalize (stF (nbS (es.map (·.2))) (slOk f dir) x i)[i] = c at *
    generalize hkp : stF (nbS (es.map (·.2))) (slOk f dir) x i = kp at *
    have lkp : (keysF kp).Nodup := by rw [← hkp]; exact stF_nodup i
    wtm_at "rd"
    refine rd_augI rfl ?_
    wtm_at "rd"
    refine rd_ipI ?_
    have ei : (i : Int) + 1 = ((i + 1 : Nat) : Int) := by omega
    rw [ei]
    wtm_at "rd"
    refine rd_dat (.inl (s _ _ had.di)) (kvG_val cn) rfl ?_
    have hos := had.at gs.ok cn
    have osn : ∀ o ∈ nbS (es.map (·.2)) c.1, o ∈ ns := fun o ho => cl _ cn o ho
    have osl : (nbS (es.map (·.2)) c.1).length ≤ 2000 := by
      unfold nbS
      rw [(sortS_perm _).length_eq]
      have := nbrF_len (x := c.1) (es := es.map (·.2))
      rw [List.length_map] at this
      have := gs.l3
      omega
    generalize nbS (es.map (·.2)) c.1 = os at *
    refine rd_forL (SqL.of (s _ _ hos)) ?_
    refine turnsL (K := K) (xs := os.map V.str) (fun j σ H' => ∃ (A : Str → Addr) (u9 : Option V), σ = [some (.ref g), some (.ref st), some (.str x), some (.int dir), some (.ref ad), some (.ref D), some (.ref qa), some (.int (i + 1 : Nat)), some (.str c.1), u9] ∧ Same H1 H' ∧
      PathsAt H' D (addsF (slOk f dir) c (os.take j) kp) A ∧ (∀ c2 ∈ addsF (slOk f dir) c (os.take j) kp, H1 (A c2.1) = none ∧ A c2.1 ≠ qa) ∧ H' qa = some (.lst ((keysF (addsF (slOk f dir) c (os.take j) kp)).map V.str))) ⟨A, u9, rfl, s, pa, fr, hq⟩ ?_ ?_ ?_
    · rintro j σ H' hj ⟨A, u9, rfl, s, _⟩
      exact SqL.of (s _ _ hos)
    · rintro j y σ H' hy ⟨A, u9, rfl, s, pa, fr, hq⟩
      obtain ⟨hj, rfl⟩ := map_at hy
      have hom := osn _ (List.getElem_mem hj)
      have tk : addsF (slOk f dir) c (os.take (j + 1)) kp = addF (slOk f dir) c (addsF (slOk f dir) c (os.take j) kp) os[j] := by rw [take_snoc hj, addsF_snoc]
      have len : (addsF (slOk f dir) c (os.take j) kp).length ≤ kp.length + 2000 := by
        have := addsF_len (ok := slOk f dir) (c := c) (os := os.take j) (kp := kp)
        rw [List.length_take] at this
        omega
      have cin : c ∈ addsF (slOk f dir) c (os.take j) kp := by
        obtain ⟨r, hr⟩ := addsF_pre (ok := slOk f dir) (c := c) (os := os.take j) (kp := kp)
        rw [hr]
        exact List.mem_append_left _ cm
      generalize addsF (slOk f dir) c (os.take j) kp = k1 at *
      generalize os[j] = o at *
      wtm_at "rd"
      refine rd_din1 (.inl pa.di) (k := .inr o) rfl ?_
      have skip : (o ∈ keysF k1 ∨ slOk f dir c.1 o = false) → addsF (slOk f dir) c (os.take (j + 1)) kp = k1 := fun h => by
        rw [tk]
        unfold addF
        rw [if_neg]
        rintro ⟨z1, z2⟩
        rcases h with h | h
        · exact z1 h
        · rw [h] at z2
          cases z2
      by_cases mo : o ∈ keysF k1
      · rw [kvG_val mo]
        wtm_at "rd"
        rw [skip (.inl mo)]
        exact ⟨A, _, rfl, s, pa, fr, hq⟩
      · rw [kvG_none mo]
        refine rd_bl ?_
        refine rd_T ?_
        wtm_at "rd"
        refine ⟨st, c.1, o, ord, f, rfl, .inl (s _ _ gs1.st), gs.inO _ cn, gs.inO _ hom, ?_⟩
        wtm_at "rd"
        refine rd_split (fun c1 => ?_) (fun c1 => ?_)
        case refine_2 =>
          wtm_at "rd"
          rw [skip (.inr (decide_eq_false c1))]
          exact ⟨A, _, rfl, s, pa, fr, hq⟩
        have tk2 : addsF (slOk f dir) c (os.take (j + 1)) kp = k1 ++ [(o, c.2 ++ [o])] := by
          rw [tk]
          unfold addF
          exact if_pos ⟨mo, decide_eq_true c1⟩
        rw [tk2]
        wtm_at "rd"
        refine rd_dat (.inl pa.di) (kvG_val (List.mem_map_of_mem cin)) rfl ?_
        wtm_at "rd"
        intro t1 ft1
        have pl1 := pa.li _ cin
        refine rd_catL (at_upd (ne_of_none pl1 ft1) pl1) upd_same (by rw [List.length_map]; simp only [List.length_singleton]; have := gs.l2; omega) ?_
        intro t2 ft2
        have sT := same_add (o := .lst (c.2.map V.str ++ [.str o])) (same_add (o := .lst [.str o]) s ft1) ft2
        have paT := (pa.same (Same.new (o := .lst [.str o]) ft1)).same (Same.new (o := .lst (c.2.map V.str ++ [.str o])) ft2)
        have hqT := at_upd (o := .lst (c.2.map V.str ++ [.str o])) (ne_of_none (at_upd (o := .lst [.str o]) (ne_of_none hq ft1) hq) ft2) (at_upd (o := .lst [.str o]) (ne_of_none hq ft1) hq)
        have nt2 : t2 ≠ qa := Ne.symm (ne_of_none (at_upd (o := .lst [.str o]) (ne_of_none hq ft1) hq) ft2)
        have ft20 := new_of_same (same_add (o := .lst [.str o]) s ft1) ft2
        have ht2 : (upd (upd H' t1 (.lst [.str o])) t2 (.lst (c.2.map V.str ++ [.str o]))) t2 = some (.lst ((c.2 ++ [o]).map V.str)) := by
          rw [upd_same, List.map_append]
          rfl
        generalize upd (upd H' t1 (.lst [.str o])) t2 (.lst (c.2.map V.str ++ [.str o])) = HT at sT paT hqT ht2
        wtm_at "rd"
        refine rd_dset paT.di (k := .inr o) rfl (by rw [List.length_map, List.length_map]; have := gs.l2; omega) ?_
        have pa2 := paT.put mo ht2
        have sU := same_put (o := .dK (putK (kvG (keysF k1) fun n => .ref (A n)) (.inr o) (.ref t2))) sT fD
        have hqU := at_upd (o := .dK (putK (kvG (keysF k1) fun n => .ref (A n)) (.inr o) (.ref t2))) (Ne.symm nDq) hqT
        generalize upd HT D (.dK (putK (kvG (keysF k1) fun n => .ref (A n)) (.inr o) (.ref t2))) = HU at pa2 sU hqU
        wtm_at "rd"
        refine rd_tyL hqU ?_
        wtm_at "rd"
        refine rd_append hqU (by rw [List.length_map, List.length_map]; have := gs.l2; omega) ?_
        have off : ∀ c2 ∈ k1 ++ [(o, c.2 ++ [o])], H1 (updV A o t2 c2.1) = none ∧ updV A o t2 c2.1 ≠ qa := fun c2 hc2 => by
          unfold updV
          rcases List.mem_append.mp hc2 with h | h
          · rw [if_neg (fun z => mo (by rw [← z]; exact List.mem_map_of_mem h))]
            exact fr c2 h
          · rw [List.mem_singleton] at h
            subst h
            rw [if_pos rfl]
            exact ⟨ft20, nt2⟩
        refine ⟨updV A o t2, _, rfl, same_put sU fq1, pa2.off hqU (fun c2 hc2 => (off c2 hc2).2), off, ?_⟩
        rw [upd_same, show keysF (k1 ++ [(o, c.2 ++ [o])]) = keysF k1 ++ [o] from List.map_append, List.map_append]
        rfl
    · rintro σ H' ⟨A, u9, rfl, s, pa, fr, hq⟩
      rw [List.length_map, List.take_length] at pa fr hq
      wtm_at "rd"
      exact ⟨A, _, _, rfl, s, pa, fr, hq⟩
end
end Law

/-! d.update(e); lists of texts compared; the last but one -/
namespace U
open PySem PySem.Spec PyProof.Rows L2
def rDUpd : V → List V → Hp → VK → Prop := fun x vs H Q => ∃ (a b : Addr) (kvs more : List (Key × V)), x = .ref a ∧ vs = [.ref b] ∧ a ≠ b ∧ H a = some (.dK kvs) ∧ H b = some (.dK more) ∧ kvs.length + more.length ≤ 100000 ∧ Q .non (upd H a (.dK (mergeK kvs more)))
theorem mtd_update {X : Cx} : MtR X "dict.update" rDUpd := by
  intro pins s σ H x vs v us Q I rx rv h
  obtain ⟨a, b, kvs, more, rfl, rfl, hab, ha, hb, hl, q⟩ := h
  obtain rfl : v = Value.ref a := rx
  cases rv with
  | cons r rr =>
    cases rr
    cases r
    obtain ⟨la, na, vs1, rel1, d1⟩ := dk_of I.hok ha
    obtain ⟨lb, nb, vs2, rel2, d2⟩ := dk_of I.hok hb
    have l1 := rel1.length
    have l2 := rel2.length
    have big : kvs.length + more.length ≤ sizeLine := Nat.le_trans hl (by decide)
    refine call_meetsIn PySem.F.slot_dict_update d1.typeIs PySem.F.entry_dict_update (PySem.F.args_dict_update_2 _ _) (meets_dict_update (mixKind X.prog X.w) a b hab nb) ⟨vs1, vs2, d1, d2, by rw [← l1, ← l2]; exact big, fun h' dd' _ hs => ?_⟩
    have he : ∃ q, h'.get? a = some q := let ⟨q, _, _, hq, _⟩ := dd'; ⟨q, hq⟩
    exact ⟨.non, _, d_write (t' := s.toks) I (by rw [ha]; exact True.intro) hs he (dk_new (Nat.le_trans (length_mergeK more kvs) big) na (KV.merge rel2 rel1) dd'), rfl, q⟩
/-! lists of texts compared -/
theorem eqvAll_strs : ∀ (xs ys : List Str), PyData.eqvAll (xs.map PyData.str) (ys.map PyData.str) = decide (xs = ys)
  | [], [] => by simp [PyData.eqvAll]
  | [], y :: ys => by simp [PyData.eqvAll]
  | x :: xs, [] => by simp [PyData.eqvAll]
  | x :: xs, y :: ys => by
    rw [List.map_cons, List.map_cons, PyData.eqvAll, eqvAll_strs xs ys]
    by_cases e : x = y
    · subst e
      simp [PyData.eqv]
    · simp [PyData.eqv, e]
theorem canLay_strs : ∀ {xs : List Str}, (∀ x ∈ xs, PyData.strOk x = true) → PyData.canLayAll0 (xs.map PyData.str) = true
  | [], _ => by simp [PyData.canLayAll0]
  | x :: xs, h => by
    rw [List.map_cons, PyData.canLayAll0, PyData.canLay0, h x List.mem_cons_self, canLay_strs fun y hy => h y (List.mem_cons_of_mem _ hy)]
    rfl
theorem depth_strs : ∀ {xs : List Str}, PyData.depthAll (xs.map PyData.str) = 0
  | [] => by simp [PyData.depthAll]
  | x :: xs => by
    rw [List.map_cons, PyData.depthAll, PyData.depth, depth_strs]
    rfl
theorem shaped_strs {xs : List Str} (h : ∀ x ∈ xs, PyData.strOk x = true) : SeqAt.shaped (.list (xs.map PyData.str)) = true := by
  unfold SeqAt.shaped
  rw [PyData.canLay0, canLay_strs h, PyData.depth, depth_strs]
  rfl
section
variable {K : PySem.W.Frag} {H : Hp} {Q : VK} {p q : Addr} {x y : V} {d : PyData} {xs ys : List Str}
theorem rd_neSL (hp : SqL K H p (xs.map V.str)) (hq : SqL K H q (ys.map V.str)) (ox : ∀ x ∈ xs, PyData.strOk x = true) (oy : ∀ x ∈ ys, PyData.strOk x = true) (h : Q (.bl (!decide (xs = ys))) H) : rNeU K (.ref p) (.ref q) H Q := by
  refine ⟨_, _, .lst hp (dp_strs _), .lst hq (dp_strs _), shaped_strs ox, shaped_strs oy, ?_⟩
  rw [PyData.eqv, eqvAll_strs]
  exact h
theorem rd_eqSL (hp : SqL K H p (xs.map V.str)) (hq : SqL K H q (ys.map V.str)) (ox : ∀ x ∈ xs, PyData.strOk x = true) (oy : ∀ x ∈ ys, PyData.strOk x = true) (h : Q (.bl (decide (xs = ys))) H) : rEqU K (.ref p) (.ref q) H Q := by
  refine ⟨_, _, .lst hp (dp_strs _), .lst hq (dp_strs _), shaped_strs ox, shaped_strs oy, ?_⟩
  rw [PyData.eqv, eqvAll_strs]
  exact h
/-- the same data twice -/
theorem rd_neSame (hp : Dp K H (.ref p) d) (hq : Dp K H (.ref q) d) (sh : SeqAt.shaped d = true) (h : Q (.bl false) H) : rNeU K (.ref p) (.ref q) H Q := by
  refine ⟨_, _, hp, hq, sh, sh, ?_⟩
  rw [SeqAt.eqv_refl _ (SeqAt.canLay_of_shaped sh)]
  exact h
theorem rd_eqSame (hp : Dp K H (.ref p) d) (hq : Dp K H (.ref q) d) (sh : SeqAt.shaped d = true) (h : Q (.bl true) H) : rEqU K (.ref p) (.ref q) H Q := by
  refine ⟨_, _, hp, hq, sh, sh, ?_⟩
  rw [SeqAt.eqv_refl _ (SeqAt.canLay_of_shaped sh)]
  exact h
end
end U

/-! components, root paths, basis cycles: the plain law -/
namespace U
open PySem PySem.Spec PyProof.Rows L2
theorem risingS_pw : ∀ {xs : List Str} {p : Str}, risingS p xs = true → (∀ x ∈ xs, ¬ sLt x p) ∧ xs.Pairwise (fun a b => ¬ sLt b a)
  | [], _, _ => ⟨(fun x hx => nomatch hx), List.Pairwise.nil⟩
  | x :: r, p, h => by
    rw [risingS, Bool.and_eq_true, Bool.not_eq_true', ltCps_eq, decide_eq_false_iff_not] at h
    obtain ⟨h1, h2⟩ := h
    obtain ⟨k1, k2⟩ := risingS_pw h2
    refine ⟨fun y hy => ?_, List.pairwise_cons.mpr ⟨k1, k2⟩⟩
    rcases List.mem_cons.mp hy with rfl | hy
    · exact h1
    · exact nlt_trans h1 (k1 y hy)
theorem sortedS_pw : ∀ {xs : List Str}, sortedS xs = true → xs.Pairwise (fun a b => ¬ sLt b a)
  | [], _ => List.Pairwise.nil
  | x :: r, h => by
    obtain ⟨a, b⟩ := risingS_pw (show risingS x r = true from h)
    exact List.pairwise_cons.mpr ⟨a, b⟩
abbrev ptF (es : List (Str × Str)) (x : Str) : List (Str × List Str) := pathsF (nbS es) (fun _ _ => true) x
abbrev Con (es : List (Str × Str)) (x y : Str) : Prop := Reach (nbS es) (fun _ _ => true) x y
section
variable {ns : List Str} {es : List (Str × Str)} {x y : Str}
theorem con_symm (h : Con es x y) : Con es y x := by
  induction h with
  | refl => exact .refl
  | step _ m _ ih =>
    refine Reach.trans (.step .refl ?_ rfl) ih
    exact nbS_mem.mpr ((nbS_mem.mp m).symm)
theorem pt_mem (ok : GrOk ns es) (l : ns.length ≤ 1000) (hx : x ∈ ns) : y ∈ keysF (ptF es x) ↔ Con es x y :=
  ⟨fun h => stF_reach h, fun h => stF_all (by have := stF_len (ok := fun _ _ => true) (adj := nbS es) (ns := ns) (fun a _ b hb => nbS_in ok hb) hx 1000; omega) h⟩
theorem pt_nodup : (keysF (ptF es x)).Nodup := stF_nodup 1000
theorem pt_len (ok : GrOk ns es) (hx : x ∈ ns) : (ptF es x).length ≤ ns.length := stF_len (fun a _ b hb => nbS_in ok hb) hx 1000
theorem pt_in (ok : GrOk ns es) (hx : x ∈ ns) (h : y ∈ keysF (ptF es x)) : y ∈ ns := reach_mem (fun a _ b hb => nbS_in ok hb) hx (stF_reach h)
def comp (es : List (Str × Str)) (x : Str) : List Str := sortS (keysF (ptF es x))
theorem comp_mem (ok : GrOk ns es) (l : ns.length ≤ 1000) (hx : x ∈ ns) : y ∈ comp es x ↔ Con es x y := by
  unfold comp
  rw [(sortS_perm _).mem_iff, pt_mem ok l hx]
theorem comp_len (ok : GrOk ns es) (hx : x ∈ ns) : (comp es x).length ≤ ns.length := by
  unfold comp
  rw [(sortS_perm _).length_eq, List.length_map]
  exact pt_len ok hx
def compStep (es : List (Str × Str)) (cs : List (List Str)) (n : Str) : List (List Str) := if n ∈ cs.flatten then cs else cs ++ [comp es n]
def compsF (ns : List Str) (es : List (Str × Str)) : List (List Str) := ns.foldl (compStep es) []
/-- components found from the nodes ds, all in ns -/
structure Cmps (ns : List Str) (es : List (Str × Str)) (ds : List Str) (cs : List (List Str)) : Prop where
  of : ∀ c ∈ cs, ∃ r ∈ ns, c = comp es r
  nd : cs.flatten.Nodup
  all : ∀ x ∈ ds, x ∈ cs.flatten
theorem Cmps.nil : Cmps ns es [] [] := ⟨(fun c hc => nomatch hc), List.nodup_nil, (fun x hx => nomatch hx)⟩
theorem Cmps.in_ {ds : List Str} {cs : List (List Str)} (h : Cmps ns es ds cs) (ok : GrOk ns es) : ∀ x ∈ cs.flatten, x ∈ ns := fun x hx => by
  obtain ⟨c, hc, hx⟩ := List.mem_flatten.mp hx
  obtain ⟨r, hr, rfl⟩ := h.of c hc
  exact pt_in ok hr ((sortS_perm _).mem_iff.mp hx)
theorem Cmps.step {ds : List Str} {cs : List (List Str)} {n : Str} (h : Cmps ns es ds cs) (ok : GrOk ns es) (l : ns.length ≤ 1000) (hn : n ∈ ns) : Cmps ns es (ds ++ [n]) (compStep es cs n) := by
  unfold compStep
  by_cases m : n ∈ cs.flatten
  · rw [if_pos m]
    refine ⟨h.of, h.nd, fun x hx => ?_⟩
    rcases List.mem_append.mp hx with hx | hx
    · exact h.all x hx
    · rw [List.mem_singleton] at hx
      rw [hx]
      exact m
  · rw [if_neg m]
    refine ⟨fun c hc => ?_, ?_, fun x hx => ?_⟩
    · rcases List.mem_append.mp hc with hc | hc
      · exact h.of c hc
      · rw [List.mem_singleton] at hc
        exact ⟨n, hn, hc⟩
    · rw [List.flatten_append, List.nodup_append]
      refine ⟨h.nd, ?_, fun a ha b hb z => ?_⟩
      · rw [List.flatten_singleton]
        exact (sortS_perm _).nodup_iff.mpr pt_nodup
      · rw [List.flatten_singleton] at hb
        subst z
        obtain ⟨c, hc, ha⟩ := List.mem_flatten.mp ha
        obtain ⟨r, hr, rfl⟩ := h.of c hc
        have h1 := (comp_mem ok l hr).mp ha
        have h2 := (comp_mem ok l hn).mp hb
        exact m (List.mem_flatten.mpr ⟨_, hc, (comp_mem ok l hr).mpr (h1.trans (con_symm h2))⟩)
    · rw [List.flatten_append, List.flatten_singleton]
      rcases List.mem_append.mp hx with hx | hx
      · exact List.mem_append_left _ (h.all x hx)
      · rw [List.mem_singleton] at hx
        subst hx
        exact List.mem_append_right _ ((comp_mem ok l hn).mpr .refl)
theorem compsF_ok (ok : GrOk ns es) (l : ns.length ≤ 1000) : Cmps ns es ns (compsF ns es) := by
  have key : ∀ (xs ds : List Str) (cs : List (List Str)), (∀ x ∈ xs, x ∈ ns) → Cmps ns es ds cs → Cmps ns es (ds ++ xs) (xs.foldl (compStep es) cs) := by
    intro xs
    induction xs with
    | nil => intro ds cs _ h; rw [List.append_nil]; exact h
    | cons x r ih =>
      intro ds cs hx h
      have := ih (ds ++ [x]) (compStep es cs x) (fun y hy => hx y (List.mem_cons_of_mem _ hy)) (h.step ok l (hx x List.mem_cons_self))
      rw [List.append_assoc] at this
      exact this
  exact key ns [] [] (fun _ h => h) .nil
theorem Cmps.len {ds : List Str} {cs : List (List Str)} (h : Cmps ns es ds cs) (ok : GrOk ns es) : cs.flatten.length ≤ ns.length := nodup_len h.nd (h.in_ ok)
theorem comp_pos : 0 < (comp es x).length := by
  unfold comp
  rw [(sortS_perm _).length_eq, List.length_map]
  obtain ⟨r, h⟩ := stF_root (adj := nbS es) (ok := fun _ _ => true) (root := x) 1000
  show 0 < (stF (nbS es) (fun _ _ => true) x 1000).length
  rw [h]
  exact Nat.succ_pos _
/-! root paths -/
def rootsF (es : List (Str × Str)) (cs : List (List Str)) : List (Str × List Str) := cs.flatMap fun c => ptF es (c.headD Str.empty)
theorem head_in {c : List Str} (h : 0 < c.length) : c.headD Str.empty ∈ c := by
  cases c with
  | nil => cases h
  | cons x r => exact List.mem_cons_self
theorem root_keys (ok : GrOk ns es) (l : ns.length ≤ 1000) {r : Str} (hr : r ∈ ns) : (comp es r).headD Str.empty ∈ ns ∧ ∀ y, y ∈ keysF (ptF es ((comp es r).headD Str.empty)) ↔ y ∈ comp es r := by
  have h0 := head_in (comp_pos (es := es) (x := r))
  have h1 := (comp_mem ok l hr).mp h0
  have hn : (comp es r).headD Str.empty ∈ ns := reach_mem (fun a _ b hb => nbS_in ok hb) hr h1
  refine ⟨hn, fun y => ?_⟩
  rw [pt_mem ok l hn, comp_mem ok l hr]
  exact ⟨fun h => h1.trans h, fun h => (con_symm h1).trans h⟩
theorem rootsF_snoc {cs : List (List Str)} {c : List Str} : rootsF es (cs ++ [c]) = rootsF es cs ++ ptF es (c.headD Str.empty) := by
  unfold rootsF
  rw [List.flatMap_append, List.flatMap_singleton]
theorem roots_keys (ok : GrOk ns es) (l : ns.length ≤ 1000) : ∀ {cs : List (List Str)}, (∀ c ∈ cs, ∃ r ∈ ns, c = comp es r) → ∀ y, y ∈ keysF (rootsF es cs) ↔ y ∈ cs.flatten
  | [], _, y => by simp [rootsF]
  | c :: cs, h, y => by
    obtain ⟨r, hr, rfl⟩ := h c List.mem_cons_self
    have ih := roots_keys ok l (cs := cs) (fun d hd => h d (List.mem_cons_of_mem _ hd)) y
    have e : rootsF es (comp es r :: cs) = ptF es ((comp es r).headD Str.empty) ++ rootsF es cs := rfl
    rw [e, keysF, List.map_append, List.mem_append, List.flatten_cons, List.mem_append, ← ih, ← (root_keys ok l hr).2 y]
/-- a list of names, each next to its neighbours -/
def Walk2 (es : List (Str × Str)) (p : List Str) : Prop := ∀ i (h : i + 1 < p.length), (p[i], p[i + 1]) ∈ es ∨ (p[i + 1], p[i]) ∈ es
end
end U

/-! paths_from, components, root_paths, basis_cycles -/
namespace Law
open PySem PySem.Spec PyProof.Rows L2 U
local macro_rules | `(tactic| wtm_at "rd1") => `(tactic| first
  | with_reducible refine rd_seq ?_
  | ((with_reducible refine rd_var (v := ?vv) ?hv ?_); (case hv => exact rfl))
  | with_reducible refine rd_c ?_
  | with_reducible refine rd_cons ?_
  | with_reducible refine rd_nil ?_
  | with_reducible refine rd_op ?_
  | with_reducible refine rd_asg ?_
  | with_reducible refine rd_name ?_
  | with_reducible refine rd_c1 ?_
  | with_reducible refine rd_cb ?_
  | with_reducible refine rd_test ?_
  | with_reducible refine rd_B ?_
  | with_reducible refine rd_bl ?_
  | with_reducible refine rd_if ?_
  | with_reducible refine rd_ret ?_
  | with_reducible refine rd_drop ?_
  | with_reducible refine rd_next ?_
  | with_reducible refine rd_addI ?_
  | with_reducible refine rd_ltI ?_
  | with_reducible refine rd_eqI ?_
  | with_reducible refine rd_neI ?_
  | with_reducible refine rd_eqS ?_
  | with_reducible refine rd_neS ?_
  | with_reducible refine rd_gtI ?_
  | with_reducible refine rd_geI ?_
  | with_reducible refine rd_leI ?_
  | with_reducible refine rd_ltS ?_
  | with_reducible refine rd_subI ?_
  | ((with_reducible refine rd_modI ?hc ?_); (case hc => first | decide | omega))
  | ((with_reducible refine rd_mulI ?hc ?_); (case hc => first | exact mul_bI | exact .inl (.inr (by decide)) | exact .inl (.inl (by decide)) | exact .inl (.inr (by omega)) | exact .inl (.inl (by omega))))
  | ((with_reducible refine rd_divI ?hc ?_); (case hc => first | decide | omega))
  | ((with_reducible refine rd_powI ?hc ?_); (case hc => exact ⟨by decide, by decide, by decide⟩))
  | with_reducible refine rd_lst ?_
  | with_reducible refine rd_tup ?_
  | ((with_reducible refine rd_sz ?hv ?_); (case hv => exact rfl))
  | with_reducible refine rd_and ?_
  | with_reducible refine rd_or ?_
  | with_reducible refine rd_not ?_
  | with_reducible refine rd_andV ?_
  | with_reducible refine rd_orV ?_
  | with_reducible refine rd_notV ?_
  | with_reducible refine rd_ifE ?_
  | with_reducible refine rd_T ?_
  | with_reducible refine rd_F ?_
  | with_reducible refine rd_chain ?_
  | with_reducible refine rd_is ?_
  | with_reducible refine rd_isNot ?_
  | with_reducible refine rd_absI ?_
  | with_reducible refine rd_maxI ?_
  | with_reducible refine rd_minI ?_
  | with_reducible refine rd_intI ?_
  | with_reducible refine rd_intB ?_
  | with_reducible refine rd_sub ?_
  | with_reducible refine rd_sl ?_
  | with_reducible refine rd_noPart ?_
  | with_reducible refine rd_part ?_
  | with_reducible refine rd_exI ?_
  | with_reducible refine rd_bm ?_
  | with_reducible refine rd_bm0 ?_
  | with_reducible refine rd_un ?_
  | with_reducible refine rd_neg ?_
  | with_reducible refine rd_c2 ?_
  | with_reducible refine rd_retN ?_
  | with_reducible refine rd_break ?_
  | with_reducible refine rd_cont ?_
  | with_reducible refine rd_for ?_
  | with_reducible refine rd_rng1 ?_
  | with_reducible refine rd_rng2 ?_
  | with_reducible refine rd_iList ?_
  | with_reducible refine rd_iTup ?_
  | with_reducible refine rd_iEnum ?_
  | ((with_reducible refine rd_forR ?h0 ?h1 ?_); (case h0 => omega); (case h1 => omega))
  | with_reducible refine rd_lc ?_
  | with_reducible refine rd_gcons ?_
  | with_reducible refine rd_gnil ?_
  | with_reducible refine rd_dget ?_
  | with_reducible refine rd_dput ?_
  | with_reducible refine rd_dnew ?_
  | with_reducible refine rd_dc ?_
  | with_reducible refine rd_iItems ?_
  | with_reducible refine rd_iKeys ?_
  | with_reducible refine rd_din ?_
  | with_reducible refine rd_lc2 ?_
  | with_reducible refine rd_cd ?_
  | with_reducible refine rd_par ?_
  | with_reducible refine rd_two ?_
  | with_reducible refine rd_reprB ?_
  | with_reducible refine rd_ck ?_
  | ((with_reducible refine rd_len ?hl ?_); (case hl => exact rfl))
  | with_reducible refine rd_nT ?_
  | with_reducible refine rd_nF ?_
  | with_reducible refine rd_dnin ?_
  | with_reducible refine rd_isB ?_
  | with_reducible refine rd_isNotB ?_
  | with_reducible refine rd_daug ?_
  | with_reducible refine rd_yesT ?_
  | ((with_reducible refine rd_wp ?hw ?_); (case hw => exact rfl)))
local macro_rules | `(tactic| wtm_at "rd") => `(tactic| repeat wtm_at "rd1")

section
variable {X : Cx} {o e : Expr} {es : List Expr} {to : TE} {t : TA} {apos cpos : Pos}
theorem kr_set0 (P : Program) (w : World) (hP : X.prog = P) (hw : X.w = w) : CallR X (.type "set") (rSet0K P w) := by
  subst hP hw
  exact cr_set0K
theorem kr_snotin (P : Program) (w : World) (hP : X.prog = P) (hw : X.w = w) : OpR X (compareOp .NotIn) (rSInK P w true) := by
  subst hP hw
  exact or_snotinK
theorem kr_sadd (P : Program) (w : World) (hP : X.prog = P) (hw : X.w = w) (ho : PE X o to) (ha : PA X (e :: es) t)
    (hbase : attributeBase o "add" X.env (eval o X.env) = eval o X.env := by rfl)
    (hfew : ((backTo cpos (starEach (e :: es) X.env)).all (fun x => !x.1) && (backToKw cpos (keywordEach [] X.env)).all (fun x => x.1.isSome)
      && decide ((e :: es).length + ([] : List Keyword).length + (if ([] : List Keyword).isEmpty then 0 else 1) < 30)) = true := by rfl)
    (hline : (apos.endLine == cpos.line) = true := by rfl) (hs : starEach (e :: es) X.env = (false, eval e X.env) :: starEach es X.env := by rfl) (hplain : (backTo cpos (starEach es X.env)).any (·.1) = false := by rfl) :
    PE X (.Call (.Attribute o "add" apos) (e :: es) [] cpos) (tSAddK P w to t) := by
  subst hP hw
  exact pe_saddK ho ha hbase hfew hline hs hplain
end
theorem rd_sadd {P : Program} {w : World} {to : TE} {t : TA} {σ : L2.St} {H : Hp} {Q : VK} (h : to σ H fun x H1 => (∃ a S n, x = V.ref a ∧ H1 a = some (SetK P w a S n)) ∧ t σ H1 fun xs H2 => rSAddK P w x xs H2 Q) : tSAddK P w to t σ H Q := h
def spPathsFrom : Sp := fun vs H Q _ => ∃ (g n e : Addr) (x : Str) (ns : List Str) (es : List (Addr × Str × Str)), vs = [.ref g, .str x] ∧ GrS H g n e ns es ∧ x ∈ ns ∧
  ∀ (d : Addr) (A : Str → Addr) (H' : Hp), Same H H' → H d = none → (∀ c ∈ ptF (es.map (·.2)) x, H (A c.1) = none) → PathsAt H' d (ptF (es.map (·.2)) x) A → Q (.ref d) H'
/-- lists of names stand, each at its own place -/
structure ListsAt (H : Hp) (l : Addr) (cs : List (Addr × List Str)) : Prop where
  li : H l = some (.lst (cs.map fun c => V.ref c.1))
  at_ : ∀ c ∈ cs, H c.1 = some (.lst (c.2.map V.str))
theorem ListsAt.same {H H' : Hp} {l : Addr} {cs : List (Addr × List Str)} (h : ListsAt H l cs) (s : Same H H') : ListsAt H' l cs := ⟨s _ _ h.li, fun c hc => s _ _ (h.at_ c hc)⟩
def spComps : Sp := fun vs H Q _ => ∃ (g n e : Addr) (ns : List Str) (es : List (Addr × Str × Str)), vs = [.ref g] ∧ GrS H g n e ns es ∧ ns.length ≤ 60 ∧
  ∀ (l : Addr) (cs : List (Addr × List Str)) (H' : Hp), Same H H' → H l = none → (∀ c ∈ cs, H c.1 = none) → ListsAt H' l cs → cs.map (·.2) = compsF ns (es.map (·.2)) → Q (.ref l) H'
section
variable {P : Program} {w : World} {K : PySem.W.Frag} {mg : Str → Option Value} {base : Heap}
structure B2c (P : Program) (w : World) (K : PySem.W.Frag) (mg : Str → Option Value) (base : Heap) : Prop where
  adjacency : Cal P w K mg base CX0 1 "adjacency" spAdj
structure B3c (P : Program) (w : World) (K : PySem.W.Frag) (mg : Str → Option Value) (base : Heap) : Prop where
  paths_from : Cal P w K mg base CX0 2 "paths_from" spPathsFrom
end
end Law

/-! sums of slopes along walks: the plain law -/
namespace U
open PySem PySem.Spec PyProof.Rows L2
def Adj (es : List (Str × Str)) (a b : Str) : Prop := (a, b) ∈ es ∨ (b, a) ∈ es
theorem Adj.symm {es : List (Str × Str)} {a b : Str} (h : Adj es a b) : Adj es b a := Or.symm h
def Wk (es : List (Str × Str)) : List Str → Prop
  | a :: b :: r => Adj es a b ∧ Wk es (b :: r)
  | _ => True
/-- the slopes along a list -/
def psl (f : Str → Int) : List Str → List Int
  | a :: b :: r => slp f a b :: psl f (b :: r)
  | _ => []
def psum (f : Str → Int) (p : List Str) : Int := (psl f p).sum
theorem psl_len (f : Str → Int) : ∀ p : List Str, (psl f p).length = p.length - 1
  | [] => rfl
  | [_] => rfl
  | a :: b :: r => by
    rw [psl, List.length_cons, psl_len f (b :: r)]
    simp
theorem psl_at (f : Str → Int) : ∀ (p : List Str) (i : Nat) (h : i + 1 < p.length), (psl f p)[i]? = some (slp f p[i] p[i + 1])
  | a :: b :: r, 0, _ => rfl
  | a :: b :: r, i + 1, h => by
    rw [psl, List.getElem?_cons_succ, psl_at f (b :: r) i (by simp at h ⊢; omega)]
    rfl
theorem psum_cons {f : Str → Int} {a b : Str} {r : List Str} : psum f (a :: b :: r) = slp f a b + psum f (b :: r) := by
  unfold psum
  rw [psl, List.sum_cons]
theorem psum_one {f : Str → Int} {a : Str} : psum f [a] = 0 := rfl
/-- p, behind its last the rest r -/
theorem psum_join {f : Str → Int} : ∀ {p r : List Str} {x : Str}, p.getLast? = some x → psum f (p ++ r) = psum f p + psum f (x :: r)
  | [], _, _, h => nomatch h
  | [a], r, x, h => by
    have : a = x := by simpa using h
    subst this
    rw [psum_one, Int.zero_add]
    rfl
  | a :: b :: q, r, x, h => by
    have h' : (b :: q).getLast? = some x := by rw [List.getLast?_cons_cons] at h; exact h
    have ih := psum_join (f := f) (p := b :: q) (r := r) h'
    rw [List.cons_append, List.cons_append, psum_cons, psum_cons]
    rw [List.cons_append] at ih
    rw [ih]
    omega
theorem Wk.join {es : List (Str × Str)} : ∀ {p r : List Str} {x : Str}, p.getLast? = some x → Wk es p → Wk es (x :: r) → Wk es (p ++ r)
  | [], _, _, h, _, _ => nomatch h
  | [a], r, x, h, _, w => by
    have : a = x := by simpa using h
    subst this
    exact w
  | a :: b :: q, r, x, h, w1, w2 => by
    have h' : (b :: q).getLast? = some x := by rw [List.getLast?_cons_cons] at h; exact h
    exact ⟨w1.1, Wk.join (p := b :: q) h' w1.2 w2⟩
theorem Wk.snoc {es : List (Str × Str)} {p : List Str} {x b : Str} (h : p.getLast? = some x) (w : Wk es p) (a : Adj es x b) : Wk es (p ++ [b]) := w.join h ⟨a, trivial⟩
theorem Wk.left {es : List (Str × Str)} : ∀ {p r : List Str}, Wk es (p ++ r) → Wk es p
  | [], _, _ => trivial
  | [_], _, _ => trivial
  | a :: b :: q, r, w => ⟨w.1, Wk.left (p := b :: q) (r := r) w.2⟩
theorem Wk.tail {es : List (Str × Str)} {a : Str} {p : List Str} (w : Wk es (a :: p)) : Wk es p := by
  cases p with
  | nil => trivial
  | cons b r => exact w.2
theorem Wk.right {es : List (Str × Str)} : ∀ {p r : List Str}, Wk es (p ++ r) → Wk es r
  | [], _, w => w
  | a :: q, r, w => Wk.right (p := q) (r := r) (Wk.tail w)
theorem Wk.rev {es : List (Str × Str)} : ∀ {p : List Str}, Wk es p → Wk es p.reverse
  | [], _ => trivial
  | [_], _ => trivial
  | a :: b :: r, w => by
    have ih := Wk.rev (p := b :: r) w.2
    rw [List.reverse_cons]
    refine ih.snoc (x := b) ?_ w.1.symm
    rw [List.reverse_cons, List.getLast?_append]
    simp
section
variable {ns : List Str} {es : List (Str × Str)} {f : Str → Int}
theorem slp_neg (ok : EsOk ns es f) {a b : Str} (h : Adj es a b) : slp f b a = - slp f a b := by
  have ha : a ∈ ns ∧ b ∈ ns ∧ f a ≠ f b := by
    rcases h with h | h
    · exact ⟨(ok.mem _ h).1, (ok.mem _ h).2, ok.pro _ h⟩
    · exact ⟨(ok.mem _ h).2, (ok.mem _ h).1, fun z => ok.pro _ h z.symm⟩
  have t1 := ok.tri a ha.1
  have t2 := ok.tri b ha.2.1
  have ne := ha.2.2
  unfold slp
  split <;> split <;> omega
theorem slp_mod (ok : EsOk ns es f) {a b : Str} (h : Adj es a b) : slp f a b % 3 = (f b - f a) % 3 := by
  have ha : a ∈ ns ∧ b ∈ ns ∧ f a ≠ f b := by
    rcases h with h | h
    · exact ⟨(ok.mem _ h).1, (ok.mem _ h).2, ok.pro _ h⟩
    · exact ⟨(ok.mem _ h).2, (ok.mem _ h).1, fun z => ok.pro _ h z.symm⟩
  have t1 := ok.tri a ha.1
  have t2 := ok.tri b ha.2.1
  have ne := ha.2.2
  unfold slp
  split <;> omega
theorem psum_rev (ok : EsOk ns es f) : ∀ {p : List Str}, Wk es p → psum f p.reverse = - psum f p
  | [], _ => rfl
  | [_], _ => rfl
  | a :: b :: r, w => by
    have ih := psum_rev ok (p := b :: r) w.2
    have hl : (b :: r).reverse.getLast? = some b := by
      rw [List.reverse_cons, List.getLast?_append]
      simp
    rw [List.reverse_cons, psum_join hl, ih, psum_cons, psum_cons, psum_one, slp_neg ok w.1]
    omega
theorem psum_mod (ok : EsOk ns es f) : ∀ {p : List Str} {a b : Str}, Wk es p → p.head? = some a → p.getLast? = some b → psum f p % 3 = (f b - f a) % 3
  | [], _, _, _, h, _ => nomatch h
  | [x], a, b, _, h, k => by
    have h1 : x = a := by simpa using h
    have h2 : x = b := by simpa using k
    subst h1
    subst h2
    rw [psum_one]
    omega
  | x :: y :: r, a, b, w, h, k => by
    have h1 : x = a := by simpa using h
    subst h1
    have k' : (y :: r).getLast? = some b := by rw [List.getLast?_cons_cons] at k; exact k
    have ih := psum_mod ok (p := y :: r) (a := y) w.2 rfl k'
    have m := slp_mod ok w.1
    rw [psum_cons]
    omega
/-- two states apart by the numbers h -/
theorem psum_lift {g h : Str → Int} (okf : EsOk ns es f) (okg : EsOk ns es g) (t : ∀ e ∈ es, slp f e.1 e.2 - slp g e.1 e.2 = 2 * (h e.1 - h e.2)) : ∀ {p : List Str} {a b : Str}, Wk es p → p.head? = some a → p.getLast? = some b → psum f p - psum g p = 2 * (h a - h b)
  | [], _, _, _, h, _ => nomatch h
  | [x], a, b, _, h, k => by
    have h1 : x = a := by simpa using h
    have h2 : x = b := by simpa using k
    subst h1
    subst h2
    rw [psum_one, psum_one]
    omega
  | x :: y :: r, a, b, w, k1, k => by
    have h1 : x = a := by simpa using k1
    subst h1
    have k' : (y :: r).getLast? = some b := by rw [List.getLast?_cons_cons] at k; exact k
    have ih := psum_lift okf okg t (p := y :: r) (a := y) w.2 rfl k'
    rw [psum_cons, psum_cons]
    have m : slp f x y - slp g x y = 2 * (h x - h y) := by
      rcases w.1 with q | q
      · exact t _ q
      · have := t _ q
        have n1 := slp_neg okf (.inl q)
        have n2 := slp_neg okg (.inl q)
        simp only at this
        omega
    omega
theorem psum_closed (ok : EsOk ns es f) {p : List Str} {a : Str} (w : Wk es p) (h : p.head? = some a) (k : p.getLast? = some a) : psum f p % 3 = 0 := by
  rw [psum_mod ok w h k]
  omega
end
/-! ### the paths found are walks -/
theorem PathTo.wk {es : List (Str × Str)} {ok : Str → Str → Bool} {root x : Str} {p : List Str} (h : PathTo (nbS es) ok root x p) : Wk es p ∧ p.head? = some root ∧ p.getLast? = some x := by
  induction h with
  | one => exact ⟨trivial, rfl, rfl⟩
  | @snoc a b p _ m o ih =>
    obtain ⟨h1, h2, h3⟩ := ih
    refine ⟨h1.snoc h3 (nbS_mem.mp m), ?_, by simp⟩
    cases p with
    | nil => cases h2
    | cons _ _ => exact h2
/-! ### basis cycles -/
def pen (p : List Str) : List Str := (p.drop (p.length - 2)).take ((p.length - 1) - (p.length - 2))
def pth (kp : List (Str × List Str)) (x : Str) : List Str := (kp.lookup x).getD []
def isBasis (kp : List (Str × List Str)) (e : Str × Str) : Bool := !decide (pen (pth kp e.1) = [e.2]) && !decide (pen (pth kp e.2) = [e.1])
def basisF (es : List (Str × Str)) (kp : List (Str × List Str)) : List (List Str) := (es.filter (isBasis kp)).map fun e => pth kp e.1 ++ (pth kp e.2).reverse
theorem lookup_some : ∀ {kp : List (Str × List Str)} {x : Str}, x ∈ keysF kp → ∃ p, kp.lookup x = some p ∧ (x, p) ∈ kp
  | y :: r, x, h => by
    rw [List.lookup_cons]
    by_cases e : x = y.1
    · subst e
      rw [show (y.1 == y.1) = true from beq_self_eq_true _]
      exact ⟨y.2, rfl, List.mem_cons_self⟩
    · rw [show (x == y.1) = false from beq_eq_false_iff_ne.mpr e]
      have : x ∈ keysF r := by
        rcases List.mem_cons.mp h with z | z
        · exact absurd z e
        · exact z
      obtain ⟨p, h1, h2⟩ := lookup_some this
      exact ⟨p, h1, List.mem_cons_of_mem _ h2⟩
theorem lookup_uniq : ∀ {kp : List (Str × List Str)} {x : Str} {p : List Str}, (keysF kp).Nodup → (x, p) ∈ kp → kp.lookup x = some p
  | y :: r, x, p, nd, h => by
    have nd' : y.1 ∉ keysF r ∧ (keysF r).Nodup := List.nodup_cons.mp nd
    rw [List.lookup_cons]
    rcases List.mem_cons.mp h with e | h
    · rw [← e]
      rw [show (x == x) = true from beq_self_eq_true _]
    · have : x ≠ y.1 := by
        rintro rfl
        exact nd'.1 (List.mem_map_of_mem (f := (·.1)) h)
      rw [show (x == y.1) = false from beq_eq_false_iff_ne.mpr this]
      exact lookup_uniq nd'.2 h
section
variable {ns : List Str} {es : List (Str × Str)}
theorem comp_same (ok : GrOk ns es) (l : ns.length ≤ 1000) {r s x y : Str} (hr : r ∈ ns) (hs : s ∈ ns) (hx : x ∈ comp es r) (hy : y ∈ comp es s) (c : Con es x y) : comp es r = comp es s := by
  have h1 := (comp_mem ok l hr).mp hx
  have h2 := (comp_mem ok l hs).mp hy
  have rs : Con es r s := (h1.trans c).trans (con_symm h2)
  refine asc_unique (sortS_asc pt_nodup) (sortS_asc pt_nodup) fun z => ?_
  rw [comp_mem ok l hr, comp_mem ok l hs]
  exact ⟨fun h => (con_symm rs).trans h, fun h => rs.trans h⟩
/-- each node has its root path: a walk from the root of its component -/
theorem roots_path (ok : GrOk ns es) (l : ns.length ≤ 1000) {x : Str} (hx : x ∈ ns) : ∃ r ∈ ns, x ∈ comp es r ∧ PathTo (nbS es) (fun _ _ => true) ((comp es r).headD Str.empty) x (pth (rootsF es (compsF ns es)) x) := by
  have cm := compsF_ok ok l
  have hk : x ∈ keysF (rootsF es (compsF ns es)) := (roots_keys ok l cm.of x).mpr (cm.all x hx)
  obtain ⟨p, h1, h2⟩ := lookup_some hk
  have e : pth (rootsF es (compsF ns es)) x = p := by unfold pth; rw [h1]; rfl
  rw [e]
  obtain ⟨c, hc, h3⟩ := List.mem_flatMap.mp h2
  obtain ⟨r, hr, rfl⟩ := cm.of c hc
  exact ⟨r, hr, ((root_keys ok l hr).2 x).mp (List.mem_map_of_mem h3), stF_path 1000 _ h3⟩
theorem basis_ok (ok : GrOk ns es) (l : ns.length ≤ 1000) : ∀ c ∈ basisF es (rootsF es (compsF ns es)), Wk es c ∧ ∃ a, c.head? = some a ∧ c.getLast? = some a := by
  intro c hc
  obtain ⟨e, he, rfl⟩ := List.mem_map.mp hc
  have he := (List.mem_filter.mp he).1
  obtain ⟨m1, m2⟩ := ok.mem e he
  obtain ⟨r, hr, hx, p1⟩ := roots_path ok l m1
  obtain ⟨s, hs, hy, p2⟩ := roots_path ok l m2
  have cs := comp_same ok l hr hs hx hy (.step .refl (nbS_mem.mpr (.inl he)) rfl)
  rw [← cs] at p2
  obtain ⟨w1, h1, k1⟩ := p1.wk
  obtain ⟨w2, h2, k2⟩ := p2.wk
  generalize pth (rootsF es (compsF ns es)) e.1 = p at *
  generalize pth (rootsF es (compsF ns es)) e.2 = q at *
  generalize (comp es r).headD Str.empty = rt at *
  have hq : q.reverse.head? = some e.2 := by rw [List.head?_reverse]; exact k2
  have lq : q.reverse.getLast? = some rt := by rw [List.getLast?_reverse]; exact h2
  refine ⟨w1.join k1 ?_, rt, ?_, ?_⟩
  · have w3 := w2.rev
    cases e3 : q.reverse with
    | nil => rw [e3] at hq; cases hq
    | cons y t =>
      rw [e3] at hq w3
      have : y = e.2 := by simpa using hq
      subst this
      exact ⟨.inl he, w3⟩
  · rw [List.head?_append, h1]
    rfl
  · rw [List.getLast?_append, lq]
    rfl
end
end U

/-! small readings that many laws want -/
namespace U
open PySem PySem.Spec PyProof.Rows L2
section
variable {K : PySem.W.Frag} {H H' : Hp} {Q : VK} {p q a : Addr} {σ : L2.St} {te td : TE} {tr : TA} {xs : List V}
theorem rd_tyD {kvs : List (Key × V)} {P : Prop} (hs : H p = some (.dK kvs)) (h : P) : tyV K "dict" (.ref p) H ∧ P := ⟨.inr (.inr (.inl ⟨rfl, .inl ⟨kvs, hs⟩⟩)), h⟩
theorem rd_clr {kvs : List (Key × V)} (hs : H p = some (.dK kvs)) (h : Q .non (upd H p (.dK []))) : rDClear (.ref p) [] H Q := ⟨p, kvs, rfl, rfl, hs, h⟩
theorem rd_neKF {ord : List Str} {f g : Str → Int} (h1 : H p = some (.dK (kvF ord f))) (h2 : H q = some (.dK (kvF ord g))) (e : ∀ n ∈ ord, f n = g n) (h : Q (.bl false) H) : rNeDA (.ref p) (.ref q) H Q := by
  refine ⟨p, q, _, _, rfl, rfl, h1, h2, by rw [List.length_map, List.length_map], fun x hx => ?_, h⟩
  obtain ⟨n, hn, rfl⟩ := List.mem_map.mp hx
  exact ⟨by rw [kvF_val hn, e n hn], rfl⟩
theorem rd_lstS {tr : TA} (h : tr σ H fun xs H1 => xs.length ≤ sizeLine ∧ ∀ p, H1 p = none → (p == sysModules) = false → Q (.ref p) (upd H1 p (.lst xs))) : tLstS tr σ H Q := h
theorem rd_revL (h : te σ H fun x H1 => ∃ a xs, x = .ref a ∧ SqL K H1 a xs ∧ ∀ p, H1 p = none → Q (.ref p) (upd H1 p (.lst xs.reverse))) : tRevL K te σ H Q := h
theorem rd_iVals {R : It → Hp → Prop} (h : td σ H fun x H1 => ∃ d o kvs, x = .ref d ∧ H1 d = some (.frz o (.dK kvs)) ∧ R (Itd d o kvs) H1) : iVals td σ H R := h
theorem rd_tXk {f : Str} (h : te σ H fun x H1 => ∃ (a C dd : Addr) (fs : List (Str × V)) (v : V), x = .ref a ∧ H1 a = some (exk a (.ref C) (some dd)) ∧ XfC K C ∧ PySem.W.findIn K (.ref C) f = some none ∧ H1 dd = some (.xd fs) ∧ fs.lookup f = some v ∧ Q v H1) : tXk K f te σ H Q := h
theorem Same.sqL (s : Same H H') (h : SqL K H a xs) : SqL K H' a xs := by
  rcases h with (h | ⟨o, h⟩) | h
  · exact .inl (.inl (s _ _ h))
  · exact .inl (.inr ⟨o, s _ _ h⟩)
  · exact .inr h
theorem seqL_keep (h : SqL K H a xs) (np : H p = none) (b : But p H H') : SqL K H' a xs := by
  rcases h with (h | ⟨o, h⟩) | h
  · exact .inl (.inl (b _ _ (ne_of_none h np) h))
  · exact .inl (.inr ⟨o, b _ _ (ne_of_none h np) h⟩)
  · exact .inr h
end
theorem lk_one {k : Str} {v : V} : List.lookup k [(k, v)] = some v := by
  have e : (k == k) = true := beq_self_eq_true k
  simp only [List.lookup, e]
theorem merge_kvF {h : Str → Int} : ∀ {b a : List Str}, (a ++ b).Nodup → mergeK (kvF a h) (kvF b h) = kvF (a ++ b) h
  | [], a, _ => by rw [List.append_nil]; rfl
  | n :: b, a, nd => by
    have nn : n ∉ a := by
      rw [List.nodup_append] at nd
      exact fun z => nd.2.2 n z n List.mem_cons_self rfl
    have e : mergeK (kvF a h) (kvF (n :: b) h) = mergeK (putK (kvF a h) (.inr n) (.int (h n))) (kvF b h) := rfl
    have u : updf h n (h n) = h := by
      funext x
      unfold updf
      by_cases z : x = n
      · rw [if_pos z, z]
      · rw [if_neg z]
    rw [e, kvF_new nn, u, merge_kvF (by rw [List.append_assoc]; exact nd), List.append_assoc]
    rfl
theorem merge_all {ns : List Str} {h : Str → Int} (nd : ns.Nodup) : mergeK [] (kvF ns h) = kvF ns h := by
  have mk := merge_kvF (a := []) (b := ns) (h := h) (by rw [List.nil_append]; exact nd)
  rw [List.nil_append] at mk
  exact mk
theorem paired_mono {α β : Type} {F G : α → β → Prop} (k : ∀ a b, F a b → G a b) : ∀ {xs : List α} {ys : List β}, Paired F xs ys → Paired G xs ys
  | _, _, .nil => .nil
  | _, _, .cons h t => .cons (k _ _ h) (paired_mono k t)
theorem kvF_app {a : List Str} {x : Str} {h : Str → Int} : kvF (a ++ [x]) h = kvF a h ++ [(.inr x, .int (h x))] := List.map_append
theorem but_lk {H2 : Hp} {d D t : Addr} {X o l : HO} (ft : H2 t = none) : But D (upd H2 d X) (upd (upd (upd H2 t o) D l) d X) := fun b o' nb hb => by
  by_cases e : b = d
  · subst e
    rw [upd_same] at hb ⊢
    exact hb
  · rw [upd_ne e] at hb ⊢
    rw [upd_ne nb]
    exact at_upd (ne_of_none hb ft) hb
theorem key_at {ns : List Str} {h : Str → Int} {j : Nat} {k1 : Key} {v1 : V} (hin : j < ns.length) (e1 : (kvF ns h)[j]? = some (k1, v1)) : k1 = .inr ns[j] ∧ v1 = .int (h ns[j]) := by
  rw [kvF, List.getElem?_map, List.getElem?_eq_getElem hin] at e1
  have := Option.some.inj e1
  exact ⟨(Prod.mk.inj this).1.symm, (Prod.mk.inj this).2.symm⟩
theorem cutV_from {xs : List V} {i : Nat} (h : i ≤ xs.length) : cutV xs (some (i : Int)) none = xs.drop i := by
  unfold cutV HT.sIx
  simp only
  rw [if_neg (by omega), Int.toNat_natCast, Nat.min_eq_left h]
  exact List.take_of_length_le (by rw [List.length_drop]; omega)
end U

/-! root_paths, basis_cycles, path_sum, windings -/
namespace Law
open PySem PySem.Spec PyProof.Rows L2 U
local macro_rules | `(tactic| wtm_at "rd1") => `(tactic| first
  | with_reducible refine rd_seq ?_
  | ((with_reducible refine rd_var (v := ?vv) ?hv ?_); (case hv => exact rfl))
  | with_reducible refine rd_c ?_
  | with_reducible refine rd_cons ?_
  | with_reducible refine rd_nil ?_
  | with_reducible refine rd_op ?_
  | with_reducible refine rd_asg ?_
  | with_reducible refine rd_name ?_
  | with_reducible refine rd_c1 ?_
  | with_reducible refine rd_cb ?_
  | with_reducible refine rd_test ?_
  | with_reducible refine rd_B ?_
  | with_reducible refine rd_bl ?_
  | with_reducible refine rd_if ?_
  | with_reducible refine rd_ret ?_
  | with_reducible refine rd_drop ?_
  | with_reducible refine rd_next ?_
  | with_reducible refine rd_addI ?_
  | with_reducible refine rd_ltI ?_
  | with_reducible refine rd_eqI ?_
  | with_reducible refine rd_neI ?_
  | with_reducible refine rd_eqS ?_
  | with_reducible refine rd_neS ?_
  | with_reducible refine rd_gtI ?_
  | with_reducible refine rd_geI ?_
  | with_reducible refine rd_leI ?_
  | with_reducible refine rd_ltS ?_
  | with_reducible refine rd_subI ?_
  | ((with_reducible refine rd_modI ?hc ?_); (case hc => first | decide | omega))
  | ((with_reducible refine rd_mulI ?hc ?_); (case hc => first | exact mul_bI | exact .inl (.inr (by decide)) | exact .inl (.inl (by decide)) | exact .inl (.inr (by omega)) | exact .inl (.inl (by omega))))
  | ((with_reducible refine rd_divI ?hc ?_); (case hc => first | decide | omega))
  | ((with_reducible refine rd_powI ?hc ?_); (case hc => exact ⟨by decide, by decide, by decide⟩))
  | with_reducible refine rd_lst ?_
  | with_reducible refine rd_tup ?_
  | ((with_reducible refine rd_sz ?hv ?_); (case hv => exact rfl))
  | with_reducible refine rd_and ?_
  | with_reducible refine rd_or ?_
  | with_reducible refine rd_not ?_
  | with_reducible refine rd_andV ?_
  | with_reducible refine rd_orV ?_
  | with_reducible refine rd_notV ?_
  | with_reducible refine rd_ifE ?_
  | with_reducible refine rd_T ?_
  | with_reducible refine rd_F ?_
  | with_reducible refine rd_chain ?_
  | with_reducible refine rd_is ?_
  | with_reducible refine rd_isNot ?_
  | with_reducible refine rd_absI ?_
  | with_reducible refine rd_maxI ?_
  | with_reducible refine rd_minI ?_
  | with_reducible refine rd_intI ?_
  | with_reducible refine rd_intB ?_
  | with_reducible refine rd_sub ?_
  | with_reducible refine rd_sl ?_
  | with_reducible refine rd_noPart ?_
  | with_reducible refine rd_part ?_
  | with_reducible refine rd_exI ?_
  | with_reducible refine rd_bm ?_
  | with_reducible refine rd_bm0 ?_
  | with_reducible refine rd_un ?_
  | with_reducible refine rd_neg ?_
  | with_reducible refine rd_c2 ?_
  | with_reducible refine rd_retN ?_
  | with_reducible refine rd_break ?_
  | with_reducible refine rd_cont ?_
  | with_reducible refine rd_for ?_
  | with_reducible refine rd_rng1 ?_
  | with_reducible refine rd_rng2 ?_
  | with_reducible refine rd_iList ?_
  | with_reducible refine rd_iTup ?_
  | with_reducible refine rd_iEnum ?_
  | ((with_reducible refine rd_forR ?h0 ?h1 ?_); (case h0 => omega); (case h1 => omega))
  | with_reducible refine rd_lc ?_
  | with_reducible refine rd_gcons ?_
  | with_reducible refine rd_gnil ?_
  | with_reducible refine rd_dget ?_
  | with_reducible refine rd_dput ?_
  | with_reducible refine rd_dnew ?_
  | with_reducible refine rd_dc ?_
  | with_reducible refine rd_iItems ?_
  | with_reducible refine rd_iKeys ?_
  | with_reducible refine rd_din ?_
  | with_reducible refine rd_lc2 ?_
  | with_reducible refine rd_cd ?_
  | with_reducible refine rd_par ?_
  | with_reducible refine rd_two ?_
  | with_reducible refine rd_reprB ?_
  | with_reducible refine rd_ck ?_
  | ((with_reducible refine rd_len ?hl ?_); (case hl => exact rfl))
  | with_reducible refine rd_nT ?_
  | with_reducible refine rd_nF ?_
  | with_reducible refine rd_dnin ?_
  | with_reducible refine rd_isB ?_
  | with_reducible refine rd_isNotB ?_
  | with_reducible refine rd_daug ?_
  | with_reducible refine rd_yesT ?_
  | ((with_reducible refine rd_wp ?hw ?_); (case hw => exact rfl)))
local macro_rules | `(tactic| wtm_at "rd") => `(tactic| repeat wtm_at "rd1")

theorem merge_kvG {G : Str → V} : ∀ {b a : List Str} {F : Str → V}, (a ++ b).Nodup → mergeK (kvG a F) (kvG b G) = kvG (a ++ b) (fun x => if x ∈ a then F x else G x)
  | [], a, F, _ => by
    rw [List.append_nil]
    exact kvG_congr fun x hx => (if_pos hx).symm
  | n :: b, a, F, nd => by
    have nn : n ∉ a := by
      rw [List.nodup_append] at nd
      exact fun z => nd.2.2 n z n List.mem_cons_self rfl
    have e : mergeK (kvG a F) (kvG (n :: b) G) = mergeK (putK (kvG a F) (.inr n) (G n)) (kvG b G) := rfl
    rw [e, kvG_new nn, merge_kvG (by rw [List.append_assoc]; exact nd), List.append_assoc]
    refine kvG_congr fun x _ => ?_
    unfold updV
    by_cases z : x = n
    · subst z
      rw [if_pos (List.mem_append_right _ List.mem_cons_self), if_pos rfl, if_neg nn]
    · by_cases m : x ∈ a
      · rw [if_pos (List.mem_append_left _ m), if_neg z, if_pos m]
      · rw [if_neg (fun h => by
          rcases List.mem_append.mp h with h | h
          · exact m h
          · exact z (List.mem_singleton.mp h)), if_neg m]
theorem cutV_pen {p : List Str} : cutV (p.map V.str) (some (-2)) (some (-1)) = (pen p).map V.str := by
  unfold cutV pen HT.sIx
  simp only
  rw [if_pos (by decide), if_pos (by decide), List.length_map, List.map_take, List.map_drop]
  congr 2 <;> omega
abbrev rtF (ns : List Str) (es : List (Str × Str)) : List (Str × List Str) := rootsF es (compsF ns es)
def spRoots : Sp := fun vs H Q _ => ∃ (g n e : Addr) (ns : List Str) (es : List (Addr × Str × Str)), vs = [.ref g] ∧ GrS H g n e ns es ∧ ns.length ≤ 60 ∧
  ∀ (d : Addr) (A : Str → Addr) (H' : Hp), Same H H' → H d = none → (∀ c ∈ rtF ns (es.map (·.2)), H (A c.1) = none) → PathsAt H' d (rtF ns (es.map (·.2))) A → Q (.ref d) H'
abbrev bsF (ns : List Str) (es : List (Str × Str)) : List (List Str) := basisF es (rtF ns es)
def spBasis : Sp := fun vs H Q _ => ∃ (g n e : Addr) (ns : List Str) (es : List (Addr × Str × Str)), vs = [.ref g] ∧ GrS H g n e ns es ∧ ns.length ≤ 60 ∧
  ∀ (l : Addr) (cs : List (Addr × List Str)) (H' : Hp), Same H H' → H l = none → (∀ c ∈ cs, H c.1 = none) → ListsAt H' l cs → cs.map (·.2) = bsF ns (es.map (·.2)) → Q (.ref l) H'
def spPsum (K : PySem.W.Frag) : Sp := fun vs H Q _ => ∃ (st pl : Addr) (ord p : List Str) (f : Str → Int), vs = [.ref st, .ref pl] ∧ H st = some (.dK (kvF ord f)) ∧ SqL K H pl (p.map V.str) ∧ (∀ x ∈ p, x ∈ ord) ∧ p.length ≤ 5000 ∧ ∀ H' : Hp, Same H H' → Q (.int (psum f p)) H'
def spWind : Sp := fun vs H Q _ => ∃ (g n e st : Addr) (ns ord : List Str) (es : List (Addr × Str × Str)) (f : Str → Int), vs = [.ref g, .ref st] ∧ GSt H g n e st ns ord es f ∧ ns.length ≤ 60 ∧
  ∀ (l : Addr) (H' : Hp), Same H H' → H l = none → H' l = some (.lst (((bsF ns (es.map (·.2))).map fun c => psum f c / 3).map V.int)) → Q (.ref l) H'
theorem rt_mem {ns : List Str} {es : List (Str × Str)} (ok : GrOk ns es) (l : ns.length ≤ 1000) {x : Str} (hx : x ∈ ns) : x ∈ keysF (rtF ns es) := (roots_keys ok l (compsF_ok ok l).of x).mpr ((compsF_ok ok l).all x hx)
theorem rt_at {H : Hp} {d : Addr} {ns : List Str} {es : List (Str × Str)} {A : Str → Addr} (h : PathsAt H d (rtF ns es) A) (ok : GrOk ns es) (l : ns.length ≤ 1000) {x : Str} (hx : x ∈ ns) : H (A x) = some (.lst ((pth (rtF ns es) x).map V.str)) := by
  obtain ⟨p, h1, h2⟩ := lookup_some (rt_mem ok l hx)
  have e : pth (rtF ns es) x = p := by unfold pth; rw [h1]; rfl
  rw [e]
  exact h.li _ h2
theorem rt_len {ns : List Str} {es : List (Str × Str)} (ok : GrOk ns es) (l : ns.length ≤ 1000) {x : Str} (hx : x ∈ ns) : (pth (rtF ns es) x).length ≤ 1001 := by
  obtain ⟨p, h1, h2⟩ := lookup_some (rt_mem ok l hx)
  have e : pth (rtF ns es) x = p := by unfold pth; rw [h1]; rfl
  rw [e]
  obtain ⟨c, _, h3⟩ := List.mem_flatMap.mp h2
  exact stF_plen 1000 _ h3
theorem path_in {ns : List Str} {es : List (Str × Str)} (ok : GrOk ns es) {r x : Str} {p : List Str} (hr : r ∈ ns) (h : PathTo (nbS es) (fun _ _ => true) r x p) : ∀ y ∈ p, y ∈ ns := by
  induction h with
  | one => intro y hy; rw [List.mem_singleton] at hy; rw [hy]; exact hr
  | snoc _ m _ ih =>
    intro y hy
    rcases List.mem_append.mp hy with hy | hy
    · exact ih y hy
    · rw [List.mem_singleton] at hy
      rw [hy]
      exact nbS_in ok m
theorem rt_in {ns : List Str} {es : List (Str × Str)} (ok : GrOk ns es) (l : ns.length ≤ 1000) {x : Str} (hx : x ∈ ns) : ∀ y ∈ pth (rtF ns es) x, y ∈ ns := by
  obtain ⟨r, hr, _, p⟩ := roots_path ok l hx
  exact path_in ok (root_keys ok l hr).1 p
theorem bs_in {ns : List Str} {es : List (Str × Str)} (ok : GrOk ns es) (l : ns.length ≤ 1000) : ∀ c ∈ bsF ns es, (∀ y ∈ c, y ∈ ns) ∧ c.length ≤ 2002 := by
  intro c hc
  obtain ⟨e, he, rfl⟩ := List.mem_map.mp hc
  obtain ⟨m1, m2⟩ := ok.mem e (List.mem_filter.mp he).1
  refine ⟨fun y hy => ?_, ?_⟩
  · rcases List.mem_append.mp hy with hy | hy
    · exact rt_in ok l m1 y hy
    · exact rt_in ok l m2 y (List.mem_reverse.mp hy)
  · have := rt_len ok l m1
    have := rt_len ok l m2
    rw [List.length_append, List.length_reverse]
    omega
section
variable {P : Program} {w : World} {K : PySem.W.Frag} {mg : Str → Option Value} {base : Heap}
structure B4c (P : Program) (w : World) (K : PySem.W.Frag) (mg : Str → Option Value) (base : Heap) : Prop where
  paths_from : Cal P w K mg base CX0 2 "paths_from" spPathsFrom
  components : Cal P w K mg base CX0 3 "components" spComps
structure B5c (P : Program) (w : World) (K : PySem.W.Frag) (mg : Str → Option Value) (base : Heap) : Prop where
  root_paths : Cal P w K mg base CX0 4 "root_paths" spRoots
structure B6c (P : Program) (w : World) (K : PySem.W.Frag) (mg : Str → Option Value) (base : Heap) : Prop where
  slope : Cal P w K mg base CX0 1 "slope" spSlope
structure B7c (P : Program) (w : World) (K : PySem.W.Frag) (mg : Str → Option Value) (base : Heap) : Prop where
  path_sum : Cal P w K mg base CX0 2 "path_sum" (spPsum K)
  basis_cycles : Cal P w K mg base CX0 5 "basis_cycles" spBasis
end
end Law

/-! slopes as the laws count them; walks drawn -/
namespace Law
open PySem PySem.Spec PyProof.Rows L2 U
local macro_rules | `(tactic| wtm_at "rd1") => `(tactic| first
  | with_reducible refine rd_seq ?_
  | ((with_reducible refine rd_var (v := ?vv) ?hv ?_); (case hv => exact rfl))
  | with_reducible refine rd_c ?_
  | with_reducible refine rd_cons ?_
  | with_reducible refine rd_nil ?_
  | with_reducible refine rd_op ?_
  | with_reducible refine rd_asg ?_
  | with_reducible refine rd_name ?_
  | with_reducible refine rd_c1 ?_
  | with_reducible refine rd_cb ?_
  | with_reducible refine rd_test ?_
  | with_reducible refine rd_B ?_
  | with_reducible refine rd_bl ?_
  | with_reducible refine rd_if ?_
  | with_reducible refine rd_ret ?_
  | with_reducible refine rd_drop ?_
  | with_reducible refine rd_next ?_
  | with_reducible refine rd_addI ?_
  | with_reducible refine rd_ltI ?_
  | with_reducible refine rd_eqI ?_
  | with_reducible refine rd_neI ?_
  | with_reducible refine rd_eqS ?_
  | with_reducible refine rd_neS ?_
  | with_reducible refine rd_gtI ?_
  | with_reducible refine rd_geI ?_
  | with_reducible refine rd_leI ?_
  | with_reducible refine rd_ltS ?_
  | with_reducible refine rd_subI ?_
  | ((with_reducible refine rd_modI ?hc ?_); (case hc => first | decide | omega))
  | ((with_reducible refine rd_mulI ?hc ?_); (case hc => first | exact mul_bI | exact .inl (.inr (by decide)) | exact .inl (.inl (by decide)) | exact .inl (.inr (by omega)) | exact .inl (.inl (by omega))))
  | ((with_reducible refine rd_divI ?hc ?_); (case hc => first | decide | omega))
  | ((with_reducible refine rd_powI ?hc ?_); (case hc => exact ⟨by decide, by decide, by decide⟩))
  | with_reducible refine rd_lst ?_
  | with_reducible refine rd_tup ?_
  | ((with_reducible refine rd_sz ?hv ?_); (case hv => exact rfl))
  | with_reducible refine rd_and ?_
  | with_reducible refine rd_or ?_
  | with_reducible refine rd_not ?_
  | with_reducible refine rd_andV ?_
  | with_reducible refine rd_orV ?_
  | with_reducible refine rd_notV ?_
  | with_reducible refine rd_ifE ?_
  | with_reducible refine rd_T ?_
  | with_reducible refine rd_F ?_
  | with_reducible refine rd_chain ?_
  | with_reducible refine rd_is ?_
  | with_reducible refine rd_isNot ?_
  | with_reducible refine rd_absI ?_
  | with_reducible refine rd_maxI ?_
  | with_reducible refine rd_minI ?_
  | with_reducible refine rd_intI ?_
  | with_reducible refine rd_intB ?_
  | with_reducible refine rd_sub ?_
  | with_reducible refine rd_sl ?_
  | with_reducible refine rd_noPart ?_
  | with_reducible refine rd_part ?_
  | with_reducible refine rd_exI ?_
  | with_reducible refine rd_bm ?_
  | with_reducible refine rd_bm0 ?_
  | with_reducible refine rd_un ?_
  | with_reducible refine rd_neg ?_
  | with_reducible refine rd_c2 ?_
  | with_reducible refine rd_retN ?_
  | with_reducible refine rd_break ?_
  | with_reducible refine rd_cont ?_
  | with_reducible refine rd_for ?_
  | with_reducible refine rd_rng1 ?_
  | with_reducible refine rd_rng2 ?_
  | with_reducible refine rd_iList ?_
  | with_reducible refine rd_iTup ?_
  | with_reducible refine rd_iEnum ?_
  | ((with_reducible refine rd_forR ?h0 ?h1 ?_); (case h0 => omega); (case h1 => omega))
  | with_reducible refine rd_lc ?_
  | with_reducible refine rd_gcons ?_
  | with_reducible refine rd_gnil ?_
  | with_reducible refine rd_dget ?_
  | with_reducible refine rd_dput ?_
  | with_reducible refine rd_dnew ?_
  | with_reducible refine rd_dc ?_
  | with_reducible refine rd_iItems ?_
  | with_reducible refine rd_iKeys ?_
  | with_reducible refine rd_din ?_
  | with_reducible refine rd_lc2 ?_
  | with_reducible refine rd_cd ?_
  | with_reducible refine rd_par ?_
  | with_reducible refine rd_two ?_
  | with_reducible refine rd_reprB ?_
  | with_reducible refine rd_ck ?_
  | ((with_reducible refine rd_len ?hl ?_); (case hl => exact rfl))
  | with_reducible refine rd_nT ?_
  | with_reducible refine rd_nF ?_
  | with_reducible refine rd_dnin ?_
  | with_reducible refine rd_isB ?_
  | with_reducible refine rd_isNotB ?_
  | with_reducible refine rd_daug ?_
  | with_reducible refine rd_yesT ?_
  | ((with_reducible refine rd_wp ?hw ?_); (case hw => exact rfl)))
local macro_rules | `(tactic| wtm_at "rd") => `(tactic| repeat wtm_at "rd1")

theorem use_graphB {H : Hp} {p : Addr} {most : Int} {Q : VK} {E : XK} (h : PoolAt H p) (m0 : 1 ≤ most) (m1 : most ≤ 25)
    (k : ∀ (t g n e st : Addr) (ns ord : List Str) (es : List (Addr × Str × Str)) (f : Str → Int) (H' : Hp), Go p H H' → H' t = some (.tup [.ref g, .ref st]) → GSt H' g n e st ns ord es f → 1 ≤ ns.length → (ns.length : Int) ≤ most → H t = none → H g = none → H st = none → Q (.ref t) H') : spGraph [.ref p, .int most] H Q E := by
  refine ⟨p, most, rfl, h, m0, m1, fun t g n e st ns ord es ws H' go ht hg hs ng nst l1 l2 ok pm so pro el nt => ?_⟩
  have ndo : ord.Nodup := pm.nodup_iff.mpr (asc_nodup ok.names.asc)
  refine k t g n e st ns ord es (numOf ws) H' go ht ⟨hg, ok, pm, by omega, el, ?_, fun x hx => so.at (pm.mem_iff.mpr hx), pro⟩ l1 (by omega) nt ng nst
  rw [← kvs_F so ndo]
  exact hs
theorem gs_none {H : Hp} {g n e st : Addr} (hg : H g = some (.tup [.ref n, .ref e])) (hn : H n = some (.tup [])) (he : H e = some (.tup [])) (hs : H st = some (.dK [])) : GSt H g n e st [] [] [] (fun _ => 0) :=
  ⟨⟨hg, hn, he, fun x hx => nomatch hx⟩, ⟨⟨List.Pairwise.nil, fun y hy => nomatch hy⟩, List.Pairwise.nil, (fun y hy => nomatch hy), fun y hy => nomatch hy⟩, .refl _, by decide, by decide, hs, (fun x hx => nomatch hx), fun x hx => nomatch hx⟩
theorem dlt_slp {ns : List Str} {es : List (Str × Str)} {f : Str → Int} (ok : EsOk ns es f) {a b : Str} (h : Adj es a b) : dlt (f b - f a) = slp f a b := by
  have ha : a ∈ ns ∧ b ∈ ns ∧ f a ≠ f b := by
    rcases h with h | h
    · exact ⟨(ok.mem _ h).1, (ok.mem _ h).2, ok.pro _ h⟩
    · exact ⟨(ok.mem _ h).2, (ok.mem _ h).1, fun z => ok.pro _ h z.symm⟩
  have t1 := ok.tri a ha.1
  have t2 := ok.tri b ha.2.1
  have ne := ha.2.2
  unfold dlt slp
  rw [if_neg (by omega)]
theorem wk_at {es : List (Str × Str)} : ∀ {p : List Str}, Wk es p → ∀ (i : Nat) (h : i + 1 < p.length), Adj es p[i] p[i + 1]
  | a :: b :: r, w, 0, _ => w.1
  | a :: b :: r, w, i + 1, h => wk_at (p := b :: r) w.2 i (by simp at h ⊢; omega)
theorem psum_small (f : Str → Int) : ∀ p : List Str, (psum f p).natAbs ≤ p.length
  | [] => Nat.le_refl _
  | [_] => Nat.zero_le _
  | a :: b :: r => by
    have ih := psum_small f (b :: r)
    have := slp_pm f a b
    rw [psum_cons]
    simp only [List.length_cons] at ih ⊢
    omega
theorem log_small {i : Int} (h : i.natAbs ≤ 100000) : i.natAbs.log2 < 1920 := by
  by_cases z : i.natAbs = 0
  · rw [z]
    decide
  · exact (Nat.log2_lt z).mpr (Nat.lt_of_le_of_lt h (by decide))
theorem at_last {p : List Str} {x : Str} (h : p.getLast? = some x) : atI (p.map V.str) (-1) = some (.str x) := by
  have hp : 0 < p.length := by
    cases p with
    | nil => cases h
    | cons _ _ => simp
  unfold atI ixN
  rw [List.length_map, if_neg (by decide)]
  split
  · rename_i h2
    simp only [Option.bind_some]
    rw [show ((-1 : Int) + (p.length : Int)).toNat = p.length - 1 from by omega, List.getElem?_map, ← List.getLast?_eq_getElem?, h]
    rfl
  · omega
theorem shaped_ints (xs : List Int) : SeqAt.shaped (.list (xs.map PyData.int)) = true := by
  have c : ∀ xs : List Int, PyData.canLayAll0 (xs.map PyData.int) = true ∧ PyData.depthAll (xs.map PyData.int) = 0 := by
    intro xs
    induction xs with
    | nil => exact ⟨by simp [PyData.canLayAll0], by simp [PyData.depthAll]⟩
    | cons x r ih => simp [PyData.canLayAll0, PyData.canLay0, PyData.depthAll, PyData.depth, ih.1, ih.2]
  unfold SeqAt.shaped
  rw [PyData.canLay0, (c xs).1, PyData.depth, (c xs).2]
  rfl
theorem dp_ints {K : PySem.W.Frag} {H : Hp} : ∀ xs : List Int, DpAll K H (xs.map V.int) (xs.map PyData.int)
  | [] => .nil
  | x :: r => .cons (.int x) (dp_ints r)
theorem rd_neIL {K : PySem.W.Frag} {H : Hp} {Q : VK} {p q : Addr} {xs : List Int} (hp : SqL K H p (xs.map V.int)) (hq : SqL K H q (xs.map V.int)) (h : Q (.bl false) H) : rNeU K (.ref p) (.ref q) H Q := rd_neSame (.lst hp (dp_ints _)) (.lst hq (dp_ints _)) (shaped_ints _) h
def spSlopeOf : Sp := fun vs H Q _ => ∃ (st : Addr) (a b : Str) (ord : List Str) (f : Str → Int), vs = [.ref st, .str a, .str b] ∧ H st = some (.dK (kvF ord f)) ∧ a ∈ ord ∧ b ∈ ord ∧ ∀ H' : Hp, Same H H' → Q (.int (dlt (f b - f a))) H'
def spFollow : Sp := fun vs H Q _ => ∃ (p g n e st : Addr) (b : Str) (most : Int) (ns ord : List Str) (es : List (Addr × Str × Str)) (f : Str → Int), vs = [.ref p, .ref g, .str b, .int most] ∧ PoolAt H p ∧ GSt H g n e st ns ord es f ∧ b ∈ ns ∧ 1 ≤ most ∧ most ≤ 100 ∧
  ∀ (l : Addr) (q : List Str) (H' : Hp), Go p H H' → H l = none → H' l = some (.lst (q.map V.str)) → Wk (es.map (·.2)) q → q.head? = some b → (∀ x ∈ q, x ∈ ns) → q.length ≤ 101 → Q (.ref l) H'
section
variable {P : Program} {w : World} {K : PySem.W.Frag} {mg : Str → Option Value} {base : Heap}
theorem ok_slope_of {f : Addr} {fd : FuncData} (F : Fun K "_law_slope_of" "_law_slope_of" s__law_slope_of f fd) (B : Bt mg) : FnG P w K mg base CX0 1 f fd ["_law_state", "_law_one", "_law_other"] spSlopeOf := by
  refine fnG0 F sc__law_slope_of (fun vs H Q E h => ?_) (fun cdv A outer s H vs Q E hr h => ?_)
  · obtain ⟨st, a, b, ord, f, rfl, _⟩ := h
    rfl
  · obtain ⟨st, a, b, ord, f, rfl, hst, ha, hb, q⟩ := h
    have nd := sc__law_slope_of.nd
    have hu := hr.u1
    refine ⟨_, (pss_one (ps_ret (pe_ix (kIx K rfl) (pe_lst (pa_cons pe_int (pa_cons pe_int (pa_cons (pe_un un_neg pe_int) pa_nil)))) (pe_op uMod (pe_op uSub (pe_dget hu (pv 0) (pv 2) (fun _ _ => rfl)) (pe_dget hu (pv 0) (pv 1) (fun _ _ => rfl))) pe_int) (fun _ _ => rfl)))), ?_⟩
    wtm_at "rd"
    intro t ft
    have s1 := Same.new (o := .lst [.int 0, .int 1, .int (-1)]) ft
    have ht := @upd_same H t (.lst [.int 0, .int 1, .int (-1)])
    generalize upd H t (.lst [.int 0, .int 1, .int (-1)]) = H1 at s1 ht
    wtm_at "rd"
    refine rd_dat (.inl (s1 _ _ hst)) (kvF_val hb) rfl ?_
    wtm_at "rd"
    refine rd_dat (.inl (s1 _ _ hst)) (kvF_val ha) rfl ?_
    wtm_at "rd"
    refine at_dlt ht ?_
    exact q H1 s1
structure B8c (P : Program) (w : World) (K : PySem.W.Frag) (mg : Str → Option Value) (base : Heap) : Prop where
  _law_draw : Cal P w K mg base CX0 1 "_law_draw" spDraw
  _law_neighbors_of : Cal P w K mg base CX0 1 "_law_neighbors_of" spNbr
end
end Law

/-! components as a law finds them: the plain law -/
namespace U
open PySem PySem.Spec PyProof.Rows L2
theorem addsF_keys {ok : Str → Str → Bool} {c : Str × List Str} : ∀ {os : List Str} {kp : List (Str × List Str)}, os.Nodup → keysF (addsF ok c os kp) = keysF kp ++ os.filter fun o => !decide (o ∈ keysF kp) && ok c.1 o
  | [], kp, _ => (List.append_nil _).symm
  | o :: os, kp, nd => by
    rw [List.nodup_cons] at nd
    have e : addsF ok c (o :: os) kp = addsF ok c os (addF ok c kp o) := rfl
    rw [e, addsF_keys nd.2]
    rcases addF_cases c kp o with ⟨e, m⟩ | ⟨e, m, k⟩
    · rw [e, List.filter_cons, if_neg]
      rcases m with m | m
      · rw [decide_eq_true m]
        exact Bool.false_ne_true
      · rw [m, Bool.and_false]
        exact Bool.false_ne_true
    · have ek : keysF (addF ok c kp o) = keysF kp ++ [o] := by rw [e]; exact List.map_append
      rw [ek, List.filter_cons, if_pos (by rw [decide_eq_false m, k]; rfl), List.append_assoc]
      congr 1
      show o :: _ = o :: _
      congr 1
      refine List.filter_congr fun x hx => ?_
      have nx : x ≠ o := fun z => nd.1 (by rw [← z]; exact hx)
      congr 2
      rw [decide_eq_decide]
      constructor
      · intro h
        rcases List.mem_append.mp h with h | h
        · exact h
        · exact (nx (List.mem_singleton.mp h)).elim
      · exact fun h => List.mem_append_left _ h
theorem nbS_nodup {ns : List Str} {es : List (Str × Str)} (ok : GrOk ns es) (x : Str) : (nbS es x).Nodup := (sortS_perm _).nodup_iff.mpr (nbrF_nodup ok x)
theorem fold_skip {es : List (Str × Str)} {c : List Str} : ∀ {xs : List Str} {cs : List (List Str)}, (∀ x ∈ c, x ∈ cs.flatten) → (xs.filter fun x => !decide (x ∈ c)).foldl (compStep es) cs = xs.foldl (compStep es) cs
  | [], _, _ => rfl
  | x :: r, cs, h => by
    have grow : ∀ y ∈ c, y ∈ (compStep es cs x).flatten := fun y hy => by
      unfold compStep
      split
      · exact h y hy
      · rw [List.flatten_append]
        exact List.mem_append_left _ (h y hy)
    rw [List.filter_cons]
    by_cases m : x ∈ c
    · rw [if_neg (by rw [decide_eq_true m]; exact Bool.false_ne_true), List.foldl_cons, show compStep es cs x = cs from if_pos (h x m)]
      exact fold_skip h
    · rw [if_pos (by rw [decide_eq_false m]; rfl), List.foldl_cons, List.foldl_cons]
      exact fold_skip grow
end U

/-! rising cycles, feasible lifts, progress: the plain law -/
namespace U
open PySem PySem.Spec PyProof.Rows L2
def slOk (f : Str → Int) (dir : Int) (a b : Str) : Bool := decide (slp f a b = dir)
abbrev Rr (es : List (Str × Str)) (f : Str → Int) (dir : Int) (x y : Str) : Prop := Reach (nbS es) (slOk f dir) x y
/-- x is on a rising (falling) cycle -/
def CycD (es : List (Str × Str)) (f : Str → Int) (dir : Int) (x : Str) : Prop := ∃ y, Adj es y x ∧ slp f y x = dir ∧ Rr es f dir x y
abbrev Cyc (es : List (Str × Str)) (f : Str → Int) (x : Str) : Prop := CycD es f 1 x
section
variable {ns : List Str} {es : List (Str × Str)} {f : Str → Int} {dir : Int}
theorem rr_step {a b : Str} (h : Adj es a b) (k : slp f a b = dir) : Rr es f dir a b := .step .refl (nbS_mem.mpr h) (decide_eq_true k)
theorem rr_snoc {a b c : Str} (r : Rr es f dir a b) (h : Adj es b c) (k : slp f b c = dir) : Rr es f dir a c := .step r (nbS_mem.mpr h) (decide_eq_true k)
theorem rr_first {x y : Str} (r : Rr es f dir x y) : y = x ∨ ∃ z, Adj es x z ∧ slp f x z = dir ∧ Rr es f dir z y := by
  induction r with
  | refl => exact .inl rfl
  | @step a b _ m o ih =>
    have o' := of_decide_eq_true o
    have m' := nbS_mem.mp m
    rcases ih with rfl | ⟨z, h1, h2, h3⟩
    · exact .inr ⟨b, m', o', .refl⟩
    · exact .inr ⟨z, h1, h2, .step h3 m o⟩
theorem rr_last {x y : Str} (r : Rr es f dir x y) : y = x ∨ ∃ z, Adj es z y ∧ slp f z y = dir ∧ Rr es f dir x z := by
  cases r with
  | refl => exact .inl rfl
  | step r m o => exact .inr ⟨_, nbS_mem.mp m, of_decide_eq_true o, r⟩
/-- what lies on the way of a cycle is on a cycle -/
theorem cyc_on {x w y : Str} (r1 : Rr es f dir x w) (r2 : Rr es f dir w y) (h : Adj es y x) (k : slp f y x = dir) : CycD es f dir w := by
  rcases rr_last r1 with e | ⟨z, z1, z2, z3⟩
  · rw [e] at r2 ⊢
    exact ⟨y, h, k, r2⟩
  · exact ⟨z, z1, z2, (rr_snoc r2 h k).trans z3⟩
theorem adj_in (ok : EsOk ns es f) {a b : Str} (h : Adj es a b) : a ∈ ns ∧ b ∈ ns ∧ f a ≠ f b ∧ a ≠ b := by
  have m : a ∈ ns ∧ b ∈ ns ∧ f a ≠ f b := by
    rcases h with h | h
    · exact ⟨(ok.mem _ h).1, (ok.mem _ h).2, ok.pro _ h⟩
    · exact ⟨(ok.mem _ h).2, (ok.mem _ h).1, fun z => ok.pro _ h z.symm⟩
  exact ⟨m.1, m.2.1, m.2.2, fun z => m.2.2 (by rw [z])⟩
/-- a node on a cycle has no move -/
theorem cyc_still (ok : EsOk ns es f) {pn : List Str} {m : Str × Int} (l : Legal ns es f pn m) : ¬ Cyc es f m.1 := by
  rintro ⟨y, h, k, r⟩
  have ay := adj_in ok h
  rcases rr_first r with e | ⟨z, h1, h2, _⟩
  · exact ay.2.2.2 e
  have az := adj_in ok h1
  have ty := ok.tri y ay.1
  have tx := ok.tri _ ay.2.1
  have tz := ok.tri z az.2.1
  have n1 := l.nbr y (.symm h)
  have n2 := l.nbr z h1
  have n3 := l.own
  have tv := l.val
  have e1 : (f m.1 - f y) % 3 = 1 := by
    unfold slp at k
    split at k
    · assumption
    · cases k
  have e2 : (f z - f m.1) % 3 = 1 := by
    unfold slp at h2
    split at h2
    · assumption
    · cases h2
  have d1 := ay.2.2.1
  have d2 := az.2.2.1
  omega
theorem slp_off {n : Str} {v : Int} {a b : Str} (ha : a ≠ n) (hb : b ≠ n) : slp (updf f n v) a b = slp f a b := by
  unfold slp updf
  rw [if_neg ha, if_neg hb]
/-- cycles stay -/
theorem cyc_move (ok : EsOk ns es f) {pn : List Str} {m : Str × Int} (l : Legal ns es f pn m) {x : Str} (c : Cyc es f x) : Cyc es (updf f m.1 m.2) x := by
  obtain ⟨y, h, k, r⟩ := c
  have st := cyc_still ok l
  have off : ∀ w, Rr es f 1 x w → Rr es f 1 w y → w ≠ m.1 := fun w r1 r2 z => st (by rw [← z]; exact cyc_on r1 r2 h k)
  have walk : ∀ w, Rr es f 1 x w → Rr es f 1 w y → Rr es (updf f m.1 m.2) 1 x w := by
    intro w r1
    induction r1 with
    | refl => intro _; exact .refl
    | @step a b r1 mm o ih =>
      intro r2
      have o' := of_decide_eq_true o
      have m' := nbS_mem.mp mm
      have r2' : Rr es f 1 a y := (rr_step m' o').trans r2
      refine rr_snoc (ih r2') m' ?_
      rw [slp_off (off a r1 r2') (off b (.step r1 mm o) r2)]
      exact o'
  refine ⟨y, h, ?_, walk y r .refl⟩
  rw [slp_off (off y r .refl) (off x .refl r)]
  exact k
theorem legal_back (ok : EsOk ns es f) {pn : List Str} {m : Str × Int} (l : Legal ns es f pn m) : Legal ns es (updf f m.1 m.2) pn (m.1, f m.1) := by
  have own : f m.1 ≠ updf f m.1 m.2 m.1 := by
    unfold updf
    rw [if_pos rfl]
    exact fun z => l.own z.symm
  refine ⟨l.mem, l.pin, ok.tri _ l.mem, own, fun z hz => ?_⟩
  have a := adj_in ok (show Adj es m.1 z from hz)
  show f m.1 ≠ updf f m.1 m.2 z
  unfold updf
  rw [if_neg (Ne.symm a.2.2.2)]
  exact a.2.2.1
theorem updf_undo {n : Str} {v : Int} : updf (updf f n v) n (f n) = f := by
  funext x
  unfold updf
  by_cases e : x = n
  · rw [if_pos e, e]
  · rw [if_neg e, if_neg e]
theorem cyc_iff (ok : EsOk ns es f) {pn : List Str} {m : Str × Int} (l : Legal ns es f pn m) {x : Str} : Cyc es (updf f m.1 m.2) x ↔ Cyc es f x := by
  refine ⟨fun c => ?_, cyc_move ok l⟩
  have ok' := (move_keeps (f0 := f) (h := fun _ => 0) ok l fun e _ => by omega).1
  have := cyc_move ok' (legal_back ok l) c
  rw [updf_undo] at this
  exact this
/-! ### feasible lifts -/
structure Feas (ns : List Str) (es : List (Str × Str)) (f h : Str → Int) (pn : List Str) : Prop where
  fit : Fits es f h
  pin : ∀ x ∈ pn, h x = 0
  cyc : ∀ x, Cyc es f x → h x = 0
theorem fit_pm {a b : Str} : fitB f h a b = true ↔ slp f a b - 2 * (h a - h b) = 1 ∨ slp f a b - 2 * (h a - h b) = -1 := by
  rw [fit_iff]
  rcases slp_pm f a b with e | e
  · rw [if_pos e, e]
    omega
  · rw [if_neg (by rw [e]; decide), e]
    omega
/-- a move, and one less to go -/
theorem feas_move (ok : EsOk ns es f) {pn : List Str} {h : Str → Int} {m : Str × Int} (fe : Feas ns es f h pn) (l : Legal ns es f pn m) : Feas ns es (updf f m.1 m.2) (updf h m.1 (h m.1 - dlt (f m.1 - m.2))) pn := by
  have mk := (move_keeps (f0 := f) (h := fun _ => 0) ok l fun e _ => by omega).2
  have ne : ∀ x, Cyc es f x ∨ x ∈ pn → x ≠ m.1 := fun x hx z => by
    rcases hx with c | c
    · rw [z] at c
      exact cyc_still ok l c
    · rw [z] at c
      exact l.pin c
  refine ⟨fun e he => ?_, fun x hx => ?_, fun x hx => ?_⟩
  · have a := fit_pm.mp (fe.fit e he)
    have b := mk e he
    rw [fit_pm]
    have u1 : ∀ x, updf h m.1 (h m.1 - dlt (f m.1 - m.2)) x = h x - updf (fun _ => 0) m.1 (0 + dlt (f m.1 - m.2)) x := fun x => by
      unfold updf
      by_cases z : x = m.1
      · rw [if_pos z, if_pos z, z]
        omega
      · rw [if_neg z, if_neg z]
        show h x = h x - 0
        omega
    rw [u1, u1]
    omega
  · unfold updf
    rw [if_neg (ne x (.inr hx))]
    exact fe.pin x hx
  · have c := (cyc_iff ok l).mp hx
    unfold updf
    rw [if_neg (ne x (.inl c))]
    exact fe.cyc x c
/-! ### progress -/
noncomputable def anc (ns : List Str) (es : List (Str × Str)) (f : Str → Int) (dir : Int) (s : Str) : List Str := by
  classical
  exact ns.filter fun z => decide (Rr es f dir z s)
theorem cyc_of_pred (ok : EsOk ns es f) (nd : ns.Nodup) {S : Str → Prop} (sn : ∀ s, S s → s ∈ ns) (pred : ∀ s, S s → ∃ y, S y ∧ Adj es y s ∧ slp f y s = dir) : ∀ (k : Nat) (s : Str), S s → (anc ns es f dir s).length ≤ k → ∃ s, S s ∧ CycD es f dir s := by
  classical
  intro k
  induction k with
  | zero =>
    intro s hs hk
    have : s ∈ anc ns es f dir s := List.mem_filter.mpr ⟨sn s hs, decide_eq_true .refl⟩
    have := List.length_pos_of_mem this
    omega
  | succ k ih =>
    intro s hs hk
    obtain ⟨y, hy, a, e⟩ := pred s hs
    by_cases r : Rr es f dir s y
    · exact ⟨s, hs, y, a, e, r⟩
    · refine ih y hy ?_
      have ndy : (anc ns es f dir y).Nodup := List.Nodup.sublist List.filter_sublist nd
      have : (s :: anc ns es f dir y).length ≤ (anc ns es f dir s).length := nodup_len (List.nodup_cons.mpr ⟨fun z => r (of_decide_eq_true (List.mem_filter.mp z).2), ndy⟩) fun x hx => by
        rcases List.mem_cons.mp hx with rfl | hx
        · exact List.mem_filter.mpr ⟨sn x hs, decide_eq_true .refl⟩
        · obtain ⟨h1, h2⟩ := List.mem_filter.mp hx
          exact List.mem_filter.mpr ⟨h1, decide_eq_true (rr_snoc (of_decide_eq_true h2) a e)⟩
      rw [List.length_cons] at this
      omega
theorem rr_rev (ok : EsOk ns es f) {x y : Str} (r : Rr es f (-1) x y) : Rr es f 1 y x := by
  induction r with
  | refl => exact .refl
  | @step a b _ m o ih =>
    have o' := of_decide_eq_true o
    have m' := nbS_mem.mp m
    refine (rr_step m'.symm ?_).trans ih
    rw [slp_neg ok m', o']
    rfl
theorem cyc_rev (ok : EsOk ns es f) {x : Str} (c : CycD es f (-1) x) : Cyc es f x := by
  obtain ⟨y, h, k, r⟩ := c
  have r1 := rr_rev ok r
  have k1 : slp f x y = 1 := by
    rw [slp_neg ok h, k]
    rfl
  rcases rr_last r1 with e | ⟨z, z1, z2, z3⟩
  · rw [e] at h
    exact absurd rfl (adj_in ok h).2.2.2
  · exact ⟨z, z1, z2, (rr_step h.symm k1).trans z3⟩
theorem max_at {h : Str → Int} : ∀ {xs : List Str} {x : Str}, x ∈ xs → ∃ m ∈ xs, ∀ y ∈ xs, h y ≤ h m
  | [a], x, hx => ⟨a, List.mem_cons_self, fun y hy => by rw [List.mem_singleton] at hy; rw [hy]; exact Int.le_refl _⟩
  | a :: b :: r, x, _ => by
    obtain ⟨m, hm, k⟩ := max_at (h := h) (xs := b :: r) (x := b) List.mem_cons_self
    by_cases c : h a ≤ h m
    · exact ⟨m, List.mem_cons_of_mem _ hm, fun y hy => by
        rcases List.mem_cons.mp hy with rfl | hy
        · exact c
        · exact k y hy⟩
    · exact ⟨a, List.mem_cons_self, fun y hy => by
        rcases List.mem_cons.mp hy with rfl | hy
        · exact Int.le_refl _
        · have := k y hy
          omega⟩
/-- a node with a positive number, all of its neighbours above it -/
theorem up_exists (ok : EsOk ns es f) (nd : ns.Nodup) {pn : List Str} {h : Str → Int} (fe : Feas ns es f h pn) {x : Str} (hx : x ∈ ns) (h0 : 0 < h x) : ∃ n ∈ ns, 0 < h n ∧ ∀ y, Adj es n y → slp f n y = 1 := by
  obtain ⟨m, hm, k⟩ := max_at (h := h) hx
  have hm0 : 0 < h m := by
    have := k x hx
    omega
  by_cases c : ∃ n ∈ ns, h n = h m ∧ ∀ y, Adj es n y → slp f n y = 1
  · obtain ⟨n, n1, n2, n3⟩ := c
    exact ⟨n, n1, by omega, n3⟩
  exfalso
  obtain ⟨s, ⟨_, s2⟩, c2⟩ := cyc_of_pred (dir := 1) ok nd (S := fun s => s ∈ ns ∧ h s = h m) (fun s hs => hs.1) (fun s hs => by
    have : ∃ y, Adj es s y ∧ slp f s y ≠ 1 := Classical.byContradiction fun z => c ⟨s, hs.1, hs.2, fun y hy => Classical.byContradiction fun z2 => z ⟨y, hy, z2⟩⟩
    obtain ⟨y, a, ne⟩ := this
    have e : slp f s y = -1 := (slp_pm f s y).resolve_left ne
    have e2 : slp f y s = 1 := by rw [slp_neg ok a, e]; rfl
    have yn := (adj_in ok a).2.1
    refine ⟨y, ⟨yn, ?_⟩, a.symm, e2⟩
    have ky := k y yn
    have hs2 := hs.2
    rcases a with a | a
    · have := fit_pm.mp (fe.fit _ a)
      simp only [e] at this
      omega
    · have := fit_pm.mp (fe.fit _ a)
      simp only [e2] at this
      omega) _ m ⟨hm, rfl⟩ (Nat.le_refl _)
  have := fe.cyc s c2
  omega
theorem down_exists (ok : EsOk ns es f) (nd : ns.Nodup) {pn : List Str} {h : Str → Int} (fe : Feas ns es f h pn) {x : Str} (hx : x ∈ ns) (h0 : h x < 0) : ∃ n ∈ ns, h n < 0 ∧ ∀ y, Adj es n y → slp f n y = -1 := by
  obtain ⟨m, hm, k⟩ := max_at (h := fun z => - h z) hx
  have hm0 : h m < 0 := by
    have := k x hx
    omega
  by_cases c : ∃ n ∈ ns, h n = h m ∧ ∀ y, Adj es n y → slp f n y = -1
  · obtain ⟨n, n1, n2, n3⟩ := c
    exact ⟨n, n1, by omega, n3⟩
  exfalso
  obtain ⟨s, ⟨_, s2⟩, c2⟩ := cyc_of_pred (dir := -1) ok nd (S := fun s => s ∈ ns ∧ h s = h m) (fun s hs => hs.1) (fun s hs => by
    have : ∃ y, Adj es s y ∧ slp f s y ≠ -1 := Classical.byContradiction fun z => c ⟨s, hs.1, hs.2, fun y hy => Classical.byContradiction fun z2 => z ⟨y, hy, z2⟩⟩
    obtain ⟨y, a, ne⟩ := this
    have e : slp f s y = 1 := (slp_pm f s y).resolve_right ne
    have e2 : slp f y s = -1 := by rw [slp_neg ok a, e]
    have yn := (adj_in ok a).2.1
    refine ⟨y, ⟨yn, ?_⟩, a.symm, e2⟩
    have ky := k y yn
    have hs2 := hs.2
    rcases a with a | a
    · have := fit_pm.mp (fe.fit _ a)
      simp only [e] at this
      omega
    · have := fit_pm.mp (fe.fit _ a)
      simp only [e2] at this
      omega) _ m ⟨hm, rfl⟩ (Nat.le_refl _)
  have := fe.cyc s (cyc_rev ok c2)
  omega
end
end U

/-! reach, cycles, anchors as the laws find them -/
namespace Law
open PySem PySem.Spec PyProof.Rows L2 U
local macro_rules | `(tactic| wtm_at "rd1") => `(tactic| first
  | with_reducible refine rd_seq ?_
  | ((with_reducible refine rd_var (v := ?vv) ?hv ?_); (case hv => exact rfl))
  | with_reducible refine rd_c ?_
  | with_reducible refine rd_cons ?_
  | with_reducible refine rd_nil ?_
  | with_reducible refine rd_op ?_
  | with_reducible refine rd_asg ?_
  | with_reducible refine rd_name ?_
  | with_reducible refine rd_c1 ?_
  | with_reducible refine rd_cb ?_
  | with_reducible refine rd_test ?_
  | with_reducible refine rd_B ?_
  | with_reducible refine rd_bl ?_
  | with_reducible refine rd_if ?_
  | with_reducible refine rd_ret ?_
  | with_reducible refine rd_drop ?_
  | with_reducible refine rd_next ?_
  | with_reducible refine rd_addI ?_
  | with_reducible refine rd_ltI ?_
  | with_reducible refine rd_eqI ?_
  | with_reducible refine rd_neI ?_
  | with_reducible refine rd_eqS ?_
  | with_reducible refine rd_neS ?_
  | with_reducible refine rd_gtI ?_
  | with_reducible refine rd_geI ?_
  | with_reducible refine rd_leI ?_
  | with_reducible refine rd_ltS ?_
  | with_reducible refine rd_subI ?_
  | ((with_reducible refine rd_modI ?hc ?_); (case hc => first | decide | omega))
  | ((with_reducible refine rd_mulI ?hc ?_); (case hc => first | exact mul_bI | exact .inl (.inr (by decide)) | exact .inl (.inl (by decide)) | exact .inl (.inr (by omega)) | exact .inl (.inl (by omega))))
  | ((with_reducible refine rd_divI ?hc ?_); (case hc => first | decide | omega))
  | ((with_reducible refine rd_powI ?hc ?_); (case hc => exact ⟨by decide, by decide, by decide⟩))
  | with_reducible refine rd_lst ?_
  | with_reducible refine rd_tup ?_
  | ((with_reducible refine rd_sz ?hv ?_); (case hv => exact rfl))
  | with_reducible refine rd_and ?_
  | with_reducible refine rd_or ?_
  | with_reducible refine rd_not ?_
  | with_reducible refine rd_andV ?_
  | with_reducible refine rd_orV ?_
  | with_reducible refine rd_notV ?_
  | with_reducible refine rd_ifE ?_
  | with_reducible refine rd_T ?_
  | with_reducible refine rd_F ?_
  | with_reducible refine rd_chain ?_
  | with_reducible refine rd_is ?_
  | with_reducible refine rd_isNot ?_
  | with_reducible refine rd_absI ?_
  | with_reducible refine rd_maxI ?_
  | with_reducible refine rd_minI ?_
  | with_reducible refine rd_intI ?_
  | with_reducible refine rd_intB ?_
  | with_reducible refine rd_sub ?_
  | with_reducible refine rd_sl ?_
  | with_reducible refine rd_noPart ?_
  | with_reducible refine rd_part ?_
  | with_reducible refine rd_exI ?_
  | with_reducible refine rd_bm ?_
  | with_reducible refine rd_bm0 ?_
  | with_reducible refine rd_un ?_
  | with_reducible refine rd_neg ?_
  | with_reducible refine rd_c2 ?_
  | with_reducible refine rd_retN ?_
  | with_reducible refine rd_break ?_
  | with_reducible refine rd_cont ?_
  | with_reducible refine rd_for ?_
  | with_reducible refine rd_rng1 ?_
  | with_reducible refine rd_rng2 ?_
  | with_reducible refine rd_iList ?_
  | with_reducible refine rd_iTup ?_
  | with_reducible refine rd_iEnum ?_
  | ((with_reducible refine rd_forR ?h0 ?h1 ?_); (case h0 => omega); (case h1 => omega))
  | with_reducible refine rd_lc ?_
  | with_reducible refine rd_gcons ?_
  | with_reducible refine rd_gnil ?_
  | with_reducible refine rd_dget ?_
  | with_reducible refine rd_dput ?_
  | with_reducible refine rd_dnew ?_
  | with_reducible refine rd_dc ?_
  | with_reducible refine rd_iItems ?_
  | with_reducible refine rd_iKeys ?_
  | with_reducible refine rd_din ?_
  | with_reducible refine rd_lc2 ?_
  | with_reducible refine rd_cd ?_
  | with_reducible refine rd_par ?_
  | with_reducible refine rd_two ?_
  | with_reducible refine rd_reprB ?_
  | with_reducible refine rd_ck ?_
  | ((with_reducible refine rd_len ?hl ?_); (case hl => exact rfl))
  | with_reducible refine rd_nT ?_
  | with_reducible refine rd_nF ?_
  | with_reducible refine rd_dnin ?_
  | with_reducible refine rd_isB ?_
  | with_reducible refine rd_isNotB ?_
  | with_reducible refine rd_daug ?_
  | with_reducible refine rd_yesT ?_
  | ((with_reducible refine rd_wp ?hw ?_); (case hw => exact rfl)))
local macro_rules | `(tactic| wtm_at "rd") => `(tactic| repeat wtm_at "rd1")

def spReach : Sp := fun vs H Q _ => ∃ (g n e st : Addr) (x : Str) (dir : Int) (ns ord : List Str) (es : List (Addr × Str × Str)) (f : Str → Int), vs = [.ref g, .ref st, .str x, .int dir] ∧ GSt H g n e st ns ord es f ∧ x ∈ ns ∧
  ∀ (l : Addr) (ys : List Str) (H' : Hp), Same H H' → H l = none → H' l = some (.lst (ys.map V.str)) → (∀ y, y ∈ ys ↔ Rr (es.map (·.2)) f dir x y) → ys.length ≤ ns.length → (ys.Pairwise fun a b => ¬ sLt b a) → ys.Nodup → Q (.ref l) H'
def spOnCyc : Sp := fun vs H Q _ => ∃ (g n e st : Addr) (x : Str) (ns ord : List Str) (es : List (Addr × Str × Str)) (f : Str → Int), vs = [.ref g, .ref st, .str x] ∧ GSt H g n e st ns ord es f ∧ x ∈ ns ∧
  ∀ (b : Bool) (H' : Hp), Same H H' → (b = true ↔ Cyc (es.map (·.2)) f x) → Q (.bl b) H'
def spAnch (K : PySem.W.Frag) : Sp := fun vs H Q _ => ∃ (g n e st ps : Addr) (ns ord pn : List Str) (es : List (Addr × Str × Str)) (f : Str → Int), vs = [.ref g, .ref st, .ref ps] ∧ GSt H g n e st ns ord es f ∧ SqT K H ps (pn.map V.str) ∧
  ∀ (l : Addr) (ys : List Str) (H' : Hp), Same H H' → H l = none → H' l = some (.lst (ys.map V.str)) → (∀ y, y ∈ ys ↔ y ∈ ns ∧ (y ∈ pn ∨ Cyc (es.map (·.2)) f y)) → ys.length ≤ ns.length → Q (.ref l) H'
def spInter : Sp := fun vs H Q _ => ∃ (a b : Addr) (xs ys : List Str), vs = [.ref a, .ref b] ∧ H a = some (.lst (xs.map V.str)) ∧ H b = some (.lst (ys.map V.str)) ∧ (∀ x ∈ xs, PyData.strOk x = true) ∧ xs.length ≤ 1000 ∧
  ∀ (b : Bool) (H' : Hp), Same H H' → (b = true ↔ ∃ x ∈ xs, x ∈ ys) → Q (.bl b) H'
section
variable {P : Program} {w : World} {K : PySem.W.Frag} {mg : Str → Option Value} {base : Heap}
structure E1n (P : Program) (w : World) (K : PySem.W.Frag) (mg : Str → Option Value) (base : Heap) : Prop where
  _law_neighbors_of : Cal P w K mg base CX0 1 "_law_neighbors_of" spNbr
  _law_slope_of : Cal P w K mg base CX0 1 "_law_slope_of" spSlopeOf
theorem slp_dlt {ns : List Str} {es : List (Str × Str)} {f : Str → Int} (ok : EsOk ns es f) {a b : Str} (h : Adj es a b) : dlt (f b - f a) = slp f a b := by
  have m := adj_in ok h
  have t1 := ok.tri a m.1
  have t2 := ok.tri b m.2.1
  have ne := m.2.2.1
  unfold dlt slp
  rw [if_neg (by omega)]
theorem ok_reach {f : Addr} {fd : FuncData} (F : Fun K "_law_reach" "_law_reach" s__law_reach f fd) (B : Bt mg) (C : E1n P w K mg base) : FnG P w K mg base CX0 2 f fd ["_law_graph", "_law_state", "_law_node", "_law_direction"] spReach := by
  refine fnG0 F sc__law_reach (fun vs H Q E h => ?_) (fun cdv A outer s H vs Q E hr h => ?_)
  · obtain ⟨g, n, e, st, x, dir, ns, ord, es, f, rfl, _⟩ := h
    rfl
  · obtain ⟨g, n, e, st, x, dir, ns, ord, es, f, rfl, gs, hx, q⟩ := h
    have nd := sc__law_reach.nd
    have hu := hr.u1
    refine ⟨_, (pss_cons (ps_set (i := 4) nd rfl (by first | exact Or.inl rfl | exact Or.inr rfl) (pe_lst (pa_cons (pv 2) pa_nil)))
  (pss_cons (ps_set (i := 5) nd rfl (by first | exact Or.inl rfl | exact Or.inr rfl) pe_int)
  (pss_cons (ps_while PassesOwn.never (pt_cmpR uLt (pv 5) (pe_callB (kLen K rfl) (by rfl) B.len bb_len (pa_cons (pv 4) pa_nil)) (nomark _)) (pss_cons (ps_for PassesOwn.never rfl (ki_list K rfl (pe_c C._law_neighbors_of hr (by decide) rfl (pa_cons (pv 0) (pa_cons (pe_ix (kIx K rfl) (pv 4) (pv 5) (fun _ _ => rfl)) pa_nil)))) (pg_name (i := 6) nd rfl (by first | exact Or.inl rfl | exact Or.inr rfl)) (pss_one (ps_if (PW.pt (pw_and (pt_cmpR (kNotIn K rfl) (pv 6) (pv 4) rfl) (pw_and1 (pt_cmpR (kEq K rfl hr.u64) (pe_c C._law_slope_of hr (by decide) rfl (pa_cons (pv 1) (pa_cons (pe_ix (kIx K rfl) (pv 4) (pv 5) (fun _ _ => rfl)) (pa_cons (pv 6) pa_nil)))) (pv 3) (nomark _))))) (pss_one (ps_expr (pe_bm PySem.F.plainAttrs_list PySem.F.slot_list_append PySem.F.type_list_append mt_append (pv 4) (pa_cons (pv 6) pa_nil)))) pss_nil)))
  (pss_one (ps_set (i := 5) nd rfl (by first | exact Or.inl rfl | exact Or.inr rfl) (pe_op (kAdd K rfl) (pv 5) pe_int)))))
  (pss_one (ps_ret (pe_callB (kSorted K rfl hr.u64) (by rfl) B.sorted bb_sorted (pa_cons (pv 4) pa_nil))))))), ?_⟩
    have l1 : ns.length ≤ 1000 := by have := gs.l2; omega
    wtm_at "rd"
    intro k fk
    have s1 := Same.new (o := .lst [.str x]) fk
    have hk1 := @upd_same H k (.lst [.str x])
    generalize upd H k (.lst [.str x]) = H1 at s1 hk1
    wtm_at "rd"
    have cl : ∀ a ∈ ns, ∀ b ∈ nbS (es.map (·.2)) a, b ∈ ns := fun a _ b hb => nbS_in gs.ok hb
    refine ⟨fun m σ H' => ∃ (i : Nat) (u7 : Option V), m = ns.length + 1 - i ∧ i ≤ ns.length ∧ σ = [some (.ref g), some (.ref st), some (.str x), some (.int dir), some (.ref k), some (.int i), u7] ∧ Same H H' ∧
      H' k = some (.lst ((keysF (stF (nbS (es.map (·.2))) (U.slOk f dir) x i)).map V.str)), ⟨_, 0, _, rfl, Nat.zero_le _, rfl, s1, hk1⟩, ?_⟩
    rintro m σ H2 ⟨i, u7, rfl, il, rfl, s2, hk2⟩
    have sl := stF_len (ok := U.slOk f dir) cl hx i
    have hin : ∀ y ∈ keysF (stF (nbS (es.map (·.2))) (U.slOk f dir) x i), y ∈ ns := fun y hy => reach_mem cl hx (stF_reach hy)
    wtm_at "rd"
    refine rd_lenL (SqL.of hk2) ?_
    rw [List.length_map, List.length_map]
    wtm_at "rd"
    refine rd_split (fun c0 => ?_) (fun c0 => ?_)
    · have hi : i < (stF (nbS (es.map (·.2))) (U.slOk f dir) x i).length := by omega
      refine ⟨fun σ' H' => ∃ (u7 : Option V), σ' = [some (.ref g), some (.ref st), some (.str x), some (.int dir), some (.ref k), some (.int (i + 1 : Nat)), u7] ∧ Same H H' ∧
        H' k = some (.lst ((keysF (stF (nbS (es.map (·.2))) (U.slOk f dir) x (i + 1))).map V.str)), fun σ' H' ⟨u7, h1, h2, h3⟩ => ⟨ns.length + 1 - (i + 1), by omega, i + 1, u7, rfl, by omega, h1, h2, h3⟩, ?_⟩
      have e1 : (stF (nbS (es.map (·.2))) (U.slOk f dir) x i)[i]? = some (stF (nbS (es.map (·.2))) (U.slOk f dir) x i)[i] := List.getElem?_eq_getElem hi
      have cn := hin _ (List.mem_map_of_mem (List.getElem_mem hi))
      rw [stF_at e1]
      wtm_at "rd"
      refine rd_ixL (SqL.of hk2) (atI_nat (v := .str (stF (nbS (es.map (·.2))) (U.slOk f dir) x i)[i].1) (by rw [List.getElem?_map, List.getElem?_map, e1]; rfl)) ?_
      generalize (stF (nbS (es.map (·.2))) (U.slOk f dir) x i)[i] = cc at *
      generalize stF (nbS (es.map (·.2))) (U.slOk f dir) x i = kp at *
      wtm_at "rd"
      refine ⟨g, n, e, cc.1, ns, es, rfl, (gs.same s2).gr, by have := gs.l3; omega, fun l7 ys H7 s7 fl7 hl7 py sy => ?_⟩
      obtain rfl : ys = nbS (es.map (·.2)) cc.1 := nbS_of gs.ok py sy
      have osn : ∀ o ∈ nbS (es.map (·.2)) cc.1, o ∈ ns := fun o ho => cl _ cn o ho
      have oad : ∀ o ∈ nbS (es.map (·.2)) cc.1, dlt (f o - f cc.1) = slp f cc.1 o := fun o ho => slp_dlt gs.eok (nbS_mem.mp ho)
      have osl : (nbS (es.map (·.2)) cc.1).length ≤ 2000 := by
        rw [py.length_eq]
        have := nbrF_len (x := cc.1) (es := es.map (·.2))
        rw [List.length_map] at this
        have := gs.l3
        omega
      clear py sy
      generalize nbS (es.map (·.2)) cc.1 = os at *
      have nlk : l7 ≠ k := Ne.symm (ne_of_none hk2 fl7)
      have s27 := s2.trans s7
      have hk7 := s7 _ _ hk2
      refine rd_forL (SqL.of hl7) ?_
      refine turnsL (K := K) (xs := os.map V.str) (fun j σ H' => ∃ (u7 : Option V), σ = [some (.ref g), some (.ref st), some (.str x), some (.int dir), some (.ref k), some (.int i), u7] ∧ Same H H' ∧ H' l7 = some (.lst (os.map V.str)) ∧
        H' k = some (.lst ((keysF (addsF (U.slOk f dir) cc (os.take j) kp)).map V.str))) ⟨_, rfl, s27, hl7, hk7⟩ ?_ ?_ ?_
      · rintro j σ H' hj ⟨u7, rfl, s, hl, _⟩
        exact SqL.of hl
      · rintro j y σ H' hy ⟨u7, rfl, s, hl, hk⟩
        obtain ⟨hj, rfl⟩ := map_at hy
        have hom := osn _ (List.getElem_mem hj)
        have had := oad _ (List.getElem_mem hj)
        have tk : addsF (U.slOk f dir) cc (os.take (j + 1)) kp = addF (U.slOk f dir) cc (addsF (U.slOk f dir) cc (os.take j) kp) os[j] := by rw [take_snoc hj, addsF_snoc]
        have len : (addsF (U.slOk f dir) cc (os.take j) kp).length ≤ kp.length + 2000 := by
          have := addsF_len (ok := U.slOk f dir) (c := cc) (os := os.take j) (kp := kp)
          rw [List.length_take] at this
          omega
        have at1 : (addsF (U.slOk f dir) cc (os.take j) kp)[i]? = some cc := by
          obtain ⟨r, hr⟩ := addsF_pre (ok := U.slOk f dir) (c := cc) (os := os.take j) (kp := kp)
          rw [hr, List.getElem?_append_left hi]
          exact e1
        generalize addsF (U.slOk f dir) cc (os.take j) kp = k1 at *
        generalize os[j] = o at *
        have skip : (o ∈ keysF k1 ∨ U.slOk f dir cc.1 o = false) → addsF (U.slOk f dir) cc (os.take (j + 1)) kp = k1 := fun h => by
          rw [tk]
          unfold addF
          rw [if_neg]
          rintro ⟨z1, z2⟩
          rcases h with h | h
          · exact z1 h
          · rw [h] at z2
            cases z2
        wtm_at "rd"
        refine rd_ninSL (SqL.of hk) ?_
        by_cases mo : o ∈ keysF k1
        · rw [decide_eq_true mo]
          wtm_at "rd"
          rw [skip (.inl mo)]
          exact ⟨_, rfl, s, hl, hk⟩
        rw [decide_eq_false mo]
        refine ⟨true, rfl, ?_⟩
        refine rd_T ?_
        wtm_at "rd"
        refine rd_ixL (SqL.of hk) (atI_nat (v := .str cc.1) (by rw [List.getElem?_map, List.getElem?_map, at1]; rfl)) ?_
        wtm_at "rd"
        refine ⟨st, cc.1, o, ord, f, rfl, s _ _ gs.st, gs.inO _ cn, gs.inO _ hom, fun H8 s8 => ?_⟩
        rw [had]
        have s28 := s.trans s8
        have hl8 := s8 _ _ hl
        have hk8 := s8 _ _ hk
        wtm_at "rd"
        refine rd_split (fun c1 => ?_) (fun c1 => ?_)
        case refine_2 =>
          wtm_at "rd"
          rw [skip (.inr (decide_eq_false c1))]
          exact ⟨_, rfl, s28, hl8, hk8⟩
        have tk2 : addsF (U.slOk f dir) cc (os.take (j + 1)) kp = k1 ++ [(o, cc.2 ++ [o])] := by
          rw [tk]
          unfold addF
          exact if_pos ⟨mo, decide_eq_true c1⟩
        rw [tk2]
        wtm_at "rd"
        refine rd_tyL hk8 ?_
        wtm_at "rd"
        refine rd_append hk8 (by rw [List.length_map, List.length_map]; omega) ?_
        refine ⟨_, rfl, same_put s28 fk, at_upd nlk hl8, ?_⟩
        rw [upd_same, show keysF (k1 ++ [(o, cc.2 ++ [o])]) = keysF k1 ++ [o] from List.map_append, List.map_append]
        rfl
      · rintro σ H' ⟨u7, rfl, s, hl, hk⟩
        rw [List.length_map, List.take_length] at hk
        wtm_at "rd"
        have ei : (i : Int) + 1 = ((i + 1 : Nat) : Int) := by omega
        rw [ei]
        exact ⟨_, rfl, s, hk⟩
    · have knd : (keysF (stF (nbS (es.map (·.2))) (U.slOk f dir) x i)).Nodup := stF_nodup i
      have kl : (keysF (stF (nbS (es.map (·.2))) (U.slOk f dir) x i)).length ≤ ns.length := by rw [List.length_map]; exact sl
      have kin : ∀ y, y ∈ keysF (stF (nbS (es.map (·.2))) (U.slOk f dir) x i) ↔ Rr (es.map (·.2)) f dir x y := fun y => ⟨stF_reach, stF_all (by omega)⟩
      clear sl hin
      generalize keysF (stF (nbS (es.map (·.2))) (U.slOk f dir) x i) = kx at hk2 knd kl kin
      wtm_at "rd"
      refine rd_sortS (SqL.of hk2) (by omega) ?_
      intro ys py sy l7 fl7
      exact q l7 ys _ (same_add s2 fl7) (new_of_same s2 fl7) upd_same (fun y => py.mem_iff.trans (kin y)) (by rw [py.length_eq]; exact kl) sy (py.nodup_iff.mpr knd)
structure E1o (P : Program) (w : World) (K : PySem.W.Frag) (mg : Str → Option Value) (base : Heap) : Prop where
  _law_neighbors_of : Cal P w K mg base CX0 1 "_law_neighbors_of" spNbr
  _law_slope_of : Cal P w K mg base CX0 1 "_law_slope_of" spSlopeOf
  _law_reach : Cal P w K mg base CX0 2 "_law_reach" spReach
theorem ok_on_cycle {f : Addr} {fd : FuncData} (F : Fun K "_law_on_cycle" "_law_on_cycle" s__law_on_cycle f fd) (B : Bt mg) (C : E1o P w K mg base) : FnG P w K mg base CX0 3 f fd ["_law_graph", "_law_state", "_law_node"] spOnCyc := by
  refine fnG0 F sc__law_on_cycle (fun vs H Q E h => ?_) (fun cdv A outer s H vs Q E hr h => ?_)
  · obtain ⟨g, n, e, st, x, ns, ord, es, f, rfl, _⟩ := h
    rfl
  · obtain ⟨g, n, e, st, x, ns, ord, es, f, rfl, gs, hx, q⟩ := h
    have nd := sc__law_on_cycle.nd
    have hu := hr.u1
    refine ⟨_, (pss_cons (ps_for PassesOwn.never rfl (ki_list K rfl (pe_c C._law_neighbors_of hr (by decide) rfl (pa_cons (pv 0) (pa_cons (pv 2) pa_nil)))) (pg_name (i := 3) nd rfl (by first | exact Or.inl rfl | exact Or.inr rfl)) (pss_one (ps_if (PW.pt (pw_and (pt_cmpR (kEq K rfl hr.u64) (pe_c C._law_slope_of hr (by decide) rfl (pa_cons (pv 1) (pa_cons (pv 3) (pa_cons (pv 2) pa_nil)))) pe_int (nomark _)) (pw_and1 (pt_cmpR (kIn K rfl) (pv 3) (pe_c C._law_reach hr (by decide) rfl (pa_cons (pv 0) (pa_cons (pv 1) (pa_cons (pv 2) (pa_cons pe_int pa_nil))))) rfl)))) (pss_one (ps_ret pe_bl)) pss_nil)))
  (pss_one (ps_ret pe_bl))), ?_⟩
    wtm_at "rd"
    refine ⟨g, n, e, x, ns, es, rfl, gs.gr, by have := gs.l3; omega, fun l7 ys H7 s7 fl7 hl7 py sy => ?_⟩
    obtain rfl : ys = nbS (es.map (·.2)) x := nbS_of gs.ok py sy
    clear py sy
    have osn : ∀ o, o ∈ nbS (es.map (·.2)) x ↔ Adj (es.map (·.2)) x o := fun o => nbS_mem
    generalize nbS (es.map (·.2)) x = os at *
    refine rd_forL (SqL.of hl7) ?_
    refine turnsL (K := K) (xs := os.map V.str) (fun j σ H' => ∃ (u3 : Option V), σ = [some (.ref g), some (.ref st), some (.str x), u3] ∧ Same H H' ∧ Same H7 H' ∧
      ∀ o ∈ os.take j, ¬ (slp f o x = 1 ∧ Rr (es.map (·.2)) f 1 x o)) ⟨_, rfl, s7, .refl _, fun o h => by rw [List.take_zero] at h; cases h⟩ ?_ ?_ ?_
    · rintro j σ H' hj ⟨u3, rfl, s, sb, _⟩
      exact SqL.of (sb _ _ hl7)
    · rintro j y σ H' hy ⟨u3, rfl, s, sb, no⟩
      obtain ⟨hj, rfl⟩ := map_at hy
      have tk := take_snoc hj
      have ha := (osn _).mp (List.getElem_mem hj)
      have hom := (adj_in gs.eok ha).2.1
      rw [tk]
      generalize os[j] = o at *
      have had := slp_dlt gs.eok ha.symm
      have more : ¬ (slp f o x = 1 ∧ Rr (es.map (·.2)) f 1 x o) → ∀ z ∈ os.take j ++ [o], ¬ (slp f z x = 1 ∧ Rr (es.map (·.2)) f 1 x z) := fun h z hz => by
        rcases List.mem_append.mp hz with hz | hz
        · exact no z hz
        · rw [List.mem_singleton] at hz
          rw [hz]
          exact h
      wtm_at "rd"
      refine ⟨st, o, x, ord, f, rfl, s _ _ gs.st, gs.inO _ hom, gs.inO _ hx, fun H8 s8 => ?_⟩
      rw [had]
      wtm_at "rd"
      refine rd_split (fun c1 => ?_) (fun c1 => ?_)
      case refine_2 =>
        wtm_at "rd"
        exact ⟨_, rfl, s.trans s8, sb.trans s8, more fun z => c1 z.1⟩
      wtm_at "rd"
      refine ⟨g, n, e, st, x, 1, ns, ord, es, f, rfl, gs.same (s.trans s8), hx, fun l9 zs H9 s9 fl9 hl9 zm _ _ _ => ?_⟩
      refine rd_inSL (SqL.of hl9) ?_
      wtm_at "rd"
      have s79 := (s.trans s8).trans s9
      refine rd_split (fun c2 => ?_) (fun c2 => ?_)
      · wtm_at "rd"
        exact q true H9 s79 ⟨fun _ => ⟨o, ha.symm, c1, (zm o).mp c2⟩, fun _ => rfl⟩
      · wtm_at "rd"
        exact ⟨_, rfl, s79, (sb.trans s8).trans s9, more fun z => c2 ((zm o).mpr z.2)⟩
    · rintro σ H' ⟨u3, rfl, s, sb, no⟩
      rw [List.length_map, List.take_length] at no
      wtm_at "rd"
      exact q false H' s ⟨(fun z => nomatch z), fun ⟨y, h1, h2, h3⟩ => (no y ((osn y).mpr h1.symm) ⟨h2, h3⟩).elim⟩
structure E1p (P : Program) (w : World) (K : PySem.W.Frag) (mg : Str → Option Value) (base : Heap) : Prop where
  _law_on_cycle : Cal P w K mg base CX0 3 "_law_on_cycle" spOnCyc
theorem ok_anchors {f : Addr} {fd : FuncData} (F : Fun K "_law_anchors_of" "_law_anchors_of" s__law_anchors_of f fd) (B : Bt mg) (C : E1p P w K mg base) : FnG P w K mg base CX0 4 f fd ["_law_graph", "_law_state", "_law_pins"] (spAnch K) := by
  refine fnG0 F sc__law_anchors_of (fun vs H Q E h => ?_) (fun cdv A outer s H vs Q E hr h => ?_)
  · obtain ⟨g, n, e, st, ps, ns, ord, pn, es, f, rfl, _⟩ := h
    rfl
  · obtain ⟨g, n, e, st, ps, ns, ord, pn, es, f, rfl, gs, hps, q⟩ := h
    have nd := sc__law_anchors_of.nd
    have hu := hr.u1
    refine ⟨_, (pss_one (ps_ret (pe_lc (own := [("_law_node", 3)]) rfl nd (ki_tup K rfl (pe_ix (kIx K rfl) (pv 0) pe_int (fun _ _ => rfl))) (blkOk_by (own := [("_law_node", 3)]) (N := nN__law_anchors_of) (sc := defScope s__law_anchors_of) (by decide +kernel)) (fun _ _ _ _ _ => (pg_name (i := 3) nd rfl (by first | exact Or.inl rfl | exact Or.inr rfl))) (fun _ _ _ _ _ => (pts_one (PW.pt (pw_or (pt_cmpR (kIn K rfl) (pv 3) (pv 2) rfl) (pw_or1 (pt_val (pe_c C._law_on_cycle hr (by decide) rfl (pa_cons (pv 0) (pa_cons (pv 1) (pa_cons (pv 3) pa_nil)))))))))) (fun _ _ _ _ _ => (pv 3))))), ?_⟩
    wtm_at "rd"
    refine rd_ixT (SqT.of gs.gr.top) (v := .ref n) rfl ?_
    refine rd_forT (SqT.of gs.gr.nodes) ?_
    intro D fD
    refine lcT (K := K) (xs := ns.map V.str) (fun j H' => Same H H' ∧ ∃ ys : List Str, H' D = some (.lst (ys.map V.str)) ∧ ys.length ≤ j ∧ ∀ y, y ∈ ys ↔ y ∈ ns.take j ∧ (y ∈ pn ∨ Cyc (es.map (·.2)) f y)) ⟨Same.new fD, [], upd_same, Nat.le_refl _, fun y => by rw [List.take_zero]; exact ⟨(fun z => nomatch z), fun z => nomatch z.1⟩⟩ ?_ ?_ ?_
    · rintro j H' hj ⟨sb, _⟩
      exact SqT.of (sb _ _ gs.gr.nodes)
    · rintro j y H' hy ⟨sb, ys, hD, yl, ym⟩
      obtain ⟨hj, rfl⟩ := map_at hy
      have tk := take_snoc hj
      have hxn := List.getElem_mem hj
      rw [tk]
      generalize ns[j] = x at *
      have yes : (x ∈ pn ∨ Cyc (es.map (·.2)) f x) → ∀ y, y ∈ ys ++ [x] ↔ y ∈ ns.take j ++ [x] ∧ (y ∈ pn ∨ Cyc (es.map (·.2)) f y) := fun h y => by
        rw [List.mem_append, List.mem_append, List.mem_singleton, ym]
        constructor
        · rintro (⟨h1, h2⟩ | rfl)
          · exact ⟨.inl h1, h2⟩
          · exact ⟨.inr rfl, h⟩
        · rintro ⟨h1 | h1, h2⟩
          · exact .inl ⟨h1, h2⟩
          · exact .inr h1
      have no : ¬ (x ∈ pn ∨ Cyc (es.map (·.2)) f x) → ∀ y, y ∈ ys ↔ y ∈ ns.take j ++ [x] ∧ (y ∈ pn ∨ Cyc (es.map (·.2)) f y) := fun h y => by
        rw [List.mem_append, List.mem_singleton, ym]
        constructor
        · rintro ⟨h1, h2⟩
          exact ⟨.inl h1, h2⟩
        · rintro ⟨h1 | rfl, h2⟩
          · exact ⟨h1, h2⟩
          · exact (h h2).elim
      have sl : ys.length ≤ 1000 := by have := gs.l2; omega
      wtm_at "rd"
      refine rd_inST (Same.seqT sb hps) ?_
      wtm_at "rd"
      refine rd_split (fun c1 => ?_) (fun c1 => ?_)
      · wtm_at "rd"
        refine rd_acc hD (by rw [List.length_map]; omega) ?_
        exact ⟨same_put sb fD, ys ++ [x], by rw [upd_same, List.map_append]; rfl, by rw [List.length_append, List.length_singleton]; omega, yes (.inl c1)⟩
      · wtm_at "rd"
        refine ⟨g, n, e, st, x, ns, ord, es, f, rfl, gs.same sb, hxn, fun b H8 s8 hb => ?_⟩
        have hD8 := s8 _ _ hD
        cases b with
        | true =>
          wtm_at "rd"
          refine rd_acc hD8 (by rw [List.length_map]; omega) ?_
          exact ⟨same_put (sb.trans s8) fD, ys ++ [x], by rw [upd_same, List.map_append]; rfl, by rw [List.length_append, List.length_singleton]; omega, yes (.inr (hb.mp rfl))⟩
        | false =>
          wtm_at "rd"
          refine ⟨sb.trans s8, ys, hD8, by omega, no ?_⟩
          rintro (z | z)
          · exact c1 z
          · exact nomatch hb.mpr z
    · rintro H' ⟨sb, ys, hD, yl, ym⟩
      rw [List.length_map] at yl
      rw [List.length_map, List.take_length] at ym
      exact q D ys H' sb fD hD ym yl
end
end Law

/-! progress moves: the plain law -/
namespace U
open PySem PySem.Spec PyProof.Rows L2
def sz (ns : List Str) (h : Str → Int) : Int := (ns.map fun n => ((h n).natAbs : Int)).sum
def Sm (ns : List Str) (h : Str → Int) : Prop := ∀ n ∈ ns, -(10 ^ 31) ≤ h n ∧ h n ≤ 10 ^ 31
def goP (f h : Str → Int) (m : Str × Int) : Bool := decide (0 < h m.1) && decide ((f m.1 - m.2) % 3 = 1) || decide (h m.1 < 0) && !decide ((f m.1 - m.2) % 3 = 1)
def progF (ns : List Str) (es : List (Str × Str)) (f h : Str → Int) (pn : List Str) : List (Str × Int) := (movesF ns es f pn).filter (goP f h)
def dirU (x : Int) : Int := if 0 < x then 1 else -1
/-- the value of a progress move -/
def pvF (f : Str → Int) (ys : List Str) (n : Str) (x : Int) : Option Int := if x ≠ 0 ∧ ∀ o ∈ ys, slp f n o = dirU x then some ((f n - dirU x) % 3) else none
def pmF (es : List (Str × Str)) (f h : Str → Int) (pn : List Str) (n : Str) : List (Str × Int) := match pvF f (nbS es n) n (h n) with
  | none => []
  | some v => if n ∈ pn then [] else [(n, v)]
theorem three {q : Int → Bool} {v0 : Int} {c : Bool} (h0 : 0 ≤ v0) (h2 : v0 ≤ 2) (h : ∀ v, 0 ≤ v → v ≤ 2 → q v = (decide (v = v0) && c)) : ([0, 1, 2] : List Int).filter q = if c = true then [v0] else [] := by
  have a := h 0 (by decide) (by decide)
  have b := h 1 (by decide) (by decide)
  have d := h 2 (by decide) (by decide)
  have e : v0 = 0 ∨ v0 = 1 ∨ v0 = 2 := by omega
  rcases e with rfl | rfl | rfl <;> cases c <;> simp_all [List.filter_cons]
section
variable {ns : List Str} {es : List (Str × Str)} {f h : Str → Int} {pn : List Str}
theorem prog_at (ok : EsOk ns es f) {n : Str} (hn : n ∈ ns) : (movesOf es f n).filter (goP f h) = match pvF f (nbS es n) n (h n) with
  | none => []
  | some v => [(n, v)] := by
  classical
  have tri := ok.tri n hn
  have nbr : ∀ o ∈ nbrF es n, 0 ≤ f o ∧ f o < 3 ∧ f n ≠ f o := fun o ho => by
    have a := adj_in ok (show Adj es n o from mem_nbrF.mp ho)
    exact ⟨(ok.tri o a.2.1).1, (ok.tri o a.2.1).2, a.2.2.1⟩
  have nbm : ∀ o, o ∈ nbS es n ↔ o ∈ nbrF es n := fun o => nbS_mem.trans mem_nbrF.symm
  have slo : ∀ o ∈ nbrF es n, ∀ d : Int, d = 1 ∨ d = -1 → (slp f n o = d ↔ f o ≠ (f n - d) % 3) := fun o ho d hd => by
    obtain ⟨a, b, c⟩ := nbr o ho
    unfold slp
    rcases hd with rfl | rfl <;> split <;> omega
  unfold movesOf
  rw [List.filter_map, List.filter_filter]
  have dd : dirU (h n) = 1 ∨ dirU (h n) = -1 := by
    unfold dirU
    split <;> simp
  rw [three (v0 := (f n - dirU (h n)) % 3) (c := decide (h n ≠ 0 ∧ ∀ o ∈ nbS es n, slp f n o = dirU (h n))) (by omega) (by omega) ?_]
  · unfold pvF
    by_cases c : h n ≠ 0 ∧ ∀ o ∈ nbS es n, slp f n o = dirU (h n)
    · rw [decide_eq_true c, if_pos rfl, if_pos c]
      rfl
    · rw [decide_eq_false c, if_neg Bool.false_ne_true, if_neg c]
      rfl
  · intro v v0 v2
    rw [Bool.eq_iff_iff, Bool.and_eq_true, Bool.and_eq_true, decide_eq_true_iff, decide_eq_true_iff]
    show (goP f h (n, v) = true ∧ freeB es f n v = true) ↔ _
    have fr : freeB es f n v = true ↔ (∀ o ∈ nbrF es n, f o ≠ v) ∧ v ≠ f n := by
      unfold freeB
      rw [Bool.not_eq_true', decide_eq_false_iff_not, List.mem_append, List.mem_singleton, List.mem_map, not_or]
      constructor
      · rintro ⟨a, b⟩
        exact ⟨fun o ho z => a ⟨o, ho, z⟩, b⟩
      · rintro ⟨a, b⟩
        exact ⟨fun ⟨o, ho, z⟩ => a o ho z, b⟩
    have go : goP f h (n, v) = true ↔ (0 < h n ∧ (f n - v) % 3 = 1) ∨ (h n < 0 ∧ ¬ (f n - v) % 3 = 1) := by
      unfold goP
      simp only [Bool.or_eq_true, Bool.and_eq_true, decide_eq_true_iff, Bool.not_eq_true', decide_eq_false_iff_not]
    rw [fr, go]
    constructor
    · rintro ⟨a, b, c⟩
      have ev : v = (f n - dirU (h n)) % 3 := by
        unfold dirU
        rcases a with a | a
        · rw [if_pos a.1]
          omega
        · rw [if_neg (by omega)]
          omega
      refine ⟨ev, by omega, fun o ho => (slo o ((nbm o).mp ho) _ dd).mpr ?_⟩
      rw [← ev]
      exact b o ((nbm o).mp ho)
    · rintro ⟨ev, c, k⟩
      refine ⟨?_, fun o ho => ?_, ?_⟩
      · unfold dirU at ev
        by_cases p : 0 < h n
        · rw [if_pos p] at ev
          left
          omega
        · rw [if_neg p] at ev
          right
          omega
      · rw [ev]
        exact (slo o ho _ dd).mp (k o ((nbm o).mpr ho))
      · rcases dd with z | z <;> rw [z] at ev <;> omega
theorem prog_eq (ok : EsOk ns es f) : ∀ {xs : List Str}, (∀ x ∈ xs, x ∈ ns) → progF xs es f h pn = xs.flatMap (pmF es f h pn)
  | [], _ => rfl
  | x :: r, hx => by
    have ih := prog_eq ok (xs := r) fun y hy => hx y (List.mem_cons_of_mem _ hy)
    unfold progF movesF at ih ⊢
    rw [List.flatMap_cons, List.filter_append, List.flatMap_cons, ih]
    congr 1
    unfold pmF
    by_cases c : x ∈ pn
    · rw [if_pos c]
      cases pvF f (nbS es x) x (h x) with
      | none => rfl
      | some v =>
        show _ = if x ∈ pn then [] else [(x, v)]
        rw [if_pos c]
        rfl
    · rw [if_neg c, prog_at ok (hx x List.mem_cons_self)]
      cases pvF f (nbS es x) x (h x) with
      | none => rfl
      | some v =>
        show _ = if x ∈ pn then [] else [(x, v)]
        rw [if_neg c]
theorem sz_zero : ∀ {ns : List Str}, sz ns h = 0 ↔ ∀ n ∈ ns, h n = 0
  | [] => ⟨(fun _ _ m => nomatch m), fun _ => rfl⟩
  | n :: r => by
    have ih := sz_zero (ns := r)
    have e : sz (n :: r) h = ((h n).natAbs : Int) + sz r h := List.sum_cons
    have p : ∀ xs : List Str, 0 ≤ sz xs h := fun xs => by
      induction xs with
      | nil => exact Int.le_refl _
      | cons x t ih =>
        have e : sz (x :: t) h = ((h x).natAbs : Int) + sz t h := List.sum_cons
        omega
    have := p r
    rw [e]
    constructor
    · intro z x hx
      rcases List.mem_cons.mp hx with rfl | hx
      · omega
      · exact ih.mp (by omega) x hx
    · intro z
      have a := z n List.mem_cons_self
      have b := ih.mpr fun x hx => z x (List.mem_cons_of_mem _ hx)
      omega
theorem prog_some (ok : EsOk ns es f) (nd : ns.Nodup) (fe : Feas ns es f h pn) : progF ns es f h pn = [] ↔ sz ns h = 0 := by
  rw [sz_zero, prog_eq ok fun _ h => h, List.flatMap_eq_nil_iff]
  have key : ∀ n ∈ ns, h n ≠ 0 → (∀ o, Adj es n o → slp f n o = dirU (h n)) → pmF es f h pn n ≠ [] := fun n hn h0 k => by
    unfold pmF pvF
    rw [if_pos ⟨h0, fun o ho => k o (nbS_mem.mp ho)⟩]
    show (if n ∈ pn then [] else [_]) ≠ []
    rw [if_neg fun z => h0 (fe.pin n z)]
    exact List.cons_ne_nil _ _
  constructor
  · intro z x hx
    have c : h x = 0 ∨ 0 < h x ∨ h x < 0 := by omega
    rcases c with c | c | c
    · exact c
    · obtain ⟨n, hn, h1, h2⟩ := up_exists ok nd fe hx c
      exact (key n hn (by omega) (fun o ho => by unfold dirU; rw [if_pos h1]; exact h2 o ho) (z n hn)).elim
    · obtain ⟨n, hn, h1, h2⟩ := down_exists ok nd fe hx c
      exact (key n hn (by omega) (fun o ho => by unfold dirU; rw [if_neg (by omega)]; exact h2 o ho) (z n hn)).elim
  · intro z x hx
    unfold pmF pvF
    rw [if_neg fun c => c.1 (z x hx)]
theorem prog_legal {m : Str × Int} (hm : m ∈ progF ns es f h pn) : Legal ns es f pn m ∧ goP f h m = true := ⟨legal_of (List.mem_filter.mp hm).1, (List.mem_filter.mp hm).2⟩
/-- the number after a progress move -/
theorem prog_dlt (ok : EsOk ns es f) {m : Str × Int} (hm : m ∈ progF ns es f h pn) : h m.1 - dlt (f m.1 - m.2) = h m.1 + (if 0 < h m.1 then -1 else 1) := by
  obtain ⟨l, g⟩ := prog_legal hm
  have go : (0 < h m.1 ∧ (f m.1 - m.2) % 3 = 1) ∨ (h m.1 < 0 ∧ ¬ (f m.1 - m.2) % 3 = 1) := by
    unfold goP at g
    simpa only [Bool.or_eq_true, Bool.and_eq_true, decide_eq_true_iff, Bool.not_eq_true', decide_eq_false_iff_not] using g
  have v := l.val
  have t := ok.tri _ l.mem
  have ne := l.own
  unfold dlt
  rcases go with ⟨a, b⟩ | ⟨a, b⟩
  · rw [if_pos a, if_neg (by omega), if_pos b]
    omega
  · have c : ¬ 0 < h m.1 := by omega
    rw [if_neg c, if_neg (by omega), if_neg b]
    omega
end
end U

/-! progress moves -/
namespace Law
open PySem PySem.Spec PyProof.Rows L2 U
local macro_rules | `(tactic| wtm_at "rd1") => `(tactic| first
  | with_reducible refine rd_seq ?_
  | ((with_reducible refine rd_var (v := ?vv) ?hv ?_); (case hv => exact rfl))
  | with_reducible refine rd_c ?_
  | with_reducible refine rd_cons ?_
  | with_reducible refine rd_nil ?_
  | with_reducible refine rd_op ?_
  | with_reducible refine rd_asg ?_
  | with_reducible refine rd_name ?_
  | with_reducible refine rd_c1 ?_
  | with_reducible refine rd_cb ?_
  | with_reducible refine rd_test ?_
  | with_reducible refine rd_B ?_
  | with_reducible refine rd_bl ?_
  | with_reducible refine rd_if ?_
  | with_reducible refine rd_ret ?_
  | with_reducible refine rd_drop ?_
  | with_reducible refine rd_next ?_
  | with_reducible refine rd_addI ?_
  | with_reducible refine rd_ltI ?_
  | with_reducible refine rd_eqI ?_
  | with_reducible refine rd_neI ?_
  | with_reducible refine rd_eqS ?_
  | with_reducible refine rd_neS ?_
  | with_reducible refine rd_gtI ?_
  | with_reducible refine rd_geI ?_
  | with_reducible refine rd_leI ?_
  | with_reducible refine rd_ltS ?_
  | with_reducible refine rd_subI ?_
  | ((with_reducible refine rd_modI ?hc ?_); (case hc => first | decide | omega))
  | ((with_reducible refine rd_mulI ?hc ?_); (case hc => first | exact mul_bI | exact .inl (.inr (by decide)) | exact .inl (.inl (by decide)) | exact .inl (.inr (by omega)) | exact .inl (.inl (by omega))))
  | ((with_reducible refine rd_divI ?hc ?_); (case hc => first | decide | omega))
  | ((with_reducible refine rd_powI ?hc ?_); (case hc => exact ⟨by decide, by decide, by decide⟩))
  | with_reducible refine rd_lst ?_
  | with_reducible refine rd_tup ?_
  | ((with_reducible refine rd_sz ?hv ?_); (case hv => exact rfl))
  | with_reducible refine rd_and ?_
  | with_reducible refine rd_or ?_
  | with_reducible refine rd_not ?_
  | with_reducible refine rd_andV ?_
  | with_reducible refine rd_orV ?_
  | with_reducible refine rd_notV ?_
  | with_reducible refine rd_ifE ?_
  | with_reducible refine rd_T ?_
  | with_reducible refine rd_F ?_
  | with_reducible refine rd_chain ?_
  | with_reducible refine rd_is ?_
  | with_reducible refine rd_isNot ?_
  | with_reducible refine rd_absI ?_
  | with_reducible refine rd_maxI ?_
  | with_reducible refine rd_minI ?_
  | with_reducible refine rd_intI ?_
  | with_reducible refine rd_intB ?_
  | with_reducible refine rd_sub ?_
  | with_reducible refine rd_sl ?_
  | with_reducible refine rd_noPart ?_
  | with_reducible refine rd_part ?_
  | with_reducible refine rd_exI ?_
  | with_reducible refine rd_bm ?_
  | with_reducible refine rd_bm0 ?_
  | with_reducible refine rd_un ?_
  | with_reducible refine rd_neg ?_
  | with_reducible refine rd_c2 ?_
  | with_reducible refine rd_retN ?_
  | with_reducible refine rd_break ?_
  | with_reducible refine rd_cont ?_
  | with_reducible refine rd_for ?_
  | with_reducible refine rd_rng1 ?_
  | with_reducible refine rd_rng2 ?_
  | with_reducible refine rd_iList ?_
  | with_reducible refine rd_iTup ?_
  | with_reducible refine rd_iEnum ?_
  | ((with_reducible refine rd_forR ?h0 ?h1 ?_); (case h0 => omega); (case h1 => omega))
  | with_reducible refine rd_lc ?_
  | with_reducible refine rd_gcons ?_
  | with_reducible refine rd_gnil ?_
  | with_reducible refine rd_dget ?_
  | with_reducible refine rd_dput ?_
  | with_reducible refine rd_dnew ?_
  | with_reducible refine rd_dc ?_
  | with_reducible refine rd_iItems ?_
  | with_reducible refine rd_iKeys ?_
  | with_reducible refine rd_din ?_
  | with_reducible refine rd_lc2 ?_
  | with_reducible refine rd_cd ?_
  | with_reducible refine rd_par ?_
  | with_reducible refine rd_two ?_
  | with_reducible refine rd_reprB ?_
  | with_reducible refine rd_ck ?_
  | ((with_reducible refine rd_len ?hl ?_); (case hl => exact rfl))
  | with_reducible refine rd_nT ?_
  | with_reducible refine rd_nF ?_
  | with_reducible refine rd_dnin ?_
  | with_reducible refine rd_isB ?_
  | with_reducible refine rd_isNotB ?_
  | with_reducible refine rd_daug ?_
  | with_reducible refine rd_yesT ?_
  | ((with_reducible refine rd_wp ?hw ?_); (case hw => exact rfl)))
local macro_rules | `(tactic| wtm_at "rd") => `(tactic| repeat wtm_at "rd1")

def spSize : Sp := fun vs H Q _ => ∃ (a : Addr) (ns : List Str) (h : Str → Int), vs = [.ref a] ∧ H a = some (.dK (kvF ns h)) ∧ ns.length ≤ 100 ∧ ∀ H' : Hp, Same H H' → Q (.int (sz ns h)) H'
def optV : Option Int → V
  | none => .non
  | some v => .int v
def spPval : Sp := fun vs H Q _ => ∃ (st al : Addr) (n : Str) (x : Int) (ord ys : List Str) (f : Str → Int), vs = [.ref st, .ref al, .str n, .int x] ∧ H st = some (.dK (kvF ord f)) ∧ H al = some (.lst (ys.map V.str)) ∧ n ∈ ord ∧ (∀ y ∈ ys, y ∈ ord) ∧ ys.length ≤ 2000 ∧
  ∀ H' : Hp, Same H H' → Q (optV (pvF f ys n x)) H'
def spPwith (K : PySem.W.Frag) : Sp := fun vs H Q _ => ∃ (g n e st ad c ps : Addr) (ns ord pn : List Str) (es : List (Addr × Str × Str)) (f h : Str → Int) (Ad : Str → Addr), vs = [.ref g, .ref st, .ref ad, .ref c, .ref ps] ∧ GSt H g n e st ns ord es f ∧ AdjAt H ad ns (es.map (·.2)) Ad ∧ H c = some (.dK (kvF ns h)) ∧ SqT K H ps (pn.map V.str) ∧
  ∀ (l : Addr) (ms : List (Addr × Str × Int)) (H' : Hp), Same H H' → H l = none → H' l = some (.lst (ms.map fun m => V.ref m.1)) → TupsAt H' ms → ms.map (·.2) = progF ns (es.map (·.2)) f h pn → Q (.ref l) H'
def spProg (K : PySem.W.Frag) : Sp := fun vs H Q _ => ∃ (g n e st c ps : Addr) (ns ord pn : List Str) (es : List (Addr × Str × Str)) (f h : Str → Int), vs = [.ref g, .ref st, .ref c, .ref ps] ∧ GSt H g n e st ns ord es f ∧ H c = some (.dK (kvF ns h)) ∧ SqT K H ps (pn.map V.str) ∧
  ∀ (l : Addr) (ms : List (Addr × Str × Int)) (H' : Hp), Same H H' → H l = none → H' l = some (.lst (ms.map fun m => V.ref m.1)) → TupsAt H' ms → ms.map (·.2) = progF ns (es.map (·.2)) f h pn → Q (.ref l) H'
def spReduced : Sp := fun vs H Q _ => ∃ (c : Addr) (x : Str) (ns : List Str) (h : Str → Int), vs = [.ref c, .str x] ∧ H c = some (.dK (kvF ns h)) ∧ x ∈ ns ∧ ns.length ≤ 100 ∧
  ∀ (d : Addr) (H' : Hp), Same H H' → H d = none → H' d = some (.dK (kvF ns (updf h x (h x + (if 0 < h x then -1 else 1))))) → Q (.ref d) H'
section
variable {P : Program} {w : World} {K : PySem.W.Frag} {mg : Str → Option Value} {base : Heap}
structure E2a (P : Program) (w : World) (K : PySem.W.Frag) (mg : Str → Option Value) (base : Heap) : Prop where
  slope : Cal P w K mg base CX0 1 "slope" spSlope
  UP : ∃ u, mg "UP" = some u ∧ RelV (.int 1) u
  DOWN : ∃ u, mg "DOWN" = some u ∧ RelV (.int (-1)) u
theorem ok_pval {f : Addr} {fd : FuncData} (F : Fun K "progress_value" "progress_value" s_progress_value f fd) (B : Bt mg) (C : E2a P w K mg base) : FnG P w K mg base CX0 2 f fd ["state", "adjacent", "node", "number"] spPval := by
  refine fnG0 F sc_progress_value (fun vs H Q E h => ?_) (fun cdv A outer s H vs Q E hr h => ?_)
  · obtain ⟨st, al, n, x, ord, ys, f, rfl, _⟩ := h
    rfl
  · obtain ⟨st, al, n, x, ord, ys, f, rfl, hst, hal, hn, hys, yl, q⟩ := h
    have nd := sc_progress_value.nd
    have hu := hr.u1
    refine ⟨_, (pss_cons (ps_set (i := 4) nd rfl (by first | exact Or.inl rfl | exact Or.inr rfl) (pe_ifExp (pt_cmpR uGt (pv 3) pe_int (nomark _)) (pe_gl rfl C.UP) (pe_gl rfl C.DOWN)))
  (pss_cons (ps_if (PW.pt (pw_or (pt_cmpR (kEq K rfl hr.u64) (pv 3) pe_int (nomark _)) (pw_or1 (pt_not (pt_val (pe_callB (kAll K rfl rfl) (by rfl) B.all bb_all (pa_cons (pe_lc (own := [("other", 5)]) rfl nd (ki_list K rfl (pv 1)) (blkOk_by (own := [("other", 5)]) (N := nN_progress_value) (sc := defScope s_progress_value) (by decide +kernel)) (fun _ _ _ _ _ => (pg_name (i := 5) nd rfl (by first | exact Or.inl rfl | exact Or.inr rfl))) (fun _ _ _ _ _ => pts_nil) (fun _ _ _ _ _ => (pe_cmpR (kEq K rfl hr.u64) (pe_c C.slope hr (by decide) rfl (pa_cons (pv 0) (pa_cons (pv 2) (pa_cons (pv 5) pa_nil)))) (pv 4) (nomark _)))) pa_nil))))))) (pss_one (ps_ret pe_non)) pss_nil)
  (pss_one (ps_ret (pe_op uMod (pe_op uSub (pe_dget hu (pv 0) (pv 2) (fun _ _ => rfl)) (pv 4)) pe_int))))), ?_⟩
    wtm_at "rd"
    refine rd_split (fun c => ?_) (fun c => ?_)
    · have ed : (1 : Int) = dirU x := (if_pos c).symm
      clear c
      generalize (1 : Int) = d at ed ⊢
      wtm_at "rd"
      refine rd_split (fun c => ?_) (fun c => ?_)
      · refine rd_T ?_
        wtm_at "rd"
        have e : pvF f ys n x = none := if_neg fun z => z.1 c
        rw [e] at q
        exact q H (.refl _)
      · wtm_at "rd"
        refine rd_forL (SqL.of hal) ?_
        intro D fD
        refine lcL (K := K) (xs := ys.map V.str) (fun i H' => Same H H' ∧ H' D = some (.lst (((ys.take i).map fun o => decide (slp f n o = d)).map V.bl))) ⟨Same.new fD, upd_same⟩ ?_ ?_ ?_
        · rintro i H' hi ⟨s, _⟩
          exact SqL.of (s _ _ hal)
        · rintro i y H' hy ⟨s, hD⟩
          obtain ⟨hi, rfl⟩ := map_at hy
          wtm_at "rd"
          refine ⟨st, n, ys[i], ord, f, rfl, .inl (s _ _ hst), hn, hys _ (List.getElem_mem hi), ?_⟩
          wtm_at "rd"
          refine rd_acc hD (by rw [List.length_map, List.length_map, List.length_take]; omega) ?_
          refine ⟨same_put s fD, ?_⟩
          rw [upd_same, take_snoc hi, List.map_append, List.map_append]
          rfl
        · rintro H' ⟨s, hD⟩
          rw [List.length_map, List.take_length] at hD
          wtm_at "rd"
          refine rd_allL (SqL.of hD) ?_
          wtm_at "rd"
          have ea : ((ys.map fun o => decide (slp f n o = d)).all id = true) ↔ ∀ o ∈ ys, slp f n o = dirU x := by
            rw [List.all_map, List.all_eq_true, ← ed]
            exact ⟨fun h o ho => of_decide_eq_true (h o ho), fun h o ho => decide_eq_true (h o ho)⟩
          by_cases k : ∀ o ∈ ys, slp f n o = dirU x
          · rw [ea.mpr k]
            wtm_at "rd"
            refine rd_dat (.inl (s _ _ hst)) (kvF_val hn) rfl ?_
            wtm_at "rd"
            have e : pvF f ys n x = some ((f n - d) % 3) := by
              unfold pvF
              rw [if_pos ⟨c, k⟩, ed]
            rw [e] at q
            exact q H' s
          · have ea2 : (ys.map fun o => decide (slp f n o = d)).all id = false := by
              rw [← Bool.not_eq_true]
              exact fun z => k (ea.mp z)
            rw [ea2]
            wtm_at "rd"
            have e : pvF f ys n x = none := if_neg fun z => k z.2
            rw [e] at q
            exact q H' s
    · have ed : (-1 : Int) = dirU x := (if_neg c).symm
      clear c
      generalize (-1 : Int) = d at ed ⊢
      wtm_at "rd"
      refine rd_split (fun c => ?_) (fun c => ?_)
      · refine rd_T ?_
        wtm_at "rd"
        have e : pvF f ys n x = none := if_neg fun z => z.1 c
        rw [e] at q
        exact q H (.refl _)
      · wtm_at "rd"
        refine rd_forL (SqL.of hal) ?_
        intro D fD
        refine lcL (K := K) (xs := ys.map V.str) (fun i H' => Same H H' ∧ H' D = some (.lst (((ys.take i).map fun o => decide (slp f n o = d)).map V.bl))) ⟨Same.new fD, upd_same⟩ ?_ ?_ ?_
        · rintro i H' hi ⟨s, _⟩
          exact SqL.of (s _ _ hal)
        · rintro i y H' hy ⟨s, hD⟩
          obtain ⟨hi, rfl⟩ := map_at hy
          wtm_at "rd"
          refine ⟨st, n, ys[i], ord, f, rfl, .inl (s _ _ hst), hn, hys _ (List.getElem_mem hi), ?_⟩
          wtm_at "rd"
          refine rd_acc hD (by rw [List.length_map, List.length_map, List.length_take]; omega) ?_
          refine ⟨same_put s fD, ?_⟩
          rw [upd_same, take_snoc hi, List.map_append, List.map_append]
          rfl
        · rintro H' ⟨s, hD⟩
          rw [List.length_map, List.take_length] at hD
          wtm_at "rd"
          refine rd_allL (SqL.of hD) ?_
          wtm_at "rd"
          have ea : ((ys.map fun o => decide (slp f n o = d)).all id = true) ↔ ∀ o ∈ ys, slp f n o = dirU x := by
            rw [List.all_map, List.all_eq_true, ← ed]
            exact ⟨fun h o ho => of_decide_eq_true (h o ho), fun h o ho => decide_eq_true (h o ho)⟩
          by_cases k : ∀ o ∈ ys, slp f n o = dirU x
          · rw [ea.mpr k]
            wtm_at "rd"
            refine rd_dat (.inl (s _ _ hst)) (kvF_val hn) rfl ?_
            wtm_at "rd"
            have e : pvF f ys n x = some ((f n - d) % 3) := by
              unfold pvF
              rw [if_pos ⟨c, k⟩, ed]
            rw [e] at q
            exact q H' s
          · have ea2 : (ys.map fun o => decide (slp f n o = d)).all id = false := by
              rw [← Bool.not_eq_true]
              exact fun z => k (ea.mp z)
            rw [ea2]
            wtm_at "rd"
            have e : pvF f ys n x = none := if_neg fun z => k z.2
            rw [e] at q
            exact q H' s
structure E2b (P : Program) (w : World) (K : PySem.W.Frag) (mg : Str → Option Value) (base : Heap) : Prop where
  progress_value : Cal P w K mg base CX0 2 "progress_value" spPval
theorem ok_pwith {f : Addr} {fd : FuncData} (F : Fun K "progress_moves_with" "progress_moves_with" s_progress_moves_with f fd) (B : Bt mg) (C : E2b P w K mg base) : FnG P w K mg base CX0 3 f fd ["graph", "state", "adjacent", "lift", "pinned"] (spPwith K) := by
  refine fnG0 F sc_progress_moves_with (fun vs H Q E h => ?_) (fun cdv A outer s H vs Q E hr h => ?_)
  · obtain ⟨g, n, e, st, ad, c, ps, ns, ord, pn, es, f, h, Ad, rfl, _⟩ := h
    rfl
  · obtain ⟨g, n, e, st, ad, c, ps, ns, ord, pn, es, f, h, Ad, rfl, gs, had, hc, hps, q⟩ := h
    have nd := sc_progress_moves_with.nd
    have hu := hr.u1
    refine ⟨_, (pss_cons (ps_set (i := 5) nd rfl (by first | exact Or.inl rfl | exact Or.inr rfl) (pe_lst pa_nil))
  (pss_cons (ps_for PassesOwn.never rfl (ki_tup K rfl (pe_ix (kIx K rfl) (pv 0) pe_int (fun _ _ => rfl))) (pg_name (i := 6) nd rfl (by first | exact Or.inl rfl | exact Or.inr rfl)) (pss_cons (ps_set (i := 7) nd rfl (by first | exact Or.inl rfl | exact Or.inr rfl) (pe_c C.progress_value hr (by decide) rfl (pa_cons (pv 1) (pa_cons (pe_dget hu (pv 2) (pv 6) (fun _ _ => rfl)) (pa_cons (pv 6) (pa_cons (pe_dget hu (pv 3) (pv 6) (fun _ _ => rfl)) pa_nil))))))
  (pss_one (ps_if (PW.pt (pw_and (pt_cmpR uIsNot (pv 7) pe_non (nomark _)) (pw_and1 (pt_cmpR (kNotIn K rfl) (pv 6) (pv 4) rfl)))) (pss_one (ps_expr (pe_bm PySem.F.plainAttrs_list PySem.F.slot_list_append PySem.F.type_list_append mt_append (pv 5) (pa_cons (pe_tup (pa_cons (pv 6) (pa_cons (pv 7) pa_nil))) pa_nil)))) pss_nil))))
  (pss_one (ps_ret (pv 5))))), ?_⟩
    have l1 : ns.length ≤ 100 := gs.l2
    wtm_at "rd"
    intro l fl
    have s1 := Same.new (o := .lst []) fl
    have hl1 := @upd_same H l (.lst [])
    generalize upd H l (.lst []) = H1 at s1 hl1
    wtm_at "rd"
    refine rd_ixT (SqT.of (s1 _ _ gs.gr.top)) (v := .ref n) rfl ?_
    refine rd_forT (SqT.of (s1 _ _ gs.gr.nodes)) ?_
    refine turnsT (K := K) (xs := ns.map V.str) (fun i σ H' => ∃ (ms : List (Addr × Str × Int)) (u7 u8 : Option V), σ = [some (.ref g), some (.ref st), some (.ref ad), some (.ref c), some (.ref ps), some (.ref l), u7, u8] ∧ Same H H' ∧ H' l = some (.lst (ms.map fun m => V.ref m.1)) ∧ TupsAt H' ms ∧ ms.length ≤ i ∧ ms.map (·.2) = (ns.take i).flatMap (pmF (es.map (·.2)) f h pn))
      ⟨[], _, _, rfl, s1, hl1, TupsAt.nil, Nat.le_refl _, rfl⟩ ?_ ?_ ?_
    · rintro i σ H' hi ⟨ms, u7, u8, rfl, s, _⟩
      exact SqT.of (s _ _ gs.gr.nodes)
    · rintro i y σ H2 hy ⟨ms, u7, u8, rfl, s, hl, tm, ml, em⟩
      obtain ⟨hi, rfl⟩ := map_at hy
      have hx := List.getElem_mem hi
      rw [take_snoc hi, List.flatMap_append, ← em]
      generalize ns[i] = x at *
      have had2 := had.same s
      have hos := had2.at gs.ok hx
      have osn : ∀ o ∈ nbS (es.map (·.2)) x, o ∈ ord := fun o ho => gs.inO _ (nbS_in gs.ok ho)
      have osl : (nbS (es.map (·.2)) x).length ≤ 2000 := by
        unfold nbS
        rw [(sortS_perm _).length_eq]
        have := nbrF_len (x := x) (es := es.map (·.2))
        rw [List.length_map] at this
        have := gs.l3
        omega
      have pm : List.flatMap (pmF (es.map (·.2)) f h pn) [x] = match pvF f (nbS (es.map (·.2)) x) x (h x) with
        | none => []
        | some v => if x ∈ pn then [] else [(x, v)] := List.append_nil _
      rw [pm]
      clear pm
      generalize nbS (es.map (·.2)) x = os at *
      wtm_at "rd"
      refine rd_dat (.inl had2.di) (kvG_val hx) rfl ?_
      wtm_at "rd"
      refine rd_dat (.inl (s _ _ hc)) (kvF_val hx) rfl ?_
      wtm_at "rd"
      refine ⟨st, _, x, h x, ord, os, f, rfl, s _ _ gs.st, hos, gs.inO _ hx, osn, osl, fun H3 s3 => ?_⟩
      have s13 := s.trans s3
      have hl3 := s3 _ _ hl
      have tm3 := tm.same s3
      cases hp : pvF f os x (h x) with
      | none =>
        rw [show optV none = V.non from rfl]
        wtm_at "rd"
        rw [show (!decide (V.non = V.non)) = false from by decide]
        wtm_at "rd"
        exact ⟨ms, _, _, rfl, s13, hl3, tm3, by omega, (List.append_nil _).symm⟩
      | some v =>
        rw [show optV (some v) = V.int v from rfl]
        wtm_at "rd"
        rw [decide_eq_false (fun z => nomatch z : ¬ V.int v = V.non)]
        wtm_at "rd"
        refine rd_ninST (Same.seqT s13 hps) ?_
        wtm_at "rd"
        refine rd_nsplit (fun c1 => ?_) (fun c1 => ?_)
        · wtm_at "rd"
          refine rd_tyL hl3 ?_
          wtm_at "rd"
          intro t ft
          have s4 := same_add (o := .tup [.str x, .int v]) s13 ft
          have hl4 := at_upd (o := .tup [.str x, .int v]) (ne_of_none hl3 ft) hl3
          have tm4 := tm3.new (o := .tup [.str x, .int v]) ft
          have ht := @upd_same H3 t (.tup [.str x, .int v])
          generalize upd H3 t (.tup [.str x, .int v]) = H4 at s4 hl4 tm4 ht
          wtm_at "rd"
          refine rd_append hl4 (by rw [List.length_map]; omega) ?_
          refine ⟨ms ++ [(t, x, v)], _, _, rfl, same_put s4 fl, by rw [upd_same, List.map_append]; rfl, TupsAt.put (tm4.app ?_) hl4, by rw [List.length_append, List.length_singleton]; omega, ?_⟩
          · intro m hm
            rw [List.mem_singleton] at hm
            subst hm
            exact ht
          · rw [List.map_append]
            show _ = _ ++ (if x ∈ pn then [] else [(x, v)])
            rw [if_neg c1]
            rfl
        · wtm_at "rd"
          refine ⟨ms, _, _, rfl, s13, hl3, tm3, by omega, ?_⟩
          show _ = _ ++ (if x ∈ pn then [] else [(x, v)])
          rw [if_pos c1, List.append_nil]
    · rintro σ H' ⟨ms, u7, u8, rfl, s, hl, tm, ml, em⟩
      rw [List.length_map, List.take_length] at em
      wtm_at "rd"
      exact q l ms H' s fl hl tm (em.trans (prog_eq gs.eok fun _ h => h).symm)
structure E2c (P : Program) (w : World) (K : PySem.W.Frag) (mg : Str → Option Value) (base : Heap) : Prop where
  adjacency : Cal P w K mg base CX0 1 "adjacency" spAdj
  progress_moves_with : Cal P w K mg base CX0 3 "progress_moves_with" (spPwith K)
structure E2d (P : Program) (w : World) (K : PySem.W.Frag) (mg : Str → Option Value) (base : Heap) : Prop where
  _law_moves_of : Cal P w K mg base CX0 2 "_law_moves_of" (spMoves K)
end
end Law

/-! a lambda with parameters and without captured names: entered -/
namespace U
open PySem PySem.Spec PyProof.Rows L2
abbrev lamFn (q : Str) (params : Arguments) (body : Expr) (scope : Scope) (pm : Value) (c' : Addr) (ctv : Value) : FuncData := PySem.W.kla_fn "<lambda>" q params body scope [] pm (.ref c') ctv
theorem run_lam {CX : CXT} {P : Program} {w : World} {K : PySem.W.Frag} {mg : Str → Option Value} {base : Heap} {k : Nat} {f c' : Addr} {q : Str} {params : Arguments} {body : Expr} {scope : Scope} {pm ctv : Value} {N ps : List Str} (S : FnScope N ps scope)
    {A : Around} {outer : List Env} {s : Shared} {H : Hp} {args : Args} {us : List Value} {vs : List V} {Q : VK} {E : XK} (ho : s.heap.get? f = some (PySem.W.kla_obj "<lambda>" q params body scope [] pm c' ctv)) (hc : s.heap.CodeRec (.ref c') q)
    (hr : Room (k + 1) A) (e0 : Env0 P w K mg base A outer s H) (hb : BindsTo s (lamFn q params body scope pm c' ctv) args (ps.zip us)) (r : Vals vs us) (hl : vs.length = ps.length)
    (hbody : Room k (A.deeper (envOfC q scope s.heap.objs.size f (.ref c'))) → ∃ t, PE (cxOf CX P w K mg base N q scope f (.ref c') A outer s H E) body t ∧ t (L2.start N vs) H Q) :
    codeAny (model P w) A (.call (.ref f) args) (CR CX outer P w H s Q E) s := by
  have lim : s.heap.NoLimit := e0.mod.nolimit.keeps fun b o e => (e0.bs b o e).1
  have kinds : ∀ y ∈ ps.zip us, scope.names.lookup y.1 = some .local ∨ (scope.names.lookup y.1 = some .cell ∧ ((cellsFrom (s.heap.objs.size + 1) scope.names []).lookup y.1).isSome = true) := fun y hy => by
    rcases S.par y.1 (List.of_mem_zip (show (y.1, y.2) ∈ ps.zip us from hy)).1 with z | z
    · exact .inl z
    · exact .inr ⟨z, PySem.W.cellsFrom_some _ _ _ (.inl z)⟩
  refine PySem.W.kla_callFunE hr.depth ho rfl S.co S.gen rfl hc (hb _ _ _ _ ?_)
  refine wpAny_newFunctionEnv_cells S.kind kinds fun env he s1 x => ?_
  subst he
  obtain ⟨t, ht, hq⟩ := hbody (hr.deeper _)
  have I : Inv (cxOf CX P w K mg base N q scope f (.ref c') A outer s H E) [] (L2.start N vs) H s1 := inv_start S hr.hd e0 hl r x
  refine ⟨lim.keeps x.toInCall.keep, PySem.W.kla_codeExpr (wpAny_mono (ht.run [] s1 _ H Q I hq) (fun u s' hs => ?_) fun e s' hs => hs)⟩
  obtain ⟨v, H', J, rv, hQ⟩ := hs
  exact ⟨v, H', J.os, J.bare, J.base, J.hok, rv, hQ⟩
end U
namespace U
open PySem PySem.Spec PyProof.Rows L2 PySem.W
def dKey (names : List Str) : PyData := .tuple [.int (names.length : Int), .list (names.map PyData.str)]
theorem alike_strs : ∀ xs ys : List Str, alikeAll (xs.map PyData.str) (ys.map PyData.str) = true
  | [], ys => by cases ys <;> simp [alikeAll]
  | x :: xs, [] => by simp [alikeAll]
  | x :: xs, y :: ys => by
    rw [List.map_cons, List.map_cons, alikeAll, alike_strs xs ys]
    simp [alike]
theorem alike_key (xs ys : List Str) : alike (dKey xs) (dKey ys) = true := by
  unfold dKey
  simp [alike, alikeAll, alike_strs]
theorem depth_key (xs : List Str) : (dKey xs).depth ≤ 3 := by
  have e : ∀ xs : List Str, PyData.depthAll (xs.map PyData.str) = 0 := fun xs => by
    induction xs with
    | nil => simp [PyData.depthAll]
    | cons x r ih => rw [List.map_cons, PyData.depthAll, PyData.depth, ih]; rfl
  unfold dKey
  simp [PyData.depth, PyData.depthAll, e]
theorem reads_strs {h : Heap} : ∀ {xs : List Str} {us : List Value}, Vals (xs.map V.str) us → ∃ as, ReadsAll h us (xs.map PyData.str) as
  | [], _, r => by
    cases r
    exact ⟨_, .nil⟩
  | x :: xs, _, r => by
    cases r with
    | cons r rr =>
      obtain ⟨tk, rfl⟩ := r
      obtain ⟨as, ra⟩ := reads_strs rr
      exact ⟨_, .cons (.str x tk) ra⟩
end U
namespace U
open PySem PySem.Spec PyProof.Rows L2 PySem.W
/-- no more than new things, the callers' frames but for their slots -/
def Jm (X : Cx) (s0 s' : Shared) : Prop := s'.os = s0.os ∧ AllBare s'.gens ∧ Un (frs X.stack) [] (fun _ => none) (fun _ => none) s0.heap s'.heap
def Vm (X : Cx) (av : List Addr) (items : List (Addr × List Str)) (i : Nat) (k : Value) (s' : Shared) : Prop :=
  ∃ (t a : Addr) (names : List Str) (tk : Tok), items[i]? = some (a, names) ∧ k = .ref t ∧ t ∉ av ∧ t ∉ frs X.stack ∧ IsTup s'.heap t #[.int (names.length : Int) tk, .ref a]
/-- the paths stand, known to the object -/
def Hc (H : Hp) (s0 : Shared) (items : List (Addr × List Str)) : Hp := fun b => match H b, s0.heap.get? b with
  | some (.lst xs), some o => if b ∈ items.map (·.1) then some (.frz o (.lst xs)) else none
  | _, _ => none
theorem hc_some {H : Hp} {s0 : Shared} {items : List (Addr × List Str)} {b : Addr} {u : HO} (h : Hc H s0 items b = some u) : ∃ xs o, H b = some (.lst xs) ∧ s0.heap.get? b = some o ∧ u = .frz o (.lst xs) := by
  unfold Hc at h
  split at h
  · rename_i xs o e1 e2
    split at h
    · exact ⟨xs, o, e1, e2, (Option.some.inj h).symm⟩
    · cases h
  · cases h
theorem hc_none {H : Hp} {s0 : Shared} {items : List (Addr × List Str)} {b : Addr} (h : H b = none) : Hc H s0 items b = none := by
  cases e : Hc H s0 items b with
  | none => rfl
  | some u =>
    obtain ⟨xs, o, e1, _⟩ := hc_some e
    rw [h] at e1
    cases e1
theorem hc_new {H : Hp} {s0 : Shared} {items : List (Addr × List Str)} {b : Addr} (h : s0.heap.get? b = none) : Hc H s0 items b = none := by
  cases e : Hc H s0 items b with
  | none => rfl
  | some u =>
    obtain ⟨xs, o, _, e1, _⟩ := hc_some e
    rw [h] at e1
    cases e1
section
variable {X : Cx} {pins : List (Addr × Obj)} {σ : L2.St} {H : Hp} {s0 s : Shared}
theorem Jm.refl (I : Inv X pins σ H s0) : Jm X s0 s0 := ⟨rfl, I.bare, Un.refl⟩
theorem Jm.inv (I : Inv X pins σ H s0) (j : Jm X s0 s) : Inv X pins σ H s := by
  obtain ⟨os, bare, un⟩ := j
  have e0 := I.env0
  have raw : ∀ b u, H b = some u → ∀ o, s0.heap.get? b = some o → s.heap.get? b = some o := fun b u hb o ho => un.keep b o ho rfl (fun z => by rw [e0.frf b z] at hb; cases hb) (by simp)
  refine I.call' (ch := []) os ⟨fun b o e _ h1 h2 => un.keep b o e rfl h1 h2, fun b o e _ h1 h2 => un.slot b o e rfl h1 h2, fun _ _ _ n _ => n, un.there, fun _ _ q => q, fun _ _ _ q => q, fun _ ps q => ⟨#[], by rw [q]; simp⟩⟩ (fun a u e => ?_) bare (fun b hb => absurd hb (by simp))
  refine (I.hok a u e).stay (fun b o hb ho => ?_) (fun _ q => q) fun _ _ q => q
  rcases hb with rfl | hb
  · exact raw _ _ e o ho
  · exact raw _ _ hb o ho
variable {A : Around} {q : Str} {params : Arguments} {body : Expr} {scope : Scope} {pm ctv : Value} {f c' l : Addr} {items : List (Addr × List Str)} {its : List Value} {N : List Str} {p : Str} {tb : TE} {k : Nat}
theorem in1_room (h : Room (k + 2) A) : Room (k + 1) A.in1 := by
  have a := h.dp
  have b := h.un
  refine ⟨h.hd, ?_, ?_⟩
  · have : A.in1.depth = A.depth := rfl
    omega
  · have : A.in1.units = A.units + 1 := rfl
    omega
theorem fr_old (I : Inv X pins σ H s0) {b : Addr} (hb : b ∈ frs X.stack) : ∃ o, s0.heap.get? b = some o := by
  obtain ⟨_, o, ho, _⟩ := I.env0.funs.mem hb
  exact ⟨o, ho⟩
theorem env_c (I : Inv X pins σ H s0) (j : Jm X s0 s) : Env0 X.prog X.w X.K X.mg X.base X.A.in1 X.stack s (Hc H s0 items) := by
  have e := (j.inv I).env0
  refine ⟨e.frames, e.mod, fun b o h => ⟨(e.bs b o h).1, hc_none (e.bs b o h).2⟩, e.bsz, e.funs, fun b hb => hc_none (e.frf b hb), fun a u h => ?_, e.bare⟩
  obtain ⟨xs, o, h1, h2, rfl⟩ := hc_some h
  have k := e.hok a _ h1
  exact ⟨j.2.2.keep a o h2 rfl (fun z => by rw [e.frf a z] at h1; cases h1) (by simp), k⟩
/-- what the call of the lambda keeps -/
theorem lam_kept (I : Inv X pins σ H s0) (j : Jm X s0 s) {s' : Shared} {H' : Hp} (un : Un (frs X.stack) [] (Hc H s0 items) H' s.heap s'.heap) (hok : HOk X.prog X.w H' s'.heap) {b : Addr} {o : Obj} (ho : s.heap.get? b = some o) (hb : b ∉ frs X.stack) : s'.heap.get? b = some o := by
  cases e : Hc H s0 items b with
  | none => exact un.keep b o ho e hb (by simp)
  | some u =>
    obtain ⟨xs, o2, h1, h2, rfl⟩ := hc_some e
    have k1 := (show s.heap.get? b = some o2 ∧ _ from (env_c (items := items) I j).hok b _ e).1
    rw [ho] at k1
    obtain rfl := Option.some.inj k1
    exact (show s'.heap.get? b = some o ∧ _ from hok b _ (un.frzs b _ _ e)).1
def nmAt (items : List (Addr × List Str)) (i : Nat) : List Str := (items[i]?.map (·.2)).getD []
theorem nm_at {items : List (Addr × List Str)} {i : Nat} {a : Addr} {names : List Str} (h : items[i]? = some (a, names)) : nmAt items i = names := by
  unfold nmAt
  rw [h]
  rfl
theorem vals_at {items : List (Addr × List Str)} {its : List Value} (r : Vals (items.map fun i => V.ref i.1) its) {i : Nat} {v : Value} (h : its.toArray[i]? = some v) : ∃ a names, items[i]? = some (a, names) ∧ v = .ref a := by
  have h2 : its[i]? = some v := by simpa using h
  have hi : i < its.length := (List.getElem?_eq_some_iff.mp h2).1
  have hi2 : i < items.length := by
    have := r.length
    rw [List.length_map] at this
    omega
  obtain ⟨u, e1, e2⟩ := r.get (i := i) (x := .ref items[i].1) (by rw [List.getElem?_map, List.getElem?_eq_getElem hi2]; rfl)
  rw [h2] at e1
  exact ⟨items[i].1, items[i].2, List.getElem?_eq_getElem hi2, (Option.some.inj e1).trans e2⟩
theorem reads_key (I : Inv X pins σ H s0) (j : Jm X s0 s) {t a : Addr} {names : List Str} {tk : Tok} (ha : H a = some (.lst (names.map V.str))) (ht : IsTup s.heap t #[.int (names.length : Int) tk, .ref a]) : ∃ as, Reads s.heap (.ref t) (dKey names) as := by
  obtain ⟨_, us, n, r, e⟩ := (j.inv I).hok a _ ha
  obtain ⟨as, ra⟩ := reads_strs r
  obtain ⟨o, h1, h2, m, h3⟩ := ht
  have ra2 : ReadsAll s.heap us.toArray.toList (names.map PyData.str) as := by simpa using ra
  exact ⟨_, Reads.tuple h1 h2 h3 (.cons (.int _ tk) (.cons (Reads.list e rfl rfl ra2) .nil))⟩
theorem key_run (I : Inv X pins σ H s0) (hr : Room (k + 2) X.A) (S : FnScope N [p] scope) (hitem : ∀ i ∈ items, H i.1 = some (.lst (i.2.map V.str))) (hlv : Vals (items.map fun i => V.ref i.1) its) (hl : s0.heap.IsList l its.toArray) (hlf : l ∉ frs X.stack)
    (hf : s0.heap.get? f = some (PySem.W.kla_obj "<lambda>" q params body scope [] pm c' ctv)) (hff : f ∉ frs X.stack) (hcd : s0.heap.CodeRec (.ref c') q) (hcf : c' ∉ frs X.stack)
    (hbind : ∀ (s : Shared) (u : Value), BindsTo s (lamFn q params body scope pm c' ctv) ⟨[u], []⟩ [(p, u)])
    (hbody : ∀ (A : Around) (outer : List Env) (s : Shared) (H : Hp) (E : XK), Room k (A.deeper (envOfC q scope s.heap.objs.size f (.ref c'))) → PE (cxOf (fun _ _ _ _ _ _ => False) X.prog X.w X.K X.mg X.base N q scope f (.ref c') A outer s H E) body tb)
    (htb : ∀ (a : Addr) (names : List Str) (o : Obj) (H : Hp) (Q : VK), H a = some (.frz o (.lst (names.map V.str))) → (∀ t H', H t = none → H' t = some (.tup [.int (names.length : Int), .ref a]) → Q (.ref t) H') → tb (L2.start N [.ref a]) H Q)
    {s2 : Shared} (es : s2.heap.objs.size = s0.heap.objs.size + 1) :
    KeyRun X.prog X.w X.A.in1 (.ref f) .Lt s2.heap.objs.size [s0.heap.objs.size] (fun a b => b = a) its.toArray.size (fun i v => its.toArray[i]? = some v) (fun i s' => s'.heap.IsListIter s0.heap.objs.size l i ∧ s'.heap.IsList l its.toArray)
      (Jm X s0) (Vm X [s2.heap.objs.size, s0.heap.objs.size] items) (fun i j => dataLt (dKey (nmAt items i)) (dKey (nmAt items j))) := by
  have old : ∀ b o, s0.heap.get? b = some o → b ∉ s2.heap.objs.size :: [s0.heap.objs.size] := fun b o h z => by
    have lt := Heap.lt_size h
    rcases List.mem_cons.mp z with z | z
    · rw [z, es] at lt
      exact Nat.lt_irrefl _ (Nat.lt_of_succ_lt lt)
    · rw [List.mem_singleton] at z
      rw [z] at lt
      exact Nat.lt_irrefl _ lt
  have frl : ∀ b, b ∈ frs X.stack → b < s0.heap.objs.size := fun b hb => by
    obtain ⟨o, ho⟩ := fr_old I hb
    exact Heap.lt_size ho
  have nI : s0.heap.objs.size ∉ frs X.stack := fun z => Nat.lt_irrefl _ (frl _ z)
  have nS : s2.heap.objs.size ∉ frs X.stack := fun z => by
    have := frl _ z
    rw [es] at this
    exact Nat.lt_irrefl _ (Nat.lt_of_succ_lt this)
  have new : ∀ b, s0.heap.objs.size ≤ b → s0.heap.get? b = none := fun b hb => Heap.get?_none_of_le hb
  refine ⟨fun s s' j m => ?_, fun i v s s' hv m => ?_, ?_, ?_⟩
  · obtain ⟨j1, j2, un⟩ := j
    refine ⟨m.os.trans j1, by rw [show s'.gens = s.gens from m.gens]; exact j2, ⟨fun b o h _ hb hx => m.heap b o (old b o h) (un.keep b o h rfl hb hx), fun b o h _ hb hx => ?_, fun _ _ _ _ _ => rfl, fun b o h hx => ?_, (fun _ _ z => nomatch z), (fun _ _ _ z => nomatch z), (fun _ _ z => nomatch z)⟩⟩
    · obtain ⟨sl, h2⟩ := un.slot b o h rfl hb hx
      exact ⟨sl, m.heap b _ (old b o h) h2⟩
    · obtain ⟨o2, h2⟩ := un.there b o h hx
      exact ⟨o2, m.heap b _ (old b o h) h2⟩
  · obtain ⟨t, a, names, tk, h1, h2, h3, h4, o, h5, h6⟩ := hv
    exact ⟨t, a, names, tk, h1, h2, h3, h4, o, m.heap t o h3 h5, h6⟩
  · intro i v s o Q E hi hP j st hS hk
    obtain ⟨a, names, hit, rfl⟩ := vals_at hlv hP
    have ha := hitem _ (List.mem_of_getElem? hit)
    have jI := j.inv I
    obtain ⟨oa, hoa⟩ : ∃ o, s0.heap.get? a = some o := by
      obtain ⟨_, _, _, _, e⟩ := I.hok a _ ha
      exact ⟨_, e⟩
    have hca : Hc H s0 items a = some (.frz oa (.lst (names.map V.str))) := by
      unfold Hc
      rw [ha, hoa]
      exact if_pos (List.mem_map_of_mem (f := (·.1)) (List.mem_of_getElem? hit))
    have hf' := j.2.2.keep f _ hf rfl hff (by simp)
    have hcd' : s.heap.CodeRec (.ref c') q := by
      obtain ⟨c2, oc, vs, t, e1, e2, e3, e4⟩ := hcd
      obtain rfl := Value.ref.inj e1
      exact ⟨c', oc, vs, t, rfl, j.2.2.keep c' _ e2 rfl hcf (by simp), e3, e4⟩
    have rc : codeAny (model X.prog X.w) X.A.in1 (.call (.ref f) ⟨[.ref a], []⟩) (CR (fun _ _ _ _ _ _ => False) X.stack X.prog X.w (Hc H s0 items) s (fun v H' => ∃ t, v = .ref t ∧ Hc H s0 items t = none ∧ H' t = some (.tup [.int (names.length : Int), .ref a])) (fun _ _ _ => False)) s := by
      refine run_lam (N := N) (ps := [p]) (us := [.ref a]) (vs := [.ref a]) S hf' hcd' (in1_room hr) (env_c I j) (hbind s _) (.cons rfl .nil) rfl fun hr' => ⟨tb, hbody _ _ _ _ _ hr', ?_⟩
      exact htb a names oa _ _ hca fun t H' h1 h2 => ⟨t, rfl, h1, h2⟩
    refine wpAny_call (codeAny_mono rc fun r s' hq => ?_)
    cases r with
    | error e => exact False.elim hq
    | ok fl =>
      cases fl with
      | next => exact False.elim hq
      | brk => exact False.elim hq
      | cont => exact False.elim hq
      | ret u =>
        obtain ⟨v, H', os, bare, un, hok, rv, t, rfl, hn, ht⟩ := hq
        obtain rfl : u = Value.ref t := rv
        have kp : ∀ {b o}, s.heap.get? b = some o → b ∉ frs X.stack → s'.heap.get? b = some o := fun {b o} h1 h2 => lam_kept I j un hok h1 h2
        have free : ∀ b o, s.heap.get? b = some o → Hc H s0 items b = none → b ≠ t := fun b o h1 h2 z => by
          have := un.free b o h1 h2 (by simp)
          rw [z, ht] at this
          cases this
        have hI : ∃ oi, s.heap.get? s0.heap.objs.size = some oi := by
          obtain ⟨oi, e, _⟩ := st.1
          exact ⟨oi, e⟩
        obtain ⟨oi, hoi⟩ := hI
        refine hk (.ref t) s' ⟨os.trans j.1, bare, ⟨fun b o h _ hb hx => kp (j.2.2.keep b o h rfl hb hx) hb, fun b o h _ hb hx => ?_, fun _ _ _ _ _ => rfl, fun b o h hx => ?_, (fun _ _ z => nomatch z), (fun _ _ _ z => nomatch z), (fun _ _ z => nomatch z)⟩⟩ ⟨?_, ?_⟩ (kp hS nS) ⟨t, a, names, ?_⟩ fun j2 k2 hv => ?_
        · obtain ⟨sl, h2⟩ := j.2.2.slot b o h rfl hb hx
          obtain ⟨sl2, h3⟩ := un.slot b _ h2 ((env_c (items := items) I j).frf b hb) hb hx
          exact ⟨sl2, h3⟩
        · obtain ⟨o2, h2⟩ := j.2.2.there b o h hx
          exact un.there b o2 h2 hx
        · obtain ⟨o2, e1, e2⟩ := st.1
          exact ⟨o2, kp e1 nI, e2⟩
        · obtain ⟨o2, e1, e2⟩ := st.2
          exact ⟨o2, kp e1 hlf, e2⟩
        · obtain ⟨_, us, r, o2, e1, e2⟩ := hok t _ ht
          cases r with
          | cons r1 rr =>
            cases rr with
            | cons r2 rr =>
              cases rr
              obtain ⟨tk, rfl⟩ := r1
              obtain rfl := r2
              refine ⟨tk, hit, rfl, fun z => ?_, fun z => ?_, o2, e1, e2⟩
              · rcases List.mem_cons.mp z with z | z
                · exact free _ _ hS (hc_new (new _ (by rw [es]; exact Nat.le_succ _))) z.symm
                · exact free _ _ hoi (hc_new (new _ (Nat.le_refl _))) (List.mem_singleton.mp z).symm
              · obtain ⟨o3, h3⟩ := fr_old jI z
                exact free t _ h3 ((env_c (items := items) I j).frf t z) rfl
        · obtain ⟨t2, a2, n2, tk2, h1, h2, h3, h4, o2, h5, h6⟩ := hv
          exact ⟨t2, a2, n2, tk2, h1, h2, h3, h4, o2, kp h5 h4, h6⟩
  · intro i j ki kj s Q E hj h1 h2 hq
    obtain ⟨t, a, n1, tk, e1, rfl, _, _, e2⟩ := h1
    obtain ⟨t2, a2, n2, tk2, f1, rfl, _, _, f2⟩ := h2
    obtain ⟨as, r1⟩ := reads_key I hj (hitem _ (List.mem_of_getElem? e1)) e2
    obtain ⟨bs, r2⟩ := reads_key I hj (hitem _ (List.mem_of_getElem? f1)) f2
    have hq : Q (.bool (dataLt (dKey (nmAt items i)) (dKey (nmAt items j)))) s := hq
    rw [nm_at e1, nm_at f1] at hq
    refine rcLt_alike (dKey n1) (dKey n2) X.A.in1 s (.ref t) (.ref t2) as bs r1 r2 (alike_key _ _) (fun z => by unfold dKey at z; cases z) ?_ X.prog X.w E Q hq
    have d := depth_key n1
    have u := hr.un
    have : X.A.in1.units = X.A.units + 1 := rfl
    have := Nat.min_le_left (dKey n1).depth (dKey n2).depth
    omega
end
end U
namespace U
open PySem PySem.Spec PyProof.Rows L2 PySem.W LamX
def tMinK (T : List (Addr × Str)) (te : TA) : TE := fun σ H Q => te σ H fun vs H1 => Tabs T H1 ∧ ∃ (l : Addr) (items : List (Addr × List Str)), vs = [.ref l] ∧ H1 l = some (.lst (items.map fun i => V.ref i.1)) ∧ (∀ i ∈ items, H1 i.1 = some (.lst (i.2.map V.str))) ∧
  ∀ H2, ExtN H1 H2 → Tabs T H2 → (items = [] → Q .non H2) ∧ ∀ i ∈ items, Q (.ref i.1) H2
theorem pe_minK {X : Cx} {T : List (Addr × Str)} {c P : Addr} {params : Arguments} {body : Expr} {scope : Scope} {N : List Str} {p : Str} {tb : TE} {k j : Nat} {e : Expr} {te : TA} {pm lpos kp1 kp2 cpos pos : Pos}
    (hc : X.calm = true) (hg : Gl X "min") (hm : X.mg "min" = none) (ha : PA X [e] te) (TB : TabB X.base X.mg c P) (hcode : X.env.code = .ref c) (hmT : (P, X.env.qual ++ "<lambda>") ∈ T) (huT : ∀ y ∈ T, y.1 = P → y.2 = X.env.qual ++ "<lambda>")
    (hdef : defaultsOf params X.env = ([], [])) (hfree : ∀ y ∈ scope.names, y.2 = .free → ∃ c, X.env.cells.lookup y.1 = some c) (hcl : cloFrom X.env.cells scope.names [] = [])
    (hr : Room (k + 2) X.A) (S : FnScope N [p] scope)
    (hbind : ∀ (s : Shared) (u pm ctv : Value) (c' : Addr), BindsTo s (lamFn (X.env.qual ++ "<lambda>") params body scope pm c' ctv) ⟨[u], []⟩ [(p, u)])
    (hbody : ∀ (A : Around) (outer : List Env) (s : Shared) (H : Hp) (E : XK) (f c' : Addr), Room k (A.deeper (envOfC (X.env.qual ++ "<lambda>") scope s.heap.objs.size f (.ref c'))) → PE (cxOf (fun _ _ _ _ _ _ => False) X.prog X.w X.K X.mg X.base N (X.env.qual ++ "<lambda>") scope f (.ref c') A outer s H E) body tb)
    (htb : ∀ (a : Addr) (names : List Str) (o : Obj) (H : Hp) (Q : VK), H a = some (.frz o (.lst (names.map V.str))) → (∀ t H', H t = none → H' t = some (.tup [.int (names.length : Int), .ref a]) → Q (.ref t) H') → tb (L2.start N [.ref a]) H Q)
    (hst : starEach [e] X.env = (false, eval e X.env) :: starEach [] X.env := by rfl) :
    PE X (.Call (.Name "min" pm) [e] [⟨some "key", .Lambda params body scope lpos, kp1⟩, ⟨some "default", .Constant .none j cpos, kp2⟩] pos) (tMinK T te) := by
  refine ⟨fun pins s σ H Q I h => ?_⟩
  refine wpAny_Call_Name_kw (ld_blt (u := .builtin "min") I hg hm (by decide +kernel) ?_)
  refine PyProof.Rows.callWith_kw (thn (ha.run pos pins s σ H _ I h) fun us s1 ⟨vs, H1, I1, r1, hT, l, items, ev, hl, hit, q⟩ => ?_) (by rw [hst]; rfl) (by rw [hst]; rfl)
  subst ev
  obtain ⟨u, rfl, ru⟩ := r1.one
  obtain rfl : u = Value.ref l := ru
  show wpAny _ _ (evalAll [(do let v ← eval (.Lambda params body scope lpos) X.env; standAt pos; pure v), (do let v ← eval (.Constant .none j cpos) X.env; standAt pos; pure v)]) _ _ s1
  refine wpAny_evalAll_cons (wpAny_bind (lam_make2 I1 TB hcode hmT huT hT hdef hfree fun f c' pm' ctv H2 s2 I2 eN T2 hf hfn hfr hco => wpAny_bind (wpAny_standAt (wpAny_pure ?_))))
  refine wpAny_evalAll_cons (wpAny_bind (show wpAny _ _ (eval (.Constant .none j cpos) X.env) _ _ s2 from wpAny_pure (wpAny_bind (wpAny_standAt (wpAny_pure (wpAny_evalAll_nil ?_))))))
  show wpAny _ _ (call (.builtin "min") [.ref l] [(Str.ofString "key", .ref f), (Str.ofString "default", .none)]) _ _ s2
  have nt : ∀ (xs : List V) (ps : Array Value), HO.lst xs ≠ .tbl ps := fun _ _ z => nomatch z
  have hl2 := eN _ _ hl (nt _)
  have hit2 : ∀ i ∈ items, H2 i.1 = some (.lst (i.2.map V.str)) := fun i hi => eN _ _ (hit i hi) (nt _)
  have frf := I2.env0.frf
  obtain ⟨_, its, n, rv, el⟩ := I2.hok l _ hl2
  obtain ⟨⟨oc, cvs, ct, d1, d2, d3⟩, _, _⟩ := I2.hok c' _ hco
  rw [hcl] at hf
  obtain ⟨q0, q1⟩ := q H2 eN T2
  have hlen : items.length = its.length := by
    have := rv.length
    rw [List.length_map] at this
    exact this
  refine PySem.call_min_walkKD (iter_listW (A := X.A.in1) (I2.ok.hd hc) ⟨_, el, rfl, n, rfl⟩ fun s3 e3 W st hfp hw hk => ?_)
  have es : s3.heap.objs.size = s2.heap.objs.size + 1 := by
    rw [e3]
    exact Heap.size_push _ _
  refine ⟨_, _, _, _, _, _, _, _, _, _, rfl, W, st, hfp, key_run I2 hr S hit2 rv ⟨_, el, rfl, n, rfl⟩ (fun z => by rw [frf _ z] at hl2; cases hl2) hf hfr ⟨c', oc, cvs, ct, rfl, d1, d2, d3⟩ (fun z => by rw [frf _ z] at hco; cases hco) (fun s u => hbind s u _ _ _) (fun A outer s H E hr => hbody A outer s H E f c' hr) htb es, ?_, ?_, ?_⟩
  · refine ⟨by rw [e3], by rw [e3]; exact I2.bare, ?_⟩
    exact Un.kept hk
  · intro hn s' hj
    refine ⟨.non, H2, hj.inv I2, rfl, q0 ?_⟩
    have : its.length = 0 := by simpa using hn
    exact List.eq_nil_of_length_eq_zero (by omega)
  · intro hn v s' hP hj
    obtain ⟨a, names, e1, rfl⟩ := vals_at rv hP
    exact ⟨.ref a, H2, hj.inv I2, rfl, q1 _ (List.mem_of_getElem? e1)⟩
end U

/-! a def whose code object is known (its table of lambdas is tracked) -/
namespace U
open PySem PySem.Spec PyProof.Rows L2 LamX
structure FunC (K : PySem.W.Frag) (x qual : Str) (st : Stmt) (f : Addr) (fd : FuncData) (c : Addr) : Prop where
  ex : ∃ (oc : Value) (od : Option Addr) (kV doc pm : Value) (an : Option Addr) (ct : Value) (osl : Array (Option Value)),
    fd = PySem.W.fnOf x qual (defArgs st) (defBody st) (defScope st) .none kV doc pm an (.ref c) ct ∧ K.lookup f = some ⟨oc, od, .func fd, osl⟩ ∧ PySem.W.codeIn K (.ref c) qual = true
section
variable {P : Program} {w : World} {K : PySem.W.Frag} {mg : Str → Option Value} {base : Heap}
theorem fnG0C {x qual : Str} {st : Stmt} {f c : Addr} {fd : FuncData} {N ps : List Str} {k : Nat} {sp : Sp} (F : FunC K x qual st f fd c) (S : FnScope N ps (defScope st)) (len : ∀ vs H Q E, sp vs H Q E → vs.length = ps.length)
    (body : ∀ (A : Around) (outer : List Env) (s : Shared) (H : Hp) (vs : List V) (Q : VK) (E : XK), Rm k (A.deeper (envOfC qual (defScope st) s.heap.objs.size f (.ref c))) → sp vs H Q E →
      ∃ t, PSs (cxOf CX0 P w K mg base N qual (defScope st) f (.ref c) A outer s H E).nox (defBody st) t ∧ t { nx := fun _ H' => Q .non H', rt := Q } (start N vs) H) :
    FnG P w K mg base CX0 (k + 1) f fd ps sp := by
  obtain ⟨oc, od, kV, doc, pm, an, ct, osl, rfl, lk, hcd⟩ := F.ex
  refine ⟨len, fun A outer s H args us vs Q E room e0 bd rel want => ?_⟩
  have count := len _ _ _ _ want
  have kin : K.In s.heap := e0.mod.kin.keeps fun b o e => (e0.bs b o e).1
  have kinds : ∀ y ∈ ps.zip us, (defScope st).names.lookup y.1 = some .local ∨ ((defScope st).names.lookup y.1 = some .cell ∧ ((cellsFrom (s.heap.objs.size + 1) (defScope st).names []).lookup y.1).isSome = true) := by
    rintro ⟨n, v⟩ hy
    cases S.par n (List.of_mem_zip hy).1 with
    | inl q => exact .inl q
    | inr q => exact .inr ⟨q, PySem.W.cellsFrom_some _ _ _ (.inl q)⟩
  apply codeAny_call_function room.r.depth (kin _ _ lk) rfl S.co S.gen rfl (PySem.W.codeRec_of kin hcd) (bd _ _ _ _ _)
  apply wpAny_newFunctionEnv_cells S.kind kinds
  intro env he s1 x
  subst he
  have lim : s.heap.NoLimit := e0.mod.nolimit.keeps fun b o e => (e0.bs b o e).1
  refine ⟨lim.keeps x.toInCall.keep, codeAny_func ?_⟩
  obtain ⟨t, ht0, want'⟩ := body A outer s H vs Q E (room.deeper _) want
  have ht := ht0.nox
  have I := inv_start (CX := CX0) (P := P) (w := w) (K := K) (mg := mg) (base := base) (E := E) S room.r.hd e0 count rel x
  refine wpAny_mono (ht.run [] s1 (start N vs) H _ I want') ?_ fun e s' hs => hs
  intro fl s' hs
  cases fl with
  | ret u =>
    obtain ⟨v, σ', H', J, rv, q⟩ := hs
    exact ⟨v, H', J.os, J.bare, J.base, J.hok, rv, q⟩
  | next =>
    obtain ⟨σ', H', J, q⟩ := hs
    exact ⟨V.non, H', J.os, J.bare, J.base, J.hok, rfl, q⟩
  | brk => exact hs.elim fun _ z => z.elim fun _ z => z.2.elim
  | cont => exact hs.elim fun _ z => z.elim fun _ z => z.2.elim
end
end U

/-! smallest_path -/
namespace Law
open PySem PySem.Spec PyProof.Rows L2 U LamX
local macro_rules | `(tactic| wtm_at "rd1") => `(tactic| first
  | with_reducible refine rd_seq ?_
  | ((with_reducible refine rd_var (v := ?vv) ?hv ?_); (case hv => exact rfl))
  | with_reducible refine rd_c ?_
  | with_reducible refine rd_cons ?_
  | with_reducible refine rd_nil ?_
  | with_reducible refine rd_op ?_
  | with_reducible refine rd_asg ?_
  | with_reducible refine rd_name ?_
  | with_reducible refine rd_c1 ?_
  | with_reducible refine rd_cb ?_
  | with_reducible refine rd_test ?_
  | with_reducible refine rd_B ?_
  | with_reducible refine rd_bl ?_
  | with_reducible refine rd_if ?_
  | with_reducible refine rd_ret ?_
  | with_reducible refine rd_drop ?_
  | with_reducible refine rd_next ?_
  | with_reducible refine rd_addI ?_
  | with_reducible refine rd_ltI ?_
  | with_reducible refine rd_eqI ?_
  | with_reducible refine rd_neI ?_
  | with_reducible refine rd_eqS ?_
  | with_reducible refine rd_neS ?_
  | with_reducible refine rd_gtI ?_
  | with_reducible refine rd_geI ?_
  | with_reducible refine rd_leI ?_
  | with_reducible refine rd_ltS ?_
  | with_reducible refine rd_subI ?_
  | ((with_reducible refine rd_modI ?hc ?_); (case hc => first | decide | omega))
  | ((with_reducible refine rd_mulI ?hc ?_); (case hc => first | exact mul_bI | exact .inl (.inr (by decide)) | exact .inl (.inl (by decide)) | exact .inl (.inr (by omega)) | exact .inl (.inl (by omega))))
  | ((with_reducible refine rd_divI ?hc ?_); (case hc => first | decide | omega))
  | ((with_reducible refine rd_powI ?hc ?_); (case hc => exact ⟨by decide, by decide, by decide⟩))
  | with_reducible refine rd_lst ?_
  | with_reducible refine rd_tup ?_
  | ((with_reducible refine rd_sz ?hv ?_); (case hv => exact rfl))
  | with_reducible refine rd_and ?_
  | with_reducible refine rd_or ?_
  | with_reducible refine rd_not ?_
  | with_reducible refine rd_andV ?_
  | with_reducible refine rd_orV ?_
  | with_reducible refine rd_notV ?_
  | with_reducible refine rd_ifE ?_
  | with_reducible refine rd_T ?_
  | with_reducible refine rd_F ?_
  | with_reducible refine rd_chain ?_
  | with_reducible refine rd_is ?_
  | with_reducible refine rd_isNot ?_
  | with_reducible refine rd_absI ?_
  | with_reducible refine rd_maxI ?_
  | with_reducible refine rd_minI ?_
  | with_reducible refine rd_intI ?_
  | with_reducible refine rd_intB ?_
  | with_reducible refine rd_sub ?_
  | with_reducible refine rd_sl ?_
  | with_reducible refine rd_noPart ?_
  | with_reducible refine rd_part ?_
  | with_reducible refine rd_exI ?_
  | with_reducible refine rd_bm ?_
  | with_reducible refine rd_bm0 ?_
  | with_reducible refine rd_un ?_
  | with_reducible refine rd_neg ?_
  | with_reducible refine rd_c2 ?_
  | with_reducible refine rd_retN ?_
  | with_reducible refine rd_break ?_
  | with_reducible refine rd_cont ?_
  | with_reducible refine rd_for ?_
  | with_reducible refine rd_rng1 ?_
  | with_reducible refine rd_rng2 ?_
  | with_reducible refine rd_iList ?_
  | with_reducible refine rd_iTup ?_
  | with_reducible refine rd_iEnum ?_
  | ((with_reducible refine rd_forR ?h0 ?h1 ?_); (case h0 => omega); (case h1 => omega))
  | with_reducible refine rd_lc ?_
  | with_reducible refine rd_gcons ?_
  | with_reducible refine rd_gnil ?_
  | with_reducible refine rd_dget ?_
  | with_reducible refine rd_dput ?_
  | with_reducible refine rd_dnew ?_
  | with_reducible refine rd_dc ?_
  | with_reducible refine rd_iItems ?_
  | with_reducible refine rd_iKeys ?_
  | with_reducible refine rd_din ?_
  | with_reducible refine rd_lc2 ?_
  | with_reducible refine rd_cd ?_
  | with_reducible refine rd_par ?_
  | with_reducible refine rd_two ?_
  | with_reducible refine rd_reprB ?_
  | with_reducible refine rd_ck ?_
  | ((with_reducible refine rd_len ?hl ?_); (case hl => exact rfl))
  | with_reducible refine rd_nT ?_
  | with_reducible refine rd_nF ?_
  | with_reducible refine rd_dnin ?_
  | with_reducible refine rd_isB ?_
  | with_reducible refine rd_isNotB ?_
  | with_reducible refine rd_daug ?_
  | with_reducible refine rd_yesT ?_
  | ((with_reducible refine rd_wp ?hw ?_); (case hw => exact rfl)))
local macro_rules | `(tactic| wtm_at "rd") => `(tactic| repeat wtm_at "rd1")

theorem rd_minK {T : List (Addr × Str)} {te : TA} {σ : L2.St} {H : Hp} {Q : VK} (h : te σ H fun vs H1 => Tabs T H1 ∧ ∃ (l : Addr) (items : List (Addr × List Str)), vs = [.ref l] ∧ H1 l = some (.lst (items.map fun i => V.ref i.1)) ∧ (∀ i ∈ items, H1 i.1 = some (.lst (i.2.map V.str))) ∧
  ∀ H2, ExtN H1 H2 → Tabs T H2 → (items = [] → Q .non H2) ∧ ∀ i ∈ items, Q (.ref i.1) H2) : tMinK T te σ H Q := h
def spSmall (T : List (Addr × Str)) : Sp := fun vs H Q _ => ∃ (l : Addr) (items : List (Addr × List Str)), vs = [.ref l] ∧ Tabs T H ∧ H l = some (.lst (items.map fun i => V.ref i.1)) ∧ (∀ i ∈ items, H i.1 = some (.lst (i.2.map V.str))) ∧
  ∀ (v : V) (H' : Hp), ExtN H H' → Tabs T H' → (v = .non ↔ items = []) → (∀ a, v = .ref a → ∃ i ∈ items, a = i.1) → Q v H'
/-- the lambda's text -/
def lamScope : Scope := { kind := .function, names := [("path", .local), ("len", .globalImplicit)], isGenerator := false, isCoroutine := false }
abbrev lamBody : Expr := .Tuple [.Call (.Name "len" ⟨48, 40, 48, 43⟩) [.Name "path" ⟨48, 44, 48, 48⟩] [] ⟨48, 40, 48, 49⟩, .Name "path" ⟨48, 51, 48, 55⟩] 0 ⟨48, 39, 48, 56⟩
theorem lamS : FnScope ["path"] ["path"] lamScope := ⟨rfl, rfl, rfl, by decide +kernel, rfl, by decide +kernel, by decide +kernel⟩
section
variable {P : Program} {w : World} {K : PySem.W.Frag} {mg : Str → Option Value} {base : Heap}
theorem ok_small {f : Addr} {fd : FuncData} {c Pt : Addr} {T : List (Addr × Str)} (F : FunC K "smallest_path" "smallest_path" s_smallest_path f fd c) (hmin : mg "min" = none) (hlen : mg "len" = none) (TB : TabB base mg c Pt) (hT : (Pt, ("smallest_path" : Str) ++ ".<locals>." ++ "<lambda>") ∈ T) (hu : ∀ y ∈ T, y.1 = Pt → y.2 = ("smallest_path" : Str) ++ ".<locals>." ++ "<lambda>") : FnG P w K mg base CX0 3 f fd ["paths"] (spSmall T) := by
  refine fnG0C F sc_smallest_path (fun vs H Q E h => ?_) (fun A outer s H vs Q E hr h => ?_)
  · obtain ⟨l, items, rfl, _⟩ := h
    rfl
  · obtain ⟨l, items, rfl, hTab, hl, hit, q⟩ := h
    have nd := sc_smallest_path.nd
    have nd1 : ([("path" : Str)] : List Str).Nodup := by decide
    have body : ∀ (A : Around) (outer : List Env) (s : Shared) (H : Hp) (E : XK) (f c' : Addr), Room 0 (A.deeper (envOfC (("smallest_path" : Str) ++ ".<locals>." ++ "<lambda>") lamScope s.heap.objs.size f (.ref c'))) →
        PE (cxOf (fun _ _ _ _ _ _ => False) P w K mg base ["path"] (("smallest_path" : Str) ++ ".<locals>." ++ "<lambda>") lamScope f (.ref c') A outer s H E) lamBody (tTup (tCons (tCB (rLenU K) (tCons (tVar 0) tNil)) (tCons (tVar 0) tNil))) := fun A outer s H E f c' hr2 => by
      have nd := nd1
      exact pe_tup (pa_cons (pe_callB (kLen K rfl) (by rfl) hlen bb_len (pa_cons (pv 0) pa_nil)) (pa_cons (pv 0) pa_nil))
    refine ⟨_, pss_one (ps_ret (pe_minK (T := T) (c := c) (P := Pt) (k := 0) (N := ["path"]) (p := "path") rfl rfl hmin (pa_cons (pv 0) pa_nil) TB rfl hT hu rfl (fun y hy e => ?_) rfl (hr.r.mono (by decide)) lamS (fun s u pm ctv c' => .of_eq rfl) body ?_)), ?_⟩
    · have : ∀ y ∈ lamScope.names, y.2 ≠ .free := by decide
      exact absurd e (this y hy)
    · intro a names o H' Q' ha hq
      wtm_at "rd"
      refine rd_lenL (K := K) (xs := names.map V.str) (.inl (.inr ⟨o, ha⟩)) ?_
      rw [List.length_map]
      wtm_at "rd"
      intro t ft
      exact hq t _ ft upd_same
    · wtm_at "rd"
      refine rd_minK ?_
      wtm_at "rd"
      refine ⟨hTab, l, items, rfl, hl, hit, fun H2 e2 t2 => ⟨fun e => ?_, fun i hi => ?_⟩⟩
      · exact q .non H2 e2 t2 ⟨fun _ => e, fun _ => rfl⟩ (fun a z => nomatch z)
      · exact q (.ref i.1) H2 e2 t2 ⟨(fun z => nomatch z), (fun z => by rw [z] at hi; cases hi)⟩ fun a z => ⟨i, hi, by cases z; rfl⟩
end
end Law

/-! cycle_at, cycle_nodes, find_anchors -/
namespace Law
open PySem PySem.Spec PyProof.Rows L2 U LamX
local macro_rules | `(tactic| wtm_at "rd1") => `(tactic| first
  | with_reducible refine rd_seq ?_
  | ((with_reducible refine rd_var (v := ?vv) ?hv ?_); (case hv => exact rfl))
  | with_reducible refine rd_c ?_
  | with_reducible refine rd_cons ?_
  | with_reducible refine rd_nil ?_
  | with_reducible refine rd_op ?_
  | with_reducible refine rd_asg ?_
  | with_reducible refine rd_name ?_
  | with_reducible refine rd_c1 ?_
  | with_reducible refine rd_cb ?_
  | with_reducible refine rd_test ?_
  | with_reducible refine rd_B ?_
  | with_reducible refine rd_bl ?_
  | with_reducible refine rd_if ?_
  | with_reducible refine rd_ret ?_
  | with_reducible refine rd_drop ?_
  | with_reducible refine rd_next ?_
  | with_reducible refine rd_addI ?_
  | with_reducible refine rd_ltI ?_
  | with_reducible refine rd_eqI ?_
  | with_reducible refine rd_neI ?_
  | with_reducible refine rd_eqS ?_
  | with_reducible refine rd_neS ?_
  | with_reducible refine rd_gtI ?_
  | with_reducible refine rd_geI ?_
  | with_reducible refine rd_leI ?_
  | with_reducible refine rd_ltS ?_
  | with_reducible refine rd_subI ?_
  | ((with_reducible refine rd_modI ?hc ?_); (case hc => first | decide | omega))
  | ((with_reducible refine rd_mulI ?hc ?_); (case hc => first | exact mul_bI | exact .inl (.inr (by decide)) | exact .inl (.inl (by decide)) | exact .inl (.inr (by omega)) | exact .inl (.inl (by omega))))
  | ((with_reducible refine rd_divI ?hc ?_); (case hc => first | decide | omega))
  | ((with_reducible refine rd_powI ?hc ?_); (case hc => exact ⟨by decide, by decide, by decide⟩))
  | with_reducible refine rd_lst ?_
  | with_reducible refine rd_tup ?_
  | ((with_reducible refine rd_sz ?hv ?_); (case hv => exact rfl))
  | with_reducible refine rd_and ?_
  | with_reducible refine rd_or ?_
  | with_reducible refine rd_not ?_
  | with_reducible refine rd_andV ?_
  | with_reducible refine rd_orV ?_
  | with_reducible refine rd_notV ?_
  | with_reducible refine rd_ifE ?_
  | with_reducible refine rd_T ?_
  | with_reducible refine rd_F ?_
  | with_reducible refine rd_chain ?_
  | with_reducible refine rd_is ?_
  | with_reducible refine rd_isNot ?_
  | with_reducible refine rd_absI ?_
  | with_reducible refine rd_maxI ?_
  | with_reducible refine rd_minI ?_
  | with_reducible refine rd_intI ?_
  | with_reducible refine rd_intB ?_
  | with_reducible refine rd_sub ?_
  | with_reducible refine rd_sl ?_
  | with_reducible refine rd_noPart ?_
  | with_reducible refine rd_part ?_
  | with_reducible refine rd_exI ?_
  | with_reducible refine rd_bm ?_
  | with_reducible refine rd_bm0 ?_
  | with_reducible refine rd_un ?_
  | with_reducible refine rd_neg ?_
  | with_reducible refine rd_c2 ?_
  | with_reducible refine rd_retN ?_
  | with_reducible refine rd_break ?_
  | with_reducible refine rd_cont ?_
  | with_reducible refine rd_for ?_
  | with_reducible refine rd_rng1 ?_
  | with_reducible refine rd_rng2 ?_
  | with_reducible refine rd_iList ?_
  | with_reducible refine rd_iTup ?_
  | with_reducible refine rd_iEnum ?_
  | ((with_reducible refine rd_forR ?h0 ?h1 ?_); (case h0 => omega); (case h1 => omega))
  | with_reducible refine rd_lc ?_
  | with_reducible refine rd_gcons ?_
  | with_reducible refine rd_gnil ?_
  | with_reducible refine rd_dget ?_
  | with_reducible refine rd_dput ?_
  | with_reducible refine rd_dnew ?_
  | with_reducible refine rd_dc ?_
  | with_reducible refine rd_iItems ?_
  | with_reducible refine rd_iKeys ?_
  | with_reducible refine rd_din ?_
  | with_reducible refine rd_lc2 ?_
  | with_reducible refine rd_cd ?_
  | with_reducible refine rd_par ?_
  | with_reducible refine rd_two ?_
  | with_reducible refine rd_reprB ?_
  | with_reducible refine rd_ck ?_
  | ((with_reducible refine rd_len ?hl ?_); (case hl => exact rfl))
  | with_reducible refine rd_nT ?_
  | with_reducible refine rd_nF ?_
  | with_reducible refine rd_dnin ?_
  | with_reducible refine rd_isB ?_
  | with_reducible refine rd_isNotB ?_
  | with_reducible refine rd_daug ?_
  | with_reducible refine rd_yesT ?_
  | ((with_reducible refine rd_wp ?hw ?_); (case hw => exact rfl)))
local macro_rules | `(tactic| wtm_at "rd") => `(tactic| repeat wtm_at "rd1")

theorem ExtN.li {H H' : Hp} (e : ExtN H H') {a : Addr} {xs : List V} (h : H a = some (.lst xs)) : H' a = some (.lst xs) := e _ _ h fun _ z => nomatch z
theorem ExtN.tu {H H' : Hp} (e : ExtN H H') {a : Addr} {xs : List V} (h : H a = some (.tup xs)) : H' a = some (.tup xs) := e _ _ h fun _ z => nomatch z
theorem ExtN.dk {H H' : Hp} (e : ExtN H H') {a : Addr} {xs : List (Key × V)} (h : H a = some (.dK xs)) : H' a = some (.dK xs) := e _ _ h fun _ z => nomatch z
theorem GSt.ext {H H' : Hp} {g n e st : Addr} {ns ord : List Str} {es : List (Addr × Str × Str)} {f : Str → Int} (h : GSt H g n e st ns ord es f) (x : ExtN H H') : GSt H' g n e st ns ord es f :=
  ⟨⟨ExtN.tu x h.gr.top, ExtN.tu x h.gr.nodes, ExtN.tu x h.gr.edges, fun y hy => ExtN.tu x (h.gr.pairs y hy)⟩, h.ok, h.pm, h.l2, h.l3, ExtN.dk x h.st, h.tri, h.pro⟩
def spCycAt (T : List (Addr × Str)) : Sp := fun vs H Q _ => ∃ (g n e st : Addr) (x : Str) (ns ord : List Str) (es : List (Addr × Str × Str)) (f : Str → Int), vs = [.ref g, .ref st, .str x] ∧ GSt H g n e st ns ord es f ∧ x ∈ ns ∧ Tabs T H ∧
  ∀ (v : V) (H' : Hp), ExtN H H' → Tabs T H' → (v = .non ↔ ¬ Cyc (es.map (·.2)) f x) → Q v H'
section
variable {P : Program} {w : World} {K : PySem.W.Frag} {mg : Str → Option Value} {base : Heap}
structure Y6c (P : Program) (w : World) (K : PySem.W.Frag) (mg : Str → Option Value) (base : Heap) (T : List (Addr × Str)) : Prop where
  adjacency : Cal P w K mg base CX0 1 "adjacency" spAdj
  slope : Cal P w K mg base CX0 1 "slope" spSlope
  sloped_paths : Cal P w K mg base CX0 2 "sloped_paths" spSloped
  smallest_path : Cal P w K mg base CX0 3 "smallest_path" (spSmall T)
  UP : ∃ u, mg "UP" = some u ∧ RelV (.int 1) u
theorem ok_cycle_at {f : Addr} {fd : FuncData} {T : List (Addr × Str)} (F : Fun K "cycle_at" "cycle_at" s_cycle_at f fd) (B : Bt mg) (C : Y6c P w K mg base T) : FnG P w K mg base CX0 4 f fd ["graph", "state", "node"] (spCycAt T) := by
  refine fnG0 F sc_cycle_at (fun vs H Q E h => ?_) (fun cdv A outer s H vs Q E hr h => ?_)
  · obtain ⟨g, n, e, st, x, ns, ord, es, f, rfl, _⟩ := h
    rfl
  · obtain ⟨g, n, e, st, x, ns, ord, es, f, rfl, gs, hx, tabs, q⟩ := h
    have nd := sc_cycle_at.nd
    have hu := hr.u1
    refine ⟨_, (pss_cons (ps_set (i := 3) nd rfl (by first | exact Or.inl rfl | exact Or.inr rfl) (pe_c C.sloped_paths hr (by decide) rfl (pa_cons (pv 0) (pa_cons (pv 1) (pa_cons (pv 2) (pa_cons (pe_gl rfl C.UP) pa_nil))))))
  (pss_cons (ps_setLc (i := 4) (own := [("one", 5)]) rfl nd rfl rfl (sw_true rfl rfl rfl (by decide +kernel)) (ki_list K rfl (pe_dget hu (pe_c C.adjacency hr (by decide) rfl (pa_cons (pv 0) pa_nil)) (pv 2) (fun _ _ => rfl))) (blkOk_by (own := [("one", 5)]) (N := nN_cycle_at) (sc := defScope s_cycle_at) (by decide +kernel)) (fun _ _ _ _ _ => (pg_name (i := 5) nd rfl (by first | exact Or.inl rfl | exact Or.inr rfl))) (fun _ _ _ _ _ => (pts_one (PW.pt (pw_and (pt_cmp (pc_din hu (pv 5) (pv 3))) (pw_and1 (pt_cmpR (kEq K rfl hr.u64) (pe_c C.slope hr (by decide) rfl (pa_cons (pv 1) (pa_cons (pv 5) (pa_cons (pv 2) pa_nil)))) (pe_gl rfl C.UP) (nomark _))))))) (fun _ _ _ _ _ => (pv 5)))
  (pss_one (ps_ret (pe_c C.smallest_path hr (by decide) rfl (pa_cons (pe_lc (own := [("one", 5)]) rfl nd (ki_list K rfl (pv 4)) (blkOk_by (own := [("one", 5)]) (N := nN_cycle_at) (sc := defScope s_cycle_at) (by decide +kernel)) (fun _ _ _ _ _ => (pg_name (i := 5) nd rfl (by first | exact Or.inl rfl | exact Or.inr rfl))) (fun _ _ _ _ _ => pts_nil) (fun _ _ _ _ _ => (pe_op (kAdd K rfl) (pe_dget hu (pv 3) (pv 5) (fun _ _ => rfl)) (pe_lst (pa_cons (pv 2) pa_nil))))) pa_nil)))))), ?_⟩
    wtm_at "rd"
    refine ⟨g, n, e, st, x, 1, ns, ord, es, f, rfl, gs, hx, fun d A H1 s1 fd fA pa => ?_⟩
    have gs1 := gs.same s1
    wtm_at "rd"
    refine ⟨g, n, e, ns, es, rfl, gs1.grs, fun ad Ad H2 s2 _ had => ?_⟩
    have gs2 := gs1.same s2
    have pa2 := pa.same s2
    wtm_at "rd"
    refine rd_dat (.inl had.di) (kvG_val hx) rfl ?_
    have hos := had.at gs.ok hx
    have cl : ∀ a ∈ ns, ∀ b ∈ nbS (es.map (·.2)) a, b ∈ ns := fun a _ b hb => nbS_in gs.ok hb
    have l1 : ns.length ≤ 1000 := by have := gs.l2; omega
    have kin : ∀ y, y ∈ keysF (slF (es.map (·.2)) f 1 x) ↔ Rr (es.map (·.2)) f 1 x y := fun y => ⟨fun h => stF_reach h, fun h => stF_all (i := 1000) (by have := stF_len (ok := slOk f 1) cl hx 1000; omega) h⟩
    have plen : ∀ c ∈ slF (es.map (·.2)) f 1 x, c.2.length ≤ 1001 := fun c hc => stF_plen 1000 c hc
    have osa : ∀ o, o ∈ nbS (es.map (·.2)) x ↔ Adj (es.map (·.2)) x o := fun o => nbS_mem
    have osl : (nbS (es.map (·.2)) x).length ≤ 2000 := by
      unfold nbS
      rw [(sortS_perm _).length_eq]
      have := nbrF_len (x := x) (es := es.map (·.2))
      rw [List.length_map] at this
      have := gs.l3
      omega
    generalize nbS (es.map (·.2)) x = os at *
    generalize slF (es.map (·.2)) f 1 x = kp at *
    have s02 := s1.trans s2
    refine rd_forL (SqL.of hos) ?_
    intro D fD
    refine lcL (K := K) (xs := os.map V.str) (fun j H' => Same H2 H' ∧ H' D = some (.lst (((os.take j).filter fun o => decide (o ∈ keysF kp) && decide (slp f o x = 1)).map V.str))) ⟨Same.new fD, upd_same⟩ ?_ ?_ ?_
    · rintro j H' hj ⟨sb, _⟩
      exact SqL.of (sb _ _ hos)
    · rintro j y H' hy ⟨sb, hD⟩
      obtain ⟨hj, rfl⟩ := map_at hy
      have tk := take_snoc hj
      have hom := (adj_in gs.eok ((osa _).mp (List.getElem_mem hj))).2.1
      have lt : ((os.take j).filter fun o => decide (o ∈ keysF kp) && decide (slp f o x = 1)).length ≤ 2000 := Nat.le_trans (List.length_filter_le _ _) (by rw [List.length_take]; omega)
      rw [tk, List.filter_append, List.map_append]
      generalize os[j] = o at *
      wtm_at "rd"
      refine rd_din1 (.inl (sb _ _ pa2.di)) (k := .inr o) rfl ?_
      by_cases mo : o ∈ keysF kp
      · rw [kvG_val mo]
        refine rd_bl ?_
        refine rd_T ?_
        wtm_at "rd"
        refine ⟨st, o, x, ord, f, rfl, .inl (sb _ _ gs2.st), gs.inO _ hom, gs.inO _ hx, ?_⟩
        wtm_at "rd"
        refine rd_split (fun c1 => ?_) (fun c1 => ?_)
        · wtm_at "rd"
          refine rd_acc hD (by rw [List.length_map]; omega) ?_
          refine ⟨same_put sb fD, ?_⟩
          rw [upd_same, List.filter_cons, if_pos (by rw [decide_eq_true mo, decide_eq_true c1]; rfl)]
          rfl
        · refine ⟨sb, ?_⟩
          rw [List.filter_cons, if_neg (by rw [decide_eq_false c1, Bool.and_false]; exact Bool.false_ne_true), List.filter_nil, List.map_nil, List.append_nil]
          exact hD
      · rw [kvG_none mo]
        wtm_at "rd"
        refine ⟨sb, ?_⟩
        rw [List.filter_cons, if_neg (by rw [decide_eq_false mo]; exact Bool.false_ne_true), List.filter_nil, List.map_nil, List.append_nil]
        exact hD
    rintro H3 ⟨s3, hD3⟩
    rw [List.length_map, List.take_length] at hD3
    have fD0 := new_of_same s02 fD
    have enm : ∀ o, o ∈ (os.filter fun o => decide (o ∈ keysF kp) && decide (slp f o x = 1)) ↔ Adj (es.map (·.2)) o x ∧ slp f o x = 1 ∧ Rr (es.map (·.2)) f 1 x o := fun o => by
      rw [List.mem_filter, Bool.and_eq_true, decide_eq_true_iff, decide_eq_true_iff, kin, osa]
      exact ⟨fun ⟨a, b, c⟩ => ⟨a.symm, c, b⟩, fun ⟨a, b, c⟩ => ⟨a.symm, c, b⟩⟩
    have enl : (os.filter fun o => decide (o ∈ keysF kp) && decide (slp f o x = 1)).length ≤ 2000 := Nat.le_trans (List.length_filter_le _ _) osl
    generalize (os.filter fun o => decide (o ∈ keysF kp) && decide (slp f o x = 1)) = en at *
    have s03 := s02.trans s3
    have pa3 := pa2.same s3
    wtm_at "rd"
    refine rd_forL (SqL.of hD3) ?_
    intro D2 fD2
    refine lcL (K := K) (xs := en.map V.str) (fun j H' => ∃ items : List (Addr × List Str), Same H3 H' ∧ H' D2 = some (.lst (items.map fun i => V.ref i.1)) ∧ (∀ i ∈ items, H' i.1 = some (.lst (i.2.map V.str)) ∧ i.1 ≠ D2) ∧ items.length = j) ⟨[], Same.new fD2, upd_same, (fun i h => nomatch h), rfl⟩ ?_ ?_ ?_
    · rintro j H' hj ⟨items, sb, _⟩
      exact SqL.of (sb _ _ hD3)
    · rintro j y H' hy ⟨items, sb, hD, hit, il⟩
      obtain ⟨hj, rfl⟩ := map_at hy
      have m := (kin _).mpr ((enm _).mp (List.getElem_mem hj)).2.2
      generalize en[j] = o at *
      obtain ⟨pth, h1, h2⟩ := lookup_some m
      have hp := sb _ _ (pa3.li _ h2)
      have pl := plen _ h2
      wtm_at "rd"
      refine rd_dat (.inl (sb _ _ pa3.di)) (kvG_val m) rfl ?_
      wtm_at "rd"
      intro t1 ft1
      refine rd_catL (at_upd (ne_of_none hp ft1) hp) upd_same (by rw [List.length_map]; simp only [List.length_singleton] at *; omega) ?_
      intro t2 ft2
      have sT := same_add (o := .lst (pth.map V.str ++ [.str x])) (same_add (o := .lst [.str x]) sb ft1) ft2
      have hDT := at_upd (o := .lst (pth.map V.str ++ [.str x])) (ne_of_none (at_upd (o := .lst [.str x]) (ne_of_none hD ft1) hD) ft2) (at_upd (o := .lst [.str x]) (ne_of_none hD ft1) hD)
      have hitT : ∀ i ∈ items, (upd (upd H' t1 (.lst [.str x])) t2 (.lst (pth.map V.str ++ [.str x]))) i.1 = some (.lst (i.2.map V.str)) ∧ i.1 ≠ D2 := fun i hi => by
        have a := at_upd (o := .lst [.str x]) (ne_of_none (hit i hi).1 ft1) (hit i hi).1
        exact ⟨at_upd (ne_of_none a ft2) a, (hit i hi).2⟩
      have nt2 : t2 ≠ D2 := Ne.symm (ne_of_none (at_upd (o := .lst [.str x]) (ne_of_none hD ft1) hD) ft2)
      have ht2 : (upd (upd H' t1 (.lst [.str x])) t2 (.lst (pth.map V.str ++ [.str x]))) t2 = some (.lst ((pth ++ [x]).map V.str)) := by
        rw [upd_same, List.map_append]
        rfl
      generalize upd (upd H' t1 (.lst [.str x])) t2 (.lst (pth.map V.str ++ [.str x])) = HT at sT hDT hitT ht2
      refine rd_acc hDT (by rw [List.length_map]; omega) ?_
      refine ⟨items ++ [(t2, pth ++ [x])], same_put sT fD2, by rw [upd_same, List.map_append]; rfl, fun i hi => ?_, by rw [List.length_append, il]; rfl⟩
      rcases List.mem_append.mp hi with hi | hi
      · exact ⟨at_upd (hitT i hi).2 (hitT i hi).1, (hitT i hi).2⟩
      · rw [List.mem_singleton] at hi
        subst hi
        exact ⟨at_upd nt2 ht2, nt2⟩
    rintro H4 ⟨items, s4, hD4, hit4, il⟩
    rw [List.length_map] at il
    have s04 := s03.trans s4
    refine ⟨D2, items, rfl, tabs.ext fun b o h => s04 b o h, hD4, fun i hi => (hit4 i hi).1, fun v H5 e5 t5 i1 _ => q v H5 ((ExtN.of fun b o h => s04 b o h).trans e5) t5 ?_⟩
    rw [i1]
    constructor
    · rintro rfl ⟨y, y1, y2, y3⟩
      have := (enm y).mpr ⟨y1, y2, y3⟩
      cases en with
      | nil => cases this
      | cons z r => cases il
    · intro nc
      cases en with
      | nil => exact List.eq_nil_of_length_eq_zero il
      | cons z r => exact (nc ⟨z, (enm z).mp List.mem_cons_self⟩).elim
end
end Law

/-! cycle_nodes, find_anchors -/
namespace Law
open PySem PySem.Spec PyProof.Rows L2 U LamX
local macro_rules | `(tactic| wtm_at "rd1") => `(tactic| first
  | with_reducible refine rd_seq ?_
  | ((with_reducible refine rd_var (v := ?vv) ?hv ?_); (case hv => exact rfl))
  | with_reducible refine rd_c ?_
  | with_reducible refine rd_cons ?_
  | with_reducible refine rd_nil ?_
  | with_reducible refine rd_op ?_
  | with_reducible refine rd_asg ?_
  | with_reducible refine rd_name ?_
  | with_reducible refine rd_c1 ?_
  | with_reducible refine rd_cb ?_
  | with_reducible refine rd_test ?_
  | with_reducible refine rd_B ?_
  | with_reducible refine rd_bl ?_
  | with_reducible refine rd_if ?_
  | with_reducible refine rd_ret ?_
  | with_reducible refine rd_drop ?_
  | with_reducible refine rd_next ?_
  | with_reducible refine rd_addI ?_
  | with_reducible refine rd_ltI ?_
  | with_reducible refine rd_eqI ?_
  | with_reducible refine rd_neI ?_
  | with_reducible refine rd_eqS ?_
  | with_reducible refine rd_neS ?_
  | with_reducible refine rd_gtI ?_
  | with_reducible refine rd_geI ?_
  | with_reducible refine rd_leI ?_
  | with_reducible refine rd_ltS ?_
  | with_reducible refine rd_subI ?_
  | ((with_reducible refine rd_modI ?hc ?_); (case hc => first | decide | omega))
  | ((with_reducible refine rd_mulI ?hc ?_); (case hc => first | exact mul_bI | exact .inl (.inr (by decide)) | exact .inl (.inl (by decide)) | exact .inl (.inr (by omega)) | exact .inl (.inl (by omega))))
  | ((with_reducible refine rd_divI ?hc ?_); (case hc => first | decide | omega))
  | ((with_reducible refine rd_powI ?hc ?_); (case hc => exact ⟨by decide, by decide, by decide⟩))
  | with_reducible refine rd_lst ?_
  | with_reducible refine rd_tup ?_
  | ((with_reducible refine rd_sz ?hv ?_); (case hv => exact rfl))
  | with_reducible refine rd_and ?_
  | with_reducible refine rd_or ?_
  | with_reducible refine rd_not ?_
  | with_reducible refine rd_andV ?_
  | with_reducible refine rd_orV ?_
  | with_reducible refine rd_notV ?_
  | with_reducible refine rd_ifE ?_
  | with_reducible refine rd_T ?_
  | with_reducible refine rd_F ?_
  | with_reducible refine rd_chain ?_
  | with_reducible refine rd_is ?_
  | with_reducible refine rd_isNot ?_
  | with_reducible refine rd_absI ?_
  | with_reducible refine rd_maxI ?_
  | with_reducible refine rd_minI ?_
  | with_reducible refine rd_intI ?_
  | with_reducible refine rd_intB ?_
  | with_reducible refine rd_sub ?_
  | with_reducible refine rd_sl ?_
  | with_reducible refine rd_noPart ?_
  | with_reducible refine rd_part ?_
  | with_reducible refine rd_exI ?_
  | with_reducible refine rd_bm ?_
  | with_reducible refine rd_bm0 ?_
  | with_reducible refine rd_un ?_
  | with_reducible refine rd_neg ?_
  | with_reducible refine rd_c2 ?_
  | with_reducible refine rd_retN ?_
  | with_reducible refine rd_break ?_
  | with_reducible refine rd_cont ?_
  | with_reducible refine rd_for ?_
  | with_reducible refine rd_rng1 ?_
  | with_reducible refine rd_rng2 ?_
  | with_reducible refine rd_iList ?_
  | with_reducible refine rd_iTup ?_
  | with_reducible refine rd_iEnum ?_
  | ((with_reducible refine rd_forR ?h0 ?h1 ?_); (case h0 => omega); (case h1 => omega))
  | with_reducible refine rd_lc ?_
  | with_reducible refine rd_gcons ?_
  | with_reducible refine rd_gnil ?_
  | with_reducible refine rd_dget ?_
  | with_reducible refine rd_dput ?_
  | with_reducible refine rd_dnew ?_
  | with_reducible refine rd_dc ?_
  | with_reducible refine rd_iItems ?_
  | with_reducible refine rd_iKeys ?_
  | with_reducible refine rd_din ?_
  | with_reducible refine rd_lc2 ?_
  | with_reducible refine rd_cd ?_
  | with_reducible refine rd_par ?_
  | with_reducible refine rd_two ?_
  | with_reducible refine rd_reprB ?_
  | with_reducible refine rd_ck ?_
  | ((with_reducible refine rd_len ?hl ?_); (case hl => exact rfl))
  | with_reducible refine rd_nT ?_
  | with_reducible refine rd_nF ?_
  | with_reducible refine rd_dnin ?_
  | with_reducible refine rd_isB ?_
  | with_reducible refine rd_isNotB ?_
  | with_reducible refine rd_daug ?_
  | with_reducible refine rd_yesT ?_
  | ((with_reducible refine rd_wp ?hw ?_); (case hw => exact rfl)))
local macro_rules | `(tactic| wtm_at "rd") => `(tactic| repeat wtm_at "rd1")

theorem ext_put {H H' : Hp} {D : Addr} {o : HO} (e : ExtN H H') (fD : H D = none) : ExtN H (upd H' D o) := fun b u h n => by
  rw [upd_ne (ne_of_none h fD)]
  exact e b u h n
theorem tabs_put {T : List (Addr × Str)} {H : Hp} {D : Addr} {xs ys : List V} (t : Tabs T H) (hD : H D = some (.lst xs)) : Tabs T (upd H D (.lst ys)) := fun p hp => by
  obtain ⟨ps, h1, h2, h3⟩ := t p hp
  refine ⟨ps, at_upd (ne_of h1 hD (by intro z; cases z)) h1, h2, fun pos cv hc => ?_⟩
  obtain ⟨c, e1, e2⟩ := h3 pos cv hc
  exact ⟨c, e1, at_upd (ne_of e2 hD (by intro z; unfold CodeO at z; cases z)) e2⟩
def spCycNodes (T : List (Addr × Str)) : Sp := fun vs H Q _ => ∃ (g n e st : Addr) (ns ord : List Str) (es : List (Addr × Str × Str)) (f : Str → Int), vs = [.ref g, .ref st] ∧ GSt H g n e st ns ord es f ∧ Tabs T H ∧
  ∀ (l : Addr) (ys : List Str) (H' : Hp), ExtN H H' → Tabs T H' → H l = none → H' l = some (.lst (ys.map V.str)) → (∀ y, y ∈ ys ↔ y ∈ ns ∧ Cyc (es.map (·.2)) f y) → Q (.ref l) H'
theorem sqT_ext {K : PySem.W.Frag} {H H' : Hp} {a : Addr} {xs : List V} (h : SqT K H a xs) (x : ExtN H H') : SqT K H' a xs := by
  rcases h with (h | ⟨o, h⟩) | h
  · exact .inl (.inl (ExtN.tu x h))
  · exact .inl (.inr ⟨o, x _ _ h fun _ z => nomatch z⟩)
  · exact .inr h
def spFindAnch (K : PySem.W.Frag) (T : List (Addr × Str)) : Sp := fun vs H Q _ => ∃ (g n e st ps : Addr) (ns ord pn : List Str) (es : List (Addr × Str × Str)) (f : Str → Int), vs = [.ref g, .ref st, .ref ps] ∧ GSt H g n e st ns ord es f ∧ SqT K H ps (pn.map V.str) ∧ Tabs T H ∧
  ∀ (l : Addr) (ys : List Str) (H' : Hp), ExtN H H' → Tabs T H' → (∀ b o, H b = some o → (∀ ps, o ≠ .tbl ps) → b ≠ l) → H' l = some (.lst (ys.map V.str)) → ys.length ≤ ns.length → (∀ y, y ∈ ys ↔ y ∈ ns ∧ (y ∈ pn ∨ Cyc (es.map (·.2)) f y)) → Q (.ref l) H'
section
variable {P : Program} {w : World} {K : PySem.W.Frag} {mg : Str → Option Value} {base : Heap}
structure Y7c (P : Program) (w : World) (K : PySem.W.Frag) (mg : Str → Option Value) (base : Heap) (T : List (Addr × Str)) : Prop where
  cycle_at : Cal P w K mg base CX0 4 "cycle_at" (spCycAt T)
theorem ok_cycle_nodes {f : Addr} {fd : FuncData} {T : List (Addr × Str)} (F : Fun K "cycle_nodes" "cycle_nodes" s_cycle_nodes f fd) (B : Bt mg) (C : Y7c P w K mg base T) : FnG P w K mg base CX0 5 f fd ["graph", "state"] (spCycNodes T) := by
  refine fnG0 F sc_cycle_nodes (fun vs H Q E h => ?_) (fun cdv A outer s H vs Q E hr h => ?_)
  · obtain ⟨g, n, e, st, ns, ord, es, f, rfl, _⟩ := h
    rfl
  · obtain ⟨g, n, e, st, ns, ord, es, f, rfl, gs, tabs, q⟩ := h
    have nd := sc_cycle_nodes.nd
    have hu := hr.u1
    refine ⟨_, (pss_one (ps_ret (pe_lc (own := [("node", 2)]) rfl nd (ki_tup K rfl (pe_ix (kIx K rfl) (pv 0) pe_int (fun _ _ => rfl))) (blkOk_by (own := [("node", 2)]) (N := nN_cycle_nodes) (sc := defScope s_cycle_nodes) (by decide +kernel)) (fun _ _ _ _ _ => (pg_name (i := 2) nd rfl (by first | exact Or.inl rfl | exact Or.inr rfl))) (fun _ _ _ _ _ => (pts_one (pt_cmpR uIsNot (pe_c C.cycle_at hr (by decide) rfl (pa_cons (pv 0) (pa_cons (pv 1) (pa_cons (pv 2) pa_nil)))) pe_non (nomark _)))) (fun _ _ _ _ _ => (pv 2))))), ?_⟩
    wtm_at "rd"
    refine rd_ixT (SqT.of gs.gr.top) (v := .ref n) rfl ?_
    refine rd_forT (SqT.of gs.gr.nodes) ?_
    intro D fD
    refine lcT (K := K) (xs := ns.map V.str) (fun j H' => ExtN H H' ∧ Tabs T H' ∧ ∃ ys : List Str, H' D = some (.lst (ys.map V.str)) ∧ ys.length ≤ j ∧ ∀ y, y ∈ ys ↔ y ∈ ns.take j ∧ Cyc (es.map (·.2)) f y) ⟨ExtN.of (Same.new fD), tabs.ext (Same.new fD), [], upd_same, Nat.le_refl _, fun y => by rw [List.take_zero]; exact ⟨(fun z => nomatch z), fun z => nomatch z.1⟩⟩ ?_ ?_ ?_
    · rintro j H' hj ⟨x, _⟩
      exact SqT.of (ExtN.tu x gs.gr.nodes)
    · rintro j y H' hy ⟨x, tb, ys, hD, yl, ym⟩
      obtain ⟨hj, rfl⟩ := map_at hy
      have tk := take_snoc hj
      have hxn := List.getElem_mem hj
      rw [tk]
      generalize ns[j] = a at *
      have yl2 : ys.length ≤ 1000 := by have := gs.l2; omega
      wtm_at "rd"
      refine ⟨g, n, e, st, a, ns, ord, es, f, rfl, gs.ext x, hxn, tb, fun v H2 x2 tb2 hv => ?_⟩
      have hD2 := ExtN.li x2 hD
      have x02 := x.trans x2
      wtm_at "rd"
      try refine rd_isNot ?_
      wtm_at "rd"
      refine rd_nsplit (fun c1 => ?_) (fun c1 => ?_)
      · have cy : Cyc (es.map (·.2)) f a := Classical.byContradiction fun z => c1 (hv.mpr z)
        wtm_at "rd"
        refine rd_acc hD2 (by rw [List.length_map]; omega) ?_
        refine ⟨ext_put x02 fD, tabs_put tb2 hD2, ys ++ [a], by rw [upd_same, List.map_append]; rfl, by rw [List.length_append, List.length_singleton]; omega, fun y => ?_⟩
        rw [List.mem_append, List.mem_append, List.mem_singleton, ym]
        constructor
        · rintro (⟨h1, h2⟩ | rfl)
          · exact ⟨.inl h1, h2⟩
          · exact ⟨.inr rfl, cy⟩
        · rintro ⟨h1 | h1, h2⟩
          · exact .inl ⟨h1, h2⟩
          · exact .inr h1
      · have nc := hv.mp c1
        refine ⟨x02, tb2, ys, hD2, by omega, fun y => ?_⟩
        rw [List.mem_append, List.mem_singleton, ym]
        constructor
        · rintro ⟨h1, h2⟩
          exact ⟨.inl h1, h2⟩
        · rintro ⟨h1 | rfl, h2⟩
          · exact ⟨h1, h2⟩
          · exact (nc h2).elim
    · rintro H' ⟨x, tb, ys, hD, yl, ym⟩
      rw [List.length_map, List.take_length] at ym
      exact q D ys H' x tb fD hD ym
structure Y7d (P : Program) (w : World) (K : PySem.W.Frag) (mg : Str → Option Value) (base : Heap) (T : List (Addr × Str)) : Prop where
  cycle_nodes : Cal P w K mg base CX0 5 "cycle_nodes" (spCycNodes T)
theorem ok_find_anchors {f : Addr} {fd : FuncData} {T : List (Addr × Str)} (F : Fun K "find_anchors" "find_anchors" s_find_anchors f fd) (B : Bt mg) (C : Y7d P w K mg base T) : FnG P w K mg base CX0 6 f fd ["graph", "state", "pinned"] (spFindAnch K T) := by
  refine fnG0 F sc_find_anchors (fun vs H Q E h => ?_) (fun cdv A outer s H vs Q E hr h => ?_)
  · obtain ⟨g, n, e, st, ps, ns, ord, pn, es, f, rfl, _⟩ := h
    rfl
  · obtain ⟨g, n, e, st, ps, ns, ord, pn, es, f, rfl, gs, hps, tabs, q⟩ := h
    have nd := sc_find_anchors.nd
    have hu := hr.u1
    refine ⟨_, (pss_cons (ps_set (i := 3) nd rfl (by first | exact Or.inl rfl | exact Or.inr rfl) (pe_c C.cycle_nodes hr (by decide) rfl (pa_cons (pv 0) (pa_cons (pv 1) pa_nil))))
  (pss_one (ps_ret (pe_lc (own := [("node", 4)]) rfl nd (ki_tup K rfl (pe_ix (kIx K rfl) (pv 0) pe_int (fun _ _ => rfl))) (blkOk_by (own := [("node", 4)]) (N := nN_find_anchors) (sc := defScope s_find_anchors) (by decide +kernel)) (fun _ _ _ _ _ => (pg_name (i := 4) nd rfl (by first | exact Or.inl rfl | exact Or.inr rfl))) (fun _ _ _ _ _ => (pts_one (PW.pt (pw_or (pt_cmpR (kIn K rfl) (pv 4) (pv 2) rfl) (pw_or1 (pt_cmpR (kIn K rfl) (pv 4) (pv 3) rfl)))))) (fun _ _ _ _ _ => (pv 4)))))), ?_⟩
    wtm_at "rd"
    refine ⟨g, n, e, st, ns, ord, es, f, rfl, gs, tabs, fun cl cy H1 x1 tb1 fcl hcl cm => ?_⟩
    have gs1 := gs.ext x1
    have hps1 := sqT_ext hps x1
    wtm_at "rd"
    refine rd_ixT (SqT.of gs1.gr.top) (v := .ref n) rfl ?_
    refine rd_forT (SqT.of gs1.gr.nodes) ?_
    intro D fD
    have fD0 : ∀ b o, H b = some o → (∀ ps, o ≠ .tbl ps) → b ≠ D := fun b o h z => ne_of_none (x1 _ _ h z) fD
    refine lcT (K := K) (xs := ns.map V.str) (fun j H' => Same H1 H' ∧ ∃ ys : List Str, H' D = some (.lst (ys.map V.str)) ∧ ys.length ≤ j ∧ ∀ y, y ∈ ys ↔ y ∈ ns.take j ∧ (y ∈ pn ∨ y ∈ cy)) ⟨Same.new fD, [], upd_same, Nat.le_refl _, fun y => by rw [List.take_zero]; exact ⟨(fun z => nomatch z), fun z => nomatch z.1⟩⟩ ?_ ?_ ?_
    · rintro j H' hj ⟨sb, _⟩
      exact SqT.of (sb _ _ gs1.gr.nodes)
    · rintro j y H' hy ⟨sb, ys, hD, yl, ym⟩
      obtain ⟨hj, rfl⟩ := map_at hy
      have tk := take_snoc hj
      rw [tk]
      generalize ns[j] = a at *
      have yl2 : ys.length ≤ 1000 := by have := gs.l2; omega
      have yes : (a ∈ pn ∨ a ∈ cy) → ∀ y, y ∈ ys ++ [a] ↔ y ∈ ns.take j ++ [a] ∧ (y ∈ pn ∨ y ∈ cy) := fun h y => by
        rw [List.mem_append, List.mem_append, List.mem_singleton, ym]
        constructor
        · rintro (⟨h1, h2⟩ | rfl)
          · exact ⟨.inl h1, h2⟩
          · exact ⟨.inr rfl, h⟩
        · rintro ⟨h1 | h1, h2⟩
          · exact .inl ⟨h1, h2⟩
          · exact .inr h1
      have add : ∀ h : a ∈ pn ∨ a ∈ cy, Same H1 (upd H' D (.lst (ys.map V.str ++ [V.str a]))) ∧ ∃ zs : List Str, (upd H' D (.lst (ys.map V.str ++ [V.str a]))) D = some (.lst (zs.map V.str)) ∧ zs.length ≤ j + 1 ∧ ∀ y, y ∈ zs ↔ y ∈ ns.take j ++ [a] ∧ (y ∈ pn ∨ y ∈ cy) := fun h => ⟨same_put sb fD, ys ++ [a], by rw [upd_same, List.map_append]; rfl, by rw [List.length_append, List.length_singleton]; omega, yes h⟩
      wtm_at "rd"
      refine rd_inST (Same.seqT sb hps1) ?_
      wtm_at "rd"
      refine rd_split (fun c1 => ?_) (fun c1 => ?_)
      · wtm_at "rd"
        refine rd_acc hD (by rw [List.length_map]; omega) ?_
        exact add (.inl c1)
      · wtm_at "rd"
        refine rd_inSL (SqL.of (sb _ _ hcl)) ?_
        wtm_at "rd"
        refine rd_split (fun c2 => ?_) (fun c2 => ?_)
        · wtm_at "rd"
          refine rd_acc hD (by rw [List.length_map]; omega) ?_
          exact add (.inr c2)
        · refine ⟨sb, ys, hD, by omega, fun y => ?_⟩
          rw [List.mem_append, List.mem_singleton, ym]
          constructor
          · rintro ⟨h1, h2⟩
            exact ⟨.inl h1, h2⟩
          · rintro ⟨h1 | rfl, h2⟩
            · exact ⟨h1, h2⟩
            · exact (h2.elim c1 c2).elim
    · rintro H' ⟨sb, ys, hD, yl, ym⟩
      rw [List.length_map] at yl
      rw [List.length_map, List.take_length] at ym
      exact q D ys H' (x1.trans (ExtN.of fun b o h => sb b o h)) (tb1.ext fun b o h => sb b o h) fD0 hD yl fun y => by
        rw [ym]
        constructor
        · rintro ⟨h1, h2 | h2⟩
          · exact ⟨h1, .inl h2⟩
          · exact ⟨h1, .inr ((cm y).mp h2).2⟩
        · rintro ⟨h1, h2 | h2⟩
          · exact ⟨h1, .inl h2⟩
          · exact ⟨h1, .inr ((cm y).mpr ⟨h1, h2⟩)⟩
end
end Law

/-! repr of [graph, state, pins], of moves -/
namespace Law
open PySem PySem.Spec PyProof.Rows L2 U
theorem mvd {ms : List (Addr × Str × Int)} : (ms.map fun m => PyData.tuple [.str m.2.1, .int m.2.2]) = (ms.map (·.2)).map fun m => PyData.tuple [.str m.1, .int m.2] := by
  rw [List.map_map]
  rfl
section
variable {K : PySem.W.Frag} {H : Hp} {Q : VK} {p q : Addr} {σ : L2.St}
theorem rd_lstS {tr : TA} (h : tr σ H fun xs H1 => xs.length ≤ sizeLine ∧ ∀ p, H1 p = none → (p == sysModules) = false → Q (.ref p) (upd H1 p (.lst xs))) : tLstS tr σ H Q := h
theorem rd_reprAll {g n e st ps l : Addr} {ns ord pn : List Str} {es : List (Addr × Str × Str)} {f : Str → Int} (gs : GSt H g n e st ns ord es f) (hps : H ps = some (.tup (pn.map V.str))) (hl : H l = some (.lst [.ref g, .ref st, .ref ps])) (hn : (l == sysModules) = false)
    (pin : ∀ x ∈ pn, x ∈ ns) (pl : pn.length ≤ 100) (h : Q (.str (PyData.list [dGr ns (es.map (·.2)), dSt ord f, dStrs pn]).shown) H) : rReprL K [.ref l] H Q := by
  have nm := gs.ok.names.ok
  have ed : ∀ (es2 : List (Addr × Str × Str)), (∀ x ∈ es2, H x.1 = some (.tup [.str x.2.1, .str x.2.2])) → DpAll K H (es2.map fun x => V.ref x.1) ((es2.map (·.2)).map fun e => PyData.tuple [.str e.1, .str e.2]) := by
    intro es2
    induction es2 with
    | nil => intro _; exact .nil
    | cons x xs ih => intro hx; exact .cons (.tup (SqT.of (hx x List.mem_cons_self)) (.cons (.str _) (.cons (.str _) .nil))) (ih fun y hy => hx y (List.mem_cons_of_mem _ hy))
  have to1 : ∀ xs : List Str, tupOnlyAll (xs.map PyData.str) = true := by
    intro xs
    induction xs with
    | nil => rfl
    | cons x xs ih => simp [tupOnlyAll, tupOnly, ih]
  have to2 : ∀ xs : List (Str × Str), tupOnlyAll (xs.map fun e => PyData.tuple [.str e.1, .str e.2]) = true := by
    intro xs
    induction xs with
    | nil => rfl
    | cons x xs ih => simp [tupOnlyAll, tupOnly, ih]
  refine .inl ⟨_, _, hl, hn, .cons (.of (.tup (SqT.of gs.gr.top) (.cons (.tup (SqT.of gs.gr.nodes) (dp_strs _)) (.cons (.tup (SqT.of gs.gr.edges) (ed es gs.gr.pairs)) .nil))) ?_) (.cons (.dct gs.st) (.cons (.of (.tup (SqT.of hps) (dp_strs _)) ?_) .nil)), ?_, h⟩
  · rw [tupOnly, tupOnlyAll, tupOnlyAll, tupOnlyAll, tupOnly, tupOnly, to1, to2]
    rfl
  · simp [tupOnly, to1]
  · refine shows_all nm (fun e he => ?_) (fun n hn => ?_) (fun n hn => nm _ (pin n hn)) gs.l2 (by rw [List.length_map]; exact gs.l3) (by rw [gs.pm.length_eq]; exact gs.l2) pl
    · obtain ⟨z1, z2⟩ := gs.ok.mem e he
      exact ⟨nm _ z1, nm _ z2⟩
    · have := gs.pm.mem_iff.mp hn
      exact ⟨nm _ this, gs.tri _ this⟩
theorem rd_reprMv {l : Addr} {ms : List (Addr × Str × Int)} (hl : H l = some (.lst (ms.map fun m => V.ref m.1))) (tm : TupsAt H ms) (nm : ∀ m ∈ ms.map (·.2), IsName m.1 ∧ 0 ≤ m.2 ∧ m.2 < 3) (len : ms.length ≤ 2000) (h : Q (.str (dMv (ms.map (·.2))).shown) H) : rReprL K [.ref l] H Q := by
  obtain ⟨s1, s2⟩ := shows_moves nm (by rw [List.length_map]; exact len)
  refine .inr ⟨dMv (ms.map (·.2)), ?_, s2, s1, h⟩
  have := moves_dp (K := K) tm
  rw [mvd] at this
  exact .lst (SqL.of hl) this
end
end Law

/-! draws and tables of code objects together -/
namespace Law
open PySem PySem.Spec PyProof.Rows L2 U LamX
/-- nothing but the draws' source and the tables changes -/
structure GoN (T : List (Addr × Str)) (p : Addr) (H H' : Hp) : Prop where
  but : ∀ b o, b ≠ p → H b = some o → (∀ ps, o ≠ .tbl ps) → H' b = some o
  pool : PoolAt H' p
  tabs : Tabs T H'
theorem tabs_but {T : List (Addr × Str)} {H H' : Hp} {p : Addr} {ys : List V} (t : Tabs T H) (hp : H p = some (.lst ys)) (b : But p H H') : Tabs T H' := fun q hq => by
  obtain ⟨ps, h1, h2, h3⟩ := t q hq
  refine ⟨ps, b _ _ (ne_of h1 hp (by intro z; cases z)) h1, h2, fun pos cv hc => ?_⟩
  obtain ⟨c, e1, e2⟩ := h3 pos cv hc
  exact ⟨c, e1, b _ _ (ne_of e2 hp (by intro z; unfold CodeO at z; cases z)) e2⟩
section
variable {T : List (Addr × Str)} {p : Addr} {H H1 H' : Hp}
theorem GoN.refl (hp : PoolAt H p) (t : Tabs T H) : GoN T p H H := ⟨fun _ _ _ h _ => h, hp, t⟩
theorem GoN.trans (a : GoN T p H H1) (b : GoN T p H1 H') : GoN T p H H' := ⟨fun c o n h z => b.but c o n (a.but c o n h z) z, b.pool, b.tabs⟩
theorem GoN.of_go (t : Tabs T H) (hp : PoolAt H p) (g : Go p H H') : GoN T p H H' := ⟨fun b o n h _ => g.but b o n h, g.pool, by
  obtain ⟨ys, hy⟩ := hp.isL
  exact tabs_but t hy g.but⟩
theorem GoN.of_ext (hp : PoolAt H p) (x : ExtN H H') (t : Tabs T H') : GoN T p H H' := ⟨fun b o _ h z => x b o h z, by
  obtain ⟨b, s, h, ok⟩ := hp
  exact ⟨b, s, ExtN.li x h, ok⟩, t⟩
theorem GoN.of_same (t : Tabs T H) (hp : PoolAt H p) (s : Same H H') : GoN T p H H' := .of_go t hp (Go.of_same hp s)
theorem GoN.go (a : GoN T p H H1) (g : Go p H1 H') : GoN T p H H' := a.trans (.of_go a.tabs a.pool g)
theorem GoN.same (a : GoN T p H H1) (s : Same H1 H') : GoN T p H H' := a.trans (.of_same a.tabs a.pool s)
theorem GoN.ext (a : GoN T p H H1) (x : ExtN H1 H') (t : Tabs T H') : GoN T p H H' := a.trans (.of_ext a.pool x t)
theorem GoN.tu (g : GoN T p H H') (hp : PoolAt H p) {a : Addr} {xs : List V} (h : H a = some (.tup xs)) : H' a = some (.tup xs) := g.but _ _ (hp.offT h) h fun _ z => nomatch z
theorem GoN.dk (g : GoN T p H H') (hp : PoolAt H p) {a : Addr} {xs : List (Key × V)} (h : H a = some (.dK xs)) : H' a = some (.dK xs) := g.but _ _ (hp.offD h) h fun _ z => nomatch z
theorem GoN.li (g : GoN T p H H') {a : Addr} {xs : List V} (n : a ≠ p) (h : H a = some (.lst xs)) : H' a = some (.lst xs) := g.but _ _ n h fun _ z => nomatch z
theorem GSt.goN {g n e st : Addr} {ns ord : List Str} {es : List (Addr × Str × Str)} {f : Str → Int} (h : GSt H g n e st ns ord es f) (hp : PoolAt H p) (x : GoN T p H H') : GSt H' g n e st ns ord es f :=
  ⟨⟨x.tu hp h.gr.top, x.tu hp h.gr.nodes, x.tu hp h.gr.edges, fun y hy => x.tu hp (h.gr.pairs y hy)⟩, h.ok, h.pm, h.l2, h.l3, x.dk hp h.st, h.tri, h.pro⟩
theorem seqL_keepN {K : PySem.W.Frag} {a : Addr} {xs : List V} (h : SqL K H a xs) (np : a ≠ p) (b : GoN T p H H') : SqL K H' a xs := by
  rcases h with (h | ⟨o, h⟩) | h
  · exact .inl (.inl (b.but _ _ np h fun _ z => nomatch z))
  · exact .inl (.inr ⟨o, b.but _ _ np h fun _ z => nomatch z⟩)
  · exact .inr h
theorem seqL_newN {K : PySem.W.Frag} {a : Addr} {o : HO} {xs : List V} (h : SqL K H a xs) (np : H p = none) (b : GoN T p (upd H p o) H') : SqL K H' a xs := by
  rcases h with (h | ⟨o, h⟩) | h
  · exact .inl (.inl (b.but _ _ (ne_of_none h np) (at_upd (ne_of_none h np) h) fun _ z => nomatch z))
  · exact .inl (.inr ⟨o, b.but _ _ (ne_of_none h np) (at_upd (ne_of_none h np) h) fun _ z => nomatch z⟩)
  · exact .inr h
theorem PoolAt.offN {a : Addr} (h : PoolAt H p) (n : H a = none) : a ≠ p := Ne.symm (h.ne n)
theorem sqL_ext {K : PySem.W.Frag} {a : Addr} {xs : List V} (h : SqL K H a xs) (x : ExtN H H') : SqL K H' a xs := by
  rcases h with (h | ⟨o, h⟩) | h
  · exact .inl (.inl (ExtN.li x h))
  · exact .inl (.inr ⟨o, x _ _ h fun _ z => nomatch z⟩)
  · exact .inr h
theorem TupsAt.ext {ms : List (Addr × Str × Int)} (h : TupsAt H ms) (x : ExtN H H') : TupsAt H' ms := fun m hm => ExtN.tu x (h m hm)
theorem TupsAt.goN {ms : List (Addr × Str × Int)} (h : TupsAt H ms) (hp : PoolAt H p) (x : GoN T p H H') : TupsAt H' ms := fun m hm => x.tu hp (h m hm)
end
end Law

/-! feasible lifts: of moves, and shifted -/
namespace U
open PySem PySem.Spec PyProof.Rows L2
theorem cnt_not {x : Str} : ∀ {ms : List (Str × Int)} {f h : Str → Int}, x ∉ ms.map (·.1) → (countF f h ms).2 x = h x
  | [], _, _, _ => rfl
  | (n, v) :: r, f, h, nx => by
    have nx' : x ≠ n ∧ x ∉ r.map (·.1) := by
      rw [List.map_cons, List.mem_cons, not_or] at nx
      exact nx
    show (countF (updf f n v) (updf h n (h n + dlt (f n - v))) r).2 x = h x
    rw [cnt_not nx'.2]
    unfold updf
    rw [if_neg nx'.1]
theorem cnt_small {n : Str} : ∀ {ms : List (Str × Int)} {f h : Str → Int}, h n - ms.length ≤ (countF f h ms).2 n ∧ (countF f h ms).2 n ≤ h n + ms.length
  | [], f, h => by simp [countF]
  | (m, v) :: r, f, h => by
    have ih := cnt_small (n := n) (ms := r) (f := updf f m v) (h := updf h m (h m + dlt (f m - v)))
    have e : countF f h ((m, v) :: r) = countF (updf f m v) (updf h m (h m + dlt (f m - v))) r := rfl
    rw [e, List.length_cons]
    have d : -1 ≤ dlt (f m - v) ∧ dlt (f m - v) ≤ 1 := by
      unfold dlt
      split
      · omega
      · split <;> omega
    have u : h n - 1 ≤ updf h m (h m + dlt (f m - v)) n ∧ updf h m (h m + dlt (f m - v)) n ≤ h n + 1 := by
      unfold updf
      by_cases z : n = m
      · rw [if_pos z, z]
        omega
      · rw [if_neg z]
        omega
    omega
section
variable {ns : List Str} {es : List (Str × Str)} {f h : Str → Int} {pn : List Str}
theorem plays_off (ok : EsOk ns es f) {ms : List (Str × Int)} {f' : Str → Int} (p : Plays ns es pn f ms f') : EsOk ns es f' ∧ (∀ x, Cyc es f' x ↔ Cyc es f x) ∧ ∀ x, (x ∈ pn ∨ Cyc es f x) → x ∉ ms.map (·.1) := by
  induction p with
  | nil => exact ⟨ok, fun _ => Iff.rfl, fun x _ z => nomatch z⟩
  | @snoc ms f' m p l ih =>
    obtain ⟨i1, i2, i3⟩ := ih
    refine ⟨(move_keeps (f0 := f') (h := fun _ => 0) i1 l fun e _ => by omega).1, fun x => (cyc_iff i1 l).trans (i2 x), fun x hx z => ?_⟩
    rw [List.map_append] at z
    rcases List.mem_append.mp z with z | z
    · exact i3 x hx z
    · have e : x = m.1 := List.mem_singleton.mp z
      rw [e] at hx
      rcases hx with hx | hx
      · exact l.pin hx
      · exact cyc_still i1 l ((i2 _).mpr hx)
theorem feas_count (ok : EsOk ns es f) {ms : List (Str × Int)} {f' : Str → Int} (p : Plays ns es pn f ms f') : Feas ns es f (countF f (fun _ => 0) ms).2 pn := by
  have o := (plays_off ok p).2.2
  exact ⟨fits_count ok p, fun x hx => cnt_not (o x (.inl hx)), fun x hx => cnt_not (o x (.inr hx))⟩
theorem feas_shift (fe : Feas ns es f h pn) {c : List Str} {by_ : Int} (cl : ∀ x y, Adj es x y → (x ∈ c ↔ y ∈ c)) (off : ∀ x ∈ c, ¬ (x ∈ pn ∨ Cyc es f x)) : Feas ns es f (fun x => if x ∈ c then h x + by_ else h x) pn := by
  refine ⟨fun e he => ?_, fun x hx => ?_, fun x hx => ?_⟩
  · have a := fit_pm.mp (fe.fit e he)
    have k := cl e.1 e.2 (.inl he)
    rw [fit_pm]
    by_cases m : e.1 ∈ c
    · rw [if_pos m, if_pos (k.mp m)]
      omega
    · rw [if_neg m, if_neg fun z => m (k.mpr z)]
      exact a
  · show (if x ∈ c then _ else _) = (0 : Int)
    rw [if_neg fun z => off x z (.inl hx)]
    exact fe.pin x hx
  · show (if x ∈ c then _ else _) = (0 : Int)
    rw [if_neg fun z => off x z (.inr hx)]
    exact fe.cyc x hx
theorem comp_closed (ok : GrOk ns es) (l : ns.length ≤ 1000) {r : Str} (hr : r ∈ ns) : ∀ x y, Adj es x y → (x ∈ comp es r ↔ y ∈ comp es r) := by
  have one : ∀ x y, Adj es x y → x ∈ comp es r → y ∈ comp es r := fun x y a h => (comp_mem ok l hr).mpr (.step ((comp_mem ok l hr).mp h) (nbS_mem.mpr a) rfl)
  exact fun x y a => ⟨one x y a, one y x a.symm⟩
theorem comp_nodup {r : Str} : (comp es r).Nodup := (sortS_perm _).nodup_iff.mpr pt_nodup
end
end U

/-! lifts performed, step by step -/
namespace U
open PySem PySem.Spec PyProof.Rows L2
/-- one less to go at n -/
def redU (h : Str → Int) (n : Str) : Str → Int := updf h n (h n + (if 0 < h n then -1 else 1))
section
variable {ns : List Str} {es : List (Str × Str)} {f h : Str → Int} {pn : List Str}
theorem sz_nil : sz [] h = 0 := rfl
theorem sz_cons {n : Str} {r : List Str} : sz (n :: r) h = ((h n).natAbs : Int) + sz r h := List.sum_cons
theorem sz_nn : ∀ {xs : List Str}, 0 ≤ sz xs h
  | [] => Int.le_refl _
  | x :: t => by
    rw [sz_cons]
    have := sz_nn (xs := t)
    omega
theorem sz_off {n : Str} {v : Int} : ∀ {xs : List Str}, n ∉ xs → sz xs (updf h n v) = sz xs h
  | [], _ => rfl
  | x :: t, nm => by
    rw [sz_cons, sz_cons, sz_off fun z => nm (List.mem_cons_of_mem _ z)]
    have : x ≠ n := fun z => nm (z ▸ List.mem_cons_self)
    unfold updf
    rw [if_neg this]
theorem sz_upd {n : Str} {v : Int} : ∀ {xs : List Str}, xs.Nodup → n ∈ xs → sz xs (updf h n v) = sz xs h - ((h n).natAbs : Int) + (v.natAbs : Int)
  | x :: t, nd, hm => by
    rw [sz_cons, sz_cons]
    rw [List.nodup_cons] at nd
    by_cases e : x = n
    · subst e
      rw [sz_off nd.1]
      unfold updf
      rw [if_pos rfl]
      omega
    · rw [sz_upd nd.2 ((List.mem_cons.mp hm).resolve_left fun z => e z.symm)]
      have : updf h n v x = h x := by
        unfold updf
        rw [if_neg e]
      rw [this]
      omega
theorem sz_red {n : Str} (nd : ns.Nodup) (hn : n ∈ ns) (h0 : h n ≠ 0) : sz ns (redU h n) = sz ns h - 1 := by
  unfold redU
  rw [sz_upd nd hn]
  split <;> omega
theorem sz_at : ∀ {xs : List Str} {n : Str}, n ∈ xs → ((h n).natAbs : Int) ≤ sz xs h
  | x :: t, n, hm => by
    rw [sz_cons]
    have := sz_nn (h := h) (xs := t)
    rcases List.mem_cons.mp hm with rfl | hm
    · omega
    · have := sz_at hm
      omega
theorem dlt_mod {d : Int} : (d - dlt d) % 3 = 0 ∧ -1 ≤ dlt d ∧ dlt d ≤ 1 := by
  unfold dlt
  split
  · omega
  · split <;> omega
/-- the moves of a lift, each the first progress move -/
inductive PerfR (ns : List Str) (es : List (Str × Str)) (pn : List Str) (f h : Str → Int) : List (Str × Int) → (Str → Int) → (Str → Int) → Prop
  | nil : PerfR ns es pn f h [] f h
  | snoc {ms : List (Str × Int)} {f' h' : Str → Int} {m : Str × Int} {r : List (Str × Int)} : PerfR ns es pn f h ms f' h' → progF ns es f' h' pn = m :: r → PerfR ns es pn f h (ms ++ [m]) (updf f' m.1 m.2) (redU h' m.1)
/-- .. or any progress move -/
inductive AnyR (ns : List Str) (es : List (Str × Str)) (pn : List Str) (f h : Str → Int) : List (Str × Int) → (Str → Int) → (Str → Int) → Prop
  | nil : AnyR ns es pn f h [] f h
  | snoc {ms : List (Str × Int)} {f' h' : Str → Int} {m : Str × Int} : AnyR ns es pn f h ms f' h' → m ∈ progF ns es f' h' pn → AnyR ns es pn f h (ms ++ [m]) (updf f' m.1 m.2) (redU h' m.1)
theorem PerfR.any {ms : List (Str × Int)} {f' h' : Str → Int} (r : PerfR ns es pn f h ms f' h') : AnyR ns es pn f h ms f' h' := by
  induction r with
  | nil => exact .nil
  | snoc _ e ih => exact .snoc ih (by rw [e]; exact List.mem_cons_self)
theorem prog_ne {m : Str × Int} (hm : m ∈ progF ns es f h pn) : h m.1 ≠ 0 := by
  have g := (prog_legal hm).2
  have go : (0 < h m.1 ∧ (f m.1 - m.2) % 3 = 1) ∨ (h m.1 < 0 ∧ ¬ (f m.1 - m.2) % 3 = 1) := by
    unfold goP at g
    simpa only [Bool.or_eq_true, Bool.and_eq_true, decide_eq_true_iff, Bool.not_eq_true', decide_eq_false_iff_not] using g
  omega
/-- a progress move: what it keeps -/
theorem prog_step (ok : EsOk ns es f) (nd : ns.Nodup) (fe : Feas ns es f h pn) {m : Str × Int} (hm : m ∈ progF ns es f h pn) :
    EsOk ns es (updf f m.1 m.2) ∧ Feas ns es (updf f m.1 m.2) (redU h m.1) pn ∧ sz ns (redU h m.1) = sz ns h - 1 ∧ ∀ n ∈ ns, (updf f m.1 m.2 n - redU h m.1 n) % 3 = (f n - h n) % 3 := by
  have lg := (prog_legal hm).1
  have e := prog_dlt ok hm
  have fe2 := feas_move ok fe lg
  rw [e] at fe2
  refine ⟨(move_keeps (f0 := f) (h := fun _ => 0) ok lg fun e _ => by omega).1, fe2, sz_red nd lg.mem (prog_ne hm), fun n hn => ?_⟩
  unfold redU
  rw [← e]
  unfold updf
  by_cases z : n = m.1
  · rw [if_pos z, if_pos z, z]
    have := dlt_mod (d := f m.1 - m.2)
    omega
  · rw [if_neg z, if_neg z]
theorem AnyR.keeps (ok : EsOk ns es f) (nd : ns.Nodup) (fe : Feas ns es f h pn) {ms : List (Str × Int)} {f' h' : Str → Int} (r : AnyR ns es pn f h ms f' h') :
    EsOk ns es f' ∧ Feas ns es f' h' pn ∧ sz ns h' + ms.length = sz ns h ∧ (∀ n ∈ ns, (f' n - h' n) % 3 = (f n - h n) % 3) ∧ Plays ns es pn f ms f' := by
  induction r with
  | nil => exact ⟨ok, fe, by simp, fun _ _ => rfl, .nil⟩
  | @snoc ms f' h' m r hm ih =>
    obtain ⟨i1, i2, i3, i4, i5⟩ := ih
    obtain ⟨s1, s2, s3, s4⟩ := prog_step i1 nd i2 hm
    refine ⟨s1, s2, ?_, fun n hn => (s4 n hn).trans (i4 n hn), .snoc i5 (prog_legal hm).1⟩
    rw [List.length_append, List.length_singleton]
    omega
/-- nothing is left: the state of the lift -/
theorem AnyR.done (ok : EsOk ns es f) (nd : ns.Nodup) (fe : Feas ns es f h pn) {ms : List (Str × Int)} {f' h' : Str → Int} (r : AnyR ns es pn f h ms f' h') (z : sz ns h' = 0) : ∀ n ∈ ns, f' n = (f n - h n) % 3 := fun n hn => by
  obtain ⟨a, _, _, b, _⟩ := r.keeps ok nd fe
  have t := a.tri n hn
  have := b n hn
  rw [sz_zero.mp z n hn] at this
  omega
/-- a lift of moves: no more than these, and the state it leads to -/
theorem plays_lift (ok : EsOk ns es f) (nd : ns.Nodup) {ms : List (Str × Int)} {f' : Str → Int} (p : Plays ns es pn f ms f') :
    EsOk ns es f' ∧ (countF f (fun _ => 0) ms).1 = f' ∧ sz ns (countF f (fun _ => 0) ms).2 ≤ ms.length ∧ ∀ n ∈ ns, f' n = (f n - (countF f (fun _ => 0) ms).2 n) % 3 := by
  induction p with
  | nil =>
    refine ⟨ok, rfl, ?_, fun n hn => ?_⟩
    · show sz ns (fun _ => 0) ≤ 0
      exact Int.le_of_eq (sz_zero.mpr fun _ _ => rfl)
    · show f n = (f n - 0) % 3
      have := ok.tri n hn
      omega
  | @snoc ms f' m p l ih =>
    obtain ⟨i1, i2, i3, i4⟩ := ih
    have ok2 := (move_keeps (f0 := f') (h := fun _ => 0) i1 l fun e _ => by omega).1
    obtain ⟨n, v⟩ := m
    rw [countF_snoc, i2]
    generalize (countF f (fun _ => 0) ms).2 = h0 at *
    have dm := dlt_mod (d := f' n - v)
    refine ⟨ok2, rfl, ?_, fun x hx => ?_⟩
    · rw [sz_upd nd l.mem, List.length_append, List.length_singleton]
      show sz ns h0 - ((h0 n).natAbs : Int) + ((h0 n + dlt (f' n - v)).natAbs : Int) ≤ _
      omega
    · have j := i4 x hx
      have t := ok2.tri x hx
      show updf f' n v x = (f x - updf h0 n (h0 n + dlt (f' n - v)) x) % 3
      have t : 0 ≤ updf f' n v x ∧ updf f' n v x < 3 := t
      unfold updf at t ⊢
      by_cases z : x = n
      · rw [if_pos z] at t ⊢
        rw [if_pos z]
        rw [z] at j ⊢
        omega
      · rw [if_neg z] at t ⊢
        rw [if_neg z]
        exact j
def plU (f : Str → Int) (ms : List (Str × Int)) : Str → Int := ms.foldl (fun f m => updf f m.1 m.2) f
def rdU (h : Str → Int) (ms : List (Str × Int)) : Str → Int := ms.foldl (fun h m => redU h m.1) h
theorem plU_snoc {ms : List (Str × Int)} {m : Str × Int} : plU f (ms ++ [m]) = updf (plU f ms) m.1 m.2 := by
  unfold plU
  rw [List.foldl_append]
  rfl
theorem rdU_snoc {ms : List (Str × Int)} {m : Str × Int} : rdU h (ms ++ [m]) = redU (rdU h ms) m.1 := by
  unfold rdU
  rw [List.foldl_append]
  rfl
theorem AnyR.ends {ms : List (Str × Int)} {f' h' : Str → Int} (r : AnyR ns es pn f h ms f' h') : f' = plU f ms ∧ h' = rdU h ms := by
  induction r with
  | nil => exact ⟨rfl, rfl⟩
  | snoc _ _ ih => exact ⟨by rw [plU_snoc, ih.1], by rw [rdU_snoc, ih.2]⟩
theorem AnyR.at {ms : List (Str × Int)} {f' h' : Str → Int} (r : AnyR ns es pn f h ms f' h') : ∀ i (hi : i < ms.length), AnyR ns es pn f h (ms.take i) (plU f (ms.take i)) (rdU h (ms.take i)) ∧ ms[i] ∈ progF ns es (plU f (ms.take i)) (rdU h (ms.take i)) pn := by
  induction r with
  | nil => exact fun i hi => absurd hi (Nat.not_lt_zero i)
  | @snoc ms f' h' m r hm ih =>
    intro i hi
    rw [List.length_append, List.length_singleton] at hi
    by_cases c : i < ms.length
    · rw [List.take_append_of_le_length (by omega), List.getElem_append_left c]
      exact ih i c
    · obtain rfl : i = ms.length := by omega
      obtain ⟨e1, e2⟩ := r.ends
      rw [List.take_append_of_le_length (Nat.le_refl _), List.take_length, List.getElem_append_right (Nat.le_refl _), ← e1, ← e2]
      simp only [Nat.sub_self, List.getElem_cons_zero]
      exact ⟨r, hm⟩
end
end U

/-! a def with defaults of its positional parameters -/
namespace U
open PySem PySem.Spec PyProof.Rows L2
structure FunP (K : PySem.W.Frag) (x qual : Str) (st : Stmt) (f : Addr) (fd : FuncData) : Prop where
  ex : ∃ (oc : Value) (od : Option Addr) (dV kV doc pm : Value) (an : Option Addr) (cdv ct : Value) (osl : Array (Option Value)),
    fd = PySem.W.fnOf x qual (defArgs st) (defBody st) (defScope st) dV kV doc pm an cdv ct ∧ K.lookup f = some ⟨oc, od, .func fd, osl⟩ ∧ PySem.W.codeIn K cdv qual = true
section
variable {P : Program} {w : World} {K : PySem.W.Frag} {mg : Str → Option Value} {base : Heap}
theorem fnGP {CX : CXT} {x qual : Str} {st : Stmt} {f : Addr} {fd : FuncData} {N ps : List Str} {k : Nat} {sp : Sp} (F : FunP K x qual st f fd) (S : FnScope N ps (defScope st)) (len : ∀ vs H Q E, sp vs H Q E → vs.length = ps.length)
    (body : ∀ (cdv : Value) (A : Around) (outer : List Env) (s : Shared) (H : Hp) (vs : List V) (Q : VK) (E : XK), Rm k (A.deeper (envOfC qual (defScope st) s.heap.objs.size f cdv)) → sp vs H Q E →
      ∃ t, PSs (cxOf CX P w K mg base N qual (defScope st) f cdv A outer s H E) (defBody st) t ∧ t { nx := fun _ H' => Q .non H', rt := Q } (start N vs) H) :
    FnG P w K mg base CX (k + 1) f fd ps sp := by
  obtain ⟨oc, od, dV, kV, doc, pm, an, cdv, ct, osl, rfl, lk, hcd⟩ := F.ex
  refine ⟨len, fun A outer s H args us vs Q E room e0 bd rel want => ?_⟩
  have count := len _ _ _ _ want
  have kin : K.In s.heap := e0.mod.kin.keeps fun b o e => (e0.bs b o e).1
  have kinds : ∀ y ∈ ps.zip us, (defScope st).names.lookup y.1 = some .local ∨ ((defScope st).names.lookup y.1 = some .cell ∧ ((cellsFrom (s.heap.objs.size + 1) (defScope st).names []).lookup y.1).isSome = true) := by
    rintro ⟨n, v⟩ hy
    cases S.par n (List.of_mem_zip hy).1 with
    | inl q => exact .inl q
    | inr q => exact .inr ⟨q, PySem.W.cellsFrom_some _ _ _ (.inl q)⟩
  apply codeAny_call_function room.r.depth (kin _ _ lk) rfl S.co S.gen rfl (PySem.W.codeRec_of kin hcd) (bd _ _ _ _ _)
  apply wpAny_newFunctionEnv_cells S.kind kinds
  intro env he s1 x
  subst he
  have lim : s.heap.NoLimit := e0.mod.nolimit.keeps fun b o e => (e0.bs b o e).1
  refine ⟨lim.keeps x.toInCall.keep, codeAny_func ?_⟩
  obtain ⟨t, ht, want'⟩ := body cdv A outer s H vs Q E (room.deeper _) want
  have I := inv_start (CX := CX) (P := P) (w := w) (K := K) (mg := mg) (base := base) (E := E) S room.r.hd e0 count rel x
  refine wpAny_mono (ht.run [] s1 (start N vs) H _ I want') ?_ fun e s' hs => hs
  intro fl s' hs
  cases fl with
  | ret u =>
    obtain ⟨v, σ', H', J, rv, q⟩ := hs
    exact ⟨v, H', J.os, J.bare, J.base, J.hok, rv, q⟩
  | next =>
    obtain ⟨σ', H', J, q⟩ := hs
    exact ⟨V.non, H', J.os, J.bare, J.base, J.hok, rfl, q⟩
  | brk => exact hs.elim fun _ z => z.elim fun _ z => z.2.elim
  | cont => exact hs.elim fun _ z => z.elim fun _ z => z.2.elim
theorem fnG0P {x qual : Str} {st : Stmt} {f : Addr} {fd : FuncData} {N ps : List Str} {k : Nat} {sp : Sp} (F : FunP K x qual st f fd) (S : FnScope N ps (defScope st)) (len : ∀ vs H Q E, sp vs H Q E → vs.length = ps.length)
    (body : ∀ (cdv : Value) (A : Around) (outer : List Env) (s : Shared) (H : Hp) (vs : List V) (Q : VK) (E : XK), Rm k (A.deeper (envOfC qual (defScope st) s.heap.objs.size f cdv)) → sp vs H Q E →
      ∃ t, PSs (cxOf CX0 P w K mg base N qual (defScope st) f cdv A outer s H E).nox (defBody st) t ∧ t { nx := fun _ H' => Q .non H', rt := Q } (start N vs) H) :
    FnG P w K mg base CX0 (k + 1) f fd ps sp := fnGP F S len fun cdv A outer s H vs Q E hr h => by
  obtain ⟨t, p, q⟩ := body cdv A outer s H vs Q E hr h
  exact ⟨t, p.nox, q⟩
end
end U

/-! lifts performed: nothing is raised -/
namespace Law
open PySem PySem.Spec PyProof.Rows L2 U LamX
local macro_rules | `(tactic| wtm_at "rd1") => `(tactic| first
  | with_reducible refine rd_seq ?_
  | ((with_reducible refine rd_var (v := ?vv) ?hv ?_); (case hv => exact rfl))
  | with_reducible refine rd_c ?_
  | with_reducible refine rd_cons ?_
  | with_reducible refine rd_nil ?_
  | with_reducible refine rd_op ?_
  | with_reducible refine rd_asg ?_
  | with_reducible refine rd_name ?_
  | with_reducible refine rd_c1 ?_
  | with_reducible refine rd_cb ?_
  | with_reducible refine rd_test ?_
  | with_reducible refine rd_B ?_
  | with_reducible refine rd_bl ?_
  | with_reducible refine rd_if ?_
  | with_reducible refine rd_ret ?_
  | with_reducible refine rd_drop ?_
  | with_reducible refine rd_next ?_
  | with_reducible refine rd_addI ?_
  | with_reducible refine rd_ltI ?_
  | with_reducible refine rd_eqI ?_
  | with_reducible refine rd_neI ?_
  | with_reducible refine rd_eqS ?_
  | with_reducible refine rd_neS ?_
  | with_reducible refine rd_gtI ?_
  | with_reducible refine rd_geI ?_
  | with_reducible refine rd_leI ?_
  | with_reducible refine rd_ltS ?_
  | with_reducible refine rd_subI ?_
  | ((with_reducible refine rd_modI ?hc ?_); (case hc => first | decide | omega))
  | ((with_reducible refine rd_mulI ?hc ?_); (case hc => first | exact mul_bI | exact .inl (.inr (by decide)) | exact .inl (.inl (by decide)) | exact .inl (.inr (by omega)) | exact .inl (.inl (by omega))))
  | ((with_reducible refine rd_divI ?hc ?_); (case hc => first | decide | omega))
  | ((with_reducible refine rd_powI ?hc ?_); (case hc => exact ⟨by decide, by decide, by decide⟩))
  | with_reducible refine rd_lst ?_
  | with_reducible refine rd_tup ?_
  | ((with_reducible refine rd_sz ?hv ?_); (case hv => exact rfl))
  | with_reducible refine rd_and ?_
  | with_reducible refine rd_or ?_
  | with_reducible refine rd_not ?_
  | with_reducible refine rd_andV ?_
  | with_reducible refine rd_orV ?_
  | with_reducible refine rd_notV ?_
  | with_reducible refine rd_ifE ?_
  | with_reducible refine rd_T ?_
  | with_reducible refine rd_F ?_
  | with_reducible refine rd_chain ?_
  | with_reducible refine rd_is ?_
  | with_reducible refine rd_isNot ?_
  | with_reducible refine rd_absI ?_
  | with_reducible refine rd_maxI ?_
  | with_reducible refine rd_minI ?_
  | with_reducible refine rd_intI ?_
  | with_reducible refine rd_intB ?_
  | with_reducible refine rd_sub ?_
  | with_reducible refine rd_sl ?_
  | with_reducible refine rd_noPart ?_
  | with_reducible refine rd_part ?_
  | with_reducible refine rd_exI ?_
  | with_reducible refine rd_bm ?_
  | with_reducible refine rd_bm0 ?_
  | with_reducible refine rd_un ?_
  | with_reducible refine rd_neg ?_
  | with_reducible refine rd_c2 ?_
  | with_reducible refine rd_retN ?_
  | with_reducible refine rd_break ?_
  | with_reducible refine rd_cont ?_
  | with_reducible refine rd_for ?_
  | with_reducible refine rd_rng1 ?_
  | with_reducible refine rd_rng2 ?_
  | with_reducible refine rd_iList ?_
  | with_reducible refine rd_iTup ?_
  | with_reducible refine rd_iEnum ?_
  | ((with_reducible refine rd_forR ?h0 ?h1 ?_); (case h0 => omega); (case h1 => omega))
  | with_reducible refine rd_lc ?_
  | with_reducible refine rd_gcons ?_
  | with_reducible refine rd_gnil ?_
  | with_reducible refine rd_dget ?_
  | with_reducible refine rd_dput ?_
  | with_reducible refine rd_dnew ?_
  | with_reducible refine rd_dc ?_
  | with_reducible refine rd_iItems ?_
  | with_reducible refine rd_iKeys ?_
  | with_reducible refine rd_din ?_
  | with_reducible refine rd_lc2 ?_
  | with_reducible refine rd_cd ?_
  | with_reducible refine rd_par ?_
  | with_reducible refine rd_two ?_
  | with_reducible refine rd_reprB ?_
  | with_reducible refine rd_ck ?_
  | ((with_reducible refine rd_len ?hl ?_); (case hl => exact rfl))
  | with_reducible refine rd_nT ?_
  | with_reducible refine rd_nF ?_
  | with_reducible refine rd_dnin ?_
  | with_reducible refine rd_isB ?_
  | with_reducible refine rd_isNotB ?_
  | with_reducible refine rd_daug ?_
  | with_reducible refine rd_yesT ?_
  | ((with_reducible refine rd_wp ?hw ?_); (case hw => exact rfl)))
local macro_rules | `(tactic| wtm_at "rd") => `(tactic| repeat wtm_at "rd1")

def spCloser : Sp := fun vs H Q _ => ∃ x : Int, vs = [.int x] ∧ Q (.int (x + (if 0 < x then -1 else 1))) H
def spCheckLift (K : PySem.W.Frag) (T : List (Addr × Str)) : Sp := fun vs H Q _ => ∃ (g n e st c ps : Addr) (ns ord pn : List Str) (es : List (Addr × Str × Str)) (f h : Str → Int), vs = [.ref g, .ref st, .ref c, .ref ps] ∧ GSt H g n e st ns ord es f ∧ H c = some (.dK (kvF ns h)) ∧ SqT K H ps (pn.map V.str) ∧ Tabs T H ∧ Feas ns (es.map (·.2)) f h pn ∧
  ∀ H' : Hp, ExtN H H' → Tabs T H' → Q .non H'
def spCheckSize : Sp := fun vs H Q _ => ∃ (c : Addr) (lim : Int) (ns : List Str) (h : Str → Int), vs = [.ref c, .int lim] ∧ H c = some (.dK (kvF ns h)) ∧ ns.length ≤ 100 ∧ sz ns h ≤ lim ∧ ∀ H' : Hp, Same H H' → Q .non H'
def spPerf (K : PySem.W.Frag) (T : List (Addr × Str)) : Sp := fun vs H Q _ => ∃ (g n e st c ps : Addr) (ns ord pn : List Str) (es : List (Addr × Str × Str)) (f h : Str → Int), vs = [.ref g, .ref st, .ref c, .ref ps] ∧ GSt H g n e st ns ord es f ∧ H c = some (.dK (kvF ns h)) ∧ SqT K H ps (pn.map V.str) ∧ Tabs T H ∧ Feas ns (es.map (·.2)) f h pn ∧ sz ns h ≤ 800 ∧
  ∀ (l : Addr) (ms : List (Addr × Str × Int)) (f' h' : Str → Int) (H' : Hp), ExtN H H' → Tabs T H' → (∀ b o, H b = some o → (∀ ps, o ≠ .tbl ps) → b ≠ l) → H' l = some (.lst (ms.map fun m => V.ref m.1)) → TupsAt H' ms → PerfR ns (es.map (·.2)) pn f h (ms.map (·.2)) f' h' → sz ns h' = 0 → Q (.ref l) H'
section
variable {P : Program} {w : World} {K : PySem.W.Frag} {mg : Str → Option Value} {base : Heap}
theorem ok_closer {f : Addr} {fd : FuncData} (F : Fun K "closer_to_zero" "closer_to_zero" s_closer_to_zero f fd) (B : Bt mg) : FnG P w K mg base CX0 1 f fd ["number"] spCloser := by
  refine fnG0 F sc_closer_to_zero (fun vs H Q E h => ?_) (fun cdv A outer s H vs Q E hr h => ?_)
  · obtain ⟨x, rfl, _⟩ := h
    rfl
  · obtain ⟨x, rfl, q⟩ := h
    have nd := sc_closer_to_zero.nd
    have hu := hr.u1
    refine ⟨_, (pss_one (ps_ret (pe_ifExp (pt_cmpR uGt (pv 0) pe_int (nomark _)) (pe_op uSub (pv 0) pe_int) (pe_op (kAdd K rfl) (pv 0) pe_int)))), ?_⟩
    wtm_at "rd"
    refine rd_split (fun c => ?_) (fun c => ?_)
    · rw [if_pos c] at q
      wtm_at "rd"
      exact q
    · rw [if_neg c] at q
      wtm_at "rd"
      exact q
structure PFc (P : Program) (w : World) (K : PySem.W.Frag) (mg : Str → Option Value) (base : Heap) (T : List (Addr × Str)) : Prop where
  is_lift : Cal P w K mg base CX0 3 "is_lift" spIsLift
  find_anchors : Cal P w K mg base CX0 6 "find_anchors" (spFindAnch K T)
theorem ok_check_lift {f : Addr} {fd : FuncData} {T : List (Addr × Str)} (F : Fun K "check_lift" "check_lift" s_check_lift f fd) (B : Bt mg) (C : PFc P w K mg base T) : FnG P w K mg base CX0 7 f fd ["graph", "state", "lift", "pinned"] (spCheckLift K T) := by
  refine fnG0 F sc_check_lift (fun vs H Q E h => ?_) (fun cdv A outer s H vs Q E hr h => ?_)
  · obtain ⟨g, n, e, st, c, ps, ns, ord, pn, es, f, h, rfl, _⟩ := h
    rfl
  · obtain ⟨g, n, e, st, c, ps, ns, ord, pn, es, f, h, rfl, gs, hc, hps, tabs, fe, q⟩ := h
    have nd := sc_check_lift.nd
    have hu := hr.u1
    refine ⟨_, (pss_cons (ps_if (pt_not (pt_val (pe_c C.is_lift hr (by decide) rfl (pa_cons (pv 0) (pa_cons (pv 1) (pa_cons (pv 2) pa_nil)))))) (pss_one ps_dead) pss_nil)
  (pss_one (ps_for PassesOwn.never rfl (ki_list K rfl (pe_c C.find_anchors hr (by decide) rfl (pa_cons (pv 0) (pa_cons (pv 1) (pa_cons (pv 3) pa_nil))))) (pg_name (i := 4) nd rfl (by first | exact Or.inl rfl | exact Or.inr rfl)) (pss_one (ps_if (pt_cmpR (kNe K rfl hr.u64) (pe_dget hu (pv 2) (pv 4) (fun _ _ => rfl)) pe_int (nomark _)) (pss_one ps_dead) pss_nil))))), ?_⟩
    wtm_at "rd"
    refine ⟨g, n, e, st, c, ns, ord, es, f, h, rfl, gs, hc, fun H1 s1 => ?_⟩
    have fits : ((es.map (·.2)).all fun e => fitB f h e.1 e.2) = true := List.all_eq_true.mpr fun e he => fe.fit e he
    rw [fits]
    wtm_at "rd"
    refine ⟨g, n, e, st, ps, ns, ord, pn, es, f, rfl, gs.same s1, Same.seqT s1 hps, tabs.ext fun b o h => s1 b o h, fun al an H2 x2 tb2 _ hal _ am => ?_⟩
    have x02 : ExtN H H2 := (ExtN.of fun b o h => s1 b o h).trans x2
    have hc2 := ExtN.dk x2 (s1 _ _ hc)
    refine rd_forL (SqL.of hal) ?_
    refine turnsL (K := K) (xs := an.map V.str) (fun j σ H' => ∃ u : Option V, σ = [some (.ref g), some (.ref st), some (.ref c), some (.ref ps), u] ∧ H' = H2) ⟨_, rfl, rfl⟩ ?_ ?_ ?_
    · rintro j σ H' hj ⟨u, rfl, rfl⟩
      exact SqL.of hal
    · rintro j y σ H' hy ⟨u, rfl, rfl⟩
      obtain ⟨hj, rfl⟩ := map_at hy
      obtain ⟨a1, a2⟩ := (am _).mp (List.getElem_mem hj)
      generalize an[j] = y at *
      have h0 : h y = 0 := a2.elim (fe.pin y) (fe.cyc y)
      wtm_at "rd"
      refine rd_dat (.inl hc2) (kvF_val a1) rfl ?_
      wtm_at "rd"
      refine rd_nno h0 ?_
      wtm_at "rd"
      exact ⟨_, rfl, rfl⟩
    · rintro σ H' ⟨u, rfl, rfl⟩
      wtm_at "rd"
      exact q H' x02 tb2
structure PFs (P : Program) (w : World) (K : PySem.W.Frag) (mg : Str → Option Value) (base : Heap) : Prop where
  lift_size : Cal P w K mg base CX0 1 "lift_size" spSize
theorem ok_size2 {f : Addr} {fd : FuncData} (F : Fun K "lift_size" "lift_size" s_lift_size f fd) (B : Bt mg) : FnG P w K mg base CX0 1 f fd ["lift"] spSize := by
  refine fnG0 F sc_lift_size (fun vs H Q E h => ?_) (fun cdv A outer s H vs Q E hr h => ?_)
  · obtain ⟨a, ns, h, rfl, _⟩ := h
    rfl
  · obtain ⟨a, ns, h, rfl, ha, nl, q⟩ := h
    have nd := sc_lift_size.nd
    have hu := hr.u1
    refine ⟨_, (pss_one (ps_ret (pe_callB (kSum K rfl rfl) (by rfl) B.sum bb_sum (pa_cons (pe_lock (pe_lc (own := [("number", 1)]) rfl nd (pi_values (pv 0)) (blkOk_by (own := [("number", 1)]) (N := nN_lift_size) (sc := defScope s_lift_size) (by decide +kernel)) (fun _ _ _ _ _ => (pg_name (i := 1) nd rfl (by first | exact Or.inl rfl | exact Or.inr rfl))) (fun _ _ _ _ _ => pts_nil) (fun _ _ _ _ _ => (pe_callB cAbs (by rfl) B.abs bb_abs (pa_cons (pv 1) pa_nil))))) pa_nil)))), ?_⟩
    wtm_at "rd"
    refine rd_lockE ha fun od => ?_
    wtm_at "rd"
    refine rd_iVals ?_
    wtm_at "rd"
    refine rd_forI upd_same ?_
    intro D fD
    have nDa := new_ne fD
    have fD0 := new_old fD
    refine lcW walk_values (fun i H' => But a H H' ∧ H' a = some (.frz od (.dK (kvF ns h))) ∧ H' D = some (.lst (((ns.take i).map fun n => ((h n).natAbs : Int)).map V.int))) ⟨But.upd.trans (But.new fD), at_upd (Ne.symm nDa) upd_same, upd_same⟩ ?_ ?_ ?_
    · rintro i H' hi ⟨_, hf, _⟩
      exact hf
    · rintro i x H' H2 hi ⟨but, hf, hD⟩ ⟨rfl, k1, e1⟩
      have hin : i < ns.length := by rw [List.length_map] at hi; exact hi
      obtain ⟨_, rfl⟩ := key_at hin e1
      wtm_at "rd"
      refine rd_acc hD (by rw [List.length_map, List.length_map, List.length_take]; omega) ?_
      refine ⟨fun b' o' nb hb' => at_upd (ne_of_none hb' fD0) (but b' o' nb hb'), at_upd (Ne.symm nDa) hf, ?_⟩
      rw [upd_same, take_snoc hin, List.map_append, List.map_append]
      rfl
    · rintro H' ⟨but, hf, hD⟩
      rw [List.length_map, List.take_length] at hD
      refine ⟨hf, ?_⟩
      wtm_at "rd"
      refine rd_sumL (SqL.of (at_upd nDa hD)) ?_
      exact q _ (lk_same ha but)
theorem ok_check_size {f : Addr} {fd : FuncData} (F : FunP K "check_size" "check_size" s_check_size f fd) (B : Bt mg) (C : PFs P w K mg base) : FnG P w K mg base CX0 2 f fd ["lift", "limit"] spCheckSize := by
  refine fnG0P F sc_check_size (fun vs H Q E h => ?_) (fun cdv A outer s H vs Q E hr h => ?_)
  · obtain ⟨c, lim, ns, h, rfl, _⟩ := h
    rfl
  · obtain ⟨c, lim, ns, h, rfl, hc, nl, le, q⟩ := h
    have nd := sc_check_size.nd
    have hu := hr.u1
    refine ⟨_, (pss_one (ps_if (pt_cmpR uGt (pe_c C.lift_size hr (by decide) rfl (pa_cons (pv 0) pa_nil)) (pv 1) (nomark _)) (pss_one ps_dead) pss_nil)), ?_⟩
    wtm_at "rd"
    refine ⟨c, ns, h, rfl, hc, nl, fun H1 s1 => ?_⟩
    wtm_at "rd"
    refine rd_no (by omega) ?_
    wtm_at "rd"
    exact q H1 s1
theorem AdjAt.off {H : Hp} {ad a : Addr} {ns : List Str} {es : List (Str × Str)} {Ad : Str → Addr} (h : AdjAt H ad ns es Ad) (n : H a = none) : ad ≠ a ∧ ∀ x ∈ ns, Ad x ≠ a := ⟨ne_of_none h.di n, fun x hx => by
  obtain ⟨ys, h1, _⟩ := h.li x hx
  exact ne_of_none h1 n⟩
theorem AdjAt.put {H : Hp} {ad a : Addr} {o : HO} {ns : List Str} {es : List (Str × Str)} {Ad : Str → Addr} (h : AdjAt H ad ns es Ad) (n : ad ≠ a ∧ ∀ x ∈ ns, Ad x ≠ a) : AdjAt (upd H a o) ad ns es Ad := ⟨at_upd n.1 h.di, fun x hx => by
  obtain ⟨ys, h1, h2⟩ := h.li x hx
  exact ⟨ys, at_upd (n.2 x hx) h1, h2⟩⟩
theorem TupsAt.putD {H : Hp} {a : Addr} {o : HO} {xs : List (Key × V)} {ms : List (Addr × Str × Int)} (h : TupsAt H ms) (ha : H a = some (.dK xs)) : TupsAt (upd H a o) ms := fun m hm => at_upd (ne_of (h m hm) ha (by intro z; cases z)) (h m hm)
structure PFp (P : Program) (w : World) (K : PySem.W.Frag) (mg : Str → Option Value) (base : Heap) (T : List (Addr × Str)) : Prop where
  check_lift : Cal P w K mg base CX0 7 "check_lift" (spCheckLift K T)
  check_size : CalD P w K mg base CX0 2 "check_size" [.int 800] spCheckSize
  adjacency : Cal P w K mg base CX0 1 "adjacency" spAdj
  progress_moves_with : Cal P w K mg base CX0 3 "progress_moves_with" (spPwith K)
  closer_to_zero : Cal P w K mg base CX0 1 "closer_to_zero" spCloser
theorem ok_perform {f : Addr} {fd : FuncData} {T : List (Addr × Str)} (F : Fun K "perform_lift" "perform_lift" s_perform_lift f fd) (B : Bt mg) (C : PFp P w K mg base T) : FnG P w K mg base CX0 8 f fd ["graph", "state", "lift", "pinned"] (spPerf K T) := by
  refine fnG0 F sc_perform_lift (fun vs H Q E h => ?_) (fun cdv A outer s H vs Q E hr h => ?_)
  · obtain ⟨g, n, e, st, c, ps, ns, ord, pn, es, f, h, rfl, _⟩ := h
    rfl
  · obtain ⟨g, n, e, st, c, ps, ns, ord, pn, es, f, h, rfl, gs, hc, hps, tabs, fe, z8, q⟩ := h
    have nd := sc_perform_lift.nd
    have hu := hr.u1
    refine ⟨_, (pss_cons (ps_expr (pe_c C.check_lift hr (by decide) rfl (pa_cons (pv 0) (pa_cons (pv 1) (pa_cons (pv 2) (pa_cons (pv 3) pa_nil))))))
  (pss_cons (ps_expr (pe_cD C.check_size hr (by decide) rfl pass0 (pa_cons (pv 2) pa_nil)))
  (pss_cons (ps_set (i := 4) nd rfl (by first | exact Or.inl rfl | exact Or.inr rfl) (pe_c C.adjacency hr (by decide) rfl (pa_cons (pv 0) pa_nil)))
  (pss_cons (ps_set (i := 5) nd rfl (by first | exact Or.inl rfl | exact Or.inr rfl) (pe_callTy cDict (by rfl) B.dict bb_dict (pa_cons (pv 1) pa_nil)))
  (pss_cons (ps_set (i := 6) nd rfl (by first | exact Or.inl rfl | exact Or.inr rfl) (pe_callTy cDict (by rfl) B.dict bb_dict (pa_cons (pv 2) pa_nil)))
  (pss_cons (ps_set (i := 7) nd rfl (by first | exact Or.inl rfl | exact Or.inr rfl) (pe_lst pa_nil))
  (pss_cons (ps_while PassesOwn.never (pt_val (pe_callB (kAny K rfl rfl) (by rfl) B.any bb_any (pa_cons (pe_lock (pe_lc (own := [("number", 8)]) rfl nd (pi_values (pv 6)) (blkOk_by (own := [("number", 8)]) (N := nN_perform_lift) (sc := defScope s_perform_lift) (by decide +kernel)) (fun _ _ _ _ _ => (pg_name (i := 8) nd rfl (by first | exact Or.inl rfl | exact Or.inr rfl))) (fun _ _ _ _ _ => pts_nil) (fun _ _ _ _ _ => (pe_cmpR (kNe K rfl hr.u64) (pv 8) pe_int (nomark _))))) pa_nil))) (pss_cons (ps_asg (pe_ix (kIx K rfl) (pe_c C.progress_moves_with hr (by decide) rfl (pa_cons (pv 0) (pa_cons (pv 5) (pa_cons (pv 4) (pa_cons (pv 6) (pa_cons (pv 3) pa_nil)))))) pe_int (fun _ _ => rfl)) (kg_tup (n := 2) K rfl rfl (pgs_cons (pg_name (i := 9) nd rfl (by first | exact Or.inl rfl | exact Or.inr rfl)) (pgs_cons (pg_name (i := 10) nd rfl (by first | exact Or.inl rfl | exact Or.inr rfl)) pgs_nil))))
  (pss_cons (ps_expr (pe_bm PySem.F.plainAttrs_list PySem.F.slot_list_append PySem.F.type_list_append mt_append (pv 7) (pa_cons (pe_tup (pa_cons (pv 9) (pa_cons (pv 10) pa_nil))) pa_nil)))
  (pss_cons (ps_dput hu (pv 5) (pv 9) (pv 10) rfl)
  (pss_one (ps_dput hu (pv 6) (pv 9) (pe_c C.closer_to_zero hr (by decide) rfl (pa_cons (pe_dget hu (pv 6) (pv 9) (fun _ _ => rfl)) pa_nil)) rfl))))))
  (pss_one (ps_ret (pv 7)))))))))), ?_⟩
    have l2 := gs.l2
    wtm_at "rd"
    refine ⟨g, n, e, st, c, ps, ns, ord, pn, es, f, h, rfl, gs, hc, hps, tabs, fe, fun H1 x1 tb1 => ?_⟩
    have gs1 := gs.ext x1
    have hc1 := ExtN.dk x1 hc
    have hps1 := sqT_ext hps x1
    wtm_at "rd"
    refine ⟨c, 800, ns, h, rfl, hc1, gs.l2, z8, fun H2 s2 => ?_⟩
    wtm_at "rd"
    refine ⟨g, n, e, ns, es, rfl, (gs1.same s2).grs, fun ad Ad H3 s3 _ had => ?_⟩
    have s13 := s2.trans s3
    wtm_at "rd"
    refine ⟨_, .inl (s13 _ _ gs1.st), fun cu fcu => ?_⟩
    have fcu1 := new_of_same s13 fcu
    have s4 := same_add (o := .dK (kvF ord f)) s13 fcu
    have had4 := had.same (Same.new (o := .dK (kvF ord f)) fcu)
    have hcu4 := @upd_same H3 cu (.dK (kvF ord f))
    generalize upd H3 cu (.dK (kvF ord f)) = H4 at s4 had4 hcu4
    wtm_at "rd"
    refine ⟨_, .inl (s4 _ _ hc1), fun re fre => ?_⟩
    have fre1 := new_of_same s4 fre
    have nrc : re ≠ cu := Ne.symm (ne_of_none hcu4 fre)
    have s5 := same_add (o := .dK (kvF ns h)) s4 fre
    have had5 := had4.same (Same.new (o := .dK (kvF ns h)) fre)
    have hcu5 := at_upd (o := .dK (kvF ns h)) (Ne.symm nrc) hcu4
    have hre5 := @upd_same H4 re (.dK (kvF ns h))
    generalize upd H4 re (.dK (kvF ns h)) = H5 at s5 had5 hcu5 hre5
    wtm_at "rd"
    intro mv fmv
    have fmv1 := new_of_same s5 fmv
    have nmc : cu ≠ mv := ne_of_none hcu5 fmv
    have nmr : re ≠ mv := ne_of_none hre5 fmv
    have s6 := same_add (o := .lst []) s5 fmv
    have had6 := had5.same (Same.new (o := .lst []) fmv)
    have hcu6 := at_upd (o := .lst []) nmc hcu5
    have hre6 := at_upd (o := .lst []) nmr hre5
    have hmv6 := @upd_same H5 mv (.lst [])
    have nac := had.off fcu
    have nar := had4.off fre
    have nam := had5.off fmv
    generalize upd H5 mv (.lst []) = H6 at s6 had6 hcu6 hre6 hmv6
    clear s5 s4 s13 s2 s3 had had4 had5 hcu4 hcu5 hre5 fcu fre fmv
    wtm_at "rd"
    refine ⟨fun m σ H' => ∃ (ms : List (Addr × Str × Int)) (f' h' : Str → Int) (u8 u9 u10 : Option V), (m : Int) = sz ns h' ∧ σ = [some (.ref g), some (.ref st), some (.ref c), some (.ref ps), some (.ref ad), some (.ref cu), some (.ref re), some (.ref mv), u8, u9, u10] ∧ Same H1 H' ∧ AdjAt H' ad ns (es.map (·.2)) Ad ∧
      H' cu = some (.dK (kvF ord f')) ∧ H' re = some (.dK (kvF ns h')) ∧ H' mv = some (.lst (ms.map fun m => V.ref m.1)) ∧ TupsAt H' ms ∧ PerfR ns (es.map (·.2)) pn f h (ms.map (·.2)) f' h', ⟨(sz ns h).toNat, [], f, h, _, _, _, ?_, rfl, s6, had6, hcu6, hre6, hmv6, TupsAt.nil, .nil⟩, ?_⟩
    · have := sz_nn (xs := ns) (h := h)
      omega
    rintro m σ H7 ⟨ms, f', h', u8, u9, u10, hm, rfl, s7, ha, hcu, hre, hmv, tm, pr⟩
    obtain ⟨ok', fe', szl, _, pl⟩ := pr.any.keeps gs.eok gs.nd fe
    rw [List.length_map] at szl
    have sz0 := sz_nn (xs := ns) (h := h')
    wtm_at "rd"
    refine rd_lockE hre fun od => ?_
    wtm_at "rd"
    refine rd_iVals ?_
    wtm_at "rd"
    refine rd_forI upd_same ?_
    intro D fD
    have nDa := new_ne fD
    have fD0 := new_old fD
    refine lcW walk_values (fun i H' => But re H7 H' ∧ H' re = some (.frz od (.dK (kvF ns h'))) ∧ H' D = some (.lst (((ns.take i).map fun n => !decide (h' n = 0)).map V.bl))) ⟨But.upd.trans (But.new fD), at_upd (Ne.symm nDa) upd_same, upd_same⟩ ?_ ?_ ?_
    · rintro i H' hi ⟨_, hf, _⟩
      exact hf
    · rintro i x H' H2 hi ⟨but, hf, hD⟩ ⟨rfl, k1, e1⟩
      have hin : i < ns.length := by rw [List.length_map] at hi; exact hi
      obtain ⟨_, rfl⟩ := key_at hin e1
      wtm_at "rd"
      refine rd_acc hD (by rw [List.length_map, List.length_map, List.length_take]; omega) ?_
      refine ⟨fun b' o' nb hb' => at_upd (ne_of_none hb' fD0) (but b' o' nb hb'), at_upd (Ne.symm nDa) hf, ?_⟩
      rw [upd_same, take_snoc hin, List.map_append, List.map_append]
      rfl
    rintro H' ⟨but, hf, hD⟩
    rw [List.length_map, List.take_length] at hD
    refine ⟨hf, ?_⟩
    have s8 := lk_same hre but
    have hD8 := at_upd (o := .dK (kvF ns h')) nDa hD
    generalize upd H' re (.dK (kvF ns h')) = H8 at s8 hD8
    clear but hf hD nDa fD fD0
    refine ⟨_, SqL.of hD8, ?_⟩
    wtm_at "rd"
    have s18 := s7.trans s8
    have ha8 := ha.same s8
    have hcu8 := s8 _ _ hcu
    have hre8 := s8 _ _ hre
    have hmv8 := s8 _ _ hmv
    have tm8 := tm.same s8
    have anyI : ((ns.map fun n => !decide (h' n = 0)).any id) = decide (sz ns h' ≠ 0) := by
      rw [Bool.eq_iff_iff, decide_eq_true_iff, ne_eq, sz_zero, List.any_map, List.any_eq_true]
      constructor
      · rintro ⟨y, y1, y2⟩ z
        have : decide (h' y = 0) = false := by simpa using y2
        exact of_decide_eq_false this (z y y1)
      · intro z
        refine Classical.byContradiction fun nz => z fun n hn => Classical.byContradiction fun c => nz ⟨n, hn, ?_⟩
        show (!decide (h' n = 0)) = true
        rw [decide_eq_false c]
        rfl
    rw [anyI]
    clear hD8 s8 s7 ha hcu hre hmv tm
    refine rd_split (fun c1 => ?_) (fun c1 => ?_)
    · refine ⟨fun σ' H' => ∃ (ms : List (Addr × Str × Int)) (f'' h'' : Str → Int) (u8 u9 u10 : Option V), sz ns h'' = sz ns h' - 1 ∧ σ' = [some (.ref g), some (.ref st), some (.ref c), some (.ref ps), some (.ref ad), some (.ref cu), some (.ref re), some (.ref mv), u8, u9, u10] ∧ Same H1 H' ∧ AdjAt H' ad ns (es.map (·.2)) Ad ∧
        H' cu = some (.dK (kvF ord f'')) ∧ H' re = some (.dK (kvF ns h'')) ∧ H' mv = some (.lst (ms.map fun m => V.ref m.1)) ∧ TupsAt H' ms ∧ PerfR ns (es.map (·.2)) pn f h (ms.map (·.2)) f'' h'', fun σ' H' ⟨ms, f'', h'', u8, u9, u10, a1, a2, a3⟩ => ⟨m - 1, by omega, ms, f'', h'', u8, u9, u10, by omega, a2, a3⟩, ?_⟩
      wtm_at "rd"
      refine ⟨g, n, e, cu, ad, re, ps, ns, ord, pn, es, f', h', Ad, rfl, (gs1.same s18).re hcu8 ok', ha8, hre8, Same.seqT s18 hps1, fun pl pms H9 s9 _ hpl tpl epm => ?_⟩
      obtain ⟨m0, r0, er⟩ : ∃ m0 r0, progF ns (es.map (·.2)) f' h' pn = m0 :: r0 := by
        cases ep : progF ns (es.map (·.2)) f' h' pn with
        | nil => exact (c1 ((prog_some ok' gs.nd fe').mp ep)).elim
        | cons a r => exact ⟨a, r, rfl⟩
      have hm0 : m0 ∈ progF ns (es.map (·.2)) f' h' pn := by rw [er]; exact List.mem_cons_self
      obtain ⟨t0, pr0, rfl, rfl⟩ : ∃ t0 pr0, pms = t0 :: pr0 ∧ t0.2 = m0 := by
        rw [er] at epm
        cases pms with
        | nil => cases epm
        | cons a r => exact ⟨a, r, rfl, (List.cons.inj epm).1⟩
      have lg := (prog_legal hm0).1
      have mo := gs.inO _ lg.mem
      have ht0 := tpl t0 List.mem_cons_self
      wtm_at "rd"
      refine rd_ixL (SqL.of hpl) (v := .ref t0.1) (atI_nat (j := 0) rfl) ?_
      refine rd_unp (SqT.of ht0) rfl ?_
      have s19 := s18.trans s9
      have ha9 := ha8.same s9
      have hcu9 := s9 _ _ hcu8
      have hre9 := s9 _ _ hre8
      have hmv9 := s9 _ _ hmv8
      have tm9 := tm8.same s9
      wtm_at "rd"
      refine rd_tyL hmv9 ?_
      wtm_at "rd"
      intro t ft
      have k := Same.new (o := .tup [.str t0.2.1, .int t0.2.2]) ft
      have sA := s19.trans k
      have haA := ha9.same k
      have hcuA := k _ _ hcu9
      have hreA := k _ _ hre9
      have hmvA := k _ _ hmv9
      have tmA := tm9.same k
      have htA := @upd_same H9 t (.tup [.str t0.2.1, .int t0.2.2])
      generalize upd H9 t (.tup [.str t0.2.1, .int t0.2.2]) = HA at sA haA hcuA hreA hmvA tmA htA
      clear k ft hmv9 hre9 hcu9 ha9 tm9 s19 s9 hpl tpl epm ht0
      wtm_at "rd"
      refine rd_append hmvA (by rw [List.length_map]; omega) ?_
      have sB := same_put (o := .lst (ms.map (fun m => V.ref m.1) ++ [.ref t])) sA fmv1
      have haB := haA.put (o := .lst (ms.map (fun m => V.ref m.1) ++ [.ref t])) nam
      have hcuB := at_upd (o := .lst (ms.map (fun m => V.ref m.1) ++ [.ref t])) nmc hcuA
      have hreB := at_upd (o := .lst (ms.map (fun m => V.ref m.1) ++ [.ref t])) nmr hreA
      have tmB : TupsAt (upd HA mv (.lst (ms.map (fun m => V.ref m.1) ++ [.ref t]))) (ms ++ [(t, t0.2)]) := TupsAt.put (tmA.app fun z hz => by
        rw [List.mem_singleton] at hz
        subst hz
        exact htA) hmvA
      have hmvB : (upd HA mv (.lst (ms.map (fun m => V.ref m.1) ++ [.ref t]))) mv = some (.lst ((ms ++ [(t, t0.2)]).map fun m => V.ref m.1)) := by
        rw [upd_same, List.map_append]
        rfl
      generalize upd HA mv (.lst (ms.map (fun m => V.ref m.1) ++ [.ref t])) = HB at sB haB hcuB hreB tmB hmvB
      wtm_at "rd"
      refine rd_dset hcuB (k := .inr t0.2.1) rfl (by rw [List.length_map, gs.pm.length_eq]; omega) ?_
      rw [kvF_put mo]
      have sC := same_put (o := .dK (kvF ord (updf f' t0.2.1 t0.2.2))) sB fcu1
      have haC := haB.put (o := .dK (kvF ord (updf f' t0.2.1 t0.2.2))) nac
      have hreC := at_upd (o := .dK (kvF ord (updf f' t0.2.1 t0.2.2))) nrc hreB
      have hmvC := at_upd (o := .dK (kvF ord (updf f' t0.2.1 t0.2.2))) (Ne.symm nmc) hmvB
      have tmC := tmB.putD (o := .dK (kvF ord (updf f' t0.2.1 t0.2.2))) hcuB
      have hcuC := @upd_same HB cu (.dK (kvF ord (updf f' t0.2.1 t0.2.2)))
      generalize upd HB cu (.dK (kvF ord (updf f' t0.2.1 t0.2.2))) = HC at sC haC hreC hmvC tmC hcuC
      wtm_at "rd"
      refine rd_dat (.inl hreC) (kvF_val lg.mem) rfl ?_
      wtm_at "rd"
      refine ⟨_, rfl, ?_⟩
      wtm_at "rd"
      refine rd_dset hreC (k := .inr t0.2.1) rfl (by rw [List.length_map]; omega) ?_
      rw [kvF_put lg.mem]
      obtain ⟨_, _, p3, _⟩ := prog_step ok' gs.nd fe' hm0
      refine ⟨ms ++ [(t, t0.2)], updf f' t0.2.1 t0.2.2, redU h' t0.2.1, _, _, _, p3, rfl, same_put sC fre1, haC.put nar, at_upd (Ne.symm nrc) hcuC, upd_same, at_upd (Ne.symm nmr) hmvC, tmC.putD hreC, ?_⟩
      rw [List.map_append]
      exact .snoc pr er
    · have z0 : sz ns h' = 0 := Classical.byContradiction c1
      wtm_at "rd"
      exact q mv ms f' h' H8 (x1.trans (ExtN.of fun b o h => s18 b o h)) (tb1.ext fun b o h => s18 b o h) (fun b o h z => ne_of_none (x1 _ _ h z) fmv1) hmv8 tm8 pr z0
end
end Law

/-! the anchors, in their order -/
namespace Law
open PySem PySem.Spec PyProof.Rows L2 U LamX
local macro_rules | `(tactic| wtm_at "rd1") => `(tactic| first
  | with_reducible refine rd_seq ?_
  | ((with_reducible refine rd_var (v := ?vv) ?hv ?_); (case hv => exact rfl))
  | with_reducible refine rd_c ?_
  | with_reducible refine rd_cons ?_
  | with_reducible refine rd_nil ?_
  | with_reducible refine rd_op ?_
  | with_reducible refine rd_asg ?_
  | with_reducible refine rd_name ?_
  | with_reducible refine rd_c1 ?_
  | with_reducible refine rd_cb ?_
  | with_reducible refine rd_test ?_
  | with_reducible refine rd_B ?_
  | with_reducible refine rd_bl ?_
  | with_reducible refine rd_if ?_
  | with_reducible refine rd_ret ?_
  | with_reducible refine rd_drop ?_
  | with_reducible refine rd_next ?_
  | with_reducible refine rd_addI ?_
  | with_reducible refine rd_ltI ?_
  | with_reducible refine rd_eqI ?_
  | with_reducible refine rd_neI ?_
  | with_reducible refine rd_eqS ?_
  | with_reducible refine rd_neS ?_
  | with_reducible refine rd_gtI ?_
  | with_reducible refine rd_geI ?_
  | with_reducible refine rd_leI ?_
  | with_reducible refine rd_ltS ?_
  | with_reducible refine rd_subI ?_
  | ((with_reducible refine rd_modI ?hc ?_); (case hc => first | decide | omega))
  | ((with_reducible refine rd_mulI ?hc ?_); (case hc => first | exact mul_bI | exact .inl (.inr (by decide)) | exact .inl (.inl (by decide)) | exact .inl (.inr (by omega)) | exact .inl (.inl (by omega))))
  | ((with_reducible refine rd_divI ?hc ?_); (case hc => first | decide | omega))
  | ((with_reducible refine rd_powI ?hc ?_); (case hc => exact ⟨by decide, by decide, by decide⟩))
  | with_reducible refine rd_lst ?_
  | with_reducible refine rd_tup ?_
  | ((with_reducible refine rd_sz ?hv ?_); (case hv => exact rfl))
  | with_reducible refine rd_and ?_
  | with_reducible refine rd_or ?_
  | with_reducible refine rd_not ?_
  | with_reducible refine rd_andV ?_
  | with_reducible refine rd_orV ?_
  | with_reducible refine rd_notV ?_
  | with_reducible refine rd_ifE ?_
  | with_reducible refine rd_T ?_
  | with_reducible refine rd_F ?_
  | with_reducible refine rd_chain ?_
  | with_reducible refine rd_is ?_
  | with_reducible refine rd_isNot ?_
  | with_reducible refine rd_absI ?_
  | with_reducible refine rd_maxI ?_
  | with_reducible refine rd_minI ?_
  | with_reducible refine rd_intI ?_
  | with_reducible refine rd_intB ?_
  | with_reducible refine rd_sub ?_
  | with_reducible refine rd_sl ?_
  | with_reducible refine rd_noPart ?_
  | with_reducible refine rd_part ?_
  | with_reducible refine rd_exI ?_
  | with_reducible refine rd_bm ?_
  | with_reducible refine rd_bm0 ?_
  | with_reducible refine rd_un ?_
  | with_reducible refine rd_neg ?_
  | with_reducible refine rd_c2 ?_
  | with_reducible refine rd_retN ?_
  | with_reducible refine rd_break ?_
  | with_reducible refine rd_cont ?_
  | with_reducible refine rd_for ?_
  | with_reducible refine rd_rng1 ?_
  | with_reducible refine rd_rng2 ?_
  | with_reducible refine rd_iList ?_
  | with_reducible refine rd_iTup ?_
  | with_reducible refine rd_iEnum ?_
  | ((with_reducible refine rd_forR ?h0 ?h1 ?_); (case h0 => omega); (case h1 => omega))
  | with_reducible refine rd_lc ?_
  | with_reducible refine rd_gcons ?_
  | with_reducible refine rd_gnil ?_
  | with_reducible refine rd_dget ?_
  | with_reducible refine rd_dput ?_
  | with_reducible refine rd_dnew ?_
  | with_reducible refine rd_dc ?_
  | with_reducible refine rd_iItems ?_
  | with_reducible refine rd_iKeys ?_
  | with_reducible refine rd_din ?_
  | with_reducible refine rd_lc2 ?_
  | with_reducible refine rd_cd ?_
  | with_reducible refine rd_par ?_
  | with_reducible refine rd_two ?_
  | with_reducible refine rd_reprB ?_
  | with_reducible refine rd_ck ?_
  | ((with_reducible refine rd_len ?hl ?_); (case hl => exact rfl))
  | with_reducible refine rd_nT ?_
  | with_reducible refine rd_nF ?_
  | with_reducible refine rd_dnin ?_
  | with_reducible refine rd_isB ?_
  | with_reducible refine rd_isNotB ?_
  | with_reducible refine rd_daug ?_
  | with_reducible refine rd_yesT ?_
  | ((with_reducible refine rd_wp ?hw ?_); (case hw => exact rfl)))
local macro_rules | `(tactic| wtm_at "rd") => `(tactic| repeat wtm_at "rd1")

open Classical in
/-- the anchors among ns -/
noncomputable def ancF (ns : List Str) (es : List (Str × Str)) (f : Str → Int) (pn : List Str) : List Str := ns.filter fun y => decide (y ∈ pn ∨ Cyc es f y)
section
variable {ns a b : List Str} {es : List (Str × Str)} {f : Str → Int} {pn : List Str}
theorem ancF_app : ancF (a ++ b) es f pn = ancF a es f pn ++ ancF b es f pn := List.filter_append ..
theorem ancF_yes {x : Str} (h : x ∈ pn ∨ Cyc es f x) : ancF [x] es f pn = [x] := by
  classical
  unfold ancF
  rw [List.filter_cons, if_pos (decide_eq_true h)]
  rfl
theorem ancF_no {x : Str} (h : ¬ (x ∈ pn ∨ Cyc es f x)) : ancF [x] es f pn = [] := by
  classical
  unfold ancF
  rw [List.filter_cons, if_neg (by rw [decide_eq_false h]; exact Bool.false_ne_true)]
  rfl
theorem ancF_mem {x : Str} : x ∈ ancF ns es f pn ↔ x ∈ ns ∧ (x ∈ pn ∨ Cyc es f x) := by
  classical
  unfold ancF
  rw [List.mem_filter, decide_eq_true_iff]
theorem ancF_len : (ancF ns es f pn).length ≤ ns.length := List.length_filter_le _ _
end
def spFindAnchO (K : PySem.W.Frag) (T : List (Addr × Str)) : Sp := fun vs H Q _ => ∃ (g n e st ps : Addr) (ns ord pn : List Str) (es : List (Addr × Str × Str)) (f : Str → Int), vs = [.ref g, .ref st, .ref ps] ∧ GSt H g n e st ns ord es f ∧ SqT K H ps (pn.map V.str) ∧ Tabs T H ∧
  ∀ (l : Addr) (H' : Hp), ExtN H H' → Tabs T H' → (∀ b o, H b = some o → (∀ ps, o ≠ .tbl ps) → b ≠ l) → H' l = some (.lst ((ancF ns (es.map (·.2)) f pn).map V.str)) → Q (.ref l) H'
def spAnchO (K : PySem.W.Frag) : Sp := fun vs H Q _ => ∃ (g n e st ps : Addr) (ns ord pn : List Str) (es : List (Addr × Str × Str)) (f : Str → Int), vs = [.ref g, .ref st, .ref ps] ∧ GSt H g n e st ns ord es f ∧ SqT K H ps (pn.map V.str) ∧
  ∀ (l : Addr) (H' : Hp), Same H H' → H l = none → H' l = some (.lst ((ancF ns (es.map (·.2)) f pn).map V.str)) → Q (.ref l) H'
section
variable {P : Program} {w : World} {K : PySem.W.Frag} {mg : Str → Option Value} {base : Heap}
theorem ok_find_anchorsO {f : Addr} {fd : FuncData} {T : List (Addr × Str)} (F : Fun K "find_anchors" "find_anchors" s_find_anchors f fd) (B : Bt mg) (C : Y7d P w K mg base T) : FnG P w K mg base CX0 6 f fd ["graph", "state", "pinned"] (spFindAnchO K T) := by
  refine fnG0 F sc_find_anchors (fun vs H Q E h => ?_) (fun cdv A outer s H vs Q E hr h => ?_)
  · obtain ⟨g, n, e, st, ps, ns, ord, pn, es, f, rfl, _⟩ := h
    rfl
  · obtain ⟨g, n, e, st, ps, ns, ord, pn, es, f, rfl, gs, hps, tabs, q⟩ := h
    have nd := sc_find_anchors.nd
    have hu := hr.u1
    refine ⟨_, (pss_cons (ps_set (i := 3) nd rfl (by first | exact Or.inl rfl | exact Or.inr rfl) (pe_c C.cycle_nodes hr (by decide) rfl (pa_cons (pv 0) (pa_cons (pv 1) pa_nil))))
  (pss_one (ps_ret (pe_lc (own := [("node", 4)]) rfl nd (ki_tup K rfl (pe_ix (kIx K rfl) (pv 0) pe_int (fun _ _ => rfl))) (blkOk_by (own := [("node", 4)]) (N := nN_find_anchors) (sc := defScope s_find_anchors) (by decide +kernel)) (fun _ _ _ _ _ => (pg_name (i := 4) nd rfl (by first | exact Or.inl rfl | exact Or.inr rfl))) (fun _ _ _ _ _ => (pts_one (PW.pt (pw_or (pt_cmpR (kIn K rfl) (pv 4) (pv 2) rfl) (pw_or1 (pt_cmpR (kIn K rfl) (pv 4) (pv 3) rfl)))))) (fun _ _ _ _ _ => (pv 4)))))), ?_⟩
    wtm_at "rd"
    refine ⟨g, n, e, st, ns, ord, es, f, rfl, gs, tabs, fun cl cy H1 x1 tb1 fcl hcl cm => ?_⟩
    have gs1 := gs.ext x1
    have hps1 := sqT_ext hps x1
    wtm_at "rd"
    refine rd_ixT (SqT.of gs1.gr.top) (v := .ref n) rfl ?_
    refine rd_forT (SqT.of gs1.gr.nodes) ?_
    intro D fD
    have fD0 : ∀ b o, H b = some o → (∀ ps, o ≠ .tbl ps) → b ≠ D := fun b o h z => ne_of_none (x1 _ _ h z) fD
    refine lcT (K := K) (xs := ns.map V.str) (fun j H' => Same H1 H' ∧ H' D = some (.lst ((ancF (ns.take j) (es.map (·.2)) f pn).map V.str))) ⟨Same.new fD, upd_same⟩ ?_ ?_ ?_
    · rintro j H' hj ⟨sb, _⟩
      exact SqT.of (sb _ _ gs1.gr.nodes)
    · rintro j y H' hy ⟨sb, hD⟩
      obtain ⟨hj, rfl⟩ := map_at hy
      have tk := take_snoc hj
      have al : (ancF (ns.take j) (es.map (·.2)) f pn).length ≤ 1000 := Nat.le_trans ancF_len (by rw [List.length_take]; have := gs.l2; omega)
      rw [tk, ancF_app, List.map_append]
      have hxn := List.getElem_mem hj
      generalize ns[j] = a at *
      wtm_at "rd"
      refine rd_inST (Same.seqT sb hps1) ?_
      wtm_at "rd"
      refine rd_split (fun c1 => ?_) (fun c1 => ?_)
      · wtm_at "rd"
        refine rd_acc hD (by rw [List.length_map]; omega) ?_
        rw [ancF_yes (.inl c1)]
        exact ⟨same_put sb fD, upd_same⟩
      · wtm_at "rd"
        refine rd_inSL (SqL.of (sb _ _ hcl)) ?_
        wtm_at "rd"
        refine rd_split (fun c2 => ?_) (fun c2 => ?_)
        · wtm_at "rd"
          refine rd_acc hD (by rw [List.length_map]; omega) ?_
          rw [ancF_yes (.inr ((cm _).mp c2).2)]
          exact ⟨same_put sb fD, upd_same⟩
        · rw [ancF_no fun z => z.elim c1 fun z => c2 ((cm _).mpr ⟨hxn, z⟩)]
          exact ⟨sb, hD.trans (by rw [List.map_nil, List.append_nil])⟩
    · rintro H' ⟨sb, hD⟩
      rw [List.length_map, List.take_length] at hD
      exact q D H' (x1.trans (ExtN.of fun b o h => sb b o h)) (tb1.ext fun b o h => sb b o h) fD0 hD
theorem ok_anchorsO {f : Addr} {fd : FuncData} (F : Fun K "_law_anchors_of" "_law_anchors_of" s__law_anchors_of f fd) (B : Bt mg) (C : E1p P w K mg base) : FnG P w K mg base CX0 4 f fd ["_law_graph", "_law_state", "_law_pins"] (spAnchO K) := by
  refine fnG0 F sc__law_anchors_of (fun vs H Q E h => ?_) (fun cdv A outer s H vs Q E hr h => ?_)
  · obtain ⟨g, n, e, st, ps, ns, ord, pn, es, f, rfl, _⟩ := h
    rfl
  · obtain ⟨g, n, e, st, ps, ns, ord, pn, es, f, rfl, gs, hps, q⟩ := h
    have nd := sc__law_anchors_of.nd
    have hu := hr.u1
    refine ⟨_, (pss_one (ps_ret (pe_lc (own := [("_law_node", 3)]) rfl nd (ki_tup K rfl (pe_ix (kIx K rfl) (pv 0) pe_int (fun _ _ => rfl))) (blkOk_by (own := [("_law_node", 3)]) (N := nN__law_anchors_of) (sc := defScope s__law_anchors_of) (by decide +kernel)) (fun _ _ _ _ _ => (pg_name (i := 3) nd rfl (by first | exact Or.inl rfl | exact Or.inr rfl))) (fun _ _ _ _ _ => (pts_one (PW.pt (pw_or (pt_cmpR (kIn K rfl) (pv 3) (pv 2) rfl) (pw_or1 (pt_val (pe_c C._law_on_cycle hr (by decide) rfl (pa_cons (pv 0) (pa_cons (pv 1) (pa_cons (pv 3) pa_nil)))))))))) (fun _ _ _ _ _ => (pv 3))))), ?_⟩
    wtm_at "rd"
    refine rd_ixT (SqT.of gs.gr.top) (v := .ref n) rfl ?_
    refine rd_forT (SqT.of gs.gr.nodes) ?_
    intro D fD
    refine lcT (K := K) (xs := ns.map V.str) (fun j H' => Same H H' ∧ H' D = some (.lst ((ancF (ns.take j) (es.map (·.2)) f pn).map V.str))) ⟨Same.new fD, upd_same⟩ ?_ ?_ ?_
    · rintro j H' hj ⟨sb, _⟩
      exact SqT.of (sb _ _ gs.gr.nodes)
    · rintro j y H' hy ⟨sb, hD⟩
      obtain ⟨hj, rfl⟩ := map_at hy
      have tk := take_snoc hj
      have al : (ancF (ns.take j) (es.map (·.2)) f pn).length ≤ 1000 := Nat.le_trans ancF_len (by rw [List.length_take]; have := gs.l2; omega)
      rw [tk, ancF_app, List.map_append]
      have hxn := List.getElem_mem hj
      generalize ns[j] = x at *
      wtm_at "rd"
      refine rd_inST (Same.seqT sb hps) ?_
      wtm_at "rd"
      refine rd_split (fun c1 => ?_) (fun c1 => ?_)
      · wtm_at "rd"
        refine rd_acc hD (by rw [List.length_map]; omega) ?_
        rw [ancF_yes (.inl c1)]
        exact ⟨same_put sb fD, upd_same⟩
      · wtm_at "rd"
        refine ⟨g, n, e, st, x, ns, ord, es, f, rfl, gs.same sb, hxn, fun b H8 s8 hb => ?_⟩
        have hD8 := s8 _ _ hD
        cases b with
        | true =>
          wtm_at "rd"
          refine rd_acc hD8 (by rw [List.length_map]; omega) ?_
          rw [ancF_yes (.inr (hb.mp rfl))]
          exact ⟨same_put (sb.trans s8) fD, upd_same⟩
        | false =>
          wtm_at "rd"
          rw [ancF_no fun z => z.elim c1 fun z => nomatch hb.mpr z]
          exact ⟨sb.trans s8, hD8.trans (by rw [List.map_nil, List.append_nil])⟩
    · rintro H' ⟨sb, hD⟩
      rw [List.length_map, List.take_length] at hD
      exact q D H' sb fD hD
end
end Law

/-! lifts whose keys stand in any order -/
namespace Law
open PySem PySem.Spec PyProof.Rows L2 U LamX
local macro_rules | `(tactic| wtm_at "rd1") => `(tactic| first
  | with_reducible refine rd_seq ?_
  | ((with_reducible refine rd_var (v := ?vv) ?hv ?_); (case hv => exact rfl))
  | with_reducible refine rd_c ?_
  | with_reducible refine rd_cons ?_
  | with_reducible refine rd_nil ?_
  | with_reducible refine rd_op ?_
  | with_reducible refine rd_asg ?_
  | with_reducible refine rd_name ?_
  | with_reducible refine rd_c1 ?_
  | with_reducible refine rd_cb ?_
  | with_reducible refine rd_test ?_
  | with_reducible refine rd_B ?_
  | with_reducible refine rd_bl ?_
  | with_reducible refine rd_if ?_
  | with_reducible refine rd_ret ?_
  | with_reducible refine rd_drop ?_
  | with_reducible refine rd_next ?_
  | with_reducible refine rd_addI ?_
  | with_reducible refine rd_ltI ?_
  | with_reducible refine rd_eqI ?_
  | with_reducible refine rd_neI ?_
  | with_reducible refine rd_eqS ?_
  | with_reducible refine rd_neS ?_
  | with_reducible refine rd_gtI ?_
  | with_reducible refine rd_geI ?_
  | with_reducible refine rd_leI ?_
  | with_reducible refine rd_ltS ?_
  | with_reducible refine rd_subI ?_
  | ((with_reducible refine rd_modI ?hc ?_); (case hc => first | decide | omega))
  | ((with_reducible refine rd_mulI ?hc ?_); (case hc => first | exact mul_bI | exact .inl (.inr (by decide)) | exact .inl (.inl (by decide)) | exact .inl (.inr (by omega)) | exact .inl (.inl (by omega))))
  | ((with_reducible refine rd_divI ?hc ?_); (case hc => first | decide | omega))
  | ((with_reducible refine rd_powI ?hc ?_); (case hc => exact ⟨by decide, by decide, by decide⟩))
  | with_reducible refine rd_lst ?_
  | with_reducible refine rd_tup ?_
  | ((with_reducible refine rd_sz ?hv ?_); (case hv => exact rfl))
  | with_reducible refine rd_and ?_
  | with_reducible refine rd_or ?_
  | with_reducible refine rd_not ?_
  | with_reducible refine rd_andV ?_
  | with_reducible refine rd_orV ?_
  | with_reducible refine rd_notV ?_
  | with_reducible refine rd_ifE ?_
  | with_reducible refine rd_T ?_
  | with_reducible refine rd_F ?_
  | with_reducible refine rd_chain ?_
  | with_reducible refine rd_is ?_
  | with_reducible refine rd_isNot ?_
  | with_reducible refine rd_absI ?_
  | with_reducible refine rd_maxI ?_
  | with_reducible refine rd_minI ?_
  | with_reducible refine rd_intI ?_
  | with_reducible refine rd_intB ?_
  | with_reducible refine rd_sub ?_
  | with_reducible refine rd_sl ?_
  | with_reducible refine rd_noPart ?_
  | with_reducible refine rd_part ?_
  | with_reducible refine rd_exI ?_
  | with_reducible refine rd_bm ?_
  | with_reducible refine rd_bm0 ?_
  | with_reducible refine rd_un ?_
  | with_reducible refine rd_neg ?_
  | with_reducible refine rd_c2 ?_
  | with_reducible refine rd_retN ?_
  | with_reducible refine rd_break ?_
  | with_reducible refine rd_cont ?_
  | with_reducible refine rd_for ?_
  | with_reducible refine rd_rng1 ?_
  | with_reducible refine rd_rng2 ?_
  | with_reducible refine rd_iList ?_
  | with_reducible refine rd_iTup ?_
  | with_reducible refine rd_iEnum ?_
  | ((with_reducible refine rd_forR ?h0 ?h1 ?_); (case h0 => omega); (case h1 => omega))
  | with_reducible refine rd_lc ?_
  | with_reducible refine rd_gcons ?_
  | with_reducible refine rd_gnil ?_
  | with_reducible refine rd_dget ?_
  | with_reducible refine rd_dput ?_
  | with_reducible refine rd_dnew ?_
  | with_reducible refine rd_dc ?_
  | with_reducible refine rd_iItems ?_
  | with_reducible refine rd_iKeys ?_
  | with_reducible refine rd_din ?_
  | with_reducible refine rd_lc2 ?_
  | with_reducible refine rd_cd ?_
  | with_reducible refine rd_par ?_
  | with_reducible refine rd_two ?_
  | with_reducible refine rd_reprB ?_
  | with_reducible refine rd_ck ?_
  | ((with_reducible refine rd_len ?hl ?_); (case hl => exact rfl))
  | with_reducible refine rd_nT ?_
  | with_reducible refine rd_nF ?_
  | with_reducible refine rd_dnin ?_
  | with_reducible refine rd_isB ?_
  | with_reducible refine rd_isNotB ?_
  | with_reducible refine rd_daug ?_
  | with_reducible refine rd_yesT ?_
  | ((with_reducible refine rd_wp ?hw ?_); (case hw => exact rfl)))
local macro_rules | `(tactic| wtm_at "rd") => `(tactic| repeat wtm_at "rd1")

def spNumG : Sp := fun vs H Q _ => ∃ (g n e st c : Addr) (ns ord lo : List Str) (es : List (Addr × Str × Str)) (f h : Str → Int), vs = [.ref g, .ref c] ∧ GSt H g n e st ns ord es f ∧ H c = some (.dK (kvF lo h)) ∧ lo.Perm ns ∧ ∀ H' : Hp, Same H H' → Q (.bl true) H'
def spIsLiftG : Sp := fun vs H Q _ => ∃ (g n e st c : Addr) (ns ord lo : List Str) (es : List (Addr × Str × Str)) (f h : Str → Int), vs = [.ref g, .ref st, .ref c] ∧ GSt H g n e st ns ord es f ∧ H c = some (.dK (kvF lo h)) ∧ lo.Perm ns ∧
  ∀ H' : Hp, Same H H' → Q (.bl ((es.map (·.2)).all fun e => fitB f h e.1 e.2)) H'
def spPwithG (K : PySem.W.Frag) : Sp := fun vs H Q _ => ∃ (g n e st ad c ps : Addr) (ns ord lo pn : List Str) (es : List (Addr × Str × Str)) (f h : Str → Int) (Ad : Str → Addr), vs = [.ref g, .ref st, .ref ad, .ref c, .ref ps] ∧ GSt H g n e st ns ord es f ∧ AdjAt H ad ns (es.map (·.2)) Ad ∧ H c = some (.dK (kvF lo h)) ∧ lo.Perm ns ∧ SqT K H ps (pn.map V.str) ∧
  ∀ (l : Addr) (ms : List (Addr × Str × Int)) (H' : Hp), Same H H' → H l = none → H' l = some (.lst (ms.map fun m => V.ref m.1)) → TupsAt H' ms → ms.map (·.2) = progF ns (es.map (·.2)) f h pn → Q (.ref l) H'
section
variable {P : Program} {w : World} {K : PySem.W.Frag} {mg : Str → Option Value} {base : Heap}
theorem ok_numG {f : Addr} {fd : FuncData} (F : Fun K "is_number_dict" "is_number_dict" s_is_number_dict f fd) (B : Bt mg) (C : D5 P w K mg base) : FnG P w K mg base CX0 2 f fd ["graph", "candidate"] spNumG := by
  refine fnG0 F sc_is_number_dict (fun vs H Q E h => ?_) (fun cdv A outer s H vs Q E hr h => ?_)
  · obtain ⟨g, n, e, st, c, ns, ord, lo, es, f, h, rfl, _⟩ := h
    rfl
  · obtain ⟨g, n, e, st, c, ns, ord, lo, es, f, h, rfl, gs, hc, pm, q⟩ := h
    have nd := sc_is_number_dict.nd
    have hu := hr.u1
    refine ⟨_, (pss_cons (ps_if (PW.pt (pw_or (pt_not (pt_val (pe_callB (kIsi K rfl) (by rfl) B.isinstance bb_isinstance (pa_cons (pv 1) (pa_cons (pe_ty rfl B.dict bb_dict) pa_nil))))) (pw_or1 (pt_cmpR (kNe K rfl hr.u64) (pe_callB (kLen K rfl) (by rfl) B.len bb_len (pa_cons (pv 1) pa_nil)) (pe_callB (kLen K rfl) (by rfl) B.len bb_len (pa_cons (pe_ix (kIx K rfl) (pv 0) pe_int (fun _ _ => rfl)) pa_nil)) (nomark _))))) (pss_one (ps_ret pe_bl)) pss_nil)
  (pss_one (ps_ret (pe_callB (kAll K rfl rfl) (by rfl) B.all bb_all (pa_cons (pe_lc (own := [("node", 2)]) rfl nd (ki_tup K rfl (pe_ix (kIx K rfl) (pv 0) pe_int (fun _ _ => rfl))) (blkOk_by (own := [("node", 2)]) (N := nN_is_number_dict) (sc := defScope s_is_number_dict) (by decide +kernel)) (fun _ _ _ _ _ => (pg_name (i := 2) nd rfl (by first | exact Or.inl rfl | exact Or.inr rfl))) (fun _ _ _ _ _ => pts_nil) (fun _ _ _ _ _ => (pe_and (pe_cmp (pc_din hu (pv 2) (pv 1))) (pe_one (pe_c C.is_integer hr (by decide) rfl (pa_cons (pe_dget hu (pv 1) (pv 2) (fun _ _ => rfl)) pa_nil)))))) pa_nil))))), ?_⟩
    wtm_at "rd"
    refine rd_isi (ty_dK hc) (t := .dct) (by decide +kernel) ?_
    rw [show isT .dct .dct = true from by decide +kernel]
    wtm_at "rd"
    refine rd_lenD hc ?_
    wtm_at "rd"
    refine rd_ixT (SqT.of gs.gr.top) (v := .ref n) rfl ?_
    wtm_at "rd"
    refine rd_lenT (SqT.of gs.gr.nodes) ?_
    rw [List.length_map, List.length_map]
    wtm_at "rd"
    rw [pm.length_eq]
    refine rd_nno rfl ?_
    wtm_at "rd"
    refine rd_ixT (SqT.of gs.gr.top) (v := .ref n) rfl ?_
    refine rd_forT (SqT.of gs.gr.nodes) ?_
    intro D fD
    refine lcT (K := K) (xs := ns.map V.str) (fun i H' => Same H H' ∧ H' D = some (.lst ((List.replicate i true).map V.bl))) ⟨Same.new fD, upd_same⟩ ?_ ?_ ?_
    · rintro i H' hi ⟨s, _⟩
      exact SqT.of (s _ _ gs.gr.nodes)
    · rintro i y H' hy ⟨s, hD⟩
      obtain ⟨hi, rfl⟩ := map_at hy
      have hm := List.getElem_mem hi
      wtm_at "rd"
      refine rd_din1 (.inl (s _ _ hc)) (k := .inr ns[i]) rfl ?_
      rw [kvF_val (pm.mem_iff.mpr hm)]
      refine rd_bl ?_
      refine rd_T ?_
      wtm_at "rd"
      refine rd_dat (.inl (s _ _ hc)) (kvF_val (pm.mem_iff.mpr hm)) rfl ?_
      wtm_at "rd"
      refine ⟨_, .int, rfl, ty_int, ?_⟩
      refine rd_acc hD (by rw [List.length_map, List.length_replicate]; have := gs.l2; omega) ?_
      refine ⟨same_put s fD, ?_⟩
      rw [upd_same, List.replicate_succ', List.map_append]
      rfl
    · rintro H' ⟨s, hD⟩
      wtm_at "rd"
      refine rd_allL (SqL.of hD) ?_
      have : (List.replicate (ns.map V.str).length true).all id = true := by
        rw [List.all_eq_true]
        intro b hb
        exact List.eq_of_mem_replicate hb
      rw [this]
      exact q H' s
structure D6G (P : Program) (w : World) (K : PySem.W.Frag) (mg : Str → Option Value) (base : Heap) : Prop where
  is_number_dict : Cal P w K mg base CX0 2 "is_number_dict" spNumG
  fits_edge : Cal P w K mg base CX0 2 "fits_edge" spFit
theorem ok_is_liftG {f : Addr} {fd : FuncData} (F : Fun K "is_lift" "is_lift" s_is_lift f fd) (B : Bt mg) (C : D6G P w K mg base) : FnG P w K mg base CX0 3 f fd ["graph", "state", "candidate"] spIsLiftG := by
  refine fnG0 F sc_is_lift (fun vs H Q E h => ?_) (fun cdv A outer s H vs Q E hr h => ?_)
  · obtain ⟨g, n, e, st, c, ns, ord, lo, es, f, h, rfl, _⟩ := h
    rfl
  · obtain ⟨g, n, e, st, c, ns, ord, lo, es, f, h, rfl, gs, hc, pm, q⟩ := h
    have nd := sc_is_lift.nd
    have hu := hr.u1
    refine ⟨_, (pss_cons (ps_if (pt_not (pt_val (pe_c C.is_number_dict hr (by decide) rfl (pa_cons (pv 0) (pa_cons (pv 2) pa_nil))))) (pss_one (ps_ret pe_bl)) pss_nil)
  (pss_one (ps_ret (pe_callB (kAll K rfl rfl) (by rfl) B.all bb_all (pa_cons (pe_lc (own := [("one", 3), ("other", 4)]) rfl nd (ki_tup K rfl (pe_ix (kIx K rfl) (pv 0) pe_int (fun _ _ => rfl))) (blkOk_by (own := [("one", 3), ("other", 4)]) (N := nN_is_lift) (sc := defScope s_is_lift) (by decide +kernel)) (fun _ _ _ _ _ => (kg_tup (n := 2) K rfl rfl (pgs_cons (pg_name (i := 3) nd rfl (by first | exact Or.inl rfl | exact Or.inr rfl)) (pgs_cons (pg_name (i := 4) nd rfl (by first | exact Or.inl rfl | exact Or.inr rfl)) pgs_nil)))) (fun _ _ _ _ _ => pts_nil) (fun _ _ _ _ _ => (pe_c C.fits_edge hr (by decide) rfl (pa_cons (pv 1) (pa_cons (pv 2) (pa_cons (pv 3) (pa_cons (pv 4) pa_nil))))))) pa_nil))))), ?_⟩
    wtm_at "rd"
    refine ⟨g, n, e, st, c, ns, ord, lo, es, f, h, rfl, gs, hc, pm, fun H1 s1 => ?_⟩
    wtm_at "rd"
    refine rd_ixT (SqT.of (s1 _ _ gs.gr.top)) (v := .ref e) rfl ?_
    refine rd_forT (SqT.of (s1 _ _ gs.gr.edges)) ?_
    intro D fD
    have fD0 := new_of_same s1 fD
    refine lcT (K := K) (xs := es.map fun x => V.ref x.1) (fun i H' => Same H H' ∧ H' D = some (.lst ((((es.map (·.2)).take i).map fun e => fitB f h e.1 e.2).map V.bl))) ⟨same_add s1 fD, upd_same⟩ ?_ ?_ ?_
    · rintro i H' hi ⟨s, _⟩
      exact SqT.of (s _ _ gs.gr.edges)
    · rintro i y H' hy ⟨s, hD⟩
      obtain ⟨hi, rfl⟩ := map_at hy
      have hm := List.getElem_mem hi
      have i2 : i < (es.map (·.2)).length := by rw [List.length_map]; exact hi
      have tk := take_snoc i2
      rw [List.getElem_map] at tk
      obtain ⟨m1, m2⟩ := gs.inE _ hm
      refine rd_unp (SqT.of (s _ _ (gs.gr.pairs _ hm))) rfl ?_
      wtm_at "rd"
      refine ⟨st, c, _, _, ord, lo, f, h, rfl, s _ _ gs.st, s _ _ hc, gs.inO _ m1, gs.inO _ m2, pm.mem_iff.mpr m1, pm.mem_iff.mpr m2, fun H2 s2 => ?_⟩
      refine rd_acc (s2 _ _ hD) (by rw [List.length_map, List.length_map, List.length_take]; have := gs.l3; omega) ?_
      refine ⟨same_put (s.trans s2) fD0, ?_⟩
      rw [upd_same, tk, List.map_append, List.map_append]
      rfl
    · rintro H' ⟨s, hD⟩
      rw [List.length_map, List.take_of_length_le (by rw [List.length_map]; exact Nat.le_refl _)] at hD
      wtm_at "rd"
      refine rd_allL (SqL.of hD) ?_
      rw [List.all_map]
      exact q H' s
theorem ok_pwithG {f : Addr} {fd : FuncData} (F : Fun K "progress_moves_with" "progress_moves_with" s_progress_moves_with f fd) (B : Bt mg) (C : E2b P w K mg base) : FnG P w K mg base CX0 3 f fd ["graph", "state", "adjacent", "lift", "pinned"] (spPwithG K) := by
  refine fnG0 F sc_progress_moves_with (fun vs H Q E h => ?_) (fun cdv A outer s H vs Q E hr h => ?_)
  · obtain ⟨g, n, e, st, ad, c, ps, ns, ord, lo, pn, es, f, h, Ad, rfl, _⟩ := h
    rfl
  · obtain ⟨g, n, e, st, ad, c, ps, ns, ord, lo, pn, es, f, h, Ad, rfl, gs, had, hc, pml, hps, q⟩ := h
    have nd := sc_progress_moves_with.nd
    have hu := hr.u1
    refine ⟨_, (pss_cons (ps_set (i := 5) nd rfl (by first | exact Or.inl rfl | exact Or.inr rfl) (pe_lst pa_nil))
  (pss_cons (ps_for PassesOwn.never rfl (ki_tup K rfl (pe_ix (kIx K rfl) (pv 0) pe_int (fun _ _ => rfl))) (pg_name (i := 6) nd rfl (by first | exact Or.inl rfl | exact Or.inr rfl)) (pss_cons (ps_set (i := 7) nd rfl (by first | exact Or.inl rfl | exact Or.inr rfl) (pe_c C.progress_value hr (by decide) rfl (pa_cons (pv 1) (pa_cons (pe_dget hu (pv 2) (pv 6) (fun _ _ => rfl)) (pa_cons (pv 6) (pa_cons (pe_dget hu (pv 3) (pv 6) (fun _ _ => rfl)) pa_nil))))))
  (pss_one (ps_if (PW.pt (pw_and (pt_cmpR uIsNot (pv 7) pe_non (nomark _)) (pw_and1 (pt_cmpR (kNotIn K rfl) (pv 6) (pv 4) rfl)))) (pss_one (ps_expr (pe_bm PySem.F.plainAttrs_list PySem.F.slot_list_append PySem.F.type_list_append mt_append (pv 5) (pa_cons (pe_tup (pa_cons (pv 6) (pa_cons (pv 7) pa_nil))) pa_nil)))) pss_nil))))
  (pss_one (ps_ret (pv 5))))), ?_⟩
    have l1 : ns.length ≤ 100 := gs.l2
    wtm_at "rd"
    intro l fl
    have s1 := Same.new (o := .lst []) fl
    have hl1 := @upd_same H l (.lst [])
    generalize upd H l (.lst []) = H1 at s1 hl1
    wtm_at "rd"
    refine rd_ixT (SqT.of (s1 _ _ gs.gr.top)) (v := .ref n) rfl ?_
    refine rd_forT (SqT.of (s1 _ _ gs.gr.nodes)) ?_
    refine turnsT (K := K) (xs := ns.map V.str) (fun i σ H' => ∃ (ms : List (Addr × Str × Int)) (u7 u8 : Option V), σ = [some (.ref g), some (.ref st), some (.ref ad), some (.ref c), some (.ref ps), some (.ref l), u7, u8] ∧ Same H H' ∧ H' l = some (.lst (ms.map fun m => V.ref m.1)) ∧ TupsAt H' ms ∧ ms.length ≤ i ∧ ms.map (·.2) = (ns.take i).flatMap (pmF (es.map (·.2)) f h pn))
      ⟨[], _, _, rfl, s1, hl1, TupsAt.nil, Nat.le_refl _, rfl⟩ ?_ ?_ ?_
    · rintro i σ H' hi ⟨ms, u7, u8, rfl, s, _⟩
      exact SqT.of (s _ _ gs.gr.nodes)
    · rintro i y σ H2 hy ⟨ms, u7, u8, rfl, s, hl, tm, ml, em⟩
      obtain ⟨hi, rfl⟩ := map_at hy
      have hx := List.getElem_mem hi
      rw [take_snoc hi, List.flatMap_append, ← em]
      generalize ns[i] = x at *
      have had2 := had.same s
      have hos := had2.at gs.ok hx
      have osn : ∀ o ∈ nbS (es.map (·.2)) x, o ∈ ord := fun o ho => gs.inO _ (nbS_in gs.ok ho)
      have osl : (nbS (es.map (·.2)) x).length ≤ 2000 := by
        unfold nbS
        rw [(sortS_perm _).length_eq]
        have := nbrF_len (x := x) (es := es.map (·.2))
        rw [List.length_map] at this
        have := gs.l3
        omega
      have pm : List.flatMap (pmF (es.map (·.2)) f h pn) [x] = match pvF f (nbS (es.map (·.2)) x) x (h x) with
        | none => []
        | some v => if x ∈ pn then [] else [(x, v)] := List.append_nil _
      rw [pm]
      clear pm
      generalize nbS (es.map (·.2)) x = os at *
      wtm_at "rd"
      refine rd_dat (.inl had2.di) (kvG_val hx) rfl ?_
      wtm_at "rd"
      refine rd_dat (.inl (s _ _ hc)) (kvF_val (pml.mem_iff.mpr hx)) rfl ?_
      wtm_at "rd"
      refine ⟨st, _, x, h x, ord, os, f, rfl, s _ _ gs.st, hos, gs.inO _ hx, osn, osl, fun H3 s3 => ?_⟩
      have s13 := s.trans s3
      have hl3 := s3 _ _ hl
      have tm3 := tm.same s3
      cases hp : pvF f os x (h x) with
      | none =>
        rw [show optV none = V.non from rfl]
        wtm_at "rd"
        rw [show (!decide (V.non = V.non)) = false from by decide]
        wtm_at "rd"
        exact ⟨ms, _, _, rfl, s13, hl3, tm3, by omega, (List.append_nil _).symm⟩
      | some v =>
        rw [show optV (some v) = V.int v from rfl]
        wtm_at "rd"
        rw [decide_eq_false (fun z => nomatch z : ¬ V.int v = V.non)]
        wtm_at "rd"
        refine rd_ninST (Same.seqT s13 hps) ?_
        wtm_at "rd"
        refine rd_nsplit (fun c1 => ?_) (fun c1 => ?_)
        · wtm_at "rd"
          refine rd_tyL hl3 ?_
          wtm_at "rd"
          intro t ft
          have s4 := same_add (o := .tup [.str x, .int v]) s13 ft
          have hl4 := at_upd (o := .tup [.str x, .int v]) (ne_of_none hl3 ft) hl3
          have tm4 := tm3.new (o := .tup [.str x, .int v]) ft
          have ht := @upd_same H3 t (.tup [.str x, .int v])
          generalize upd H3 t (.tup [.str x, .int v]) = H4 at s4 hl4 tm4 ht
          wtm_at "rd"
          refine rd_append hl4 (by rw [List.length_map]; omega) ?_
          refine ⟨ms ++ [(t, x, v)], _, _, rfl, same_put s4 fl, by rw [upd_same, List.map_append]; rfl, TupsAt.put (tm4.app ?_) hl4, by rw [List.length_append, List.length_singleton]; omega, ?_⟩
          · intro m hm
            rw [List.mem_singleton] at hm
            subst hm
            exact ht
          · rw [List.map_append]
            show _ = _ ++ (if x ∈ pn then [] else [(x, v)])
            rw [if_neg c1]
            rfl
        · wtm_at "rd"
          refine ⟨ms, _, _, rfl, s13, hl3, tm3, by omega, ?_⟩
          show _ = _ ++ (if x ∈ pn then [] else [(x, v)])
          rw [if_pos c1, List.append_nil]
    · rintro σ H' ⟨ms, u7, u8, rfl, s, hl, tm, ml, em⟩
      rw [List.length_map, List.take_length] at em
      wtm_at "rd"
      exact q l ms H' s fl hl tm (em.trans (prog_eq gs.eok fun _ h => h).symm)
end
end Law

/-! the facts of an own error class, gathered from the fragment -/
namespace U
open PySem PySem.Spec PyProof.Rows L2
theorem exm_sub {K : PySem.W.Frag} {S T : Addr} (h1 : PySem.W.subIn K (.ref S) (.type "BaseException") = some true) (b1 : PySem.W.subIn K (.ref T) (.type "BaseException") = some true) (h2 : PySem.W.isClsIn K T = true) (h3 : PySem.W.typeIn K (.ref T) = some (.type "type")) (h4 : PySem.W.subIn K (.ref S) (.ref T) = some true) :
    PySem.W.exmOne K (.ref S) (.ref T) = some true := by
  have e1 : (PySem.W.subIn K (.ref T) (.type "BaseException") == some true) = true := by rw [b1] <;> rfl
  have e2 : ((PySem.W.clsIn K T).isSome && PySem.W.typeIn K (.ref T) == some (.type "type")) = true := by
    have h2' : (PySem.W.clsIn K T).isSome = true := h2
    rw [h2', h3] <;> rfl
  show (if (PySem.W.subIn K (.ref T) (.type "BaseException") == some true) = true then (if ((PySem.W.clsIn K T).isSome && PySem.W.typeIn K (.ref T) == some (.type "type")) = true then PySem.W.subIn K (.ref S) (.ref T) else none) else none) = some true
  rw [if_pos e1, if_pos e2]
  exact h4
theorem own_mk {K : PySem.W.Frag} {mg : Str → Option Value} {x f : Str} {C CB fI : Addr} {nm q : Str} {N : Addr} {bs : List Value} {sn : List Str} {sub : List Value} {ab : Bool} {col : Option Bool} {dd : Option Addr} {m0 m1 m2 m3 m5 : Option Value}
    (gC : mg x = some (.ref C)) (gB : mg "InputError" = some (.ref CB))
    (xL : K.lookup C = some (excClassObj nm q C N bs [.ref CB, .type "ValueError", .type "Exception", .type "BaseException", .type "object"] true sn sub ab col dd m0 m1 m2 m3 m5 "ValueError.__new__"))
    (sa : PySem.W.findIn K (.ref C) "__setattr__" = some (some (.builtin "object.__setattr__"))) (ga : PySem.W.findIn K (.ref C) "__getattribute__" = some (some (.builtin "BaseException.__getattribute__"))) (gg : PySem.W.findIn K (.ref C) "__getattr__" = some none) (nb : PySem.W.findIn K (.ref C) f = some none)
    (a1 : PySem.W.findIn K (.ref C) "__init__" = some (some (.ref fI))) (t1 : PySem.W.typeIn K (.ref fI) = some (.type "function"))
    (kC : PySem.W.keepIn K (.ref C) = true) (eC : PySem.W.subIn K (.ref C) (.type "BaseException") = some true) (tC : PySem.W.typeIn K (.ref C) = some (.type "type")) (hC : PySem.W.hasDictIn K C = true) (iC : PySem.W.isClsIn K C = true) (sC : PySem.W.subIn K (.ref C) (.ref C) = some true)
    (kB : PySem.W.keepIn K (.ref CB) = true) (eB : PySem.W.subIn K (.ref CB) (.type "BaseException") = some true) (tB : PySem.W.typeIn K (.ref CB) = some (.type "type")) (iB : PySem.W.isClsIn K CB = true) (sB : PySem.W.subIn K (.ref C) (.ref CB) = some true)
    (gB2 : PySem.W.specialIn K (.ref CB) "__getattribute__" = some (some (.builtin "type.__getattribute__"))) (rB : PySem.W.readsIn K CB (.type "type") = true) (aB : PySem.W.findCls K (.ref CB) (.type "type") "__init__" = some (.val (.builtin "ValueError.__init__"))) : OwnX K mg x f C CB fI where
  gC := gC
  ox := ⟨⟨nm, q, N, bs, _, sn, sub, ab, col, dd, m0, m1, m2, m3, m5, xL, by first | rfl | decide +kernel⟩, sa, eC, tC, kC⟩
  no := nb
  iC := a1
  tI := t1
  xf := ⟨ga, gg, eC, hC⟩
  gB := gB
  bi := ⟨kB, gB2, rB, aB⟩
  ex := exm_sub eC eC iC tC sC
  eb := exm_sub eC eB iB tB sB
end U

/-! lifts performed, or InvalidLift -/
namespace Law
open PySem PySem.Spec PyProof.Rows L2 U LamX
local macro_rules | `(tactic| wtm_at "rd1") => `(tactic| first
  | with_reducible refine rd_seq ?_
  | ((with_reducible refine rd_var (v := ?vv) ?hv ?_); (case hv => exact rfl))
  | with_reducible refine rd_c ?_
  | with_reducible refine rd_cons ?_
  | with_reducible refine rd_nil ?_
  | with_reducible refine rd_op ?_
  | with_reducible refine rd_asg ?_
  | with_reducible refine rd_name ?_
  | with_reducible refine rd_c1 ?_
  | with_reducible refine rd_cb ?_
  | with_reducible refine rd_test ?_
  | with_reducible refine rd_B ?_
  | with_reducible refine rd_bl ?_
  | with_reducible refine rd_if ?_
  | with_reducible refine rd_ret ?_
  | with_reducible refine rd_drop ?_
  | with_reducible refine rd_next ?_
  | with_reducible refine rd_addI ?_
  | with_reducible refine rd_ltI ?_
  | with_reducible refine rd_eqI ?_
  | with_reducible refine rd_neI ?_
  | with_reducible refine rd_eqS ?_
  | with_reducible refine rd_neS ?_
  | with_reducible refine rd_gtI ?_
  | with_reducible refine rd_geI ?_
  | with_reducible refine rd_leI ?_
  | with_reducible refine rd_ltS ?_
  | with_reducible refine rd_subI ?_
  | ((with_reducible refine rd_modI ?hc ?_); (case hc => first | decide | omega))
  | ((with_reducible refine rd_mulI ?hc ?_); (case hc => first | exact mul_bI | exact .inl (.inr (by decide)) | exact .inl (.inl (by decide)) | exact .inl (.inr (by omega)) | exact .inl (.inl (by omega))))
  | ((with_reducible refine rd_divI ?hc ?_); (case hc => first | decide | omega))
  | ((with_reducible refine rd_powI ?hc ?_); (case hc => exact ⟨by decide, by decide, by decide⟩))
  | with_reducible refine rd_lst ?_
  | with_reducible refine rd_tup ?_
  | ((with_reducible refine rd_sz ?hv ?_); (case hv => exact rfl))
  | with_reducible refine rd_and ?_
  | with_reducible refine rd_or ?_
  | with_reducible refine rd_not ?_
  | with_reducible refine rd_andV ?_
  | with_reducible refine rd_orV ?_
  | with_reducible refine rd_notV ?_
  | with_reducible refine rd_ifE ?_
  | with_reducible refine rd_T ?_
  | with_reducible refine rd_F ?_
  | with_reducible refine rd_chain ?_
  | with_reducible refine rd_is ?_
  | with_reducible refine rd_isNot ?_
  | with_reducible refine rd_absI ?_
  | with_reducible refine rd_maxI ?_
  | with_reducible refine rd_minI ?_
  | with_reducible refine rd_intI ?_
  | with_reducible refine rd_intB ?_
  | with_reducible refine rd_sub ?_
  | with_reducible refine rd_sl ?_
  | with_reducible refine rd_noPart ?_
  | with_reducible refine rd_part ?_
  | with_reducible refine rd_exI ?_
  | with_reducible refine rd_bm ?_
  | with_reducible refine rd_bm0 ?_
  | with_reducible refine rd_un ?_
  | with_reducible refine rd_neg ?_
  | with_reducible refine rd_c2 ?_
  | with_reducible refine rd_retN ?_
  | with_reducible refine rd_break ?_
  | with_reducible refine rd_cont ?_
  | with_reducible refine rd_for ?_
  | with_reducible refine rd_rng1 ?_
  | with_reducible refine rd_rng2 ?_
  | with_reducible refine rd_iList ?_
  | with_reducible refine rd_iTup ?_
  | with_reducible refine rd_iEnum ?_
  | ((with_reducible refine rd_forR ?h0 ?h1 ?_); (case h0 => omega); (case h1 => omega))
  | with_reducible refine rd_lc ?_
  | with_reducible refine rd_gcons ?_
  | with_reducible refine rd_gnil ?_
  | with_reducible refine rd_dget ?_
  | with_reducible refine rd_dput ?_
  | with_reducible refine rd_dnew ?_
  | with_reducible refine rd_dc ?_
  | with_reducible refine rd_iItems ?_
  | with_reducible refine rd_iKeys ?_
  | with_reducible refine rd_din ?_
  | with_reducible refine rd_lc2 ?_
  | with_reducible refine rd_cd ?_
  | with_reducible refine rd_par ?_
  | with_reducible refine rd_two ?_
  | with_reducible refine rd_reprB ?_
  | with_reducible refine rd_ck ?_
  | ((with_reducible refine rd_len ?hl ?_); (case hl => exact rfl))
  | with_reducible refine rd_nT ?_
  | with_reducible refine rd_nF ?_
  | with_reducible refine rd_dnin ?_
  | with_reducible refine rd_isB ?_
  | with_reducible refine rd_isNotB ?_
  | with_reducible refine rd_daug ?_
  | with_reducible refine rd_yesT ?_
  | ((with_reducible refine rd_wp ?hw ?_); (case hw => exact rfl)))
local macro_rules | `(tactic| wtm_at "rd") => `(tactic| repeat wtm_at "rd1")

theorem sz_perm {a b : List Str} {h : Str → Int} (p : a.Perm b) : sz a h = sz b h := by
  unfold sz
  induction p with
  | nil => rfl
  | cons x _ ih => simp only [List.map_cons, List.sum_cons, ih]
  | swap x y l => simp only [List.map_cons, List.sum_cons]; omega
  | trans _ _ a b => exact a.trans b
/-- an error with one field f, told to the caller; the tables of code objects may grow -/
def FldT (T : List (Addr × Str)) (f : Str) (C : Addr) (v : V) (H : Hp) (E : XK) : Prop := ∀ (d : Addr) (H' : Hp), ExtN H H' → Tabs T H' → H' d = some (.xd [(f, v)]) → E (.ref C) (some d) H'
/-- what a lift is refused with -/
noncomputable def liftErr (ns : List Str) (es : List (Str × Str)) (f h : Str → Int) (pn : List Str) : Option V :=
  if (es.all fun e => fitB f h e.1 e.2) = true then ((ancF ns es f pn).find? fun y => decide (h y ≠ 0)).map V.str else some .non
theorem liftErr_none {ns : List Str} {es : List (Str × Str)} {f h : Str → Int} {pn : List Str} (pin : ∀ x ∈ pn, x ∈ ns) (cyc : ∀ x, Cyc es f x → x ∈ ns) (e : liftErr ns es f h pn = none) : Feas ns es f h pn := by
  unfold liftErr at e
  split at e
  · rename_i c
    rw [Option.map_eq_none_iff, List.find?_eq_none] at e
    have z : ∀ y, y ∈ ns → (y ∈ pn ∨ Cyc es f y) → h y = 0 := fun y h1 h2 => Classical.byContradiction fun n => e y (ancF_mem.mpr ⟨h1, h2⟩) (decide_eq_true n)
    exact ⟨fun e he => List.all_eq_true.mp c e he, fun x hx => z x (pin x hx) (.inl hx), fun x hx => z x (cyc x hx) (.inr hx)⟩
  · cases e
theorem find_first {an : List Str} {h : Str → Int} : ∀ {j : Nat} (hj : j < an.length), (∀ y ∈ an.take j, h y = 0) → h an[j] ≠ 0 → (an.find? fun y => decide (h y ≠ 0)) = some an[j] := by
  induction an with
  | nil => intro j hj; cases hj
  | cons x r ih =>
    intro j hj all z
    cases j with
    | zero => exact List.find?_cons_of_pos (decide_eq_true z)
    | succ k =>
      have hx : h x = 0 := all x (by rw [List.take_succ_cons]; exact List.mem_cons_self)
      rw [List.find?_cons_of_neg (by rw [hx]; decide)]
      exact ih (Nat.lt_of_succ_lt_succ hj) (fun y hy => all y (by rw [List.take_succ_cons]; exact List.mem_cons_of_mem _ hy)) z
def spCheckLiftX (K : PySem.W.Frag) (T : List (Addr × Str)) (CE : Addr) : Sp := fun vs H Q E => ∃ (g n e st c ps : Addr) (ns ord lo pn : List Str) (es : List (Addr × Str × Str)) (f h : Str → Int), vs = [.ref g, .ref st, .ref c, .ref ps] ∧ GSt H g n e st ns ord es f ∧ H c = some (.dK (kvF lo h)) ∧ lo.Perm ns ∧ SqT K H ps (pn.map V.str) ∧ Tabs T H ∧
  (∀ v, liftErr ns (es.map (·.2)) f h pn = some v → FldT T "node" CE v H E) ∧ (liftErr ns (es.map (·.2)) f h pn = none → ∀ H' : Hp, ExtN H H' → Tabs T H' → Q .non H')
def spPerfX (K : PySem.W.Frag) (T : List (Addr × Str)) (CE : Addr) : Sp := fun vs H Q E => ∃ (g n e st c ps : Addr) (ns ord lo pn : List Str) (es : List (Addr × Str × Str)) (f h : Str → Int), vs = [.ref g, .ref st, .ref c, .ref ps] ∧ GSt H g n e st ns ord es f ∧ H c = some (.dK (kvF lo h)) ∧ lo.Perm ns ∧ SqT K H ps (pn.map V.str) ∧ Tabs T H ∧ (∀ x ∈ pn, x ∈ ns) ∧
  (∀ v, liftErr ns (es.map (·.2)) f h pn = some v → FldT T "node" CE v H E) ∧
  (liftErr ns (es.map (·.2)) f h pn = none → sz ns h ≤ 800 ∧
  ∀ (l : Addr) (ms : List (Addr × Str × Int)) (f' h' : Str → Int) (H' : Hp), ExtN H H' → Tabs T H' → (∀ b o, H b = some o → (∀ ps, o ≠ .tbl ps) → b ≠ l) → H' l = some (.lst (ms.map fun m => V.ref m.1)) → TupsAt H' ms → PerfR ns (es.map (·.2)) pn f h (ms.map (·.2)) f' h' → sz ns h' = 0 → Q (.ref l) H')
section
variable {P : Program} {w : World} {K : PySem.W.Frag} {mg : Str → Option Value} {base : Heap}
structure PGc (P : Program) (w : World) (K : PySem.W.Frag) (mg : Str → Option Value) (base : Heap) (T : List (Addr × Str)) : Prop where
  is_lift : Cal P w K mg base CX0 3 "is_lift" spIsLiftG
  find_anchors : Cal P w K mg base CX0 6 "find_anchors" (spFindAnchO K T)
theorem ok_check_liftX {f : Addr} {fd : FuncData} {T : List (Addr × Str)} {CE CB : Addr} (F : Fun K "check_lift" "check_lift" s_check_lift f fd) (B : Bt mg) (C : PGc P w K mg base T) (TE : ErrX P w K mg base "InvalidLift" "node" CE CB) : FnG P w K mg base (L2.CX P w) 7 f fd ["graph", "state", "lift", "pinned"] (spCheckLiftX K T CE) := by
  refine fnG F sc_check_lift (fun vs H Q E h => ?_) (fun cdv A outer s H vs Q E hr h => ?_)
  · obtain ⟨g, n, e, st, c, ps, ns, ord, lo, pn, es, f, h, rfl, _⟩ := h
    rfl
  · obtain ⟨g, n, e, st, c, ps, ns, ord, lo, pn, es, f, h, rfl, gs, hc, pml, hps, tabs, er, q⟩ := h
    have nd := sc_check_lift.nd
    have hu := hr.u1
    refine ⟨_, (pss_cons (ps_if (pt_not (pt_val (pe_c C.is_lift hr (by decide) rfl (pa_cons (pv 0) (pa_cons (pv 1) (pa_cons (pv 2) pa_nil)))))) (pss_one (ps_rz TE hr (by decide) rfl (takes_of rfl rfl rfl rfl) rfl pe_non)) pss_nil)
  (pss_one (ps_for (passes_of rfl) rfl (ki_list K rfl (pe_c C.find_anchors hr (by decide) rfl (pa_cons (pv 0) (pa_cons (pv 1) (pa_cons (pv 3) pa_nil))))) (pg_name (i := 4) nd rfl (by first | exact Or.inl rfl | exact Or.inr rfl)) (pss_one (ps_if (pt_cmpR (kNe K rfl hr.u64) (pe_dget hu (pv 2) (pv 4) (fun _ _ => rfl)) pe_int (nomark _)) (pss_one (ps_rz TE hr (by decide) rfl (takes_of rfl rfl rfl rfl) rfl (pv 4))) pss_nil))))), ?_⟩
    wtm_at "rd"
    refine ⟨g, n, e, st, c, ns, ord, lo, es, f, h, rfl, gs, hc, pml, fun H1 s1 => ?_⟩
    have x1 : ExtN H H1 := ExtN.of fun b o h => s1 b o h
    have tb1 := tabs.ext fun b o h => s1 b o h
    unfold liftErr at er q
    generalize ((es.map (·.2)).all fun e => fitB f h e.1 e.2) = fits at *
    cases fits with
    | false =>
      wtm_at "rd"
      exact rd_mk1 fun dd H' s nd hd => er _ (if_neg Bool.false_ne_true) dd H' (x1.trans (ExtN.of fun b o h => s b o h)) (tb1.ext fun b o h => s b o h) hd
    | true =>
      rw [if_pos rfl] at er q
      wtm_at "rd"
      refine ⟨g, n, e, st, ps, ns, ord, pn, es, f, rfl, gs.same s1, Same.seqT s1 hps, tb1, fun al H2 x2 tb2 _ hal => ?_⟩
      have x02 : ExtN H H2 := x1.trans x2
      have hc2 := ExtN.dk x2 (s1 _ _ hc)
      have ain : ∀ y ∈ ancF ns (es.map (·.2)) f pn, y ∈ lo := fun y hy => pml.mem_iff.mpr (ancF_mem.mp hy).1
      generalize ancF ns (es.map (·.2)) f pn = an at *
      refine rd_forL (SqL.of hal) ?_
      refine turnsL (K := K) (xs := an.map V.str) (fun j σ H' => ∃ u : Option V, σ = [some (.ref g), some (.ref st), some (.ref c), some (.ref ps), u] ∧ H' = H2 ∧ ∀ y ∈ an.take j, h y = 0) ⟨_, rfl, rfl, fun y hy => by rw [List.take_zero] at hy; cases hy⟩ ?_ ?_ ?_
      · rintro j σ H' hj ⟨u, rfl, rfl, _⟩
        exact SqL.of hal
      · rintro j y σ H' hy ⟨u, rfl, rfl, all⟩
        obtain ⟨hj, rfl⟩ := map_at hy
        have a1 := ain _ (List.getElem_mem hj)
        have tk := take_snoc hj
        have fnd : h an[j] ≠ 0 → (an.find? fun y => decide (h y ≠ 0)) = some an[j] := fun z => find_first hj all z
        rw [tk]
        generalize an[j] = y at *
        wtm_at "rd"
        refine rd_dat (.inl hc2) (kvF_val a1) rfl ?_
        wtm_at "rd"
        refine rd_nsplit (fun c1 => ?_) (fun c1 => ?_)
        · wtm_at "rd"
          refine rd_rz ?_
          wtm_at "rd"
          refine rd_mk1 fun dd H' s nd hd => er (.str y) (by rw [fnd c1]; rfl) dd H' (x02.trans (ExtN.of fun b o h => s b o h)) (tb2.ext fun b o h => s b o h) hd
        · wtm_at "rd"
          refine ⟨_, rfl, rfl, fun z hz => ?_⟩
          rcases List.mem_append.mp hz with hz | hz
          · exact all z hz
          · rw [List.mem_singleton.mp hz]
            exact c1
      · rintro σ H' ⟨u, rfl, rfl, all⟩
        rw [List.length_map, List.take_length] at all
        wtm_at "rd"
        refine q ?_ H' x02 tb2
        rw [Option.map_eq_none_iff, List.find?_eq_none]
        exact fun y hy n => of_decide_eq_true n (all y hy)
structure PGp (P : Program) (w : World) (K : PySem.W.Frag) (mg : Str → Option Value) (base : Heap) (T : List (Addr × Str)) (CE : Addr) : Prop where
  check_lift : Cal P w K mg base (L2.CX P w) 7 "check_lift" (spCheckLiftX K T CE)
  check_size : CalD P w K mg base CX0 2 "check_size" [.int 800] spCheckSize
  adjacency : Cal P w K mg base CX0 1 "adjacency" spAdj
  progress_moves_with : Cal P w K mg base CX0 3 "progress_moves_with" (spPwithG K)
  closer_to_zero : Cal P w K mg base CX0 1 "closer_to_zero" spCloser
theorem ok_performX {f : Addr} {fd : FuncData} {T : List (Addr × Str)} {CE : Addr} (F : Fun K "perform_lift" "perform_lift" s_perform_lift f fd) (B : Bt mg) (C : PGp P w K mg base T CE) : FnG P w K mg base (L2.CX P w) 8 f fd ["graph", "state", "lift", "pinned"] (spPerfX K T CE) := by
  refine fnG F sc_perform_lift (fun vs H Q E h => ?_) (fun cdv A outer s H vs Q E hr h => ?_)
  · obtain ⟨g, n, e, st, c, ps, ns, ord, lo, pn, es, f, h, rfl, _⟩ := h
    rfl
  · obtain ⟨g, n, e, st, c, ps, ns, ord, lo, pn, es, f, h, rfl, gs, hc, pml, hps, tabs, pin, er, nr⟩ := h
    have nd := sc_perform_lift.nd
    have hu := hr.u1
    refine ⟨_, (pss_cons (ps_expr (pe_cX C.check_lift hr (by decide) rfl (takes_of rfl rfl rfl rfl) (pa_cons (pv 0) (pa_cons (pv 1) (pa_cons (pv 2) (pa_cons (pv 3) pa_nil))))))
  (pss_cons (ps_expr (pe_cD C.check_size hr (by decide) rfl pass0 (pa_cons (pv 2) pa_nil)))
  (pss_cons (ps_set (i := 4) nd rfl (by first | exact Or.inl rfl | exact Or.inr rfl) (pe_c C.adjacency hr (by decide) rfl (pa_cons (pv 0) pa_nil)))
  (pss_cons (ps_set (i := 5) nd rfl (by first | exact Or.inl rfl | exact Or.inr rfl) (pe_callTy cDict (by rfl) B.dict bb_dict (pa_cons (pv 1) pa_nil)))
  (pss_cons (ps_set (i := 6) nd rfl (by first | exact Or.inl rfl | exact Or.inr rfl) (pe_callTy cDict (by rfl) B.dict bb_dict (pa_cons (pv 2) pa_nil)))
  (pss_cons (ps_set (i := 7) nd rfl (by first | exact Or.inl rfl | exact Or.inr rfl) (pe_lst pa_nil))
  (pss_cons (ps_while (passes_of rfl) (pt_val (pe_callB (kAny K rfl rfl) (by rfl) B.any bb_any (pa_cons (pe_lock (pe_lc (own := [("number", 8)]) rfl nd (pi_values (pv 6)) (blkOk_by (own := [("number", 8)]) (N := nN_perform_lift) (sc := defScope s_perform_lift) (by decide +kernel)) (fun _ _ _ _ _ => (pg_name (i := 8) nd rfl (by first | exact Or.inl rfl | exact Or.inr rfl))) (fun _ _ _ _ _ => pts_nil) (fun _ _ _ _ _ => (pe_cmpR (kNe K rfl hr.u64) (pv 8) pe_int (nomark _))))) pa_nil))) (pss_cons (ps_asg (pe_ix (kIx K rfl) (pe_c C.progress_moves_with hr (by decide) rfl (pa_cons (pv 0) (pa_cons (pv 5) (pa_cons (pv 4) (pa_cons (pv 6) (pa_cons (pv 3) pa_nil)))))) pe_int (fun _ _ => rfl)) (kg_tup (n := 2) K rfl rfl (pgs_cons (pg_name (i := 9) nd rfl (by first | exact Or.inl rfl | exact Or.inr rfl)) (pgs_cons (pg_name (i := 10) nd rfl (by first | exact Or.inl rfl | exact Or.inr rfl)) pgs_nil))))
  (pss_cons (ps_expr (pe_bm PySem.F.plainAttrs_list PySem.F.slot_list_append PySem.F.type_list_append mt_append (pv 7) (pa_cons (pe_tup (pa_cons (pv 9) (pa_cons (pv 10) pa_nil))) pa_nil)))
  (pss_cons (ps_dput hu (pv 5) (pv 9) (pv 10) rfl)
  (pss_one (ps_dput hu (pv 6) (pv 9) (pe_c C.closer_to_zero hr (by decide) rfl (pa_cons (pe_dget hu (pv 6) (pv 9) (fun _ _ => rfl)) pa_nil)) rfl))))))
  (pss_one (ps_ret (pv 7)))))))))), ?_⟩
    have l2 := gs.l2
    wtm_at "rd"
    refine ⟨g, n, e, st, c, ps, ns, ord, lo, pn, es, f, h, rfl, gs, hc, pml, hps, tabs, (fun v ev d H' x tb hd => er v ev d H' x tb hd), fun ev H1 x1 tb1 => ?_⟩
    obtain ⟨z8, q⟩ := nr ev
    have fe := liftErr_none pin (fun x hx => by obtain ⟨y, a, _⟩ := hx; exact (adj_in gs.eok a).2.1) ev
    have zlo : ∀ h' : Str → Int, sz lo h' = sz ns h' := fun h' => sz_perm pml
    have ll : lo.length = ns.length := pml.length_eq
    have gs1 := gs.ext x1
    have hc1 := ExtN.dk x1 hc
    have hps1 := sqT_ext hps x1
    wtm_at "rd"
    refine ⟨c, 800, lo, h, rfl, hc1, by rw [ll]; exact gs.l2, by rw [zlo]; exact z8, fun H2 s2 => ?_⟩
    wtm_at "rd"
    refine ⟨g, n, e, ns, es, rfl, (gs1.same s2).grs, fun ad Ad H3 s3 _ had => ?_⟩
    have s13 := s2.trans s3
    wtm_at "rd"
    refine ⟨_, .inl (s13 _ _ gs1.st), fun cu fcu => ?_⟩
    have fcu1 := new_of_same s13 fcu
    have s4 := same_add (o := .dK (kvF ord f)) s13 fcu
    have had4 := had.same (Same.new (o := .dK (kvF ord f)) fcu)
    have hcu4 := @upd_same H3 cu (.dK (kvF ord f))
    generalize upd H3 cu (.dK (kvF ord f)) = H4 at s4 had4 hcu4
    wtm_at "rd"
    refine ⟨_, .inl (s4 _ _ hc1), fun re fre => ?_⟩
    have fre1 := new_of_same s4 fre
    have nrc : re ≠ cu := Ne.symm (ne_of_none hcu4 fre)
    have s5 := same_add (o := .dK (kvF lo h)) s4 fre
    have had5 := had4.same (Same.new (o := .dK (kvF lo h)) fre)
    have hcu5 := at_upd (o := .dK (kvF lo h)) (Ne.symm nrc) hcu4
    have hre5 := @upd_same H4 re (.dK (kvF lo h))
    generalize upd H4 re (.dK (kvF lo h)) = H5 at s5 had5 hcu5 hre5
    wtm_at "rd"
    intro mv fmv
    have fmv1 := new_of_same s5 fmv
    have nmc : cu ≠ mv := ne_of_none hcu5 fmv
    have nmr : re ≠ mv := ne_of_none hre5 fmv
    have s6 := same_add (o := .lst []) s5 fmv
    have had6 := had5.same (Same.new (o := .lst []) fmv)
    have hcu6 := at_upd (o := .lst []) nmc hcu5
    have hre6 := at_upd (o := .lst []) nmr hre5
    have hmv6 := @upd_same H5 mv (.lst [])
    have nac := had.off fcu
    have nar := had4.off fre
    have nam := had5.off fmv
    generalize upd H5 mv (.lst []) = H6 at s6 had6 hcu6 hre6 hmv6
    clear s5 s4 s13 s2 s3 had had4 had5 hcu4 hcu5 hre5 fcu fre fmv
    wtm_at "rd"
    refine ⟨fun m σ H' => ∃ (ms : List (Addr × Str × Int)) (f' h' : Str → Int) (u8 u9 u10 : Option V), (m : Int) = sz ns h' ∧ σ = [some (.ref g), some (.ref st), some (.ref c), some (.ref ps), some (.ref ad), some (.ref cu), some (.ref re), some (.ref mv), u8, u9, u10] ∧ Same H1 H' ∧ AdjAt H' ad ns (es.map (·.2)) Ad ∧
      H' cu = some (.dK (kvF ord f')) ∧ H' re = some (.dK (kvF lo h')) ∧ H' mv = some (.lst (ms.map fun m => V.ref m.1)) ∧ TupsAt H' ms ∧ PerfR ns (es.map (·.2)) pn f h (ms.map (·.2)) f' h', ⟨(sz ns h).toNat, [], f, h, _, _, _, ?_, rfl, s6, had6, hcu6, hre6, hmv6, TupsAt.nil, .nil⟩, ?_⟩
    · have := sz_nn (xs := ns) (h := h)
      omega
    rintro m σ H7 ⟨ms, f', h', u8, u9, u10, hm, rfl, s7, ha, hcu, hre, hmv, tm, pr⟩
    obtain ⟨ok', fe', szl, _, pl⟩ := pr.any.keeps gs.eok gs.nd fe
    rw [List.length_map] at szl
    have sz0 := sz_nn (xs := ns) (h := h')
    wtm_at "rd"
    refine rd_lockE hre fun od => ?_
    wtm_at "rd"
    refine rd_iVals ?_
    wtm_at "rd"
    refine rd_forI upd_same ?_
    intro D fD
    have nDa := new_ne fD
    have fD0 := new_old fD
    refine lcW walk_values (fun i H' => But re H7 H' ∧ H' re = some (.frz od (.dK (kvF lo h'))) ∧ H' D = some (.lst (((lo.take i).map fun n => !decide (h' n = 0)).map V.bl))) ⟨But.upd.trans (But.new fD), at_upd (Ne.symm nDa) upd_same, upd_same⟩ ?_ ?_ ?_
    · rintro i H' hi ⟨_, hf, _⟩
      exact hf
    · rintro i x H' H2 hi ⟨but, hf, hD⟩ ⟨rfl, k1, e1⟩
      have hin : i < lo.length := by rw [List.length_map] at hi; exact hi
      obtain ⟨_, rfl⟩ := key_at hin e1
      wtm_at "rd"
      refine rd_acc hD (by rw [List.length_map, List.length_map, List.length_take]; omega) ?_
      refine ⟨fun b' o' nb hb' => at_upd (ne_of_none hb' fD0) (but b' o' nb hb'), at_upd (Ne.symm nDa) hf, ?_⟩
      rw [upd_same, take_snoc hin, List.map_append, List.map_append]
      rfl
    rintro H' ⟨but, hf, hD⟩
    rw [List.length_map, List.take_length] at hD
    refine ⟨hf, ?_⟩
    have s8 := lk_same hre but
    have hD8 := at_upd (o := .dK (kvF lo h')) nDa hD
    generalize upd H' re (.dK (kvF lo h')) = H8 at s8 hD8
    clear but hf hD nDa fD fD0
    refine ⟨_, SqL.of hD8, ?_⟩
    wtm_at "rd"
    have s18 := s7.trans s8
    have ha8 := ha.same s8
    have hcu8 := s8 _ _ hcu
    have hre8 := s8 _ _ hre
    have hmv8 := s8 _ _ hmv
    have tm8 := tm.same s8
    have anyI : ((lo.map fun n => !decide (h' n = 0)).any id) = decide (sz ns h' ≠ 0) := by
      rw [Bool.eq_iff_iff, decide_eq_true_iff, ne_eq, ← zlo, sz_zero, List.any_map, List.any_eq_true]
      constructor
      · rintro ⟨y, y1, y2⟩ z
        have : decide (h' y = 0) = false := by simpa using y2
        exact of_decide_eq_false this (z y y1)
      · intro z
        refine Classical.byContradiction fun nz => z fun n hn => Classical.byContradiction fun c => nz ⟨n, hn, ?_⟩
        show (!decide (h' n = 0)) = true
        rw [decide_eq_false c]
        rfl
    rw [anyI]
    clear hD8 s8 s7 ha hcu hre hmv tm
    refine rd_split (fun c1 => ?_) (fun c1 => ?_)
    · refine ⟨fun σ' H' => ∃ (ms : List (Addr × Str × Int)) (f'' h'' : Str → Int) (u8 u9 u10 : Option V), sz ns h'' = sz ns h' - 1 ∧ σ' = [some (.ref g), some (.ref st), some (.ref c), some (.ref ps), some (.ref ad), some (.ref cu), some (.ref re), some (.ref mv), u8, u9, u10] ∧ Same H1 H' ∧ AdjAt H' ad ns (es.map (·.2)) Ad ∧
        H' cu = some (.dK (kvF ord f'')) ∧ H' re = some (.dK (kvF lo h'')) ∧ H' mv = some (.lst (ms.map fun m => V.ref m.1)) ∧ TupsAt H' ms ∧ PerfR ns (es.map (·.2)) pn f h (ms.map (·.2)) f'' h'', fun σ' H' ⟨ms, f'', h'', u8, u9, u10, a1, a2, a3⟩ => ⟨m - 1, by omega, ms, f'', h'', u8, u9, u10, by omega, a2, a3⟩, ?_⟩
      wtm_at "rd"
      refine ⟨g, n, e, cu, ad, re, ps, ns, ord, lo, pn, es, f', h', Ad, rfl, (gs1.same s18).re hcu8 ok', ha8, hre8, pml, Same.seqT s18 hps1, fun pl pms H9 s9 _ hpl tpl epm => ?_⟩
      obtain ⟨m0, r0, er⟩ : ∃ m0 r0, progF ns (es.map (·.2)) f' h' pn = m0 :: r0 := by
        cases ep : progF ns (es.map (·.2)) f' h' pn with
        | nil => exact (c1 ((prog_some ok' gs.nd fe').mp ep)).elim
        | cons a r => exact ⟨a, r, rfl⟩
      have hm0 : m0 ∈ progF ns (es.map (·.2)) f' h' pn := by rw [er]; exact List.mem_cons_self
      obtain ⟨t0, pr0, rfl, rfl⟩ : ∃ t0 pr0, pms = t0 :: pr0 ∧ t0.2 = m0 := by
        rw [er] at epm
        cases pms with
        | nil => cases epm
        | cons a r => exact ⟨a, r, rfl, (List.cons.inj epm).1⟩
      have lg := (prog_legal hm0).1
      have mo := gs.inO _ lg.mem
      have ht0 := tpl t0 List.mem_cons_self
      wtm_at "rd"
      refine rd_ixL (SqL.of hpl) (v := .ref t0.1) (atI_nat (j := 0) rfl) ?_
      refine rd_unp (SqT.of ht0) rfl ?_
      have s19 := s18.trans s9
      have ha9 := ha8.same s9
      have hcu9 := s9 _ _ hcu8
      have hre9 := s9 _ _ hre8
      have hmv9 := s9 _ _ hmv8
      have tm9 := tm8.same s9
      wtm_at "rd"
      refine rd_tyL hmv9 ?_
      wtm_at "rd"
      intro t ft
      have k := Same.new (o := .tup [.str t0.2.1, .int t0.2.2]) ft
      have sA := s19.trans k
      have haA := ha9.same k
      have hcuA := k _ _ hcu9
      have hreA := k _ _ hre9
      have hmvA := k _ _ hmv9
      have tmA := tm9.same k
      have htA := @upd_same H9 t (.tup [.str t0.2.1, .int t0.2.2])
      generalize upd H9 t (.tup [.str t0.2.1, .int t0.2.2]) = HA at sA haA hcuA hreA hmvA tmA htA
      clear k ft hmv9 hre9 hcu9 ha9 tm9 s19 s9 hpl tpl epm ht0
      wtm_at "rd"
      refine rd_append hmvA (by rw [List.length_map]; omega) ?_
      have sB := same_put (o := .lst (ms.map (fun m => V.ref m.1) ++ [.ref t])) sA fmv1
      have haB := haA.put (o := .lst (ms.map (fun m => V.ref m.1) ++ [.ref t])) nam
      have hcuB := at_upd (o := .lst (ms.map (fun m => V.ref m.1) ++ [.ref t])) nmc hcuA
      have hreB := at_upd (o := .lst (ms.map (fun m => V.ref m.1) ++ [.ref t])) nmr hreA
      have tmB : TupsAt (upd HA mv (.lst (ms.map (fun m => V.ref m.1) ++ [.ref t]))) (ms ++ [(t, t0.2)]) := TupsAt.put (tmA.app fun z hz => by
        rw [List.mem_singleton] at hz
        subst hz
        exact htA) hmvA
      have hmvB : (upd HA mv (.lst (ms.map (fun m => V.ref m.1) ++ [.ref t]))) mv = some (.lst ((ms ++ [(t, t0.2)]).map fun m => V.ref m.1)) := by
        rw [upd_same, List.map_append]
        rfl
      generalize upd HA mv (.lst (ms.map (fun m => V.ref m.1) ++ [.ref t])) = HB at sB haB hcuB hreB tmB hmvB
      wtm_at "rd"
      refine rd_dset hcuB (k := .inr t0.2.1) rfl (by rw [List.length_map, gs.pm.length_eq]; omega) ?_
      rw [kvF_put mo]
      have sC := same_put (o := .dK (kvF ord (updf f' t0.2.1 t0.2.2))) sB fcu1
      have haC := haB.put (o := .dK (kvF ord (updf f' t0.2.1 t0.2.2))) nac
      have hreC := at_upd (o := .dK (kvF ord (updf f' t0.2.1 t0.2.2))) nrc hreB
      have hmvC := at_upd (o := .dK (kvF ord (updf f' t0.2.1 t0.2.2))) (Ne.symm nmc) hmvB
      have tmC := tmB.putD (o := .dK (kvF ord (updf f' t0.2.1 t0.2.2))) hcuB
      have hcuC := @upd_same HB cu (.dK (kvF ord (updf f' t0.2.1 t0.2.2)))
      generalize upd HB cu (.dK (kvF ord (updf f' t0.2.1 t0.2.2))) = HC at sC haC hreC hmvC tmC hcuC
      wtm_at "rd"
      refine rd_dat (.inl hreC) (kvF_val (pml.mem_iff.mpr lg.mem)) rfl ?_
      wtm_at "rd"
      refine ⟨_, rfl, ?_⟩
      wtm_at "rd"
      refine rd_dset hreC (k := .inr t0.2.1) rfl (by rw [List.length_map]; omega) ?_
      rw [kvF_put (pml.mem_iff.mpr lg.mem)]
      obtain ⟨_, _, p3, _⟩ := prog_step ok' gs.nd fe' hm0
      refine ⟨ms ++ [(t, t0.2)], updf f' t0.2.1 t0.2.2, redU h' t0.2.1, _, _, _, p3, rfl, same_put sC fre1, haC.put nar, at_upd (Ne.symm nrc) hcuC, upd_same, at_upd (Ne.symm nmr) hmvC, tmC.putD hreC, ?_⟩
      rw [List.map_append]
      exact .snoc pr er
    · have z0 : sz ns h' = 0 := Classical.byContradiction c1
      wtm_at "rd"
      exact q mv ms f' h' H8 (x1.trans (ExtN.of fun b o h => s18 b o h)) (tb1.ext fun b o h => s18 b o h) (fun b o h z => ne_of_none (x1 _ _ h z) fmv1) hmv8 tm8 pr z0
end
end Law

/-! InvalidLift's maker -/
namespace Law
open PySem PySem.Spec PyProof.Rows L2 U
local macro_rules | `(tactic| wtm_at "rd1") => `(tactic| first
  | with_reducible refine rd_seq ?_
  | ((with_reducible refine rd_var (v := ?vv) ?hv ?_); (case hv => exact rfl))
  | with_reducible refine rd_c ?_
  | with_reducible refine rd_cons ?_
  | with_reducible refine rd_nil ?_
  | with_reducible refine rd_op ?_
  | with_reducible refine rd_asg ?_
  | with_reducible refine rd_name ?_
  | with_reducible refine rd_c1 ?_
  | with_reducible refine rd_cb ?_
  | with_reducible refine rd_test ?_
  | with_reducible refine rd_B ?_
  | with_reducible refine rd_bl ?_
  | with_reducible refine rd_if ?_
  | with_reducible refine rd_ret ?_
  | with_reducible refine rd_drop ?_
  | with_reducible refine rd_next ?_
  | with_reducible refine rd_addI ?_
  | with_reducible refine rd_ltI ?_
  | with_reducible refine rd_eqI ?_
  | with_reducible refine rd_neI ?_
  | with_reducible refine rd_eqS ?_
  | with_reducible refine rd_neS ?_
  | with_reducible refine rd_gtI ?_
  | with_reducible refine rd_geI ?_
  | with_reducible refine rd_leI ?_
  | with_reducible refine rd_ltS ?_
  | with_reducible refine rd_subI ?_
  | ((with_reducible refine rd_modI ?hc ?_); (case hc => first | decide | omega))
  | ((with_reducible refine rd_mulI ?hc ?_); (case hc => first | exact mul_bI | exact .inl (.inr (by decide)) | exact .inl (.inl (by decide)) | exact .inl (.inr (by omega)) | exact .inl (.inl (by omega))))
  | ((with_reducible refine rd_divI ?hc ?_); (case hc => first | decide | omega))
  | ((with_reducible refine rd_powI ?hc ?_); (case hc => exact ⟨by decide, by decide, by decide⟩))
  | with_reducible refine rd_lst ?_
  | with_reducible refine rd_tup ?_
  | ((with_reducible refine rd_sz ?hv ?_); (case hv => exact rfl))
  | with_reducible refine rd_and ?_
  | with_reducible refine rd_or ?_
  | with_reducible refine rd_not ?_
  | with_reducible refine rd_andV ?_
  | with_reducible refine rd_orV ?_
  | with_reducible refine rd_notV ?_
  | with_reducible refine rd_ifE ?_
  | with_reducible refine rd_T ?_
  | with_reducible refine rd_F ?_
  | with_reducible refine rd_chain ?_
  | with_reducible refine rd_is ?_
  | with_reducible refine rd_isNot ?_
  | with_reducible refine rd_absI ?_
  | with_reducible refine rd_maxI ?_
  | with_reducible refine rd_minI ?_
  | with_reducible refine rd_intI ?_
  | with_reducible refine rd_intB ?_
  | with_reducible refine rd_sub ?_
  | with_reducible refine rd_sl ?_
  | with_reducible refine rd_noPart ?_
  | with_reducible refine rd_part ?_
  | with_reducible refine rd_exI ?_
  | with_reducible refine rd_bm ?_
  | with_reducible refine rd_bm0 ?_
  | with_reducible refine rd_un ?_
  | with_reducible refine rd_neg ?_
  | with_reducible refine rd_c2 ?_
  | with_reducible refine rd_retN ?_
  | with_reducible refine rd_break ?_
  | with_reducible refine rd_cont ?_
  | with_reducible refine rd_for ?_
  | with_reducible refine rd_rng1 ?_
  | with_reducible refine rd_rng2 ?_
  | with_reducible refine rd_iList ?_
  | with_reducible refine rd_iTup ?_
  | with_reducible refine rd_iEnum ?_
  | ((with_reducible refine rd_forR ?h0 ?h1 ?_); (case h0 => omega); (case h1 => omega))
  | with_reducible refine rd_lc ?_
  | with_reducible refine rd_gcons ?_
  | with_reducible refine rd_gnil ?_
  | with_reducible refine rd_dget ?_
  | with_reducible refine rd_dput ?_
  | with_reducible refine rd_dnew ?_
  | with_reducible refine rd_dc ?_
  | with_reducible refine rd_iItems ?_
  | with_reducible refine rd_iKeys ?_
  | with_reducible refine rd_din ?_
  | with_reducible refine rd_lc2 ?_
  | with_reducible refine rd_cd ?_
  | with_reducible refine rd_par ?_
  | with_reducible refine rd_two ?_
  | with_reducible refine rd_reprB ?_
  | with_reducible refine rd_ck ?_
  | ((with_reducible refine rd_len ?hl ?_); (case hl => exact rfl))
  | with_reducible refine rd_nT ?_
  | with_reducible refine rd_nF ?_
  | with_reducible refine rd_dnin ?_
  | with_reducible refine rd_isB ?_
  | with_reducible refine rd_isNotB ?_
  | with_reducible refine rd_daug ?_
  | with_reducible refine rd_yesT ?_
  | ((with_reducible refine rd_wp ?hw ?_); (case hw => exact rfl)))
local macro_rules | `(tactic| wtm_at "rd") => `(tactic| repeat wtm_at "rd1")

section
variable {P : Program} {w : World} {K : PySem.W.Frag} {mg : Str → Option Value} {base : Heap}
theorem ok_initL2 {f : Addr} {fd : FuncData} {C CB : Addr} {x : Str} (F : Fun K "__init__" "InvalidLift.__init__" s_InvalidLift_init f fd) (T : OwnX K mg x "node" C CB f) : FnOk P w K mg base CX0 1 f fd ["self", "node"] (spInit1 C "node") := by
  refine F.ok sc_InvalidLift_init (fun vs H Q E h => ?_) (fun cdv A outer s H vs Q E hr h => ?_)
  · obtain ⟨a, v, rfl, _⟩ := h
    rfl
  · obtain ⟨a, v, rfl, ha, q⟩ := h
    refine ⟨_, pss_cons (ps_expr (pe_binit (x := "InputError") rfl T.gB T.bi (pa_cons (pv 0) (pa_cons pe_str pa_nil)))) (pss_one (ps_ost (pv 0) (pv 1))), ?_⟩
    wtm_at "rd"
    refine rd_vei (v := v) ?_
    wtm_at "rd"
    refine ⟨a, C, _, rfl, by decide, T.ox, ha, ?_⟩
    dsimp only
    refine rd_ost ?_
    wtm_at "rd"
    exact ⟨a, C, rfl, T.ox, T.no, .inl ⟨ha, fun dx n1 n2 => q dx n1 n2⟩⟩
end
end Law

/-! a pair among pairs; lists of lists of texts -/
namespace U
open PySem PySem.Spec PyProof.Rows L2
def rNinT (K : PySem.W.Frag) : R2 := fun x y H Q => ∃ (d : PyData) (ds : List PyData), Dp K H x d ∧ Dp K H y (.tuple ds) ∧ SeqAt.shaped d = true ∧ SeqAt.shaped (.tuple ds) = true ∧ Q (.bl (!ds.any fun z => PyData.eqv z d)) H
theorem kNinT {X : Cx} (K : PySem.W.Frag) (hK : X.K = K) (hu : X.A.units + 65 < cLine) : OpR X (compareOp .NotIn) (rNinT K) := by
  subst hK
  intro pins s σ H x y v u Q I rx ry ⟨d, ds, hd, he, sd, se, q⟩
  obtain ⟨_, r1⟩ := Dp.reads I _ _ _ hd rx
  obtain ⟨_, r2⟩ := Dp.reads I _ _ _ he ry
  exact SeqAt.notIn_tuple_reads r2 r1 (SeqAt.canLay_of_shaped se) (SeqAt.canLay_of_shaped sd) (room_in_shaped sd hu) ⟨.bl _, H, I, rfl, q⟩
theorem kNinL {X : Cx} (K : PySem.W.Frag) (hK : X.K = K) (hu : X.A.units + 65 < cLine) : OpR X (compareOp .NotIn) (rNotInD K) := by
  subst hK
  exact op_notInD hu
abbrev dE (e : Str × Str) : PyData := .tuple [.str e.1, .str e.2]
theorem eqv_dE {a b : Str × Str} : PyData.eqv (dE a) (dE b) = decide (a = b) := by
  obtain ⟨a1, a2⟩ := a
  obtain ⟨b1, b2⟩ := b
  rw [Bool.eq_iff_iff]
  simp [dE, PyData.eqv, PyData.eqvAll]
theorem any_dE {es : List (Str × Str)} {e : Str × Str} : ((es.map dE).any fun z => PyData.eqv z (dE e)) = decide (e ∈ es) := by
  rw [Bool.eq_iff_iff, List.any_eq_true, decide_eq_true_iff]
  constructor
  · rintro ⟨z, hz, h⟩
    obtain ⟨y, hy, rfl⟩ := List.mem_map.mp hz
    rw [eqv_dE, decide_eq_true_iff] at h
    rw [← h]
    exact hy
  · intro h
    exact ⟨_, List.mem_map_of_mem h, by rw [eqv_dE]; exact decide_eq_true rfl⟩
theorem dp_edges {K : PySem.W.Frag} {H : Hp} : ∀ {es : List (Addr × Str × Str)}, (∀ x ∈ es, SqT K H x.1 [.str x.2.1, .str x.2.2]) → DpAll K H (es.map fun x => V.ref x.1) ((es.map (·.2)).map dE)
  | [], _ => .nil
  | x :: r, h => .cons (.tup (h x List.mem_cons_self) (.cons (.str _) (.cons (.str _) .nil))) (dp_edges fun y hy => h y (List.mem_cons_of_mem _ hy))
theorem can_edges : ∀ {es : List (Str × Str)}, (∀ e ∈ es, PyData.strOk e.1 = true ∧ PyData.strOk e.2 = true) → PyData.canLayAll0 (es.map dE) = true ∧ PyData.depthAll (es.map dE) ≤ 1
  | [], _ => by simp [PyData.canLayAll0, PyData.depthAll]
  | e :: r, h => by
    obtain ⟨a, b⟩ := can_edges (es := r) fun y hy => h y (List.mem_cons_of_mem _ hy)
    obtain ⟨h1, h2⟩ := h e List.mem_cons_self
    have c : (dE e).canLay0 = true := by simp [dE, PyData.canLay0, PyData.canLayAll0, h1, h2]
    have d : (dE e).depth = 1 := by simp [dE, PyData.depth, PyData.depthAll]
    rw [List.map_cons, PyData.canLayAll0, PyData.depthAll, a, c, d]
    exact ⟨rfl, by omega⟩
theorem shaped_edge {e : Str × Str} (h : PyData.strOk e.1 = true ∧ PyData.strOk e.2 = true) : SeqAt.shaped (dE e) = true := by
  unfold SeqAt.shaped
  simp [dE, PyData.canLay0, PyData.canLayAll0, PyData.depth, PyData.depthAll, h.1, h.2]
theorem shaped_edgesT {es : List (Str × Str)} (h : ∀ e ∈ es, PyData.strOk e.1 = true ∧ PyData.strOk e.2 = true) : SeqAt.shaped (.tuple (es.map dE)) = true := by
  obtain ⟨a, b⟩ := can_edges h
  unfold SeqAt.shaped
  rw [PyData.canLay0, a, PyData.depth, decide_eq_true (by omega)]
  rfl
theorem shaped_edgesL {es : List (Str × Str)} (h : ∀ e ∈ es, PyData.strOk e.1 = true ∧ PyData.strOk e.2 = true) : SeqAt.shaped (.list (es.map dE)) = true := by
  obtain ⟨a, b⟩ := can_edges h
  unfold SeqAt.shaped
  rw [PyData.canLay0, a, PyData.depth, decide_eq_true (by omega)]
  rfl
theorem rd_ninTE {K : PySem.W.Frag} {H : Hp} {Q : VK} {p q : Addr} {e : Str × Str} {es : List (Addr × Str × Str)} (hp : SqT K H p [.str e.1, .str e.2]) (hq : SqT K H q (es.map fun x => V.ref x.1)) (pr : ∀ x ∈ es, SqT K H x.1 [.str x.2.1, .str x.2.2])
    (o1 : PyData.strOk e.1 = true ∧ PyData.strOk e.2 = true) (o2 : ∀ x ∈ es.map (·.2), PyData.strOk x.1 = true ∧ PyData.strOk x.2 = true) (h : Q (.bl (!decide (e ∈ es.map (·.2)))) H) : rNinT K (.ref p) (.ref q) H Q := by
  refine ⟨dE e, _, .tup hp (.cons (.str _) (.cons (.str _) .nil)), .tup hq (dp_edges pr), shaped_edge o1, shaped_edgesT o2, ?_⟩
  rw [any_dE]
  exact h
theorem rd_ninLE {K : PySem.W.Frag} {H : Hp} {Q : VK} {p q : Addr} {e : Str × Str} {es : List (Addr × Str × Str)} (hp : SqT K H p [.str e.1, .str e.2]) (hq : SqL K H q (es.map fun x => V.ref x.1)) (pr : ∀ x ∈ es, SqT K H x.1 [.str x.2.1, .str x.2.2])
    (o1 : PyData.strOk e.1 = true ∧ PyData.strOk e.2 = true) (o2 : ∀ x ∈ es.map (·.2), PyData.strOk x.1 = true ∧ PyData.strOk x.2 = true) (h : Q (.bl (!decide (e ∈ es.map (·.2)))) H) : rNotInD K (.ref p) (.ref q) H Q := by
  refine ⟨dE e, _, .tup hp (.cons (.str _) (.cons (.str _) .nil)), .lst hq (dp_edges pr), shaped_edge o1, shaped_edgesL o2, ?_⟩
  rw [any_dE]
  exact h
/-! lists of lists of texts -/
abbrev dLL (cs : List (List Str)) : PyData := .list (cs.map fun c => .list (c.map PyData.str))
theorem dp_LL {K : PySem.W.Frag} {H : Hp} {l : Addr} {cs : List (Addr × List Str)} (hl : SqL K H l (cs.map fun c => V.ref c.1)) (h : ∀ c ∈ cs, SqL K H c.1 (c.2.map V.str)) : Dp K H (.ref l) (dLL (cs.map (·.2))) := by
  refine .lst hl ?_
  clear hl
  induction cs with
  | nil => exact .nil
  | cons c r ih => exact .cons (.lst (h c List.mem_cons_self) (dp_strs _)) (ih fun d hd => h d (List.mem_cons_of_mem _ hd))
theorem shaped_LL {cs : List (List Str)} (h : ∀ c ∈ cs, ∀ x ∈ c, PyData.strOk x = true) : SeqAt.shaped (dLL cs) = true := by
  have key : PyData.canLayAll0 (cs.map fun c => .list (c.map PyData.str)) = true ∧ PyData.depthAll (cs.map fun c => .list (c.map PyData.str)) ≤ 1 := by
    induction cs with
    | nil => simp [PyData.canLayAll0, PyData.depthAll]
    | cons c r ih =>
      obtain ⟨a, b⟩ := ih fun d hd => h d (List.mem_cons_of_mem _ hd)
      rw [List.map_cons, PyData.canLayAll0, PyData.depthAll, PyData.canLay0, PyData.depth, canLay_strs (h c List.mem_cons_self), depth_strs, a]
      exact ⟨rfl, by omega⟩
  unfold SeqAt.shaped
  rw [dLL, PyData.canLay0, key.1, PyData.depth, decide_eq_true (by omega)]
  rfl
end U

/-! components as the laws find them -/
namespace Law
open PySem PySem.Spec PyProof.Rows L2 U
local macro_rules | `(tactic| wtm_at "rd1") => `(tactic| first
  | with_reducible refine rd_seq ?_
  | ((with_reducible refine rd_var (v := ?vv) ?hv ?_); (case hv => exact rfl))
  | with_reducible refine rd_c ?_
  | with_reducible refine rd_cons ?_
  | with_reducible refine rd_nil ?_
  | with_reducible refine rd_op ?_
  | with_reducible refine rd_asg ?_
  | with_reducible refine rd_name ?_
  | with_reducible refine rd_c1 ?_
  | with_reducible refine rd_cb ?_
  | with_reducible refine rd_test ?_
  | with_reducible refine rd_B ?_
  | with_reducible refine rd_bl ?_
  | with_reducible refine rd_if ?_
  | with_reducible refine rd_ret ?_
  | with_reducible refine rd_drop ?_
  | with_reducible refine rd_next ?_
  | with_reducible refine rd_addI ?_
  | with_reducible refine rd_ltI ?_
  | with_reducible refine rd_eqI ?_
  | with_reducible refine rd_neI ?_
  | with_reducible refine rd_eqS ?_
  | with_reducible refine rd_neS ?_
  | with_reducible refine rd_gtI ?_
  | with_reducible refine rd_geI ?_
  | with_reducible refine rd_leI ?_
  | with_reducible refine rd_ltS ?_
  | with_reducible refine rd_subI ?_
  | ((with_reducible refine rd_modI ?hc ?_); (case hc => first | decide | omega))
  | ((with_reducible refine rd_mulI ?hc ?_); (case hc => first | exact mul_bI | exact .inl (.inr (by decide)) | exact .inl (.inl (by decide)) | exact .inl (.inr (by omega)) | exact .inl (.inl (by omega))))
  | ((with_reducible refine rd_divI ?hc ?_); (case hc => first | decide | omega))
  | ((with_reducible refine rd_powI ?hc ?_); (case hc => exact ⟨by decide, by decide, by decide⟩))
  | with_reducible refine rd_lst ?_
  | with_reducible refine rd_tup ?_
  | ((with_reducible refine rd_sz ?hv ?_); (case hv => exact rfl))
  | with_reducible refine rd_and ?_
  | with_reducible refine rd_or ?_
  | with_reducible refine rd_not ?_
  | with_reducible refine rd_andV ?_
  | with_reducible refine rd_orV ?_
  | with_reducible refine rd_notV ?_
  | with_reducible refine rd_ifE ?_
  | with_reducible refine rd_T ?_
  | with_reducible refine rd_F ?_
  | with_reducible refine rd_chain ?_
  | with_reducible refine rd_is ?_
  | with_reducible refine rd_isNot ?_
  | with_reducible refine rd_absI ?_
  | with_reducible refine rd_maxI ?_
  | with_reducible refine rd_minI ?_
  | with_reducible refine rd_intI ?_
  | with_reducible refine rd_intB ?_
  | with_reducible refine rd_sub ?_
  | with_reducible refine rd_sl ?_
  | with_reducible refine rd_noPart ?_
  | with_reducible refine rd_part ?_
  | with_reducible refine rd_exI ?_
  | with_reducible refine rd_bm ?_
  | with_reducible refine rd_bm0 ?_
  | with_reducible refine rd_un ?_
  | with_reducible refine rd_neg ?_
  | with_reducible refine rd_c2 ?_
  | with_reducible refine rd_retN ?_
  | with_reducible refine rd_break ?_
  | with_reducible refine rd_cont ?_
  | with_reducible refine rd_for ?_
  | with_reducible refine rd_rng1 ?_
  | with_reducible refine rd_rng2 ?_
  | with_reducible refine rd_iList ?_
  | with_reducible refine rd_iTup ?_
  | with_reducible refine rd_iEnum ?_
  | ((with_reducible refine rd_forR ?h0 ?h1 ?_); (case h0 => omega); (case h1 => omega))
  | with_reducible refine rd_lc ?_
  | with_reducible refine rd_gcons ?_
  | with_reducible refine rd_gnil ?_
  | with_reducible refine rd_dget ?_
  | with_reducible refine rd_dput ?_
  | with_reducible refine rd_dnew ?_
  | with_reducible refine rd_dc ?_
  | with_reducible refine rd_iItems ?_
  | with_reducible refine rd_iKeys ?_
  | with_reducible refine rd_din ?_
  | with_reducible refine rd_lc2 ?_
  | with_reducible refine rd_cd ?_
  | with_reducible refine rd_par ?_
  | with_reducible refine rd_two ?_
  | with_reducible refine rd_reprB ?_
  | with_reducible refine rd_ck ?_
  | ((with_reducible refine rd_len ?hl ?_); (case hl => exact rfl))
  | with_reducible refine rd_nT ?_
  | with_reducible refine rd_nF ?_
  | with_reducible refine rd_dnin ?_
  | with_reducible refine rd_isB ?_
  | with_reducible refine rd_isNotB ?_
  | with_reducible refine rd_daug ?_
  | with_reducible refine rd_yesT ?_
  | ((with_reducible refine rd_wp ?hw ?_); (case hw => exact rfl)))
local macro_rules | `(tactic| wtm_at "rd") => `(tactic| repeat wtm_at "rd1")

section
variable {P : Program} {w : World} {K : PySem.W.Frag} {mg : Str → Option Value} {base : Heap}
structure E1c (P : Program) (w : World) (K : PySem.W.Frag) (mg : Str → Option Value) (base : Heap) : Prop where
  _law_neighbors_of : Cal P w K mg base CX0 1 "_law_neighbors_of" spNbr
theorem ok_comps_of {f : Addr} {fd : FuncData} (F : Fun K "_law_components_of" "_law_components_of" s__law_components_of f fd) (B : Bt mg) (C : E1c P w K mg base) : FnG P w K mg base CX0 2 f fd ["_law_graph"] spComps := by
  refine fnG0 F sc__law_components_of (fun vs H Q E h => ?_) (fun cdv A outer s H vs Q E hr h => ?_)
  · obtain ⟨g, n, e, ns, es, rfl, _⟩ := h
    rfl
  · obtain ⟨g, n, e, ns, es, rfl, gs, nl, q⟩ := h
    have nd := sc__law_components_of.nd
    have hu := hr.u1
    refine ⟨_, (pss_cons (ps_set (i := 1) nd rfl (by first | exact Or.inl rfl | exact Or.inr rfl) (pe_callTy (kList K rfl rfl) (by rfl) B.list bb_list (pa_cons (pe_ix (kIx K rfl) (pv 0) pe_int (fun _ _ => rfl)) pa_nil)))
  (pss_cons (ps_set (i := 2) nd rfl (by first | exact Or.inl rfl | exact Or.inr rfl) (pe_lst pa_nil))
  (pss_cons (ps_while PassesOwn.never (pt_cmpR (kNe K rfl hr.u64) (pv 1) (pe_lst pa_nil) (nomark _)) (pss_cons (ps_set (i := 3) nd rfl (by first | exact Or.inl rfl | exact Or.inr rfl) (pe_lst (pa_cons (pe_ix (kIx K rfl) (pv 1) pe_int (fun _ _ => rfl)) pa_nil)))
  (pss_cons (ps_set (i := 4) nd rfl (by first | exact Or.inl rfl | exact Or.inr rfl) pe_int)
  (pss_cons (ps_while PassesOwn.never (pt_cmpR uLt (pv 4) (pe_callB (kLen K rfl) (by rfl) B.len bb_len (pa_cons (pv 3) pa_nil)) (nomark _)) (pss_cons (ps_set (i := 3) nd rfl (by first | exact Or.inl rfl | exact Or.inr rfl) (pe_op (kAdd K rfl) (pv 3) (pe_lc (own := [("_law_other", 5)]) rfl nd (ki_list K rfl (pe_c C._law_neighbors_of hr (by decide) rfl (pa_cons (pv 0) (pa_cons (pe_ix (kIx K rfl) (pv 3) (pv 4) (fun _ _ => rfl)) pa_nil)))) (blkOk_by (own := [("_law_other", 5)]) (N := nN__law_components_of) (sc := defScope s__law_components_of) (by decide +kernel)) (fun _ _ _ _ _ => (pg_name (i := 5) nd rfl (by first | exact Or.inl rfl | exact Or.inr rfl))) (fun _ _ _ _ _ => (pts_one (pt_cmpR (kNotIn K rfl) (pv 5) (pv 3) rfl))) (fun _ _ _ _ _ => (pv 5)))))
  (pss_one (ps_set (i := 4) nd rfl (by first | exact Or.inl rfl | exact Or.inr rfl) (pe_op (kAdd K rfl) (pv 4) pe_int)))))
  (pss_cons (ps_expr (pe_bm PySem.F.plainAttrs_list PySem.F.slot_list_append PySem.F.type_list_append mt_append (pv 2) (pa_cons (pe_callB (kSorted K rfl hr.u64) (by rfl) B.sorted bb_sorted (pa_cons (pv 3) pa_nil)) pa_nil)))
  (pss_one (ps_setLc (i := 1) (own := [("_law_node", 6)]) rfl nd rfl rfl (sw_true rfl rfl rfl (by decide +kernel)) (ki_list K rfl (pv 1)) (blkOk_by (own := [("_law_node", 6)]) (N := nN__law_components_of) (sc := defScope s__law_components_of) (by decide +kernel)) (fun _ _ _ _ _ => (pg_name (i := 6) nd rfl (by first | exact Or.inl rfl | exact Or.inr rfl))) (fun _ _ _ _ _ => (pts_one (pt_cmpR (kNotIn K rfl) (pv 6) (pv 3) rfl))) (fun _ _ _ _ _ => (pv 6)))))))))
  (pss_one (ps_ret (pv 2)))))), ?_⟩
    have l1 : ns.length ≤ 1000 := by omega
    have sok : ∀ x ∈ ns, PyData.strOk x = true := fun x hx => (gs.ok.names.ok x hx).sok
    wtm_at "rd"
    refine rd_ixT (SqT.of gs.gr.top) (v := .ref n) rfl ?_
    refine rd_listT (SqT.of gs.gr.nodes) ?_
    intro le fle
    have s1 := Same.new (o := .lst (ns.map V.str)) fle
    have hle1 := @upd_same H le (.lst (ns.map V.str))
    generalize upd H le (.lst (ns.map V.str)) = H1 at s1 hle1
    wtm_at "rd"
    intro l fl
    have s2 := same_add (o := .lst []) s1 fl
    have hle2 := at_upd (o := .lst []) (ne_of_none hle1 fl) hle1
    have hl2 := @upd_same H1 l (.lst [])
    have fl0 := new_of_same s1 fl
    generalize upd H1 l (.lst []) = H2 at s2 hle2 hl2
    wtm_at "rd"
    refine ⟨fun m σ H' => ∃ (la : Addr) (lf : List Str) (cs : List (Addr × List Str)) (u3 u4 u5 u6 : Option V), m = lf.length ∧ σ = [some (.ref g), some (.ref la), some (.ref l), u3, u4, u5, u6] ∧ Same H H' ∧ la ≠ l ∧ H' la = some (.lst (lf.map V.str)) ∧ ListsAt H' l cs ∧ (∀ c ∈ cs, H c.1 = none ∧ c.1 ≠ l) ∧
      lf.foldl (compStep (es.map (·.2))) (cs.map (·.2)) = compsF ns (es.map (·.2)) ∧ (∀ x ∈ lf, x ∈ ns ∧ x ∉ (cs.map (·.2)).flatten) ∧ cs.length + lf.length ≤ ns.length,
      ⟨_, le, ns, [], _, _, _, _, rfl, rfl, s2, ne_of_none hle1 fl, hle2, ⟨hl2, fun c hc => nomatch hc⟩, (fun c hc => nomatch hc), rfl, (fun x hx => ⟨hx, fun z => nomatch z⟩), (by simp)⟩, ?_⟩
    rintro m σ H3 ⟨la, lf, cs, u3, u4, u5, u6, rfl, rfl, s, nla, hla, lsa, fr, fold, lin, len⟩
    wtm_at "rd"
    intro t4 f4
    have s4 := same_add (o := .lst []) s f4
    have hla4 := at_upd (o := .lst []) (ne_of_none hla f4) hla
    have lsa4 := lsa.same (Same.new (o := .lst []) f4)
    refine rd_neSL (ys := []) (SqL.of hla4) (SqL.of upd_same) (fun x hx => sok x (lin x hx).1) (fun x hx => nomatch hx) ?_
    generalize upd H3 t4 (.lst []) = H4 at s4 hla4 lsa4
    wtm_at "rd"
    refine rd_nsplit (fun c => ?_) (fun c => ?_)
    case refine_2 =>
      subst c
      wtm_at "rd"
      exact q l cs H4 s4 fl0 (fun c hc => (fr c hc).1) lsa4 fold
    obtain ⟨x, rest, rfl⟩ : ∃ x rest, lf = x :: rest := by
      cases lf with
      | nil => exact (c rfl).elim
      | cons x r => exact ⟨x, r, rfl⟩
    obtain ⟨hx, nx⟩ := lin x List.mem_cons_self
    refine ⟨fun σ' H' => ∃ (la : Addr) (lf : List Str) (cs : List (Addr × List Str)) (u3 u4 u5 u6 : Option V), lf.length < (x :: rest).length ∧ σ' = [some (.ref g), some (.ref la), some (.ref l), u3, u4, u5, u6] ∧ Same H H' ∧ la ≠ l ∧ H' la = some (.lst (lf.map V.str)) ∧ ListsAt H' l cs ∧ (∀ c ∈ cs, H c.1 = none ∧ c.1 ≠ l) ∧
      lf.foldl (compStep (es.map (·.2))) (cs.map (·.2)) = compsF ns (es.map (·.2)) ∧ (∀ x ∈ lf, x ∈ ns ∧ x ∉ (cs.map (·.2)).flatten) ∧ cs.length + lf.length ≤ ns.length,
      fun σ' H' ⟨la, lf, cs, u3, u4, u5, u6, h1, h2⟩ => ⟨_, h1, la, lf, cs, u3, u4, u5, u6, rfl, h2⟩, ?_⟩
    wtm_at "rd"
    refine rd_ixL (SqL.of hla4) (v := .str x) (show atI _ ((0 : Nat) : Int) = _ from atI_nat rfl) ?_
    wtm_at "rd"
    intro k5 f5
    have s5 := Same.new (o := .lst [.str x]) f5
    have hk5 := @upd_same H4 k5 (.lst [.str x])
    generalize upd H4 k5 (.lst [.str x]) = H5 at s5 hk5
    wtm_at "rd"
    have cl : ∀ a ∈ ns, ∀ b ∈ nbS (es.map (·.2)) a, b ∈ ns := fun a _ b hb => nbS_in gs.ok hb
    refine ⟨fun m σ H' => ∃ (i : Nat) (k : Addr) (v5 : Option V), m = ns.length + 1 - i ∧ i ≤ ns.length ∧ σ = [some (.ref g), some (.ref la), some (.ref l), some (.ref k), some (.int i), v5, u6] ∧ Same H4 H' ∧
      H' k = some (.lst ((keysF (stF (nbS (es.map (·.2))) (fun _ _ => true) x i)).map V.str)), ⟨_, 0, k5, _, rfl, Nat.zero_le _, rfl, s5, hk5⟩, ?_⟩
    rintro m σ H6 ⟨i, k, v5, rfl, il, rfl, s6, hk6⟩
    have sl := stF_len (ok := fun _ _ => true) cl hx i
    have hin : ∀ y ∈ keysF (stF (nbS (es.map (·.2))) (fun _ _ => true) x i), y ∈ ns := fun y hy => reach_mem cl hx (stF_reach hy)
    wtm_at "rd"
    refine rd_lenL (SqL.of hk6) ?_
    rw [List.length_map, List.length_map]
    wtm_at "rd"
    refine rd_split (fun c0 => ?_) (fun c0 => ?_)
    · have hi : i < (stF (nbS (es.map (·.2))) (fun _ _ => true) x i).length := by omega
      refine ⟨fun σ' H' => ∃ (k : Addr) (v5 : Option V), σ' = [some (.ref g), some (.ref la), some (.ref l), some (.ref k), some (.int (i + 1 : Nat)), v5, u6] ∧ Same H4 H' ∧
        H' k = some (.lst ((keysF (stF (nbS (es.map (·.2))) (fun _ _ => true) x (i + 1))).map V.str)), fun σ' H' ⟨k, v5, h1, h2, h3⟩ => ⟨ns.length + 1 - (i + 1), by omega, i + 1, k, v5, rfl, by omega, h1, h2, h3⟩, ?_⟩
      have e1 : (stF (nbS (es.map (·.2))) (fun _ _ => true) x i)[i]? = some (stF (nbS (es.map (·.2))) (fun _ _ => true) x i)[i] := List.getElem?_eq_getElem hi
      have cn := hin _ (List.mem_map_of_mem (List.getElem_mem hi))
      rw [stF_at e1]
      have s06 := s4.trans s6
      wtm_at "rd"
      refine rd_ixL (SqL.of hk6) (atI_nat (v := .str (stF (nbS (es.map (·.2))) (fun _ _ => true) x i)[i].1) (by rw [List.getElem?_map, List.getElem?_map, e1]; rfl)) ?_
      generalize (stF (nbS (es.map (·.2))) (fun _ _ => true) x i)[i] = cc at *
      generalize stF (nbS (es.map (·.2))) (fun _ _ => true) x i = kp at *
      wtm_at "rd"
      refine ⟨g, n, e, cc.1, ns, es, rfl, (gs.same s06).gr, by have := gs.l3; omega, fun l7 ys H7 s7 fl7 hl7 py sy => ?_⟩
      obtain rfl : ys = nbS (es.map (·.2)) cc.1 := nbS_of gs.ok py sy
      have ynd := nbS_nodup gs.ok cc.1
      have yl : (nbS (es.map (·.2)) cc.1).length ≤ 2000 := by
        rw [py.length_eq]
        have := nbrF_len (x := cc.1) (es := es.map (·.2))
        rw [List.length_map] at this
        have := gs.l3
        omega
      rw [addsF_keys ynd]
      generalize nbS (es.map (·.2)) cc.1 = ys at *
      refine rd_forL (SqL.of hl7) ?_
      intro D fD
      have s67 := s6.trans s7
      have hk7 := s7 _ _ hk6
      refine lcL (K := K) (xs := ys.map V.str) (fun j H' => Same H7 H' ∧ H' D = some (.lst (((ys.take j).filter fun o => !decide (o ∈ keysF kp) && true).map V.str))) ⟨Same.new fD, upd_same⟩ ?_ ?_ ?_
      · rintro j H' hj ⟨sb, _⟩
        exact SqL.of (sb _ _ hl7)
      · rintro j y H' hy ⟨sb, hD⟩
        obtain ⟨hj, rfl⟩ := map_at hy
        have tk := take_snoc hj
        have lt : ((ys.take j).filter fun o => !decide (o ∈ keysF kp) && true).length ≤ 2000 := Nat.le_trans (List.length_filter_le _ _) (by rw [List.length_take]; omega)
        generalize ys[j] = o at *
        wtm_at "rd"
        refine rd_ninSL (SqL.of (sb _ _ hk7)) ?_
        wtm_at "rd"
        refine rd_nsplit (fun c1 => ?_) (fun c1 => ?_)
        · wtm_at "rd"
          refine rd_acc hD (by rw [List.length_map]; omega) ?_
          refine ⟨same_put sb fD, ?_⟩
          rw [upd_same, tk, List.filter_append, List.map_append, List.filter_cons, if_pos (by rw [decide_eq_false c1]; rfl)]
          rfl
        · refine ⟨sb, ?_⟩
          rw [tk, List.filter_append, List.filter_cons, if_neg (by rw [decide_eq_true c1]; exact Bool.false_ne_true), List.filter_nil, List.append_nil]
          exact hD
      rintro H8 ⟨s8, hD8⟩
      rw [List.length_map, List.take_length] at hD8
      refine rd_catL (s8 _ _ hk7) hD8 (by
        have := List.length_filter_le (fun o => !decide (o ∈ keysF kp) && true) ys
        rw [List.length_map, List.length_map, List.length_map]
        omega) ?_
      intro k9 f9
      rw [← List.map_append]
      have s9 := same_add (o := .lst ((keysF kp ++ ys.filter fun o => !decide (o ∈ keysF kp) && true).map V.str)) (s67.trans s8) f9
      wtm_at "rd"
      have ei : (i : Int) + 1 = ((i + 1 : Nat) : Int) := by omega
      rw [ei]
      exact ⟨k9, _, rfl, s9, upd_same⟩
    · rw [stF_done (by omega) (by omega)] at hk6
      have xk : x ∈ keysF (ptF (es.map (·.2)) x) := (pt_mem gs.ok l1 hx).mpr .refl
      have knd : (keysF (ptF (es.map (·.2)) x)).Nodup := pt_nodup
      have kl : (keysF (ptF (es.map (·.2)) x)).length ≤ ns.length := by rw [List.length_map]; exact pt_len gs.ok hx
      have ek : comp (es.map (·.2)) x = sortS (keysF (ptF (es.map (·.2)) x)) := rfl
      clear sl hin
      generalize keysF (ptF (es.map (·.2)) x) = kx at hk6 xk knd kl ek
      have kin : ∀ {y}, y ∈ comp (es.map (·.2)) x ↔ y ∈ kx := fun {y} => by rw [ek]; exact (sortS_perm _).mem_iff
      wtm_at "rd"
      have lsa6 := lsa4.same s6
      refine rd_tyL lsa6.li ?_
      wtm_at "rd"
      refine rd_sortS (SqL.of hk6) (by omega) ?_
      intro ys py sy l7 fl7
      obtain rfl : ys = comp (es.map (·.2)) x := by rw [ek]; exact sort_uniq py sy knd
      have s06 := s4.trans s6
      have s07 := same_add (o := .lst ((comp (es.map (·.2)) x).map V.str)) s06 fl7
      have lsa7 := lsa6.same (Same.new (o := .lst ((comp (es.map (·.2)) x).map V.str)) fl7)
      have hl7 := @upd_same H6 l7 (.lst ((comp (es.map (·.2)) x).map V.str))
      have hk7 := at_upd (o := .lst ((comp (es.map (·.2)) x).map V.str)) (ne_of_none hk6 fl7) hk6
      have hla7 := at_upd (o := .lst ((comp (es.map (·.2)) x).map V.str)) (ne_of_none (s6 _ _ hla4) fl7) (s6 _ _ hla4)
      have n7 : l7 ≠ l := Ne.symm (ne_of_none lsa6.li fl7)
      have fl70 := new_of_same s06 fl7
      generalize upd H6 l7 (.lst ((comp (es.map (·.2)) x).map V.str)) = H7 at s07 lsa7 hl7 hk7 hla7
      wtm_at "rd"
      rw [List.length_cons] at len
      refine rd_append lsa7.li (by rw [List.length_map]; omega) ?_
      have nkl : k ≠ l := fun z => by
        rw [z, lsa7.li] at hk7
        have e := HO.lst.inj (Option.some.inj hk7)
        cases kx with
        | nil => cases xk
        | cons z r =>
          cases cs with
          | nil => cases e
          | cons d t => cases e
      have s08 := same_put (o := .lst (cs.map (fun c => V.ref c.1) ++ [.ref l7])) s07 fl0
      have hl8 := at_upd (o := .lst (cs.map (fun c => V.ref c.1) ++ [.ref l7])) n7 hl7
      have hk8 := at_upd (o := .lst (cs.map (fun c => V.ref c.1) ++ [.ref l7])) nkl hk7
      have hla8 := at_upd (o := .lst (cs.map (fun c => V.ref c.1) ++ [.ref l7])) nla hla7
      have lsa8 : ListsAt (upd H7 l (.lst (cs.map (fun c => V.ref c.1) ++ [.ref l7]))) l (cs ++ [(l7, comp (es.map (·.2)) x)]) := ⟨by rw [upd_same, List.map_append]; rfl, fun c hc => by
        rcases List.mem_append.mp hc with hc | hc
        · exact at_upd (fr c hc).2 (lsa7.at_ c hc)
        · rw [List.mem_singleton] at hc
          subst hc
          exact hl8⟩
      generalize upd H7 l (.lst (cs.map (fun c => V.ref c.1) ++ [.ref l7])) = H8 at s08 hl8 hk8 hla8 lsa8
      wtm_at "rd"
      refine rd_forL (SqL.of hla8) ?_
      intro D fD
      have nDl : D ≠ l := Ne.symm (ne_of_none lsa8.li fD)
      refine lcL (K := K) (xs := (x :: rest).map V.str) (fun j H' => Same H8 H' ∧ H' D = some (.lst ((((x :: rest).take j).filter fun o => !decide (o ∈ kx)).map V.str))) ⟨Same.new fD, upd_same⟩ ?_ ?_ ?_
      · rintro j H' hj ⟨sb, _⟩
        exact SqL.of (sb _ _ hla8)
      · rintro j y H' hy ⟨sb, hD⟩
        obtain ⟨hj, rfl⟩ := map_at hy
        have tk := take_snoc hj
        have lt : (((x :: rest).take j).filter fun o => !decide (o ∈ kx)).length ≤ 1000 := Nat.le_trans (List.length_filter_le _ _) (by rw [List.length_take, List.length_cons]; omega)
        generalize (x :: rest)[j] = o at *
        wtm_at "rd"
        refine rd_ninSL (SqL.of (sb _ _ hk8)) ?_
        wtm_at "rd"
        refine rd_nsplit (fun c1 => ?_) (fun c1 => ?_)
        · wtm_at "rd"
          refine rd_acc hD (by rw [List.length_map]; omega) ?_
          refine ⟨same_put sb fD, ?_⟩
          rw [upd_same, tk, List.filter_append, List.map_append, List.filter_cons, if_pos (by rw [decide_eq_false c1]; rfl)]
          rfl
        · refine ⟨sb, ?_⟩
          rw [tk, List.filter_append, List.filter_cons, if_neg (by rw [decide_eq_true c1]; exact Bool.false_ne_true), List.filter_nil, List.append_nil]
          exact hD
      rintro H9 ⟨s9, hD9⟩
      rw [List.length_map, List.take_length] at hD9
      have st : compStep (es.map (·.2)) (cs.map (·.2)) x = cs.map (·.2) ++ [comp (es.map (·.2)) x] := if_neg nx
      have fin : (cs ++ [(l7, comp (es.map (·.2)) x)]).map (·.2) = cs.map (·.2) ++ [comp (es.map (·.2)) x] := List.map_append
      have inc : ∀ y ∈ kx, y ∈ (cs.map (·.2) ++ [comp (es.map (·.2)) x]).flatten := fun y hy => by
        rw [List.flatten_append, List.flatten_singleton]
        exact List.mem_append_right _ (kin.mpr hy)
      rw [List.foldl_cons, st] at fold
      rw [List.filter_cons, if_neg (by rw [decide_eq_true xk]; exact Bool.false_ne_true)] at hD9
      refine ⟨D, rest.filter fun o => !decide (o ∈ kx), cs ++ [(l7, comp (es.map (·.2)) x)], _, _, _, _, ?_, rfl, s08.trans s9, nDl, hD9, lsa8.same s9, ?_, ?_, ?_, ?_⟩
      · rw [List.length_cons]
        exact Nat.lt_succ_of_le (List.length_filter_le _ _)
      · intro c hc
        rcases List.mem_append.mp hc with hc | hc
        · exact fr c hc
        · rw [List.mem_singleton] at hc
          subst hc
          exact ⟨fl70, n7⟩
      · rw [fin, fold_skip inc]
        exact fold
      · intro y hy
        obtain ⟨h1, h2⟩ := List.mem_filter.mp hy
        obtain ⟨y1, y2⟩ := lin y (List.mem_cons_of_mem _ h1)
        refine ⟨y1, fun z => ?_⟩
        rw [fin, List.flatten_append, List.flatten_singleton] at z
        rcases List.mem_append.mp z with z | z
        · exact y2 z
        · have := kin.mp z
          rw [decide_eq_true this] at h2
          cases h2
      · have := List.length_filter_le (fun o => !decide (o ∈ kx)) rest
        rw [List.length_append, List.length_singleton]
        omega
end
end Law

/-! dict(a list of pairs), lists of truth values compared -/
namespace U
open PySem PySem.Spec PyProof.Rows L2
def rDictP (K : PySem.W.Frag) : List V → Hp → VK → Prop := fun xs H Q => ∃ (a : Addr) (ps : List Addr) (kvs : List (Key × V)), xs = [.ref a] ∧ SqL K H a (ps.map V.ref) ∧ Paired (fun p kv => SqT K H p [kV kv.1, kv.2]) ps kvs ∧
    ∀ p, H p = none → Q (.ref p) (upd H p (.dK (mergeK [] kvs)))
theorem kDictP {X : Cx} (K : PySem.W.Frag) (hK : X.K = K) (hc : X.calm = true) : CallR X (.type "dict") (rDictP K) := by
  subst hK
  intro pins s σ H xs us Q I r h
  exact call_dictP hc pins s σ H xs us Q I r h
theorem rd_dictP {K : PySem.W.Frag} {H : Hp} {Q : VK} {a : Addr} {ps : List Addr} {kvs : List (Key × V)} (h1 : SqL K H a (ps.map V.ref)) (h2 : Paired (fun p kv => SqT K H p [kV kv.1, kv.2]) ps kvs) (h : ∀ p, H p = none → Q (.ref p) (upd H p (.dK (mergeK [] kvs)))) : rDictP K [.ref a] H Q := ⟨a, ps, kvs, rfl, h1, h2, h⟩
/-- two truth values against [True, True] -/
theorem rd_eqBB {K : PySem.W.Frag} {H : Hp} {Q : VK} {p q : Addr} {a b : Bool} (hp : H p = some (.lst [.bl a, .bl b])) (hq : H q = some (.lst [.bl true, .bl true])) (h : Q (.bl (a && b)) H) : rEqU K (.ref p) (.ref q) H Q := by
  refine ⟨_, _, .lst (SqL.of hp) (.cons (.bl _) (.cons (.bl _) .nil)), .lst (SqL.of hq) (.cons (.bl _) (.cons (.bl _) .nil)), by cases a <;> cases b <;> decide, by decide, ?_⟩
  have : PyData.eqv (.list [.bool a, .bool b]) (.list [.bool true, .bool true]) = (a && b) := by cases a <;> cases b <;> decide
  rw [this]
  exact h
end U

set_option pp.maxSteps 400
set_option pp.deepTerms false
/-! lifts drawn node by node; fitting ones -/
namespace Law
open PySem PySem.Spec PyProof.Rows L2 U
local macro_rules | `(tactic| wtm_at "rd1") => `(tactic| first
  | with_reducible refine rd_seq ?_
  | ((with_reducible refine rd_var (v := ?vv) ?hv ?_); (case hv => exact rfl))
  | with_reducible refine rd_c ?_
  | with_reducible refine rd_cons ?_
  | with_reducible refine rd_nil ?_
  | with_reducible refine rd_op ?_
  | with_reducible refine rd_asg ?_
  | with_reducible refine rd_name ?_
  | with_reducible refine rd_c1 ?_
  | with_reducible refine rd_cb ?_
  | with_reducible refine rd_test ?_
  | with_reducible refine rd_B ?_
  | with_reducible refine rd_bl ?_
  | with_reducible refine rd_if ?_
  | with_reducible refine rd_ret ?_
  | with_reducible refine rd_drop ?_
  | with_reducible refine rd_next ?_
  | with_reducible refine rd_addI ?_
  | with_reducible refine rd_ltI ?_
  | with_reducible refine rd_eqI ?_
  | with_reducible refine rd_neI ?_
  | with_reducible refine rd_eqS ?_
  | with_reducible refine rd_neS ?_
  | with_reducible refine rd_gtI ?_
  | with_reducible refine rd_geI ?_
  | with_reducible refine rd_leI ?_
  | with_reducible refine rd_ltS ?_
  | with_reducible refine rd_subI ?_
  | ((with_reducible refine rd_modI ?hc ?_); (case hc => first | decide | omega))
  | ((with_reducible refine rd_mulI ?hc ?_); (case hc => first | exact mul_bI | exact .inl (.inr (by decide)) | exact .inl (.inl (by decide)) | exact .inl (.inr (by omega)) | exact .inl (.inl (by omega))))
  | ((with_reducible refine rd_divI ?hc ?_); (case hc => first | decide | omega))
  | ((with_reducible refine rd_powI ?hc ?_); (case hc => exact ⟨by decide, by decide, by decide⟩))
  | with_reducible refine rd_lst ?_
  | with_reducible refine rd_tup ?_
  | ((with_reducible refine rd_sz ?hv ?_); (case hv => exact rfl))
  | with_reducible refine rd_and ?_
  | with_reducible refine rd_or ?_
  | with_reducible refine rd_not ?_
  | with_reducible refine rd_andV ?_
  | with_reducible refine rd_orV ?_
  | with_reducible refine rd_notV ?_
  | with_reducible refine rd_ifE ?_
  | with_reducible refine rd_T ?_
  | with_reducible refine rd_F ?_
  | with_reducible refine rd_chain ?_
  | with_reducible refine rd_is ?_
  | with_reducible refine rd_isNot ?_
  | with_reducible refine rd_absI ?_
  | with_reducible refine rd_maxI ?_
  | with_reducible refine rd_minI ?_
  | with_reducible refine rd_intI ?_
  | with_reducible refine rd_intB ?_
  | with_reducible refine rd_sub ?_
  | with_reducible refine rd_sl ?_
  | with_reducible refine rd_noPart ?_
  | with_reducible refine rd_part ?_
  | with_reducible refine rd_exI ?_
  | with_reducible refine rd_bm ?_
  | with_reducible refine rd_bm0 ?_
  | with_reducible refine rd_un ?_
  | with_reducible refine rd_neg ?_
  | with_reducible refine rd_c2 ?_
  | with_reducible refine rd_retN ?_
  | with_reducible refine rd_break ?_
  | with_reducible refine rd_cont ?_
  | with_reducible refine rd_for ?_
  | with_reducible refine rd_rng1 ?_
  | with_reducible refine rd_rng2 ?_
  | with_reducible refine rd_iList ?_
  | with_reducible refine rd_iTup ?_
  | with_reducible refine rd_iEnum ?_
  | ((with_reducible refine rd_forR ?h0 ?h1 ?_); (case h0 => omega); (case h1 => omega))
  | with_reducible refine rd_lc ?_
  | with_reducible refine rd_gcons ?_
  | with_reducible refine rd_gnil ?_
  | with_reducible refine rd_dget ?_
  | with_reducible refine rd_dput ?_
  | with_reducible refine rd_dnew ?_
  | with_reducible refine rd_dc ?_
  | with_reducible refine rd_iItems ?_
  | with_reducible refine rd_iKeys ?_
  | with_reducible refine rd_din ?_
  | with_reducible refine rd_lc2 ?_
  | with_reducible refine rd_cd ?_
  | with_reducible refine rd_par ?_
  | with_reducible refine rd_two ?_
  | with_reducible refine rd_reprB ?_
  | with_reducible refine rd_ck ?_
  | ((with_reducible refine rd_len ?hl ?_); (case hl => exact rfl))
  | with_reducible refine rd_nT ?_
  | with_reducible refine rd_nF ?_
  | with_reducible refine rd_dnin ?_
  | with_reducible refine rd_isB ?_
  | with_reducible refine rd_isNotB ?_
  | with_reducible refine rd_daug ?_
  | with_reducible refine rd_yesT ?_
  | ((with_reducible refine rd_wp ?hw ?_); (case hw => exact rfl)))
local macro_rules | `(tactic| wtm_at "rd") => `(tactic| repeat wtm_at "rd1")

def addN (lo : List Str) (n : Str) : List Str := if n ∈ lo then lo else lo ++ [n]
section
variable {lo lo' ns c : List Str} {m : Str → Int} {n : Str} {v : Int} {es : List (Str × Str)}
theorem kvF_add : putK (kvF lo m) (.inr n) (.int v) = kvF (addN lo n) (updf m n v) := by
  unfold addN
  split
  · rename_i h
    exact kvF_put h
  · rename_i h
    exact kvF_new h
theorem addN_sub {k : Str} (h : k ∈ lo) : k ∈ addN lo n := by
  unfold addN
  split
  · exact h
  · exact List.mem_append_left _ h
theorem addN_mem : n ∈ addN lo n := by
  unfold addN
  split
  · assumption
  · exact List.mem_append_right _ List.mem_cons_self
theorem addN_len : lo.length ≤ (addN lo n).length ∧ (n ∉ lo → (addN lo n).length = lo.length + 1) := by
  unfold addN
  split
  · exact ⟨Nat.le_refl _, fun h => absurd (by assumption) h⟩
  · rw [List.length_append]
    exact ⟨Nat.le_add_right _ _, fun _ => rfl⟩
/-- what is found so far -/
structure Fd (ns lo : List Str) (m : Str → Int) : Prop where
  nd : lo.Nodup
  in_ : ∀ n ∈ lo, n ∈ ns
  bd : ∀ n ∈ lo, (m n).natAbs ≤ lo.length
theorem Fd.nil : Fd ns [] m := ⟨List.nodup_nil, (fun _ h => nomatch h), fun _ h => nomatch h⟩
theorem Fd.len (h : Fd ns lo m) : lo.length ≤ ns.length := nodup_len h.nd h.in_
theorem Fd.add (h : Fd ns lo m) (hn : n ∈ ns) (hv : v.natAbs ≤ (addN lo n).length) : Fd ns (addN lo n) (updf m n v) := by
  refine ⟨?_, fun k hk => ?_, fun k hk => ?_⟩
  · unfold addN
    split
    · exact h.nd
    · rename_i z
      rw [List.nodup_append]
      exact ⟨h.nd, List.nodup_cons.mpr ⟨List.not_mem_nil, List.nodup_nil⟩, fun a ha b hb e => z (by rw [List.mem_singleton] at hb; rw [← hb, ← e]; exact ha)⟩
  · unfold addN at hk
    split at hk
    · exact h.in_ k hk
    · rcases List.mem_append.mp hk with hk | hk
      · exact h.in_ k hk
      · rw [List.mem_singleton.mp hk]
        exact hn
  · unfold updf
    split
    · exact hv
    · rename_i z
      have hk' : k ∈ lo := by
        unfold addN at hk
        split at hk
        · exact hk
        · rcases List.mem_append.mp hk with hk | hk
          · exact hk
          · exact absurd (List.mem_singleton.mp hk) z
      exact Nat.le_trans (h.bd k hk') addN_len.1
/-- how many of c are wanting -/
def mis (lo c : List Str) : Nat := (c.filter fun x => decide (x ∉ lo)).length
theorem mis_le : mis lo c ≤ c.length := List.length_filter_le _ _
theorem mis_mono (h : ∀ x ∈ lo, x ∈ lo') : mis lo' c ≤ mis lo c := by
  unfold mis
  induction c with
  | nil => exact Nat.le_refl _
  | cons x r ih =>
    rw [List.filter_cons, List.filter_cons]
    by_cases a : x ∈ lo'
    · rw [if_neg (by simpa using a)]
      split
      · rw [List.length_cons]; omega
      · exact ih
    · have b : x ∉ lo := fun z => a (h x z)
      rw [if_pos (by simpa using a), if_pos (by simpa using b), List.length_cons, List.length_cons]
      omega
theorem mis_lt (h : ∀ x ∈ lo, x ∈ lo') {z : Str} (hz : z ∈ c) (z1 : z ∉ lo) (z2 : z ∈ lo') : mis lo' c + 1 ≤ mis lo c := by
  induction c with
  | nil => cases hz
  | cons x r ih =>
    have mr := mis_mono (c := r) h
    unfold mis at mr ih ⊢
    rw [List.filter_cons, List.filter_cons]
    rcases List.mem_cons.mp hz with rfl | hz
    · rw [if_neg (by simpa using z2), if_pos (by simpa using z1), List.length_cons]
      omega
    · have := ih hz
      by_cases a : x ∈ lo'
      · rw [if_neg (by simpa using a)]
        split
        · rw [List.length_cons]; omega
        · exact this
      · have b : x ∉ lo := fun z => a (h x z)
        rw [if_pos (by simpa using a), if_pos (by simpa using b), List.length_cons, List.length_cons]
        omega
theorem mis_zero (h : mis lo c = 0) : ∀ x ∈ c, x ∈ lo := fun x hx => by
  unfold mis at h
  have e := List.eq_nil_of_length_eq_zero h
  refine Classical.byContradiction fun n => ?_
  have : x ∈ c.filter fun x => decide (x ∉ lo) := List.mem_filter.mpr ⟨hx, decide_eq_true n⟩
  rw [e] at this
  cases this
/-- an edge leads out of what is found -/
theorem cross {a x : Str} (r : Con es a x) (h0 : a ∈ lo) (hx : x ∉ lo) : ∃ y z, y ∈ lo ∧ z ∉ lo ∧ Adj es y z ∧ Con es a z := by
  induction r with
  | refl => exact absurd h0 hx
  | @step b d r m o ih =>
    by_cases z : b ∈ lo
    · exact ⟨b, d, z, hx, nbS_mem.mp m, .step r m o⟩
    · exact ih z
theorem mis_turn (ok : GrOk ns es) (l : ns.length ≤ 1000) {r a : Str} (hr : r ∈ ns) (ha : a ∈ comp es r) (al : a ∈ lo) (sub : ∀ x ∈ lo, x ∈ lo') (pass : ∀ x ∈ comp es r, (∃ y ∈ lo, Adj es y x) → x ∈ lo') :
    mis lo' (comp es r) ≤ mis lo (comp es r) - 1 := by
  by_cases z : mis lo (comp es r) = 0
  · have := mis_mono (c := comp es r) sub
    omega
  · have ne : (comp es r).filter (fun x => decide (x ∉ lo)) ≠ [] := fun e => z (by unfold mis; rw [e]; rfl)
    obtain ⟨x, hx⟩ := List.exists_mem_of_ne_nil _ ne
    obtain ⟨x1, x2⟩ := List.mem_filter.mp hx
    have ra := (comp_mem ok l hr).mp ha
    have rx := (comp_mem ok l hr).mp x1
    obtain ⟨y, z, y1, z1, adj, rz⟩ := cross ((con_symm ra).trans rx) al (of_decide_eq_true x2)
    have hz : z ∈ comp es r := (comp_mem ok l hr).mpr (ra.trans rz)
    have := mis_lt sub hz z1 (pass z hz ⟨y, y1, adj⟩)
    omega
end
/-- where the drawn lift and the components stand -/
structure LDk (p D l : Addr) (cs : List (Addr × List Str)) (H : Hp) : Prop where
  fD : H D = none
  pD : p ≠ D
  lp : l ≠ p
  cp : ∀ c ∈ cs, c.1 ≠ p
  lD : l ≠ D
  cD : ∀ c ∈ cs, c.1 ≠ D
structure LDs (p D l : Addr) (cs : List (Addr × List Str)) (ns : List Str) (H H' : Hp) (lo : List Str) (m : Str → Int) : Prop where
  go : Go p H H'
  di : H' D = some (.dK (kvF lo m))
  fd : Fd ns lo m
  la : ListsAt H' l cs
section
variable {p D l : Addr} {cs : List (Addr × List Str)} {ns lo : List Str} {H H' H2 : Hp} {m : Str → Int}
theorem LDs.same (h : LDs p D l cs ns H H' lo m) (s : Same H' H2) : LDs p D l cs ns H H2 lo m := ⟨h.go.trans (Go.of_same h.go.pool s), s _ _ h.di, h.fd, h.la.same s⟩
theorem LDs.goo (h : LDs p D l cs ns H H' lo m) (k : LDk p D l cs H) (g : Go p H' H2) : LDs p D l cs ns H H2 lo m := ⟨h.go.trans g, g.at h.di (Ne.symm k.pD), h.fd, ⟨g.at h.la.li k.lp, fun c hc => g.at (h.la.at_ c hc) (k.cp c hc)⟩⟩
theorem LDs.put (h : LDs p D l cs ns H H' lo m) (k : LDk p D l cs H) {n : Str} {v : Int} (hn : n ∈ ns) (hv : v.natAbs ≤ (addN lo n).length) : LDs p D l cs ns H (upd H' D (.dK (kvF (addN lo n) (updf m n v)))) (addN lo n) (updf m n v) :=
  ⟨h.go.put k.fD k.pD, upd_same, h.fd.add hn hv, ⟨at_upd k.lD h.la.li, fun c hc => at_upd (k.cD c hc) (h.la.at_ c hc)⟩⟩
end
def spFitting : Sp := fun vs H Q _ => ∃ (g n e st c : Addr) (ns ord lo : List Str) (es : List (Addr × Str × Str)) (f h : Str → Int), vs = [.ref g, .ref st, .ref c] ∧ GSt H g n e st ns ord es f ∧ H c = some (.dK (kvF lo h)) ∧ lo.Perm ns ∧
  ∀ H' : Hp, Same H H' → Q (.bl ((es.map (·.2)).all fun e => fitB f h e.1 e.2)) H'
def spDrawLiftA : Sp := fun vs H Q _ => ∃ (p g n e st : Addr) (ns ord : List Str) (es : List (Addr × Str × Str)) (f : Str → Int), vs = [.ref p, .ref g, .ref st] ∧ PoolAt H p ∧ GSt H g n e st ns ord es f ∧ 1 ≤ ns.length ∧ ns.length ≤ 60 ∧
  ∀ (d : Addr) (lo : List Str) (h : Str → Int) (H' : Hp), Go p H H' → H d = none → H' d = some (.dK (kvF lo h)) → lo.Perm ns → (∀ x ∈ ns, (h x).natAbs ≤ 2 * ns.length + 3) → Q (.ref d) H'
section
variable {P : Program} {w : World} {K : PySem.W.Frag} {mg : Str → Option Value} {base : Heap}
structure LDf (P : Program) (w : World) (K : PySem.W.Frag) (mg : Str → Option Value) (base : Heap) : Prop where
  _law_slope_of : Cal P w K mg base CX0 1 "_law_slope_of" spSlopeOf
theorem ok_fitting {f : Addr} {fd : FuncData} (F : Fun K "_law_is_fitting" "_law_is_fitting" s__law_is_fitting f fd) (B : Bt mg) (C : LDf P w K mg base) : FnG P w K mg base CX0 2 f fd ["_law_graph", "_law_state", "_law_lift"] spFitting := by
  refine fnG0 F sc__law_is_fitting (fun vs H Q E h => ?_) (fun cdv A outer s H vs Q E hr h => ?_)
  · obtain ⟨g, n, e, st, c, ns, ord, lo, es, f, h, rfl, _⟩ := h
    rfl
  · obtain ⟨g, n, e, st, c, ns, ord, lo, es, f, h, rfl, gs, hc, pm, q⟩ := h
    have nd := sc__law_is_fitting.nd
    have hu := hr.u1
    refine ⟨_, (pss_cons (ps_for PassesOwn.never rfl (ki_tup K rfl (pe_ix (kIx K rfl) (pv 0) pe_int (fun _ _ => rfl))) (kg_tup (n := 2) K rfl rfl (pgs_cons (pg_name (i := 3) nd rfl (by first | exact Or.inl rfl | exact Or.inr rfl)) (pgs_cons (pg_name (i := 4) nd rfl (by first | exact Or.inl rfl | exact Or.inr rfl)) pgs_nil))) (pss_cons (ps_set (i := 5) nd rfl (by first | exact Or.inl rfl | exact Or.inr rfl) (pe_lst (pa_cons (pe_op uSub (pe_dget hu (pv 2) (pv 3) (fun _ _ => rfl)) (pe_dget hu (pv 2) (pv 4) (fun _ _ => rfl))) (pa_cons (pe_op uSub (pe_dget hu (pv 2) (pv 4) (fun _ _ => rfl)) (pe_dget hu (pv 2) (pv 3) (fun _ _ => rfl))) pa_nil))))
  (pss_one (ps_if (pt_not (pt_chain uLe uLe pe_int (pe_ix (kIx K rfl) (pv 5) (pe_callTy cInt (by rfl) B.int bb_int (pa_cons (pe_cmpR (kEq K rfl hr.u64) (pe_c C._law_slope_of hr (by decide) rfl (pa_cons (pv 1) (pa_cons (pv 3) (pa_cons (pv 4) pa_nil)))) (pe_un un_neg pe_int) (nomark _)) pa_nil)) (fun _ _ => rfl)) pe_int)) (pss_one (ps_ret pe_bl)) pss_nil))))
  (pss_one (ps_ret pe_bl))), ?_⟩
    wtm_at "rd"
    refine rd_ixT (SqT.of gs.gr.top) (v := .ref e) rfl ?_
    refine rd_forT (SqT.of gs.gr.edges) ?_
    refine turnsT (K := K) (xs := es.map fun x => V.ref x.1) (fun i σ H' => ∃ u3 u4 u5 : Option V, σ = [some (.ref g), some (.ref st), some (.ref c), u3, u4, u5] ∧ Same H H' ∧ ∀ e ∈ (es.map (·.2)).take i, fitB f h e.1 e.2 = true) ⟨_, _, _, rfl, Same.refl _, fun e he => by rw [List.take_zero] at he; cases he⟩ ?_ ?_ ?_
    · rintro i σ H' hi ⟨u3, u4, u5, rfl, s, _⟩
      exact SqT.of (s _ _ gs.gr.edges)
    · rintro i y σ H' hy ⟨u3, u4, u5, rfl, s, all⟩
      obtain ⟨hi, rfl⟩ := map_at hy
      have hm := List.getElem_mem hi
      have i2 : i < (es.map (·.2)).length := by rw [List.length_map]; exact hi
      have tk := take_snoc i2
      rw [List.getElem_map] at tk
      obtain ⟨m1, m2⟩ := gs.inE _ hm
      have adj : Adj (es.map (·.2)) es[i].2.1 es[i].2.2 := .inl (List.mem_map_of_mem (f := fun x : Addr × Str × Str => x.2) hm)
      have a1 := pm.mem_iff.mpr m1
      have a2 := pm.mem_iff.mpr m2
      have dl := dlt_slp gs.eok adj
      have pmn := slp_pm f es[i].2.1 es[i].2.2
      have mem : es[i].2 ∈ es.map (·.2) := List.mem_map_of_mem (f := fun x : Addr × Str × Str => x.2) hm
      rw [tk]
      refine rd_unp (SqT.of (s _ _ (gs.gr.pairs _ hm))) rfl ?_
      generalize es[i] = x at *
      wtm_at "rd"
      refine rd_dat (.inl (s _ _ hc)) (kvF_val a1) rfl ?_
      wtm_at "rd"
      refine rd_dat (.inl (s _ _ hc)) (kvF_val a2) rfl ?_
      wtm_at "rd"
      refine rd_dat (.inl (s _ _ hc)) (kvF_val a2) rfl ?_
      wtm_at "rd"
      refine rd_dat (.inl (s _ _ hc)) (kvF_val a1) rfl ?_
      wtm_at "rd"
      intro l fl
      have s2 := same_add (o := .lst [.int (h x.2.1 - h x.2.2), .int (h x.2.2 - h x.2.1)]) s fl
      have hl := @upd_same H' l (.lst [.int (h x.2.1 - h x.2.2), .int (h x.2.2 - h x.2.1)])
      generalize upd H' l (.lst [.int (h x.2.1 - h x.2.2), .int (h x.2.2 - h x.2.1)]) = H2 at s2 hl
      wtm_at "rd"
      refine ⟨st, _, _, ord, f, rfl, s2 _ _ gs.st, gs.inO _ m1, gs.inO _ m2, fun H3 s3 => ?_⟩
      rw [dl]
      have s13 := s2.trans s3
      have hl3 := s3 _ _ hl
      wtm_at "rd"
      have fin : ∀ b : Bool, b = fitB f h x.2.1 x.2.2 → b = true → ∃ u3 u4 u5 : Option V, [some (.ref g), some (.ref st), some (.ref c), some (.str x.2.1), some (.str x.2.2), some (.ref l)] = [some (.ref g), some (.ref st), some (.ref c), u3, u4, u5] ∧ Same H H3 ∧ ∀ e ∈ (es.map (·.2)).take i ++ [x.2], fitB f h e.1 e.2 = true := fun b e1 e2 => ⟨_, _, _, rfl, s13, fun e he => by
        rcases List.mem_append.mp he with he | he
        · exact all e he
        · rw [List.mem_singleton.mp he, ← e1, e2]⟩
      have no : fitB f h x.2.1 x.2.2 = false → ((es.map (·.2)).all fun e => fitB f h e.1 e.2) = false := fun z => by
        rw [List.all_eq_false]
        exact ⟨x.2, mem, by rw [z]; exact Bool.false_ne_true⟩
      obtain ⟨gap, hgap, eg⟩ : ∃ gap : Int, atI [V.int (h x.2.1 - h x.2.2), .int (h x.2.2 - h x.2.1)] (bToI (decide (slp f x.2.1 x.2.2 = -1))) = some (.int gap) ∧ fitB f h x.2.1 x.2.2 = (decide (0 ≤ gap) && decide (gap ≤ 1)) := by
        rcases pmn with z | z
        · exact ⟨_, by rw [z]; rfl, by unfold fitB; rw [if_pos z]⟩
        · exact ⟨_, by rw [z]; rfl, by unfold fitB; rw [if_neg (by omega)]⟩
      refine rd_ixL (SqL.of hl3) hgap ?_
      wtm_at "rd"
      have bad : fitB f h x.2.1 x.2.2 = false → Q (.bl false) H3 := fun z => by
        have := q H3 s13
        rw [no z] at this
        exact this
      refine rd_split (fun c1 => ?_) (fun c1 => ?_)
      · wtm_at "rd"
        refine rd_nsplit (fun c2 => ?_) (fun c2 => ?_)
        · wtm_at "rd"
          exact bad (by rw [eg, decide_eq_false c2, Bool.and_false])
        · exact fin true (by rw [eg, decide_eq_true c1, decide_eq_true c2]; rfl) rfl
      · wtm_at "rd"
        exact bad (by rw [eg, decide_eq_false c1, Bool.false_and])
    · rintro σ H' ⟨u3, u4, u5, rfl, s, all⟩
      rw [List.length_map, ← List.length_map (f := fun x : Addr × Str × Str => x.2), List.take_length] at all
      wtm_at "rd"
      have := q H' s
      rw [List.all_eq_true.mpr all] at this
      exact this
structure LDc (P : Program) (w : World) (K : PySem.W.Frag) (mg : Str → Option Value) (base : Heap) : Prop where
  _law_draw : Cal P w K mg base CX0 1 "_law_draw" spDraw
  _law_neighbors_of : Cal P w K mg base CX0 1 "_law_neighbors_of" spNbr
  _law_slope_of : Cal P w K mg base CX0 1 "_law_slope_of" spSlopeOf
  _law_components_of : Cal P w K mg base CX0 2 "_law_components_of" spComps
theorem ok_draw_liftA {f : Addr} {fd : FuncData} (F : Fun K "_law_draw_lift" "_law_draw_lift" s__law_draw_lift f fd) (B : Bt mg) (C : LDc P w K mg base) : FnG P w K mg base CX0 4 f fd ["_law_pool_here", "_law_graph", "_law_state"] spDrawLiftA := by
  refine fnG0 F sc__law_draw_lift (fun vs H Q E h => ?_) (fun cdv A outer s H vs Q E hr h => ?_)
  · obtain ⟨p, g, n, e, st, ns, ord, es, f, rfl, _⟩ := h
    rfl
  · obtain ⟨p, g, n, e, st, ns, ord, es, f, rfl, hp, gs, n1, l60, q⟩ := h
    have nd := sc__law_draw_lift.nd
    have hu := hr.u1
    refine ⟨_, (pss_cons (ps_set (i := 3) nd rfl (by first | exact Or.inl rfl | exact Or.inr rfl) pe_dnewK)
  (pss_cons (ps_for PassesOwn.never rfl (ki_list K rfl (pe_c C._law_components_of hr (by decide) rfl (pa_cons (pv 1) pa_nil))) (pg_name (i := 4) nd rfl (by first | exact Or.inl rfl | exact Or.inr rfl)) (pss_cons (ps_dput hu (pv 3) (pe_ix (kIx K rfl) (pv 4) pe_int (fun _ _ => rfl)) pe_int rfl)
  (pss_one (ps_for PassesOwn.never rfl (pi_range1 rfl B.range (pa_cons (pe_callB (kLen K rfl) (by rfl) B.len bb_len (pa_cons (pv 4) pa_nil)) pa_nil)) (pg_name (i := 5) nd rfl (by first | exact Or.inl rfl | exact Or.inr rfl)) (pss_one (ps_for PassesOwn.never rfl (ki_list K rfl (pv 4)) (pg_name (i := 6) nd rfl (by first | exact Or.inl rfl | exact Or.inr rfl)) (pss_cons (ps_setLc (i := 7) (own := [("_law_other", 8)]) rfl nd rfl rfl (sw_true rfl rfl rfl (by decide +kernel)) (ki_list K rfl (pe_c C._law_neighbors_of hr (by decide) rfl (pa_cons (pv 1) (pa_cons (pv 6) pa_nil)))) (blkOk_by (own := [("_law_other", 8)]) (N := nN__law_draw_lift) (sc := defScope s__law_draw_lift) (by decide +kernel)) (fun _ _ _ _ _ => (pg_name (i := 8) nd rfl (by first | exact Or.inl rfl | exact Or.inr rfl))) (fun _ _ _ _ _ => (pts_one (pt_cmp (pc_din hu (pv 8) (pv 3))))) (fun _ _ _ _ _ => (pv 8)))
  (pss_one (ps_if (PW.pt (pw_and (pt_cmp (pc_dnotin hu (pv 6) (pv 3))) (pw_and1 (pt_cmpR (kNe K rfl hr.u64) (pv 7) (pe_lst pa_nil) (nomark _))))) (pss_cons (ps_set (i := 9) nd rfl (by first | exact Or.inl rfl | exact Or.inr rfl) (pe_lst pa_nil))
  (pss_cons (ps_for PassesOwn.never rfl (ki_list K rfl (pv 7)) (pg_name (i := 8) nd rfl (by first | exact Or.inl rfl | exact Or.inr rfl)) (pss_cons (ps_set (i := 10) nd rfl (by first | exact Or.inl rfl | exact Or.inr rfl) (pe_op uSub (pe_dget hu (pv 3) (pv 8) (fun _ _ => rfl)) (pe_callTy cInt (by rfl) B.int bb_int (pa_cons (pe_cmpR (kEq K rfl hr.u64) (pe_c C._law_slope_of hr (by decide) rfl (pa_cons (pv 2) (pa_cons (pv 8) (pa_cons (pv 6) pa_nil)))) pe_int (nomark _)) pa_nil))))
  (pss_one (ps_expr (pe_bm PySem.F.plainAttrs_list PySem.F.slot_list_append PySem.F.type_list_append mt_append (pv 9) (pa_cons (pe_tup (pa_cons (pv 10) (pa_cons (pe_op (kAdd K rfl) (pv 10) pe_int) pa_nil))) pa_nil))))))
  (pss_cons (ps_set (i := 11) nd rfl (by first | exact Or.inl rfl | exact Or.inr rfl) (pe_callB (cr_max rfl) (by rfl) B.max bb_max (pa_cons (pe_lc (own := [("_law_span", 12)]) rfl nd (ki_list K rfl (pv 9)) (blkOk_by (own := [("_law_span", 12)]) (N := nN__law_draw_lift) (sc := defScope s__law_draw_lift) (by decide +kernel)) (fun _ _ _ _ _ => (pg_name (i := 12) nd rfl (by first | exact Or.inl rfl | exact Or.inr rfl))) (fun _ _ _ _ _ => pts_nil) (fun _ _ _ _ _ => (pe_ix (kIx K rfl) (pv 12) pe_int (fun _ _ => rfl)))) pa_nil)))
  (pss_cons (ps_set (i := 13) nd rfl (by first | exact Or.inl rfl | exact Or.inr rfl) (pe_callB (cr_min rfl) (by rfl) B.min bb_min (pa_cons (pe_lc (own := [("_law_span", 12)]) rfl nd (ki_list K rfl (pv 9)) (blkOk_by (own := [("_law_span", 12)]) (N := nN__law_draw_lift) (sc := defScope s__law_draw_lift) (by decide +kernel)) (fun _ _ _ _ _ => (pg_name (i := 12) nd rfl (by first | exact Or.inl rfl | exact Or.inr rfl))) (fun _ _ _ _ _ => pts_nil) (fun _ _ _ _ _ => (pe_ix (kIx K rfl) (pv 12) pe_int (fun _ _ => rfl)))) pa_nil)))
  (pss_one (ps_dput hu (pv 3) (pv 6) (pe_ix (kIx K rfl) (pe_lst (pa_cons (pv 11) (pa_cons (pv 13) pa_nil))) (pe_c C._law_draw hr (by decide) rfl (pa_cons (pv 0) (pa_cons pe_int pa_nil))) (fun _ _ => rfl)) rfl)))))) pss_nil)))))))))
  (pss_cons (ps_set (i := 14) nd rfl (by first | exact Or.inl rfl | exact Or.inr rfl) (pe_op uSub (pe_dget hu (pv 3) (pe_ix (kIx K rfl) (pe_ix (kIx K rfl) (pv 1) pe_int (fun _ _ => rfl)) (pe_c C._law_draw hr (by decide) rfl (pa_cons (pv 0) (pa_cons (pe_callB (kLen K rfl) (by rfl) B.len bb_len (pa_cons (pe_ix (kIx K rfl) (pv 1) pe_int (fun _ _ => rfl)) pa_nil)) pa_nil))) (fun _ _ => rfl)) (fun _ _ => rfl)) (pe_op uMul (pe_op uMul pe_int (pe_op uSub (pe_c C._law_draw hr (by decide) rfl (pa_cons (pv 0) (pa_cons pe_int pa_nil))) pe_int)) (pe_callTy cInt (by rfl) B.int bb_int (pa_cons (pe_cmpR (kEq K rfl hr.u64) (pe_c C._law_draw hr (by decide) rfl (pa_cons (pv 0) (pa_cons pe_int pa_nil))) pe_int (nomark _)) pa_nil)))))
  (pss_one (ps_ret (pe_callTy (kDictP K rfl rfl) (by rfl) B.dict bb_dict (pa_cons (pe_lock (pe_lc (own := [("_law_node", 6)]) rfl nd (pi_keys (pv 3)) (blkOk_by (own := [("_law_node", 6)]) (N := nN__law_draw_lift) (sc := defScope s__law_draw_lift) (by decide +kernel)) (fun _ _ _ _ _ => (pg_name (i := 6) nd rfl (by first | exact Or.inl rfl | exact Or.inr rfl))) (fun _ _ _ _ _ => pts_nil) (fun _ _ _ _ _ => (pe_tup (pa_cons (pv 6) (pa_cons (pe_op uSub (pe_dget hu (pv 3) (pv 6) (fun _ _ => rfl)) (pv 14)) pa_nil)))))) pa_nil))))))), ?_⟩
    have sok : ∀ x ∈ ns, PyData.strOk x = true := fun x hx => (gs.ok.names.ok x hx).sok
    have l1 : ns.length ≤ 1000 := by omega
    have cm := compsF_ok gs.ok l1
    wtm_at "rd"
    intro D fD
    have g1 := (Go.refl hp).new (o := .dK []) fD
    have hD1 := @upd_same H D (.dK [])
    generalize upd H D (.dK []) = H1 at g1 hD1
    wtm_at "rd"
    refine ⟨g, n, e, ns, es, rfl, (gs.go hp g1).grs, l60, fun l cs H2 s2 fl fcs la ec => ?_⟩
    have k : LDk p D l cs H := ⟨fD, hp.ne fD, Ne.symm (g1.pool.ne fl), fun c hc => Ne.symm (g1.pool.ne (fcs c hc)), Ne.symm (ne_of_none hD1 fl), fun c hc => Ne.symm (ne_of_none hD1 (fcs c hc))⟩
    have st2 : LDs p D l cs ns H H2 [] (fun _ => 0) := ⟨g1.trans (Go.of_same g1.pool s2), s2 _ _ hD1, .nil, la⟩
    clear fcs fl s2 hD1 g1 fD
    refine rd_forL (SqL.of la.li) ?_
    clear la
    refine turnsL (K := K) (xs := cs.map fun c => V.ref c.1) (fun j σ H' => ∃ (lo : List Str) (m : Str → Int) (us : List (Option V)), us.length = 11 ∧ σ = some (.ref p) :: some (.ref g) :: some (.ref st) :: some (.ref D) :: us ∧ LDs p D l cs ns H H' lo m ∧ ∀ c ∈ cs.take j, ∀ x ∈ c.2, x ∈ lo) ⟨[], _, _, rfl, rfl, st2, fun c hc => by rw [List.take_zero] at hc; cases hc⟩ ?_ ?_ ?_
    · rintro j σ H' hj ⟨lo, m, us, lu, rfl, sx, _⟩
      exact SqL.of sx.la.li
    · rintro j y σ H3 hy ⟨lo, m, us, lu, rfl, s3, all⟩
      obtain ⟨hj, rfl⟩ := map_at hy
      obtain ⟨u4, u5, u6, u7, u8, u9, u10, u11, u12, u13, u14, rfl⟩ : ∃ u4 u5 u6 u7 u8 u9 u10 u11 u12 u13 u14, us = [u4, u5, u6, u7, u8, u9, u10, u11, u12, u13, u14] := by
        match us, lu with
        | [u4, u5, u6, u7, u8, u9, u10, u11, u12, u13, u14], _ => exact ⟨_, _, _, _, _, _, _, _, _, _, _, rfl⟩
      have tk := take_snoc hj
      have hc := List.getElem_mem hj
      obtain ⟨r, hr_, er⟩ : ∃ r ∈ ns, cs[j].2 = comp (es.map (·.2)) r := cm.of _ (by rw [← ec]; exact List.mem_map_of_mem hc)
      rw [tk]
      generalize cs[j] = c at *
      have cin : ∀ x ∈ c.2, x ∈ ns := fun x hx => by
        rw [er] at hx
        exact pt_in gs.ok hr_ ((sortS_perm _).mem_iff.mp hx)
      have cl : c.2.length ≤ 60 := by
        rw [er]
        exact Nat.le_trans (comp_len gs.ok hr_) l60
      obtain ⟨c0, cr, ecr⟩ : ∃ c0 cr, c.2 = c0 :: cr := by
        cases h : c.2 with
        | nil =>
          have := comp_pos (es := es.map (·.2)) (x := r)
          rw [← er, h] at this
          cases this
        | cons a b => exact ⟨a, b, rfl⟩
      have c0m : c0 ∈ c.2 := by rw [ecr]; exact List.mem_cons_self
      wtm_at "rd"
      refine rd_ixL (SqL.of (s3.la.at_ c hc)) (v := .str c0) (by rw [ecr]; exact atI_nat (j := 0) rfl) ?_
      have ll := s3.fd.len
      refine rd_dset s3.di (k := .inr c0) rfl (by rw [List.length_map]; omega) ?_
      rw [kvF_add]
      have s4 := s3.put k (cin _ c0m) (v := 0) (Nat.zero_le _)
      have all4 : ∀ c ∈ cs.take j, ∀ x ∈ c.2, x ∈ addN lo c0 := fun c hc x hx => addN_sub (all c hc x hx)
      have m4 : c0 ∈ addN lo c0 := addN_mem
      generalize addN lo c0 = lo4 at *
      generalize updf m c0 0 = mm4 at *
      generalize upd H3 D (.dK (kvF lo4 mm4)) = H4 at s4
      clear s3 all ll
      wtm_at "rd"
      refine rd_lenL (SqL.of (s4.la.at_ c hc)) ?_
      rw [List.length_map]
      wtm_at "rd"
      refine turnsR (fun i σ H' => ∃ (lo : List Str) (m : Str → Int) (us : List (Option V)), us.length = 10 ∧ σ = some (.ref p) :: some (.ref g) :: some (.ref st) :: some (.ref D) :: some (.ref c.1) :: us ∧ LDs p D l cs ns H H' lo m ∧ (∀ x ∈ lo4, x ∈ lo) ∧ mis lo c.2 ≤ c.2.length - i) ⟨lo4, mm4, _, rfl, rfl, s4, fun _ h => h, mis_le⟩ ?_ ?_
      · rintro i σ H5 hi ⟨lo5, m5, us, lu, rfl, s5, sub5, ms5⟩
        obtain ⟨u5, u6, u7, u8, u9, u10, u11, u12, u13, u14, rfl⟩ : ∃ u5 u6 u7 u8 u9 u10 u11 u12 u13 u14, us = [u5, u6, u7, u8, u9, u10, u11, u12, u13, u14] := by
          match us, lu with
          | [u5, u6, u7, u8, u9, u10, u11, u12, u13, u14], _ => exact ⟨_, _, _, _, _, _, _, _, _, _, rfl⟩
        wtm_at "rd"
        refine rd_forL (SqL.of (s5.la.at_ c hc)) ?_
        refine turnsL (K := K) (xs := c.2.map V.str) (fun x σ H' => ∃ (lo : List Str) (m : Str → Int) (us : List (Option V)), us.length = 9 ∧ σ = some (.ref p) :: some (.ref g) :: some (.ref st) :: some (.ref D) :: some (.ref c.1) :: some (.int (0 + (i : Int))) :: us ∧ LDs p D l cs ns H H' lo m ∧ (∀ x ∈ lo5, x ∈ lo) ∧ ∀ z ∈ c.2.take x, (∃ y ∈ lo5, Adj (es.map (·.2)) y z) → z ∈ lo) ⟨lo5, m5, _, rfl, rfl, s5, fun _ h => h, fun z hz => by rw [List.take_zero] at hz; cases hz⟩ ?_ ?_ ?_
        · rintro x σ H' hx ⟨lo6, m6, us, lu, rfl, s6, _⟩
          exact SqL.of (s6.la.at_ c hc)
        · rintro xi y σ H6 hy ⟨lo6, m6, us, lu, rfl, s6, sub6, ps6⟩
          obtain ⟨hxi, rfl⟩ := map_at hy
          obtain ⟨u6, u7, u8, u9, u10, u11, u12, u13, u14, rfl⟩ : ∃ u6 u7 u8 u9 u10 u11 u12 u13 u14, us = [u6, u7, u8, u9, u10, u11, u12, u13, u14] := by
            match us, lu with
            | [u6, u7, u8, u9, u10, u11, u12, u13, u14], _ => exact ⟨_, _, _, _, _, _, _, _, _, rfl⟩
          have tkx := take_snoc hxi
          have hxn := cin _ (List.getElem_mem hxi)
          rw [tkx]
          generalize c.2[xi] = x at *
          have gs6 := gs.go hp s6.go
          have l6 := s6.fd.len
          wtm_at "rd"
          refine ⟨g, n, e, x, ns, es, rfl, gs6.gr, by have := gs.l3; omega, fun yl ys H7 s7 fyl hyl py sy => ?_⟩
          have yl2 : ys.length ≤ 2000 := by
            rw [py.length_eq]
            have := nbrF_len (x := x) (es := es.map (·.2))
            rw [List.length_map] at this
            have := gs.l3
            omega
          have ym : ∀ z, z ∈ ys ↔ Adj (es.map (·.2)) x z := fun z => py.mem_iff.trans mem_nbrF
          have st7 := s6.same s7
          refine rd_forL (SqL.of hyl) ?_
          intro Kd fK
          refine lcL (K := K) (xs := ys.map V.str) (fun q H' => Same H7 H' ∧ H' Kd = some (.lst (((ys.take q).filter fun o => decide (o ∈ lo6)).map V.str))) ⟨Same.new fK, upd_same⟩ ?_ ?_ ?_
          · rintro q H' hq ⟨sb, _⟩
            exact SqL.of (sb _ _ hyl)
          · rintro q y H' hy ⟨sb, hK⟩
            obtain ⟨hq, rfl⟩ := map_at hy
            have tkq := take_snoc hq
            have lt : ((ys.take q).filter fun o => decide (o ∈ lo6)).length ≤ 2000 := Nat.le_trans (List.length_filter_le _ _) (by rw [List.length_take]; omega)
            rw [tkq, List.filter_append, List.map_append]
            generalize ys[q] = o at *
            wtm_at "rd"
            refine rd_din1 (.inl (sb _ _ st7.di)) (k := .inr o) rfl ?_
            by_cases mo : o ∈ lo6
            · rw [kvF_val mo]
              wtm_at "rd"
              try refine rd_bl ?_
              try refine rd_T ?_
              wtm_at "rd"
              refine rd_acc hK (by rw [List.length_map]; omega) ?_
              refine ⟨same_put sb fK, ?_⟩
              rw [upd_same, List.filter_cons, if_pos (decide_eq_true mo)]
              rfl
            · rw [kvF_none mo]
              wtm_at "rd"
              try refine rd_bl ?_
              try refine rd_F ?_
              refine ⟨sb, ?_⟩
              rw [List.filter_cons, if_neg (by rw [decide_eq_false mo]; exact Bool.false_ne_true)]
              exact hK.trans (by rw [List.filter_nil, List.map_nil, List.append_nil])
          · rintro H8 ⟨sb, hK⟩
            rw [List.length_map, List.take_length] at hK
            have km : ∀ z, z ∈ (ys.filter fun o => decide (o ∈ lo6)) ↔ Adj (es.map (·.2)) x z ∧ z ∈ lo6 := fun z => by rw [List.mem_filter, decide_eq_true_iff, ym]
            have kl : (ys.filter fun o => decide (o ∈ lo6)).length ≤ 2000 := Nat.le_trans (List.length_filter_le _ _) yl2
            generalize (ys.filter fun o => decide (o ∈ lo6)) = ks at *
            have s8 := st7.same sb
            clear st7 sb fK hyl s7 fyl py sy ym
            wtm_at "rd"
            refine rd_din1 (.inl s8.di) (k := .inr x) rfl ?_
            by_cases mx : x ∈ lo6
            · rw [kvF_val mx]
              wtm_at "rd"
              try refine rd_bl ?_
              try refine rd_F ?_
              wtm_at "rd"
              refine ⟨lo6, m6, _, rfl, rfl, s8, sub6, fun z hz hy => ?_⟩
              rcases List.mem_append.mp hz with hz | hz
              · exact ps6 z hz hy
              · rw [List.mem_singleton.mp hz]
                exact mx
            · rw [kvF_none mx]
              wtm_at "rd"
              try refine rd_bl ?_
              try refine rd_T ?_
              wtm_at "rd"
              intro t ft
              have k9 := Same.new (o := .lst []) ft
              refine rd_neSL (ys := []) (SqL.of (k9 _ _ hK)) (SqL.of upd_same) (fun z hz => sok _ (s6.fd.in_ _ ((km z).mp hz).2)) (fun x hx => nomatch hx) ?_
              have s9 := s8.same k9
              have hK9 := k9 _ _ hK
              generalize upd H8 t (.lst []) = H9 at s9 hK9
              clear k9 hK s8 ft
              wtm_at "rd"
              refine rd_nsplit (fun c1 => ?_) (fun c1 => ?_)
              · have kpos : 0 < ks.length := by
                  cases ks with
                  | nil => exact absurd rfl c1
                  | cons _ _ => exact Nat.succ_pos _
                have ks6 : ∀ z ∈ ks, z ∈ lo6 := fun z hz => ((km z).mp hz).2
                have bd6 := s6.fd.bd
                wtm_at "rd"
                intro S fS
                have kS := Same.new (o := .lst []) fS
                have sA := s9.same kS
                have hKA := kS _ _ hK9
                have hSA := @upd_same H9 S (.lst [])
                generalize upd H9 S (.lst []) = HA at sA hKA hSA kS
                wtm_at "rd"
                refine rd_forL (SqL.of hKA) ?_
                refine turnsL (K := K) (xs := ks.map V.str) (fun q σ H' => ∃ (ss : List (Addr × Int)) (u7 u10 : Option V), σ = [some (.ref p), some (.ref g), some (.ref st), some (.ref D), some (.ref c.1), some (.int (0 + (i : Int))), some (.str x), some (.ref Kd), u7, some (.ref S), u10, u11, u12, u13, u14] ∧ Same H9 H' ∧ H' S = some (.lst (ss.map fun z => V.ref z.1)) ∧ (∀ z ∈ ss, H' z.1 = some (.tup [.int z.2, .int (z.2 + 1)])) ∧ ss.length = q ∧ ∀ z ∈ ss, -(lo6.length : Int) - 1 ≤ z.2 ∧ z.2 ≤ lo6.length) ⟨[], _, _, rfl, kS, hSA, (fun z hz => nomatch hz), rfl, fun z hz => nomatch hz⟩ ?_ ?_ ?_
                · rintro q σ H' hq ⟨ss, u7, u10, rfl, sb, _⟩
                  exact SqL.of (sb _ _ hK9)
                · rintro q y σ HB hy ⟨ss, u7, u10, rfl, sb, hS, hss, sl, sbd⟩
                  obtain ⟨hq, rfl⟩ := map_at hy
                  have o6 := ks6 _ (List.getElem_mem hq)
                  generalize ks[q] = o at *
                  have on := s6.fd.in_ o o6
                  have sB := s9.same sb
                  wtm_at "rd"
                  refine rd_dat (.inl sB.di) (kvF_val o6) rfl ?_
                  wtm_at "rd"
                  refine ⟨st, o, x, ord, f, rfl, (gs.go hp sB.go).st, gs.inO _ on, gs.inO _ hxn, fun HC sC => ?_⟩
                  wtm_at "rd"
                  have bo := bd6 o o6
                  obtain ⟨low, elow, lw1, lw2⟩ : ∃ low : Int, m6 o - bToI (decide (dlt (f x - f o) = 1)) = low ∧ -(lo6.length : Int) - 1 ≤ low ∧ low ≤ lo6.length := by
                    refine ⟨_, rfl, ?_⟩
                    by_cases z : dlt (f x - f o) = 1
                    · rw [decide_eq_true z]
                      show -(lo6.length : Int) - 1 ≤ m6 o - 1 ∧ m6 o - 1 ≤ lo6.length
                      omega
                    · rw [decide_eq_false z]
                      show -(lo6.length : Int) - 1 ≤ m6 o - 0 ∧ m6 o - 0 ≤ lo6.length
                      omega
                  rw [elow]
                  wtm_at "rd"
                  have hSC := sC _ _ hS
                  refine rd_tyL hSC ?_
                  wtm_at "rd"
                  intro t2 ft2
                  have k2 := Same.new (o := .tup [.int low, .int (low + 1)]) ft2
                  have ht2 := @upd_same HC t2 (.tup [.int low, .int (low + 1)])
                  have sD := sb.trans (sC.trans k2)
                  have hSD := k2 _ _ hSC
                  have hssD : ∀ z ∈ ss, upd HC t2 (.tup [.int low, .int (low + 1)]) z.1 = some (.tup [.int z.2, .int (z.2 + 1)]) := fun z hz => k2 _ _ (sC _ _ (hss z hz))
                  generalize upd HC t2 (.tup [.int low, .int (low + 1)]) = HD at ht2 sD hSD hssD
                  wtm_at "rd"
                  refine rd_append hSD (by rw [List.length_map, sl]; omega) ?_
                  refine ⟨ss ++ [(t2, low)], _, _, rfl, same_put sD fS, by rw [upd_same, List.map_append]; rfl, fun z hz => ?_, by rw [List.length_append, sl]; rfl, fun z hz => ?_⟩
                  · rcases List.mem_append.mp hz with hz | hz
                    · have h1 := hssD z hz
                      exact at_upd (fun e => by rw [e, hSD] at h1; cases h1) h1
                    · rw [List.mem_singleton.mp hz]
                      have nS : t2 ≠ S := fun e => by rw [e, hSD] at ht2; cases ht2
                      exact at_upd nS ht2
                  · rcases List.mem_append.mp hz with hz | hz
                    · exact sbd z hz
                    · rw [List.mem_singleton.mp hz]
                      exact ⟨lw1, lw2⟩
                · rintro σ HB ⟨ss, u7, u10, rfl, sb, hS, hss, sl, sbd⟩
                  rw [List.length_map] at sl
                  have spos : 0 < (ss.map (·.2)).length := by rw [List.length_map]; omega
                  have spos' : 0 < (ss.map fun z => z.2 + 1).length := by rw [List.length_map]; omega
                  have sB := s9.same sb
                  wtm_at "rd"
                  refine rd_forL (SqL.of hS) ?_
                  intro E1 fE1
                  refine lcL (K := K) (xs := ss.map fun z => V.ref z.1) (fun q H' => Same HB H' ∧ H' E1 = some (.lst (((ss.take q).map (·.2)).map V.int))) ⟨Same.new fE1, upd_same⟩ ?_ ?_ ?_
                  · rintro q H' hq ⟨sb, _⟩
                    exact SqL.of (sb _ _ hS)
                  · rintro q y H' hy ⟨sb, hE⟩
                    obtain ⟨hq, rfl⟩ := map_at hy
                    have hz := hss _ (List.getElem_mem hq)
                    rw [take_snoc hq, List.map_append, List.map_append]
                    generalize ss[q] = z at *
                    wtm_at "rd"
                    refine rd_ixT (SqT.of (sb _ _ hz)) (v := .int z.2) rfl ?_
                    refine rd_acc hE (by rw [List.length_map, List.length_map, List.length_take]; omega) ?_
                    refine ⟨same_put sb fE1, ?_⟩
                    rw [upd_same]
                    rfl
                  · rintro HC ⟨sC, hE⟩
                    rw [List.length_map, List.take_length] at hE
                    wtm_at "rd"
                    refine ⟨E1, ss.map (·.2), rfl, SqL.of hE, spos, fun mx hmx _ => ?_⟩
                    obtain ⟨z1, hz1, rfl⟩ := List.mem_map.mp hmx
                    have b1 := sbd z1 hz1
                    have hSC := sC _ _ hS
                    wtm_at "rd"
                    refine rd_forL (SqL.of hSC) ?_
                    intro E2 fE2
                    refine lcL (K := K) (xs := ss.map fun z => V.ref z.1) (fun q H' => Same HC H' ∧ H' E2 = some (.lst (((ss.take q).map fun z => z.2 + 1).map V.int))) ⟨Same.new fE2, upd_same⟩ ?_ ?_ ?_
                    · rintro q H' hq ⟨sb, _⟩
                      exact SqL.of (sb _ _ hSC)
                    · rintro q y H' hy ⟨sb, hE⟩
                      obtain ⟨hq, rfl⟩ := map_at hy
                      have hz := sC _ _ (hss _ (List.getElem_mem hq))
                      rw [take_snoc hq, List.map_append, List.map_append]
                      generalize ss[q] = z at *
                      wtm_at "rd"
                      refine rd_ixT (SqT.of (sb _ _ hz)) (v := .int (z.2 + 1)) rfl ?_
                      refine rd_acc hE (by rw [List.length_map, List.length_map, List.length_take]; omega) ?_
                      refine ⟨same_put sb fE2, ?_⟩
                      rw [upd_same]
                      rfl
                    · rintro HD ⟨sD, hE⟩
                      rw [List.length_map, List.take_length] at hE
                      wtm_at "rd"
                      refine ⟨E2, ss.map fun z => z.2 + 1, rfl, SqL.of hE, spos', fun mn hmn _ => ?_⟩
                      obtain ⟨z2, hz2, rfl⟩ := List.mem_map.mp hmn
                      have b2 := sbd z2 hz2
                      wtm_at "rd"
                      intro t3 ft3
                      have k3 := Same.new (o := .lst [.int z1.2, .int (z2.2 + 1)]) ft3
                      have ht3 := @upd_same HD t3 (.lst [.int z1.2, .int (z2.2 + 1)])
                      have sE := sB.same (sC.trans (sD.trans k3))
                      generalize upd HD t3 (.lst [.int z1.2, .int (z2.2 + 1)]) = HE at ht3 sE
                      have n3 : t3 ≠ p := Ne.symm ((sB.same (sC.trans sD)).go.pool.ne ft3)
                      wtm_at "rd"
                      refine use_draw sE.go.pool (by decide) (by decide) fun r0 HF r1 r2 gF => ?_
                      have sF := sE.goo k gF
                      have ht3F := gF.at ht3 n3
                      have aL := (addN_len (lo := lo6) (n := x)).2 mx
                      obtain ⟨v, hv, vb⟩ : ∃ v : Int, atI [V.int z1.2, .int (z2.2 + 1)] r0 = some (.int v) ∧ v.natAbs ≤ (addN lo6 x).length := by
                        have : r0 = 0 ∨ r0 = 1 := by omega
                        rcases this with rfl | rfl
                        · exact ⟨_, rfl, by omega⟩
                        · exact ⟨_, rfl, by omega⟩
                      refine rd_ixL (SqL.of ht3F) hv ?_
                      wtm_at "rd"
                      refine rd_dset sF.di (k := .inr x) rfl (by rw [List.length_map]; omega) ?_
                      rw [kvF_add]
                      refine ⟨addN lo6 x, _, _, rfl, rfl, sF.put k hxn vb, fun z hz => addN_sub (sub6 z hz), fun z hz hy => ?_⟩
                      rcases List.mem_append.mp hz with hz | hz
                      · exact addN_sub (ps6 z hz hy)
                      · rw [List.mem_singleton.mp hz]
                        exact addN_mem
              · try refine rd_F ?_
                wtm_at "rd"
                refine ⟨lo6, m6, _, rfl, rfl, s9, sub6, fun z hz hw => ?_⟩
                rcases List.mem_append.mp hz with hz | hz
                · exact ps6 z hz hw
                · rw [List.mem_singleton.mp hz] at hw
                  obtain ⟨y, hy1, hy2⟩ := hw
                  have : y ∈ ks := (km y).mpr ⟨hy2.symm, sub6 y hy1⟩
                  rw [c1] at this
                  cases this
        · rintro σ H6 ⟨lo6, m6, us, lu, rfl, s6, sub6, ps6⟩
          rw [List.length_map, List.take_length] at ps6
          wtm_at "rd"
          refine ⟨lo6, m6, _, by rw [List.length_cons, lu], rfl, s6, fun z hz => sub6 z (sub5 z hz), ?_⟩
          have t := mis_turn gs.ok l1 hr_ (a := c0) (by rw [← er]; exact c0m) (sub5 _ m4) sub6 (by rw [← er]; exact ps6)
          rw [← er] at t
          omega
      · rintro σ H5 ⟨lo5, m5, us, lu, rfl, s5, sub5, ms5⟩
        wtm_at "rd"
        refine ⟨lo5, m5, _, by rw [List.length_cons, lu], rfl, s5, fun c' hc' x hx => ?_⟩
        rcases List.mem_append.mp hc' with h | h
        · exact sub5 _ (all4 c' h x hx)
        · rw [List.mem_singleton.mp h] at hx
          exact mis_zero (by omega) x hx
    · rintro σ H3 ⟨lo, m, us, lu, rfl, s3, all⟩
      rw [List.length_map, List.take_length] at all
      obtain ⟨u4, u5, u6, u7, u8, u9, u10, u11, u12, u13, u14, rfl⟩ : ∃ u4 u5 u6 u7 u8 u9 u10 u11 u12 u13 u14, us = [u4, u5, u6, u7, u8, u9, u10, u11, u12, u13, u14] := by
        match us, lu with
        | [u4, u5, u6, u7, u8, u9, u10, u11, u12, u13, u14], _ => exact ⟨_, _, _, _, _, _, _, _, _, _, _, rfl⟩
      have pm : lo.Perm ns := (List.perm_ext_iff_of_nodup s3.fd.nd gs.nd).mpr fun x => ⟨s3.fd.in_ x, fun hx => by
        have := cm.all x hx
        rw [← ec] at this
        obtain ⟨c, hc, hx⟩ := List.mem_flatten.mp this
        obtain ⟨c', hc', rfl⟩ := List.mem_map.mp hc
        exact all c' hc' x hx⟩
      have ll := pm.length_eq
      have gs3 := gs.go hp s3.go
      have bd := s3.fd.bd
      wtm_at "rd"
      refine rd_ixT (SqT.of gs3.gr.top) (v := .ref n) rfl ?_
      wtm_at "rd"
      refine rd_ixT (SqT.of gs3.gr.top) (v := .ref n) rfl ?_
      wtm_at "rd"
      refine rd_lenT (SqT.of gs3.gr.nodes) ?_
      rw [List.length_map]
      wtm_at "rd"
      refine use_draw s3.go.pool (by omega) (by omega) fun r0 H4 r1 r2 g4 => ?_
      have s4 := s3.goo k g4
      have gs4 := gs.go hp s4.go
      obtain ⟨rn, rfl⟩ : ∃ k : Nat, r0 = (k : Int) := ⟨r0.toNat, by omega⟩
      have hrn : rn < ns.length := by omega
      refine rd_ixT (SqT.of gs4.gr.nodes) (v := .str ns[rn]) (atI_nat (by rw [List.getElem?_map, List.getElem?_eq_getElem hrn]; rfl)) ?_
      have zlo := pm.mem_iff.mpr (List.getElem_mem hrn)
      generalize ns[rn] = z0 at *
      have bz := bd z0 zlo
      wtm_at "rd"
      refine rd_dat (.inl s4.di) (kvF_val zlo) rfl ?_
      wtm_at "rd"
      refine use_draw s4.go.pool (by decide) (by decide) fun ra H5 ra1 ra2 g5 => ?_
      have s5 := s4.goo k g5
      wtm_at "rd"
      refine use_draw s5.go.pool (by decide) (by decide) fun rb H6 rb1 rb2 g6 => ?_
      have s6 := s5.goo k g6
      wtm_at "rd"
      obtain ⟨by_, eby, b1, b2⟩ : ∃ by_ : Int, m z0 - 3 * (ra - 1) * bToI (decide (rb = 0)) = by_ ∧ -(ns.length : Int) - 3 ≤ by_ ∧ by_ ≤ ns.length + 3 := by
        refine ⟨_, rfl, ?_⟩
        by_cases z : rb = 0
        · rw [decide_eq_true z]
          show -(ns.length : Int) - 3 ≤ m z0 - 3 * (ra - 1) * 1 ∧ m z0 - 3 * (ra - 1) * 1 ≤ ns.length + 3
          omega
        · rw [decide_eq_false z]
          show -(ns.length : Int) - 3 ≤ m z0 - 3 * (ra - 1) * 0 ∧ m z0 - 3 * (ra - 1) * 0 ≤ ns.length + 3
          omega
      rw [eby]
      clear eby
      have hd8 := s6.di
      wtm_at "rd"
      refine rd_lockE hd8 fun od => ?_
      wtm_at "rd"
      refine rd_forK upd_same ?_
      intro E fE
      have nDd := new_ne fE
      have fD0 := new_old fE
      refine lcW walk_keys (fun i H' => ∃ ts : List Addr, But D H6 H' ∧ H' D = some (.frz od (.dK (kvF lo m))) ∧ H' E = some (.lst (ts.map V.ref)) ∧ ts.length = i ∧ Paired (fun p kv => SqT K (upd H' D (.dK (kvF lo m))) p [kV kv.1, kv.2]) ts (kvF (lo.take i) fun x => m x - by_))
        ⟨[], But.upd.trans (But.new fE), at_upd (Ne.symm nDd) upd_same, upd_same, rfl, .nil⟩ ?_ ?_ ?_
      · rintro j H' hj ⟨ts, _, hf, _⟩
        exact hf
      · rintro j x H' H9 hj ⟨ts, but, hf, hD, tl, pr⟩ ⟨rfl, k1, v1, e1, rfl⟩
        have hin : j < lo.length := by rw [List.length_map] at hj; exact hj
        obtain ⟨rfl, rfl⟩ := key_at hin e1
        have hx := List.getElem_mem hin
        have tk := take_snoc hin
        generalize lo[j] = x at *
        wtm_at "rd"
        refine rd_dat (.inr ⟨od, hf⟩) (kvF_val hx) rfl ?_
        wtm_at "rd"
        intro t9 ft9
        refine rd_acc (at_upd (ne_of_none hD ft9) hD) (by rw [List.length_map, tl]; omega) ?_
        refine ⟨ts ++ [t9], fun b' o' nb hb' => at_upd (ne_of_none hb' fD0) ((but.trans (But.new ft9)) b' o' nb hb'), at_upd (Ne.symm nDd) (at_upd (ne_of_none hf ft9) hf), ?_, by rw [List.length_append, tl]; rfl, ?_⟩
        · rw [upd_same, List.map_append]
          rfl
        · rw [tk, kvF_app]
          refine Paired.snoc (paired_mono (fun a b z => But.seqT (but_lk ft9) ⟨_, at_upd nDd hD⟩ z) pr) ?_
          exact SqT.of (at_upd (Ne.symm (ne_of_none hf ft9)) (at_upd (Ne.symm (ne_of_none hD ft9)) upd_same))
      · rintro H' ⟨ts, but, hf, hD, tl, pr⟩
        rw [List.length_map, List.take_length] at pr
        refine ⟨hf, ?_⟩
        wtm_at "rd"
        have s9 := lk_same hd8 but
        refine rd_dictP (SqL.of (at_upd nDd hD)) pr fun pf fpf => ?_
        have mk2 : mergeK [] (kvF lo fun x => m x - by_) = kvF lo fun x => m x - by_ := by
          have mk := merge_kvF (a := []) (b := lo) (h := fun x => m x - by_) (by rw [List.nil_append]; exact s3.fd.nd)
          rw [List.nil_append] at mk
          exact mk
        rw [mk2]
        have sA := same_add (o := .dK (kvF lo fun x => m x - by_)) s9 fpf
        have fpf8 := new_of_same s9 fpf
        refine q pf lo (fun x => m x - by_) _ (s6.go.trans (Go.of_same s6.go.pool sA)) (s6.go.free _ fpf8) upd_same pm fun x hx => ?_
        have := bd x (pm.mem_iff.mpr hx)
        show (m x - by_).natAbs ≤ _
        omega
end
end Law

namespace Law
open PySem PySem.Spec PyProof.Rows L2 U
local macro_rules | `(tactic| wtm_at "rd1") => `(tactic| first
  | with_reducible refine rd_seq ?_
  | ((with_reducible refine rd_var (v := ?vv) ?hv ?_); (case hv => exact rfl))
  | with_reducible refine rd_c ?_
  | with_reducible refine rd_cons ?_
  | with_reducible refine rd_nil ?_
  | with_reducible refine rd_op ?_
  | with_reducible refine rd_asg ?_
  | with_reducible refine rd_name ?_
  | with_reducible refine rd_c1 ?_
  | with_reducible refine rd_cb ?_
  | with_reducible refine rd_test ?_
  | with_reducible refine rd_B ?_
  | with_reducible refine rd_bl ?_
  | with_reducible refine rd_if ?_
  | with_reducible refine rd_ret ?_
  | with_reducible refine rd_drop ?_
  | with_reducible refine rd_next ?_
  | with_reducible refine rd_addI ?_
  | with_reducible refine rd_ltI ?_
  | with_reducible refine rd_eqI ?_
  | with_reducible refine rd_neI ?_
  | with_reducible refine rd_eqS ?_
  | with_reducible refine rd_neS ?_
  | with_reducible refine rd_gtI ?_
  | with_reducible refine rd_geI ?_
  | with_reducible refine rd_leI ?_
  | with_reducible refine rd_ltS ?_
  | with_reducible refine rd_subI ?_
  | ((with_reducible refine rd_modI ?hc ?_); (case hc => first | decide | omega))
  | ((with_reducible refine rd_mulI ?hc ?_); (case hc => first | exact mul_bI | exact .inl (.inr (by decide)) | exact .inl (.inl (by decide)) | exact .inl (.inr (by omega)) | exact .inl (.inl (by omega))))
  | ((with_reducible refine rd_divI ?hc ?_); (case hc => first | decide | omega))
  | ((with_reducible refine rd_powI ?hc ?_); (case hc => exact ⟨by decide, by decide, by decide⟩))
  | with_reducible refine rd_lst ?_
  | with_reducible refine rd_tup ?_
  | ((with_reducible refine rd_sz ?hv ?_); (case hv => exact rfl))
  | with_reducible refine rd_and ?_
  | with_reducible refine rd_or ?_
  | with_reducible refine rd_not ?_
  | with_reducible refine rd_andV ?_
  | with_reducible refine rd_orV ?_
  | with_reducible refine rd_notV ?_
  | with_reducible refine rd_ifE ?_
  | with_reducible refine rd_T ?_
  | with_reducible refine rd_F ?_
  | with_reducible refine rd_chain ?_
  | with_reducible refine rd_is ?_
  | with_reducible refine rd_isNot ?_
  | with_reducible refine rd_absI ?_
  | with_reducible refine rd_maxI ?_
  | with_reducible refine rd_minI ?_
  | with_reducible refine rd_intI ?_
  | with_reducible refine rd_intB ?_
  | with_reducible refine rd_sub ?_
  | with_reducible refine rd_sl ?_
  | with_reducible refine rd_noPart ?_
  | with_reducible refine rd_part ?_
  | with_reducible refine rd_exI ?_
  | with_reducible refine rd_bm ?_
  | with_reducible refine rd_bm0 ?_
  | with_reducible refine rd_un ?_
  | with_reducible refine rd_neg ?_
  | with_reducible refine rd_c2 ?_
  | with_reducible refine rd_retN ?_
  | with_reducible refine rd_break ?_
  | with_reducible refine rd_cont ?_
  | with_reducible refine rd_for ?_
  | with_reducible refine rd_rng1 ?_
  | with_reducible refine rd_rng2 ?_
  | with_reducible refine rd_iList ?_
  | with_reducible refine rd_iTup ?_
  | with_reducible refine rd_iEnum ?_
  | ((with_reducible refine rd_forR ?h0 ?h1 ?_); (case h0 => omega); (case h1 => omega))
  | with_reducible refine rd_lc ?_
  | with_reducible refine rd_gcons ?_
  | with_reducible refine rd_gnil ?_
  | with_reducible refine rd_dget ?_
  | with_reducible refine rd_dput ?_
  | with_reducible refine rd_dnew ?_
  | with_reducible refine rd_dc ?_
  | with_reducible refine rd_iItems ?_
  | with_reducible refine rd_iKeys ?_
  | with_reducible refine rd_din ?_
  | with_reducible refine rd_par ?_
  | with_reducible refine rd_two ?_
  | with_reducible refine rd_reprB ?_
  | with_reducible refine rd_ck ?_
  | ((with_reducible refine rd_len ?hl ?_); (case hl => exact rfl))
  | with_reducible refine rd_nT ?_
  | with_reducible refine rd_nF ?_
  | with_reducible refine rd_dnin ?_
  | with_reducible refine rd_isB ?_
  | with_reducible refine rd_isNotB ?_
  | with_reducible refine rd_daug ?_
  | with_reducible refine rd_yesT ?_
  | ((with_reducible refine rd_wp ?hw ?_); (case hw => exact rfl)))
local macro_rules | `(tactic| wtm_at "rd") => `(tactic| repeat wtm_at "rd1")

def spDist : Sp := fun vs H Q _ => ∃ (a b : Addr) (ns : List Str) (h k : Str → Int), vs = [.ref a, .ref b] ∧ H a = some (.dK (kvF ns h)) ∧ H b = some (.dK (kvF ns k)) ∧ ns.length ≤ 100 ∧ ∀ H' : Hp, Same H H' → Q (.int (dist ns h k)) H'
def spTwo (m : Int → Int → Int) : Sp := fun vs H Q _ => ∃ (a b : Addr) (ns : List Str) (h k : Str → Int), vs = [.ref a, .ref b] ∧ H a = some (.dK (kvF ns h)) ∧ H b = some (.dK (kvF ns k)) ∧ ns.length ≤ 100 ∧ ns.Nodup ∧
  ∀ (d : Addr) (H' : Hp), Same H H' → H d = none → H' d = some (.dK (kvF ns fun n => m (h n) (k n))) → Q (.ref d) H'
/-- dicts over ns stand -/
def LiftsAt (H : Hp) (ns : List Str) (as : List (Addr × (Str → Int))) : Prop := ∀ x ∈ as, H x.1 = some (.dK (kvF ns x.2))
def spMed : Sp := fun vs H Q _ => ∃ (l : Addr) (ns : List Str) (as : List (Addr × (Str → Int))), vs = [.ref l] ∧ H l = some (.lst (as.map fun x => V.ref x.1)) ∧ LiftsAt H ns as ∧ 0 < as.length ∧ as.length ≤ 1000 ∧ ns.length ≤ 100 ∧ ns.Nodup ∧
  ∀ (d : Addr) (m : Str → Int) (H' : Hp), Same H H' → H d = none → H' d = some (.dK (kvF ns m)) → (∀ n ∈ ns, IsMed (as.map fun x => x.2 n) (m n)) → Q (.ref d) H'
def spBetw : Sp := fun vs H Q _ => ∃ (c a b : Addr) (ns : List Str) (f h k : Str → Int), vs = [.ref c, .ref a, .ref b] ∧ H c = some (.dK (kvF ns f)) ∧ H a = some (.dK (kvF ns h)) ∧ H b = some (.dK (kvF ns k)) ∧ ns.length ≤ 100 ∧ ns.Nodup ∧
  ∀ H' : Hp, Same H H' → Q (.bl (betw ns f h k)) H'
theorem lk_rd {H H' : Hp} {a b : Addr} {od : Obj} {kvs kvs2 : List (Key × V)} (ha : H a = some (.dK kvs)) (hb : H b = some (.dK kvs2)) (but : But a H H') (hf : H' a = some (.frz od (.dK kvs))) : Rd H' b (.dK kvs2) := by
  by_cases e : b = a
  · subst e
    rw [ha] at hb
    have e2 : kvs = kvs2 := HO.dK.inj (Option.some.inj hb)
    subst e2
    exact .inr ⟨od, hf⟩
  · exact .inl (but b _ e hb)
theorem kvF_at {ns : List Str} {h : Str → Int} {i : Nat} {x y : V} (hx : ((kvF ns h)[i]?.map fun kv => kV kv.1) = some x) (hy : (kvF ns h)[i]?.map Prod.snd = some y) : ∃ hi : i < ns.length, x = .str ns[i] ∧ y = .int (h ns[i]) := by
  rw [kvF, List.getElem?_map] at hx hy
  by_cases hi : i < ns.length
  · rw [List.getElem?_eq_getElem hi] at hx hy
    exact ⟨hi, (Option.some.inj hx).symm, (Option.some.inj hy).symm⟩
  · rw [List.getElem?_eq_none (by omega)] at hx
    cases hx
theorem kvF_snoc {ns : List Str} {m : Str → Int} {i : Nat} (nd : ns.Nodup) (hi : i < ns.length) : putK (kvF (ns.take i) m) (.inr ns[i]) (.int (m ns[i])) = kvF (ns.take (i + 1)) m := by
  rw [kvF_new (not_take nd hi), take_snoc hi]
  refine kvF_congr fun x _ => ?_
  unfold updf
  split
  · rename_i e
    rw [e]
  · rfl
section
variable {P : Program} {w : World} {K : PySem.W.Frag} {mg : Str → Option Value} {base : Heap}
end
end Law

/-! lift_of_moves of legal moves; a lift performed is the lift of its moves -/
namespace U
section
variable {ns : List PySem.Str} {es : List (PySem.Str × PySem.Str)} {f h : PySem.Str → Int} {pn : List PySem.Str}
theorem AnyR.count (ok : EsOk ns es f) (nd : ns.Nodup) (fe : Feas ns es f h pn) {ms : List (PySem.Str × Int)} {f' h' : PySem.Str → Int} (r : AnyR ns es pn f h ms f' h') :
    (countF f (fun _ => 0) ms).1 = f' ∧ ∀ n ∈ ns, (countF f (fun _ => 0) ms).2 n + h' n = h n := by
  induction r with
  | nil => exact ⟨rfl, fun n _ => by show (0 : Int) + h n = h n; omega⟩
  | @snoc ms f' h' m r hm ih =>
    obtain ⟨i1, i2⟩ := ih
    obtain ⟨k1, k2, _⟩ := r.keeps ok nd fe
    have e := prog_dlt k1 hm
    obtain ⟨n, v⟩ := m
    rw [countF_snoc, i1]
    refine ⟨rfl, fun x hx => ?_⟩
    have := i2 x hx
    show updf _ n _ x + redU h' n x = h x
    unfold redU updf
    by_cases z : x = n
    · rw [if_pos z, if_pos z]
      subst z
      have e : h' x - dlt (f' x - v) = h' x + (if 0 < h' x then -1 else 1) := e
      omega
    · rw [if_neg z, if_neg z]
      exact this
end
end U
namespace Law
open PySem PySem.Spec PyProof.Rows L2 U
local macro_rules | `(tactic| wtm_at "rd1") => `(tactic| first
  | with_reducible refine rd_seq ?_
  | ((with_reducible refine rd_var (v := ?vv) ?hv ?_); (case hv => exact rfl))
  | with_reducible refine rd_c ?_
  | with_reducible refine rd_cons ?_
  | with_reducible refine rd_nil ?_
  | with_reducible refine rd_op ?_
  | with_reducible refine rd_asg ?_
  | with_reducible refine rd_name ?_
  | with_reducible refine rd_c1 ?_
  | with_reducible refine rd_cb ?_
  | with_reducible refine rd_test ?_
  | with_reducible refine rd_B ?_
  | with_reducible refine rd_bl ?_
  | with_reducible refine rd_if ?_
  | with_reducible refine rd_ret ?_
  | with_reducible refine rd_drop ?_
  | with_reducible refine rd_next ?_
  | with_reducible refine rd_addI ?_
  | with_reducible refine rd_ltI ?_
  | with_reducible refine rd_eqI ?_
  | with_reducible refine rd_neI ?_
  | with_reducible refine rd_eqS ?_
  | with_reducible refine rd_neS ?_
  | with_reducible refine rd_gtI ?_
  | with_reducible refine rd_geI ?_
  | with_reducible refine rd_leI ?_
  | with_reducible refine rd_ltS ?_
  | with_reducible refine rd_subI ?_
  | ((with_reducible refine rd_modI ?hc ?_); (case hc => first | decide | omega))
  | ((with_reducible refine rd_mulI ?hc ?_); (case hc => first | exact mul_bI | exact .inl (.inr (by decide)) | exact .inl (.inl (by decide)) | exact .inl (.inr (by omega)) | exact .inl (.inl (by omega))))
  | ((with_reducible refine rd_divI ?hc ?_); (case hc => first | decide | omega))
  | ((with_reducible refine rd_powI ?hc ?_); (case hc => exact ⟨by decide, by decide, by decide⟩))
  | with_reducible refine rd_lst ?_
  | with_reducible refine rd_tup ?_
  | ((with_reducible refine rd_sz ?hv ?_); (case hv => exact rfl))
  | with_reducible refine rd_and ?_
  | with_reducible refine rd_or ?_
  | with_reducible refine rd_not ?_
  | with_reducible refine rd_andV ?_
  | with_reducible refine rd_orV ?_
  | with_reducible refine rd_notV ?_
  | with_reducible refine rd_ifE ?_
  | with_reducible refine rd_T ?_
  | with_reducible refine rd_F ?_
  | with_reducible refine rd_chain ?_
  | with_reducible refine rd_is ?_
  | with_reducible refine rd_isNot ?_
  | with_reducible refine rd_absI ?_
  | with_reducible refine rd_maxI ?_
  | with_reducible refine rd_minI ?_
  | with_reducible refine rd_intI ?_
  | with_reducible refine rd_intB ?_
  | with_reducible refine rd_sub ?_
  | with_reducible refine rd_sl ?_
  | with_reducible refine rd_noPart ?_
  | with_reducible refine rd_part ?_
  | with_reducible refine rd_exI ?_
  | with_reducible refine rd_bm ?_
  | with_reducible refine rd_bm0 ?_
  | with_reducible refine rd_un ?_
  | with_reducible refine rd_neg ?_
  | with_reducible refine rd_c2 ?_
  | with_reducible refine rd_retN ?_
  | with_reducible refine rd_break ?_
  | with_reducible refine rd_cont ?_
  | with_reducible refine rd_for ?_
  | with_reducible refine rd_rng1 ?_
  | with_reducible refine rd_rng2 ?_
  | with_reducible refine rd_iList ?_
  | with_reducible refine rd_iTup ?_
  | with_reducible refine rd_iEnum ?_
  | ((with_reducible refine rd_forR ?h0 ?h1 ?_); (case h0 => omega); (case h1 => omega))
  | with_reducible refine rd_lc ?_
  | with_reducible refine rd_gcons ?_
  | with_reducible refine rd_gnil ?_
  | with_reducible refine rd_dget ?_
  | with_reducible refine rd_dput ?_
  | with_reducible refine rd_dnew ?_
  | with_reducible refine rd_dc ?_
  | with_reducible refine rd_iItems ?_
  | with_reducible refine rd_iKeys ?_
  | with_reducible refine rd_din ?_
  | with_reducible refine rd_lc2 ?_
  | with_reducible refine rd_cd ?_
  | with_reducible refine rd_par ?_
  | with_reducible refine rd_two ?_
  | with_reducible refine rd_reprB ?_
  | with_reducible refine rd_ck ?_
  | ((with_reducible refine rd_len ?hl ?_); (case hl => exact rfl))
  | with_reducible refine rd_nT ?_
  | with_reducible refine rd_nF ?_
  | with_reducible refine rd_dnin ?_
  | with_reducible refine rd_isB ?_
  | with_reducible refine rd_isNotB ?_
  | with_reducible refine rd_daug ?_
  | with_reducible refine rd_yesT ?_
  | ((with_reducible refine rd_wp ?hw ?_); (case hw => exact rfl)))
local macro_rules | `(tactic| wtm_at "rd") => `(tactic| repeat wtm_at "rd1")

theorem countF_fst : ∀ {ms : List (Str × Int)} {f h : Str → Int}, (countF f h ms).1 = playF f ms
  | [], _, _ => rfl
  | (n, v) :: r, f, h => by
    show (countF (updf f n v) (updf h n (h n + dlt (f n - v))) r).1 = playF (updf f n v) r
    exact countF_fst
def spLomN (K : PySem.W.Frag) : Sp := fun vs H Q _ => ∃ (g n e st mv ps : Addr) (ns ord pn : List Str) (es : List (Addr × Str × Str)) (f : Str → Int) (ms : List (Addr × Str × Int)), vs = [.ref g, .ref st, .ref mv, .ref ps] ∧ GSt H g n e st ns ord es f ∧ H mv = some (.lst (ms.map fun m => V.ref m.1)) ∧ TupsAt H ms ∧ LegalSeq ns (es.map (·.2)) pn f (ms.map (·.2)) ∧ SqT K H ps (pn.map V.str) ∧
    ∀ (d : Addr) (H' : Hp), Same H H' → H d = none → H' d = some (.dK (kvF ns (countF f (fun _ => 0) (ms.map (·.2))).2)) → Q (.ref d) H'
section
variable {P : Program} {w : World} {K : PySem.W.Frag} {mg : Str → Option Value} {base : Heap}
structure LMc (P : Program) (w : World) (K : PySem.W.Frag) (mg : Str → Option Value) (base : Heap) : Prop where
  apply_moves : CalK P w K mg base CX0 4 "apply_moves" 3 ["pinned"] (spApply K)
theorem ok_lomN {f : Addr} {fd : FuncData} (F : Fun K "lift_of_moves" "lift_of_moves" s_lift_of_moves f fd) (B : Bt mg) (C : LMc P w K mg base) : FnG P w K mg base CX0 5 f fd ["graph", "state", "moves", "pinned"] (spLomN K) := by
  refine fnG0 F sc_lift_of_moves (fun vs H Q E h => ?_) (fun cdv A outer s H vs Q E hr h => ?_)
  · obtain ⟨g, n, e, st, mv, ps, ns, ord, pn, es, f, ms, rfl, _⟩ := h
    rfl
  · obtain ⟨g, n, e, st, mv, ps, ns, ord, pn, es, f, ms, rfl, gs, hmv, tm, lq, hps, q⟩ := h
    have nd := sc_lift_of_moves.nd
    have hu := hr.u1
    refine ⟨_, (pss_cons (ps_expr (pe_cK C.apply_moves hr (by decide) rfl pass0 (pa_cons (pv 0) (pa_cons (pv 1) (pa_cons (pv 2) pa_nil))) (pk_cons (pv 3) pk_nil)))
  (pss_cons (ps_setDc (i := 4) (own := [("node", 5)]) rfl nd rfl rfl (sw_dict rfl rfl rfl (by decide +kernel)) (ki_tup K rfl (pe_ix (kIx K rfl) (pv 0) pe_int (fun _ _ => rfl))) (blkOk_by (own := [("node", 5)]) (N := nN_lift_of_moves) (sc := defScope s_lift_of_moves) (by decide +kernel)) (fun _ _ _ _ _ => (pg_name (i := 5) nd rfl (by first | exact Or.inl rfl | exact Or.inr rfl))) (fun _ _ _ _ _ => pts_nil) (fun _ _ _ _ _ => (pv 5)) (fun _ _ _ _ _ => pe_int))
  (pss_cons (ps_set (i := 6) nd rfl (by first | exact Or.inl rfl | exact Or.inr rfl) (pe_callTy cDict (by rfl) B.dict bb_dict (pa_cons (pv 1) pa_nil)))
  (pss_cons (ps_for PassesOwn.never rfl (ki_list K rfl (pv 2)) (kg_tup (n := 2) K rfl rfl (pgs_cons (pg_name (i := 5) nd rfl (by first | exact Or.inl rfl | exact Or.inr rfl)) (pgs_cons (pg_name (i := 7) nd rfl (by first | exact Or.inl rfl | exact Or.inr rfl)) pgs_nil))) (pss_cons (ps_daug hu (pv 4) (pv 5) (pe_ifExp (pt_cmpR (kEq K rfl hr.u64) (pe_op uMod (pe_op uSub (pe_dget hu (pv 6) (pv 5) (fun _ _ => rfl)) (pv 7)) pe_int) pe_int (nomark _)) pe_int (pe_un un_neg pe_int)) in_add (fun _ _ _ => rfl))
  (pss_one (ps_dput hu (pv 6) (pv 5) (pv 7) rfl))))
  (pss_one (ps_ret (pv 4))))))), ?_⟩
    wtm_at "rd"
    refine ⟨g, n, e, st, mv, ps, ns, ord, pn, es, f, ms, rfl, gs, hmv, tm, lq, hps, fun d0 H1 s1 fd0 hd0 => ?_⟩
    wtm_at "rd"
    refine rd_ixT (SqT.of (s1 _ _ gs.gr.top)) (v := .ref n) rfl ?_
    refine rd_forT (SqT.of (s1 _ _ gs.gr.nodes)) ?_
    intro d fd
    have fd0 := new_of_same s1 fd
    refine dcW (walk_tup (K := K) (a := n) (xs := ns.map V.str)) (fun i H' => Same H H' ∧ H' d = some (.dK (kvF (ns.take i) fun _ => 0))) ⟨same_add s1 fd, upd_same⟩ ?_ ?_ ?_
    · rintro i H' hi ⟨s, _⟩
      exact SqT.of (s _ _ gs.gr.nodes)
    · rintro i x H' H2 hi ⟨s, hd⟩ ⟨rfl, hx⟩
      obtain ⟨hin, rfl⟩ := map_at hx
      wtm_at "rd"
      refine rd_accD (k := .inr ns[i]) rfl hd (by rw [List.length_map, List.length_take]; have := gs.l2; omega) ?_
      refine ⟨same_put s fd0, ?_⟩
      rw [upd_same, kvF_snoc (m := fun _ => (0 : Int)) gs.nd hin]
    rintro H2 ⟨s2, hd2⟩
    rw [List.length_map, List.take_length] at hd2
    wtm_at "rd"
    refine ⟨_, .inl (s2 _ _ gs.st), fun c fc => ?_⟩
    have ncd : c ≠ d := Ne.symm (ne_of_none hd2 fc)
    have fc0 := new_of_same s2 fc
    have s3 := same_add (o := .dK (kvF ord f)) s2 fc
    have hd3 := at_upd (o := .dK (kvF ord f)) (ne_of_none hd2 fc) hd2
    have hc3 := @upd_same H2 c (.dK (kvF ord f))
    generalize upd H2 c (.dK (kvF ord f)) = H3 at s3 hd3 hc3
    wtm_at "rd"
    refine rd_forL (SqL.of (s3 _ _ hmv)) ?_
    refine turnsL (K := K) (xs := ms.map fun m => V.ref m.1) (fun i σ H' => ∃ (u5 u7 : Option V), σ = [some (.ref g), some (.ref st), some (.ref mv), some (.ref ps), some (.ref d), u5, some (.ref c), u7] ∧ Same H H' ∧
      H' c = some (.dK (kvF ord (countF f (fun _ => 0) ((ms.map (·.2)).take i)).1)) ∧ H' d = some (.dK (kvF ns (countF f (fun _ => 0) ((ms.map (·.2)).take i)).2))) ⟨_, _, rfl, s3, hc3, hd3⟩ ?_ ?_ ?_
    · rintro i σ H' hi ⟨u5, u6, rfl, s, _⟩
      exact SqL.of (s _ _ hmv)
    · rintro i y σ H' hy ⟨u5, u6, rfl, s, hc, hd⟩
      obtain ⟨hi, rfl⟩ := map_at hy
      have mm := List.getElem_mem hi
      have ht := s _ _ (tm _ mm)
      have hi2 : i < (ms.map (·.2)).length := by rw [List.length_map]; exact hi
      have lg := lq i hi2
      rw [List.getElem_map] at lg
      have okf := seq_ok gs.eok lq i (by omega)
      have mn := lg.mem
      have dl : dlt (playF f ((ms.map (·.2)).take i) ms[i].2.1 - ms[i].2.2) = if (playF f ((ms.map (·.2)).take i) ms[i].2.1 - ms[i].2.2) % 3 = 1 then 1 else -1 := by
        have t1 := okf.tri _ mn
        have t2 := lg.val
        have t3 := lg.own
        unfold dlt
        rw [if_neg (by omega)]
      rw [← countF_fst (h := fun _ => 0)] at dl
      have cs : countF f (fun _ => 0) ((ms.map (·.2)).take (i + 1)) = (updf (countF f (fun _ => 0) ((ms.map (·.2)).take i)).1 ms[i].2.1 ms[i].2.2,
          updf (countF f (fun _ => 0) ((ms.map (·.2)).take i)).2 ms[i].2.1 ((countF f (fun _ => 0) ((ms.map (·.2)).take i)).2 ms[i].2.1 + dlt ((countF f (fun _ => 0) ((ms.map (·.2)).take i)).1 ms[i].2.1 - ms[i].2.2))) := by
        rw [take_snoc (by rw [List.length_map]; exact hi), List.getElem_map]
        exact countF_snoc
      rw [dl] at cs
      generalize ms[i] = m at *
      generalize countF f (fun _ => 0) ((ms.map (·.2)).take i) = fh at *
      refine rd_unp (SqT.of ht) rfl ?_
      wtm_at "rd"
      refine ⟨d, _, rfl, .inl ⟨_, .inr m.2.1, .inl hd, rfl, (kvF_val mn).symm⟩, ?_⟩
      wtm_at "rd"
      refine rd_dat (.inl hc) (kvF_val (gs.inO _ mn)) rfl ?_
      wtm_at "rd"
      have fin : ∀ z : Int, (if (fh.1 m.2.1 - m.2.2) % 3 = 1 then 1 else -1) = z → Same H (upd (upd H' d (.dK (kvF ns (updf fh.2 m.2.1 (fh.2 m.2.1 + z))))) c (.dK (kvF ord (updf fh.1 m.2.1 m.2.2)))) ∧
          upd (upd H' d (.dK (kvF ns (updf fh.2 m.2.1 (fh.2 m.2.1 + z))))) c (.dK (kvF ord (updf fh.1 m.2.1 m.2.2))) c = some (.dK (kvF ord (countF f (fun _ => 0) ((ms.map (·.2)).take (i + 1))).1)) ∧
          upd (upd H' d (.dK (kvF ns (updf fh.2 m.2.1 (fh.2 m.2.1 + z))))) c (.dK (kvF ord (updf fh.1 m.2.1 m.2.2))) d = some (.dK (kvF ns (countF f (fun _ => 0) ((ms.map (·.2)).take (i + 1))).2)) := fun z hz => by
        rw [hz] at cs
        refine ⟨same_put (same_put s fd0) fc0, ?_, ?_⟩
        · rw [upd_same, cs]
        · rw [upd_ne (Ne.symm ncd), upd_same, cs]
      have step : ∀ z : Int, (if (fh.1 m.2.1 - m.2.2) % 3 = 1 then 1 else -1) = z → True := fun _ _ => trivial
      refine rd_split (fun c1 => ?_) (fun c1 => ?_)
      all_goals
        wtm_at "rd"
        refine rd_rAdd ?_
        refine ⟨_, .inl ⟨_, .inr m.2.1, hd, rfl, Nat.lt_of_le_of_lt (Nat.le_trans (Nat.le_of_eq (List.length_map _)) (Nat.le_trans gs.l2 (by decide : 100 ≤ 1000))) (by decide), rfl⟩, ?_⟩
        rw [kvF_put mn]
        wtm_at "rd"
        refine rd_dset (at_upd ncd hc) (k := .inr m.2.1) rfl (by rw [List.length_map, gs.pm.length_eq]; have := gs.l2; omega) ?_
        rw [kvF_put (gs.inO _ mn)]
        first
          | exact ⟨_, _, rfl, fin _ (if_pos c1)⟩
          | exact ⟨_, _, rfl, fin _ (if_neg c1)⟩
    · rintro σ H4 ⟨u5, u6, rfl, s4, hc4, hd4⟩
      rw [List.length_map, List.take_of_length_le (by rw [List.length_map]; exact Nat.le_refl _)] at hd4
      wtm_at "rd"
      exact q d _ s4 fd0 hd4
end
end Law

/-! apply_lift -/
namespace Law
open PySem PySem.Spec PyProof.Rows L2 U
local macro_rules | `(tactic| wtm_at "rd1") => `(tactic| first
  | with_reducible refine rd_seq ?_
  | ((with_reducible refine rd_var (v := ?vv) ?hv ?_); (case hv => exact rfl))
  | with_reducible refine rd_c ?_
  | with_reducible refine rd_cons ?_
  | with_reducible refine rd_nil ?_
  | with_reducible refine rd_op ?_
  | with_reducible refine rd_asg ?_
  | with_reducible refine rd_name ?_
  | with_reducible refine rd_c1 ?_
  | with_reducible refine rd_cb ?_
  | with_reducible refine rd_test ?_
  | with_reducible refine rd_B ?_
  | with_reducible refine rd_bl ?_
  | with_reducible refine rd_if ?_
  | with_reducible refine rd_ret ?_
  | with_reducible refine rd_drop ?_
  | with_reducible refine rd_next ?_
  | with_reducible refine rd_addI ?_
  | with_reducible refine rd_ltI ?_
  | with_reducible refine rd_eqI ?_
  | with_reducible refine rd_neI ?_
  | with_reducible refine rd_eqS ?_
  | with_reducible refine rd_neS ?_
  | with_reducible refine rd_gtI ?_
  | with_reducible refine rd_geI ?_
  | with_reducible refine rd_leI ?_
  | with_reducible refine rd_ltS ?_
  | with_reducible refine rd_subI ?_
  | ((with_reducible refine rd_modI ?hc ?_); (case hc => first | decide | omega))
  | ((with_reducible refine rd_mulI ?hc ?_); (case hc => first | exact mul_bI | exact .inl (.inr (by decide)) | exact .inl (.inl (by decide)) | exact .inl (.inr (by omega)) | exact .inl (.inl (by omega))))
  | ((with_reducible refine rd_divI ?hc ?_); (case hc => first | decide | omega))
  | ((with_reducible refine rd_powI ?hc ?_); (case hc => exact ⟨by decide, by decide, by decide⟩))
  | with_reducible refine rd_lst ?_
  | with_reducible refine rd_tup ?_
  | ((with_reducible refine rd_sz ?hv ?_); (case hv => exact rfl))
  | with_reducible refine rd_and ?_
  | with_reducible refine rd_or ?_
  | with_reducible refine rd_not ?_
  | with_reducible refine rd_andV ?_
  | with_reducible refine rd_orV ?_
  | with_reducible refine rd_notV ?_
  | with_reducible refine rd_ifE ?_
  | with_reducible refine rd_T ?_
  | with_reducible refine rd_F ?_
  | with_reducible refine rd_chain ?_
  | with_reducible refine rd_is ?_
  | with_reducible refine rd_isNot ?_
  | with_reducible refine rd_absI ?_
  | with_reducible refine rd_maxI ?_
  | with_reducible refine rd_minI ?_
  | with_reducible refine rd_intI ?_
  | with_reducible refine rd_intB ?_
  | with_reducible refine rd_sub ?_
  | with_reducible refine rd_sl ?_
  | with_reducible refine rd_noPart ?_
  | with_reducible refine rd_part ?_
  | with_reducible refine rd_exI ?_
  | with_reducible refine rd_bm ?_
  | with_reducible refine rd_bm0 ?_
  | with_reducible refine rd_un ?_
  | with_reducible refine rd_neg ?_
  | with_reducible refine rd_c2 ?_
  | with_reducible refine rd_retN ?_
  | with_reducible refine rd_break ?_
  | with_reducible refine rd_cont ?_
  | with_reducible refine rd_for ?_
  | with_reducible refine rd_rng1 ?_
  | with_reducible refine rd_rng2 ?_
  | with_reducible refine rd_iList ?_
  | with_reducible refine rd_iTup ?_
  | with_reducible refine rd_iEnum ?_
  | ((with_reducible refine rd_forR ?h0 ?h1 ?_); (case h0 => omega); (case h1 => omega))
  | with_reducible refine rd_lc ?_
  | with_reducible refine rd_gcons ?_
  | with_reducible refine rd_gnil ?_
  | with_reducible refine rd_dget ?_
  | with_reducible refine rd_dput ?_
  | with_reducible refine rd_dnew ?_
  | with_reducible refine rd_dc ?_
  | with_reducible refine rd_iItems ?_
  | with_reducible refine rd_iKeys ?_
  | with_reducible refine rd_din ?_
  | with_reducible refine rd_lc2 ?_
  | with_reducible refine rd_cd ?_
  | with_reducible refine rd_par ?_
  | with_reducible refine rd_two ?_
  | with_reducible refine rd_reprB ?_
  | with_reducible refine rd_ck ?_
  | ((with_reducible refine rd_len ?hl ?_); (case hl => exact rfl))
  | with_reducible refine rd_nT ?_
  | with_reducible refine rd_nF ?_
  | with_reducible refine rd_dnin ?_
  | with_reducible refine rd_isB ?_
  | with_reducible refine rd_isNotB ?_
  | with_reducible refine rd_daug ?_
  | with_reducible refine rd_yesT ?_
  | ((with_reducible refine rd_wp ?hw ?_); (case hw => exact rfl)))
local macro_rules | `(tactic| wtm_at "rd") => `(tactic| repeat wtm_at "rd1")

def spApl : Sp := fun vs H Q _ => ∃ (a b : Addr) (ord ns : List Str) (f h : Str → Int), vs = [.ref a, .ref b] ∧ H a = some (.dK (kvF ord f)) ∧ H b = some (.dK (kvF ns h)) ∧ ord.length ≤ 100 ∧ ord.Nodup ∧ (∀ n ∈ ord, n ∈ ns) ∧
  ∀ (d : Addr) (H' : Hp), Same H H' → H d = none → H' d = some (.dK (kvF ord fun n => (f n - h n) % 3)) → Q (.ref d) H'
section
variable {P : Program} {w : World} {K : PySem.W.Frag} {mg : Str → Option Value} {base : Heap}
theorem ok_apl {f : Addr} {fd : FuncData} (F : Fun K "apply_lift" "apply_lift" s_apply_lift f fd) (B : Bt mg) : FnG P w K mg base CX0 1 f fd ["state", "lift"] spApl := by
  refine fnG0 F sc_apply_lift (fun vs H Q E h => ?_) (fun cdv A outer s H vs Q E hr h => ?_)
  · obtain ⟨a, b, ord, ns, f, h, rfl, _⟩ := h
    rfl
  · obtain ⟨a, b, ord, ns, f, h, rfl, ha, hb, nl, ndu, sub, q⟩ := h
    have nd := sc_apply_lift.nd
    have hu := hr.u1
    refine ⟨_, (pss_one (ps_ret (pe_lock (pe_dc (own := [("node", 2), ("value", 3)]) rfl nd (pi_items (pv 0)) (blkOk_by (own := [("node", 2), ("value", 3)]) (N := nN_apply_lift) (sc := defScope s_apply_lift) (by decide +kernel)) (fun _ _ _ _ _ => (kg_tup (n := 2) K rfl rfl (pgs_cons (pg_name (i := 2) nd rfl (by first | exact Or.inl rfl | exact Or.inr rfl)) (pgs_cons (pg_name (i := 3) nd rfl (by first | exact Or.inl rfl | exact Or.inr rfl)) pgs_nil)))) (fun _ _ _ _ _ => pts_nil) (fun _ _ _ _ _ => (pv 2)) (fun _ _ _ _ _ => (pe_op uMod (pe_op uSub (pv 3) (pe_dget hu (pv 1) (pv 2) (fun _ _ => rfl))) pe_int)))))), ?_⟩
    wtm_at "rd"
    refine rd_lockE ha fun od => ?_
    wtm_at "rd"
    refine rd_forI upd_same ?_
    intro D fD
    have nDa := new_ne fD
    have fD0 := new_old fD
    refine dcW walk_items (fun i H' => But a H H' ∧ H' a = some (.frz od (.dK (kvF ord f))) ∧ H' D = some (.dK (kvF (ord.take i) fun n => (f n - h n) % 3))) ⟨But.upd.trans (But.new fD), at_upd (Ne.symm nDa) upd_same, upd_same⟩ ?_ ?_ ?_
    · rintro i H' hi ⟨_, hf, _⟩
      exact hf
    · rintro i x H' H2 hi ⟨but, hf, hD⟩ ⟨T, x1, y1, rfl, fT, rfl, e1, e2⟩
      obtain ⟨hin, rfl, rfl⟩ := kvF_at e1 e2
      have hm := List.getElem_mem hin
      have but2 : But a H (upd H' T (.tup [.str ord[i], .int (f ord[i])])) := but.trans (But.new fT)
      have hf2 := at_upd (o := .tup [.str ord[i], .int (f ord[i])]) (ne_of_none hf fT) hf
      have hD2 := at_upd (o := .tup [.str ord[i], .int (f ord[i])]) (ne_of_none hD fT) hD
      refine rd_unp (SqT.of upd_same) rfl ?_
      wtm_at "rd"
      refine rd_dat (lk_rd ha hb but2 hf2) (kvF_val (sub _ hm)) rfl ?_
      wtm_at "rd"
      refine rd_accD (k := .inr ord[i]) rfl hD2 (by rw [List.length_map, List.length_take]; omega) ?_
      refine ⟨fun b' o' nb hb' => at_upd (ne_of_none hb' fD0) (but2 b' o' nb hb'), at_upd (Ne.symm nDa) hf2, ?_⟩
      rw [upd_same, kvF_snoc (m := fun n => (f n - h n) % 3) ndu hin]
    · rintro H' ⟨but, hf, hD⟩
      rw [List.length_map, List.take_length] at hD
      exact ⟨hf, q D _ (lk_same ha but) fD0 (at_upd nDa hD)⟩
end
end Law

/-! isinstance of a kept exception, its dict known -/
namespace U
open PySem PySem.Spec PyProof.Rows L2
section
variable {P : Program} {w : World} {A : Around} {E : Value → Shared → Prop} {K : PySem.W.Frag} {x D : Addr} {ox : Obj} {od : Option Obj}
theorem find_class (C : ExcC K D) : PySem.W.findObj K D od "__class__" = some (.bind (.builtin "getset_descriptor.__get__") (.builtin "object.__class__")) := by
  obtain ⟨cd, hc, _⟩ := PySem.W.any_some C.hd
  unfold PySem.W.findObj
  rw [hc, Option.bind_some, C.ha, Option.bind_some]
  simp [C.hn, C.ht]
theorem class_of_exc {Q : Option Value → Shared → Prop} {s : Shared} (C : ExcC K D) (X : K.In s.heap) (I : PySem.W.InstAt s.heap x ox D od) (h : Q (some (.ref D)) { s with toks := s.toks + 1 }) : wpAny (model P w) A (getAttr? (.ref x) "__class__") Q E s := by
  obtain ⟨hp, g, d, t, os⟩ := s
  have lt := I.type (M := model P w)
  have l1 := PySem.W.looks_findIn (M := model P w) X C.hg
  have l2 := PySem.W.looks_findIn (M := model P w) X C.hk
  have l3 := PySem.W.looks_find (M := model P w) X I (find_class C)
  have isB : PySem.W.Looks (model P w) hp (isInstance (.ref x) (.type "BaseException")) true := lt.andThen (PySem.W.looks_subIn X C.hs)
  have q1 : (Value.builtin "BaseException.__getattribute__" == Value.builtin "object.__getattribute__") = false := by decide +kernel
  have q2 : (onTheHeap (Value.ref D) && Value.builtin "BaseException.__getattribute__" == Value.builtin "object.__getattribute__") = false := by rw [q1] <;> rfl
  have q3 : (false && onTheHeap (Value.builtin "BaseException.__getattribute__")) = false := rfl
  unfold getAttr? getAttrBy? getAttrBy
  refine wpAny_bind (wpAny_mkText (wpAny_bind (wpAny_attempt ?_)))
  refine wpAny_holding (wpAny_bind (lt.at (wpAny_bind (l1.at ?_))))
  show wpAny _ _ (if (onTheHeap (Value.ref D) && Value.builtin "BaseException.__getattribute__" == Value.builtin "object.__getattribute__") = true then _ else _) _ _ _
  rw [q2, if_neg Bool.false_ne_true]
  unfold getAttrByItsOwn hookBefore
  refine wpAny_bind ?_
  rw [if_pos (show onTheHeap (Value.ref D) = true from rfl)]
  refine l2.at (wpAny_bind (wpAny_attempt (wpAny_holding ?_)))
  unfold callGetattribute
  rw [q3, if_neg Bool.false_ne_true]
  unfold boundAndCalled
  rw [PySem.F.excAttr_ValueError.ga.bind (.ref x)]
  refine wpAny_bind (wpAny_pure ?_)
  show wpAny _ _ (call (.builtin "BaseException.__getattribute__") [.ref x, .str "__class__" t]) _ _ _
  refine wpAny_call (PySem.codeAny_call_builtin PySem.F.excAttr_ValueError.ga.plain PySem.F.entry_bexc_ga ?_)
  have args := PySem.F.args_bexc_ga (.ref x) (.str "__class__" t)
  refine @PySem.W.check_slot (model P w) _ _ ⟨hp, g, d, t + 1, os⟩ "BaseException.__getattribute__" "BaseException" "__getattribute__" (.ref x) [.str "__class__" t] [] _ (by decide +kernel) (by decide +kernel) isB args ?_
  unfold Builtin.«object.__getattribute__»
  refine wpAny_bind (wpAny_of_eq (a := ((Value.ref x : Value), [Value.str "__class__" t])) (by first | rfl | (simp only [slotArgs]; rfl)) ?_)
  refine wpAny_bind (wpAny_pure ?_)
  refine wpAny_bind (lt.at (wpAny_bind (l3.at ?_)))
  show wpAny _ _ (holding [Value.builtin "object.__class__"] (call (.builtin "getset_descriptor.__get__") [.builtin "object.__class__", .ref x, .ref D]) >>= ret) _ _ _
  refine wpAny_bind (wpAny_holding (wpAny_call ?_))
  refine PySem.W.class_get (s := ⟨hp, g, d, t + 1, os⟩) (ox := ox) (od := od) X I C.hm ?_
  refine wpAny_pure ?_
  show wpAny _ _ (handedOut (.ref D)) _ _ _
  rw [PySem.W.handedOut_of (v := .ref D) rfl]
  first
    | exact wpAny_pure (wpAny_pure h)
    | exact wpAny_pure h
    | exact wpAny_pure (wpAny_bind (wpAny_pure (wpAny_pure h)))
theorem kitx_exc (C : ExcC K D) : PySem.W.KitX K (.ref x) (.ref D) (fun h => ∃ ox od, PySem.W.InstAt h x ox D od) where
  ty := fun _ _ _ ⟨_, _, I⟩ => I.type
  it := fun M h X _ => by
    obtain ⟨cd, hcD, _⟩ := PySem.W.any_some C.hd
    unfold PySem.W.clsIn at hcD
    split at hcD
    · rename_i ho
      intro A' Q' E' s' k q
      unfold isType loadHead
      refine wpAny_bind (wpAny_loadPart (k _ _ (X _ _ ho)) ?_)
      exact wpAny_pure q
    · cases hcD
  ne := fun h tp dd its n sl X htp => (PySem.W.handS_kitx_exc (x := x) (ox := default) C.hg C.hk C.hs C.hd C.ha C.hn C.ht C.hm).ne h tp dd its n sl X htp
  ca := fun X ⟨_, _, I⟩ k => class_of_exc C X I k
end
/-- isinstance(e, c), e kept -/
def rIsK (K : PySem.W.Frag) : List V → Hp → VK → Prop := fun xs H Q => ∃ (a C dd : Addr) (fs : List (Str × V)) (c : V) (cv : Value) (b : Bool), xs = [.ref a, c] ∧ H a = some (exk a (.ref C) (some dd)) ∧ H dd = some (.xd fs) ∧ ExcC K C ∧ (∀ u, RelV c u → u = cv) ∧ PySem.W.kitOne K (.ref C) cv = some b ∧ Q (.bl b) H
theorem kIsK {X : Cx} (K : PySem.W.Frag) (hK : X.K = K) : CallR X (.builtin "isinstance") (rIsK K) := by
  subst hK
  intro pins s σ H xs us Q I r h
  obtain ⟨a, C, dd, fs, c, cv, b, rfl, hk, hdd, T, hcv, e, q⟩ := h
  match us, r with
  | [_, u], .cons rx (.cons rt .nil) =>
    cases rx
    have ec := hcv _ rt
    subst ec
    obtain ⟨oe, vs, h1, hz, hd⟩ := exk_at I.hok hk
    have hx : ObjOk X.prog X.w H s.heap dd (.xd fs) := I.hok dd _ hdd
    obtain ⟨mA, hns, hr⟩ := hx
    obtain ⟨od, ho, hl2⟩ := lookIn_ns hns
    have J : PySem.W.InstAt s.heap a oe C (some od) := by
      refine ⟨h1, hz.1, ?_, ?_⟩
      · unfold PySem.W.notCls
        rw [hd] <;> rfl
      · rw [hz.2]
        exact ho
    exact PySem.W.kia_one (kitx_exc T) I.kIn ⟨_, _, J⟩ e (fun z => nomatch z) fun tk => ⟨.bl b, H, I.kept (t' := tk) fun _ _ z => z, rfl, q⟩
theorem rd_isK {K : PySem.W.Frag} {H : Hp} {Q : VK} {a C dd : Addr} {fs : List (Str × V)} {c : V} {cv : Value} {b : Bool} (hk : H a = some (exk a (.ref C) (some dd))) (hd : H dd = some (.xd fs)) (T : ExcC K C) (hc : ∀ u, RelV c u → u = cv) (e : PySem.W.kitOne K (.ref C) cv = some b) (h : Q (.bl b) H) : rIsK K [.ref a, c] H Q :=
  ⟨a, C, dd, fs, c, cv, b, rfl, hk, hd, T, hc, e, h⟩
end U
namespace U
open PySem PySem.Spec PyProof.Rows L2
theorem kit_ref {K : PySem.W.Frag} {D C : Addr} (h1 : PySem.W.isClsIn K C = true) (h2 : PySem.W.typeIn K (.ref C) = some (.type "type")) (h3 : PySem.W.subIn K (.ref D) (.ref C) = some false) (h4 : PySem.W.subIn K (.ref D) (.ref D) = some true) : PySem.W.kitOne K (.ref D) (.ref C) = some false := by
  have ne : (Value.ref D == Value.ref C) = false := by
    refine Bool.eq_false_iff.mpr fun z => ?_
    have e : D = C := Value.ref.inj (beq_iff_eq.mp z)
    rw [e] at h3 h4
    rw [h3] at h4
    cases h4
  have h1' : (PySem.W.clsIn K C).isSome = true := h1
  unfold PySem.W.kitOne PySem.W.kitCls
  rw [if_neg (by rw [ne]; exact Bool.false_ne_true)]
  show (if ((PySem.W.clsIn K C).isSome && PySem.W.typeIn K (.ref C) == some (.type "type")) = true then PySem.W.subIn K (.ref D) (.ref C) else none) = some false
  rw [if_pos (by rw [h1', h2] <;> rfl)]
  exact h3
theorem kit_refT {K : PySem.W.Frag} {D C : Addr} (h1 : PySem.W.isClsIn K C = true) (h2 : PySem.W.typeIn K (.ref C) = some (.type "type")) (h3 : PySem.W.subIn K (.ref D) (.ref C) = some true) : PySem.W.kitOne K (.ref D) (.ref C) = some true := by
  have h1' : (PySem.W.clsIn K C).isSome = true := h1
  unfold PySem.W.kitOne PySem.W.kitCls
  split
  · rfl
  · show (if ((PySem.W.clsIn K C).isSome && PySem.W.typeIn K (.ref C) == some (.type "type")) = true then PySem.W.subIn K (.ref D) (.ref C) else none) = some true
    rw [if_pos (by rw [h1', h2] <;> rfl)]
    exact h3
theorem kit_ty {K : PySem.W.Frag} {D : Addr} {T : String} {b : Bool} (h1 : PySem.W.kitMeta T = true) (h3 : PySem.W.subIn K (.ref D) (.type T) = some b) : PySem.W.kitOne K (.ref D) (.type T) = some b := by
  unfold PySem.W.kitOne PySem.W.kitCls
  show (if (Value.ref D == Value.type T) = true then some true else if PySem.W.kitMeta T = true then PySem.W.subIn K (.ref D) (.type T) else none) = some b
  rw [if_neg (fun z => nomatch (beq_iff_eq.mp z : Value.ref D = Value.type T)), if_pos h1]
  exact h3
end U

/-! repr of whatever data -/
namespace U
open PySem PySem.Spec PyProof.Rows L2
section
variable {K : PySem.W.Frag} {H H' : Hp}
mutual
theorem dp_ext (l : ∀ a xs, SqL K H a xs → SqL K H' a xs) (t : ∀ a xs, SqT K H a xs → SqT K H' a xs) : ∀ (d : PyData) (v : V), Dp K H v d → Dp K H' v d
  | .none, _, h => by cases h; exact .non
  | .bool _, _, h => by cases h; exact .bl _
  | .int _, _, h => by cases h; exact .int _
  | .str _, _, h => by cases h; exact .str _
  | .list ds, _, h => by
    cases h with
    | lst h1 h2 => exact .lst (l _ _ h1) (dp_extA l t ds _ h2)
  | .tuple ds, _, h => by
    cases h with
    | tup h1 h2 => exact .tup (t _ _ h1) (dp_extA l t ds _ h2)
  | .dict _, _, h => by cases h
theorem dp_extA (l : ∀ a xs, SqL K H a xs → SqL K H' a xs) (t : ∀ a xs, SqT K H a xs → SqT K H' a xs) : ∀ (ds : List PyData) (vs : List V), DpAll K H vs ds → DpAll K H' vs ds
  | [], _, h => by cases h; exact .nil
  | d :: ds, _, h => by
    cases h with
    | cons h1 h2 => exact .cons (dp_ext l t d _ h1) (dp_extA l t ds _ h2)
end
end
/-- a value that repr may be asked of, and what repr says -/
inductive Rp (K : PySem.W.Frag) (H : Hp) : V → Str → Prop
  | non : Rp K H .non "None"
  | bl (b : Bool) : Rp K H (.bl b) (if b then "True" else "False")
  | int (i : Int) (h : i.natAbs.log2 < 1920) : Rp K H (.int i) (toString i)
  | str (x : Str) (h : (reprText x).length ≤ sizeLine) : Rp K H (.str x) (reprText x)
  | of {a : Addr} {d : PyData} : Dp K H (.ref a) d → d.hasDict = false → Shows d → Rp K H (.ref a) d.shown
  | dct {a : Addr} {ns : List Str} {f : Str → Int} : H a = some (.dK (kvF ns f)) → Shows (.dict (ns.map fun n => (.str n, .int (f n)))) → Rp K H (.ref a) (PyData.dict (ns.map fun n => (.str n, .int (f n)))).shown
theorem Rp.ext {K : PySem.W.Frag} {H H' : Hp} {v : V} {d : Str} (h : Rp K H v d) (l : ∀ a xs, SqL K H a xs → SqL K H' a xs) (t : ∀ a xs, SqT K H a xs → SqT K H' a xs) (k : ∀ a kvs, H a = some (.dK kvs) → H' a = some (.dK kvs)) : Rp K H' v d := by
  cases h with
  | non => exact .non
  | bl b => exact .bl b
  | int i h => exact .int i h
  | str x h => exact .str x h
  | of h1 h2 h3 => exact .of (dp_ext l t _ _ h1) h2 h3
  | dct h1 h2 => exact .dct (k _ _ h1) h2
theorem Rp.same {K : PySem.W.Frag} {H H' : Hp} {v : V} {d : Str} (h : Rp K H v d) (s : Same H H') : Rp K H' v d := h.ext
  (fun a xs q => by
    rcases q with (q | ⟨o, q⟩) | q
    · exact .inl (.inl (s _ _ q))
    · exact .inl (.inr ⟨o, s _ _ q⟩)
    · exact .inr q) (fun a xs q => Same.seqT s q) fun a kvs q => s _ _ q
def rReprV (K : PySem.W.Frag) : List V → Hp → VK → Prop := fun xs H Q => ∃ x S, xs = [x] ∧ Rp K H x S ∧ Q (.str S) H
theorem kReprV {X : Cx} (K : PySem.W.Frag) (hK : X.K = K) (hg : X.A.guards = some []) (hu : X.A.units + 64 < cLine) : CallR X (.builtin "repr") (rReprV K) := by
  subst hK
  intro pins s σ H xs us Q I r h
  obtain ⟨x, S, rfl, hr, q⟩ := h
  obtain ⟨u, eu, rx⟩ := vals1 r
  subst eu
  have fin : ∀ (a : Addr) (d : PyData) (as : List Addr), Reads s.heap (.ref a) d as → (d.hasDict = true → sysModules ∉ as) → Shows d → Q (.str d.shown) H → wpAny (model X.prog X.w) X.A (call (.builtin "repr") [.ref a]) (EP X pins σ Q) X.xe s := fun a d as rd hsm S q => by
    have hdp := S.dp
    exact PySem.repr_of_reads' rd S.sh hsm hg (by omega) (fun b o e => e) (fun h' v tk hk => ⟨.str d.shown, H, I.kept (t' := tk) hk, ⟨_, rfl⟩, q⟩) (PyData.shown_fits_bulk (by decide) (by decide) S.lv S.bk)
  cases hr with
  | non =>
    cases rx
    exact PySem.P.repr_of_none ⟨.str _, H, I.tok _, ⟨_, rfl⟩, q⟩
  | bl b =>
    cases rx
    exact PySem.P.repr_of_bool ⟨.str _, H, I.tok _, ⟨_, rfl⟩, q⟩
  | int i h =>
    obtain ⟨tk, rfl⟩ := rx
    exact PySem.P.repr_of_int h ⟨.str _, H, I.tok _, ⟨_, rfl⟩, q⟩
  | str x h =>
    obtain ⟨tk, rfl⟩ := rx
    exact PySem.P.repr_of_str ⟨.str _, H, I.tok _, ⟨_, rfl⟩, q⟩ h
  | of h1 h2 h3 =>
    cases rx
    obtain ⟨as, ra⟩ := Dp.reads I _ _ _ h1 rfl
    exact fin _ _ as ra (fun z => by rw [h2] at z; cases z) h3 q
  | dct h1 h2 =>
    cases rx
    obtain ⟨as, ra, na⟩ := (Di.dct (K := X.K) h1).reads I rfl
    exact fin _ _ as ra (fun _ => na) h2 q
theorem rd_reprV {K : PySem.W.Frag} {H : Hp} {Q : VK} {x : V} {d : Str} (h : Rp K H x d) (q : Q (.str d) H) : rReprV K [x] H Q := ⟨x, d, rfl, h, q⟩
end U

set_option pp.maxSteps 800
/-! k24's law -/
namespace Law
open PySem PySem.Spec PyProof.Rows L2 U LamX
local macro_rules | `(tactic| wtm_at "rd1") => `(tactic| first
  | with_reducible refine rd_seq ?_
  | ((with_reducible refine rd_var (v := ?vv) ?hv ?_); (case hv => exact rfl))
  | with_reducible refine rd_c ?_
  | with_reducible refine rd_cons ?_
  | with_reducible refine rd_nil ?_
  | with_reducible refine rd_op ?_
  | with_reducible refine rd_asg ?_
  | with_reducible refine rd_name ?_
  | with_reducible refine rd_c1 ?_
  | with_reducible refine rd_cb ?_
  | with_reducible refine rd_test ?_
  | with_reducible refine rd_B ?_
  | with_reducible refine rd_bl ?_
  | with_reducible refine rd_if ?_
  | with_reducible refine rd_ret ?_
  | with_reducible refine rd_drop ?_
  | with_reducible refine rd_next ?_
  | with_reducible refine rd_addI ?_
  | with_reducible refine rd_ltI ?_
  | with_reducible refine rd_eqI ?_
  | with_reducible refine rd_neI ?_
  | with_reducible refine rd_eqS ?_
  | with_reducible refine rd_neS ?_
  | with_reducible refine rd_gtI ?_
  | with_reducible refine rd_geI ?_
  | with_reducible refine rd_leI ?_
  | with_reducible refine rd_ltS ?_
  | with_reducible refine rd_subI ?_
  | ((with_reducible refine rd_modI ?hc ?_); (case hc => first | decide | omega))
  | ((with_reducible refine rd_mulI ?hc ?_); (case hc => first | exact mul_bI | exact .inl (.inr (by decide)) | exact .inl (.inl (by decide)) | exact .inl (.inr (by omega)) | exact .inl (.inl (by omega))))
  | ((with_reducible refine rd_divI ?hc ?_); (case hc => first | decide | omega))
  | ((with_reducible refine rd_powI ?hc ?_); (case hc => exact ⟨by decide, by decide, by decide⟩))
  | with_reducible refine rd_lst ?_
  | with_reducible refine rd_tup ?_
  | ((with_reducible refine rd_sz ?hv ?_); (case hv => exact rfl))
  | with_reducible refine rd_and ?_
  | with_reducible refine rd_or ?_
  | with_reducible refine rd_not ?_
  | with_reducible refine rd_andV ?_
  | with_reducible refine rd_orV ?_
  | with_reducible refine rd_notV ?_
  | with_reducible refine rd_ifE ?_
  | with_reducible refine rd_T ?_
  | with_reducible refine rd_F ?_
  | with_reducible refine rd_chain ?_
  | with_reducible refine rd_is ?_
  | with_reducible refine rd_isNot ?_
  | with_reducible refine rd_absI ?_
  | with_reducible refine rd_maxI ?_
  | with_reducible refine rd_minI ?_
  | with_reducible refine rd_intI ?_
  | with_reducible refine rd_intB ?_
  | with_reducible refine rd_sub ?_
  | with_reducible refine rd_sl ?_
  | with_reducible refine rd_noPart ?_
  | with_reducible refine rd_part ?_
  | with_reducible refine rd_exI ?_
  | with_reducible refine rd_bm ?_
  | with_reducible refine rd_bm0 ?_
  | with_reducible refine rd_un ?_
  | with_reducible refine rd_neg ?_
  | with_reducible refine rd_c2 ?_
  | with_reducible refine rd_retN ?_
  | with_reducible refine rd_break ?_
  | with_reducible refine rd_cont ?_
  | with_reducible refine rd_for ?_
  | with_reducible refine rd_rng1 ?_
  | with_reducible refine rd_rng2 ?_
  | with_reducible refine rd_iList ?_
  | with_reducible refine rd_iTup ?_
  | with_reducible refine rd_iEnum ?_
  | ((with_reducible refine rd_forR ?h0 ?h1 ?_); (case h0 => omega); (case h1 => omega))
  | with_reducible refine rd_lc ?_
  | with_reducible refine rd_gcons ?_
  | with_reducible refine rd_gnil ?_
  | with_reducible refine rd_dget ?_
  | with_reducible refine rd_dput ?_
  | with_reducible refine rd_dnew ?_
  | with_reducible refine rd_dc ?_
  | with_reducible refine rd_iItems ?_
  | with_reducible refine rd_iKeys ?_
  | with_reducible refine rd_din ?_
  | with_reducible refine rd_lc2 ?_
  | with_reducible refine rd_cd ?_
  | with_reducible refine rd_par ?_
  | with_reducible refine rd_two ?_
  | with_reducible refine rd_reprB ?_
  | with_reducible refine rd_ck ?_
  | ((with_reducible refine rd_len ?hl ?_); (case hl => exact rfl))
  | with_reducible refine rd_nT ?_
  | with_reducible refine rd_nF ?_
  | with_reducible refine rd_dnin ?_
  | with_reducible refine rd_isB ?_
  | with_reducible refine rd_isNotB ?_
  | with_reducible refine rd_daug ?_
  | with_reducible refine rd_yesT ?_
  | ((with_reducible refine rd_wp ?hw ?_); (case hw => exact rfl)))
local macro_rules | `(tactic| wtm_at "rd") => `(tactic| repeat wtm_at "rd1")

def qLam : Str := ("smallest_path" : Str) ++ ".<locals>." ++ "<lambda>"
def spLaw (K : PySem.W.Frag) (T : Addr) : Sp := fun vs H Q _ => ∃ (a : Addr) (nums : List Int), vs = [.ref a] ∧ SqL K H a (nums.map V.int) ∧ nums.length ≤ 63 ∧ Tabs [(T, qLam)] H ∧ ∀ H' : Hp, Q (.bl true) H'
theorem rd_neKG {H : Hp} {Q : VK} {p q : Addr} {a b : List Str} {f g : Str → Int} (h1 : H p = some (.dK (kvF a f))) (h2 : H q = some (.dK (kvF b g))) (l : a.length = b.length) (e : ∀ n ∈ a, n ∈ b ∧ f n = g n) (h : Q (.bl false) H) : rNeDA (.ref p) (.ref q) H Q := by
  refine ⟨p, q, _, _, rfl, rfl, h1, h2, by rw [List.length_map, List.length_map]; exact l, fun x hx => ?_, h⟩
  obtain ⟨n, hn, rfl⟩ := List.mem_map.mp hx
  obtain ⟨e1, e2⟩ := e n hn
  exact ⟨by rw [kvF_val e1, e2], rfl⟩
theorem rd_tXk3 {K : PySem.W.Frag} {f : Str} {te : TE} {σ : L2.St} {H : Hp} {Q : VK} (h : te σ H fun x H1 => ∃ (a C dd : Addr) (fs : List (Str × V)) (v : V), x = .ref a ∧ H1 a = some (exk a (.ref C) (some dd)) ∧ XfC K C ∧ PySem.W.findIn K (.ref C) f = some none ∧ H1 dd = some (.xd fs) ∧ fs.lookup f = some v ∧ Q v H1) : tXk K f te σ H Q := h
theorem lk_3 {k : Str} {v : V} : List.lookup k [(k, v)] = some v := by
  have e : (k == k) = true := beq_self_eq_true k
  simp only [List.lookup, e]
theorem find_head {α : Type} {p : α → Bool} : ∀ {l : List α}, l.find? p = (l.filter p).head?
  | [] => rfl
  | x :: r => by
    by_cases h : p x = true
    · rw [List.find?_cons_of_pos h, List.filter_cons, if_pos h]
      rfl
    · rw [List.find?_cons_of_neg h, List.filter_cons, if_neg h]
      exact find_head
theorem rd_cK2 {sp : Sp} {np nk : Nat} {W : WX} {t tk : TA} {σ : L2.St} {H : Hp} {Q : VK} (h : t σ H fun vs H1 => vs.length = np ∧ tk σ H1 fun zs H2 => zs.length = nk ∧ sp (vs ++ zs) H2 Q fun cls d H' => W cls d σ H') : tCK2 sp np nk W t tk σ H Q := h
theorem rd_neNN {K : PySem.W.Frag} {H : Hp} {Q : VK} (h : Q (.bl false) H) : rNeU K .non .non H Q := h
theorem rd_neNS {K : PySem.W.Frag} {H : Hp} {Q : VK} {y : Str} (h : Q (.bl true) H) : rNeU K .non (.str y) H Q := h
theorem use_perf {K : PySem.W.Frag} {T : List (Addr × Str)} {CE : Addr} {H : Hp} {Q : VK} {E : XK} {g n e st c ps : Addr} {ns ord lo pn : List Str} {es : List (Addr × Str × Str)} {f h : Str → Int} (gs : GSt H g n e st ns ord es f) (hc : H c = some (.dK (kvF lo h))) (pm : lo.Perm ns) (hps : SqT K H ps (pn.map V.str)) (tb : Tabs T H) (pin : ∀ x ∈ pn, x ∈ ns)
    (er : ∀ v, liftErr ns (es.map (·.2)) f h pn = some v → FldT T "node" CE v H E) (ok : liftErr ns (es.map (·.2)) f h pn = none → sz ns h ≤ 800 ∧
  ∀ (l : Addr) (ms : List (Addr × Str × Int)) (f' h' : Str → Int) (H' : Hp), ExtN H H' → Tabs T H' → (∀ b o, H b = some o → (∀ ps, o ≠ .tbl ps) → b ≠ l) → H' l = some (.lst (ms.map fun m => V.ref m.1)) → TupsAt H' ms → PerfR ns (es.map (·.2)) pn f h (ms.map (·.2)) f' h' → sz ns h' = 0 → Q (.ref l) H') : spPerfX K T CE [.ref g, .ref st, .ref c, .ref ps] H Q E :=
  ⟨g, n, e, st, c, ps, ns, ord, lo, pn, es, f, h, rfl, gs, hc, pm, hps, tb, pin, er, ok⟩
theorem sz_bound {xs : List Str} {h : Str → Int} {B : Nat} (b : ∀ x ∈ xs, (h x).natAbs ≤ B) : sz xs h ≤ xs.length * B := by
  induction xs with
  | nil => rw [sz_nil]; simp
  | cons x r ih =>
    rw [sz_cons, List.length_cons]
    have h1 := b x List.mem_cons_self
    have h2 := ih fun y hy => b y (List.mem_cons_of_mem _ hy)
    have : ((r.length + 1 : Nat) : Int) * (B : Int) = (r.length : Int) * B + B := by rw [Int.natCast_add, Int.add_mul]; omega
    omega
section
variable {P : Program} {w : World} {K : PySem.W.Frag} {mg : Str → Option Value} {base : Heap}
structure N24c (P : Program) (w : World) (K : PySem.W.Frag) (mg : Str → Option Value) (base : Heap) (T : List (Addr × Str)) (CE : Addr) : Prop where
  _law_pool : Cal P w K mg base CX0 1 "_law_pool" (spPool K)
  _law_draw_graph : Cal P w K mg base CX0 3 "_law_draw_graph" spGraph
  _law_draw_pins : Cal P w K mg base CX0 2 "_law_draw_pins" spPins
  _law_draw_lift : Cal P w K mg base CX0 4 "_law_draw_lift" spDrawLiftA
  _law_is_fitting : Cal P w K mg base CX0 2 "_law_is_fitting" spFitting
  _law_anchors_of : Cal P w K mg base CX0 4 "_law_anchors_of" (spAnchO K)
  is_lift : Cal P w K mg base CX0 3 "is_lift" spIsLiftG
  lift_size : Cal P w K mg base CX0 1 "lift_size" spSize
  apply_lift : Cal P w K mg base CX0 1 "apply_lift" spApl
  perform_lift : CalK P w K mg base (L2.CX P w) 8 "perform_lift" 3 ["pinned"] (spPerfX K T CE)
  lift_of_moves : CalK P w K mg base CX0 5 "lift_of_moves" 3 ["pinned"] (spLomN K)
  apply_moves : CalK P w K mg base CX0 4 "apply_moves" 3 ["pinned"] (spApply K)
theorem ok_law {f : Addr} {fd : FuncData} {T CE CB fI : Addr} (F : Fun K "law" "law" s_law f fd) (B : Bt mg) (C : N24c P w K mg base [(T, qLam)] CE) (TE : OwnX K mg "InvalidLift" "node" CE CB fI) : FnG P w K mg base CX0 9 f fd ["_law_script"] (spLaw K T) := by
  refine fnG0 F sc_law (fun vs H Q E h => ?_) (fun cdv A outer s H vs Q E hr h => ?_)
  · obtain ⟨a, nums, rfl, _⟩ := h
    rfl
  · obtain ⟨a, nums, rfl, hs, hl, tabs, q⟩ := h
    have nd := sc_law.nd
    have hu := hr.u1
    refine ⟨_, (pss_cons (ps_for PassesOwn.never rfl (pi_range1 rfl B.range (pa_cons (pe_callB (cMax rfl) (by rfl) B.max bb_max (pa_cons pe_int (pa_cons (pe_callB (cMin rfl) (by rfl) B.min bb_min (pa_cons pe_int (pa_cons (pe_callB (kLen K rfl) (by rfl) B.len bb_len (pa_cons (pv 0) pa_nil)) pa_nil))) pa_nil))) pa_nil)) (pg_name (i := 1) nd rfl (by first | exact Or.inl rfl | exact Or.inr rfl)) (pss_cons (ps_set (i := 2) nd rfl (by first | exact Or.inl rfl | exact Or.inr rfl) (pe_c C._law_pool hr (by decide) rfl (pa_cons (pv 0) (pa_cons (pv 1) pa_nil))))
  (pss_cons (ps_asg (pe_c C._law_draw_graph hr (by decide) rfl (pa_cons (pv 2) (pa_cons pe_int pa_nil))) (kg_tup (n := 2) K rfl rfl (pgs_cons (pg_name (i := 3) nd rfl (by first | exact Or.inl rfl | exact Or.inr rfl)) (pgs_cons (pg_name (i := 4) nd rfl (by first | exact Or.inl rfl | exact Or.inr rfl)) pgs_nil))))
  (pss_cons (ps_set (i := 5) nd rfl (by first | exact Or.inl rfl | exact Or.inr rfl) (pe_c C._law_draw_pins hr (by decide) rfl (pa_cons (pv 2) (pa_cons (pv 3) pa_nil))))
  (pss_one (ps_for PassesOwn.never rfl (pi_range1 rfl B.range (pa_cons pe_int pa_nil)) (pg_name (i := 6) nd rfl (by first | exact Or.inl rfl | exact Or.inr rfl)) (pss_cons (ps_set (i := 7) nd rfl (by first | exact Or.inl rfl | exact Or.inr rfl) (pe_c C._law_draw_lift hr (by decide) rfl (pa_cons (pv 2) (pa_cons (pv 3) (pa_cons (pv 4) pa_nil)))))
  (pss_cons (ps_set (i := 8) nd rfl (by first | exact Or.inl rfl | exact Or.inr rfl) (pe_c C._law_is_fitting hr (by decide) rfl (pa_cons (pv 3) (pa_cons (pv 4) (pa_cons (pv 7) pa_nil)))))
  (pss_cons (ps_if (pt_cmpR (kNe K rfl hr.u64) (pe_callB (kReprV K rfl hr.g hr.u64) (by rfl) B.repr bb_repr (pa_cons (pe_c C.is_lift hr (by decide) rfl (pa_cons (pv 3) (pa_cons (pv 4) (pa_cons (pv 7) pa_nil)))) pa_nil)) (pe_callB (kReprV K rfl hr.g hr.u64) (by rfl) B.repr bb_repr (pa_cons (pv 8) pa_nil)) (nomark _)) (pss_one (ps_ret pe_bl)) pss_nil)
  (pss_cons (ps_setLc (i := 9) (own := [("_law_node", 10)]) rfl nd rfl rfl (sw_true rfl rfl rfl (by decide +kernel)) (ki_list K rfl (pe_c C._law_anchors_of hr (by decide) rfl (pa_cons (pv 3) (pa_cons (pv 4) (pa_cons (pv 5) pa_nil))))) (blkOk_by (own := [("_law_node", 10)]) (N := nN_law) (sc := defScope s_law) (by decide +kernel)) (fun _ _ _ _ _ => (pg_name (i := 10) nd rfl (by first | exact Or.inl rfl | exact Or.inr rfl))) (fun _ _ _ _ _ => (pts_one (pt_cmpR (kNe K rfl hr.u64) (pe_dget hu (pv 7) (pv 10) (fun _ _ => rfl)) pe_int (nomark _)))) (fun _ _ _ _ _ => (pv 10)))
  (pss_cons (ps_set (i := 11) nd rfl (by first | exact Or.inl rfl | exact Or.inr rfl) pe_non)
  (pss_cons (ps_set (i := 12) nd rfl (by first | exact Or.inl rfl | exact Or.inr rfl) pe_non)
  (pss_cons (ps_try_keep (i := 13) (Wout := fun _ _ _ _ => False) rfl rfl nd rfl rfl ⟨rfl, by decide, Or.inl TE.gC⟩ L2.takes0 (fun W pn xe tk _ => pss_one (ps_set (i := 12) nd rfl (Or.inl rfl) (pe_cKX C.perform_lift hr (by decide) rfl tk (pa_cons (pv 3) (pa_cons (pv 4) (pa_cons (pv 7) pa_nil))) (pk_cons (pv 5) pk_nil)))) (fun a pn => pss_one (ps_set (i := 11) nd rfl (Or.inl rfl) (pv 13))))
  (pss_cons (ps_if (PW.pt (pw_or (pt_not (pt_val (pv 8))) (pw_or1 (pt_cmpR (kNe K rfl hr.u64) (pv 9) (pe_lst pa_nil) (nomark _))))) (pss_cons (ps_if (PW.pt (pw_or (pt_cmpR uIs (pv 11) pe_non (nomark _)) (pw_or1 (PW.pt (pw_and (pt_cmpR (kNe K rfl hr.u64) (pe_xk (pv 11)) (pe_ix (kIx K rfl) (pe_op (kAdd K rfl) (pv 9) (pe_lst (pa_cons pe_non pa_nil))) pe_int (fun _ _ => rfl)) (nomark _)) (pw_and1 (pt_val (pv 8)))))))) (pss_one (ps_ret pe_bl)) pss_nil)
  (pss_cons (ps_if (PW.pt (pw_and (pt_cmpR uIsNot (pe_xk (pv 11)) pe_non (nomark _)) (pw_and1 (pt_not (pt_val (pv 8)))))) (pss_one (ps_ret pe_bl)) pss_nil)
  (pss_one ps_continue))) pss_nil)
  (pss_cons (ps_if (PW.pt (pw_or (pt_cmpR uIs (pv 12) pe_non (nomark _)) (pw_or1 (pt_cmpR (kNe K rfl hr.u64) (pe_callB (kLen K rfl) (by rfl) B.len bb_len (pa_cons (pv 12) pa_nil)) (pe_c C.lift_size hr (by decide) rfl (pa_cons (pv 7) pa_nil)) (nomark _))))) (pss_one (ps_ret pe_bl)) pss_nil)
  (pss_cons (ps_if (pt_cmpR (op_ne_dictA hr.u0) (pe_cK C.lift_of_moves hr (by decide) rfl pass0 (pa_cons (pv 3) (pa_cons (pv 4) (pa_cons (pv 12) pa_nil))) (pk_cons (pv 5) pk_nil)) (pv 7) (nomark _)) (pss_one (ps_ret pe_bl)) pss_nil)
  (pss_one (ps_if (pt_cmpR (op_ne_dictA hr.u0) (pe_cK C.apply_moves hr (by decide) rfl pass0 (pa_cons (pv 3) (pa_cons (pv 4) (pa_cons (pv 12) pa_nil))) (pk_cons (pv 5) pk_nil)) (pe_c C.apply_lift hr (by decide) rfl (pa_cons (pv 4) (pa_cons (pv 7) pa_nil))) (nomark _)) (pss_one (ps_ret pe_bl)) pss_nil))))))))))))))))))
  (pss_one (ps_ret pe_bl))), ?_⟩
    generalize [(T, qLam)] = TT at *
    wtm_at "rd"
    refine rd_lenL hs ?_
    rw [List.length_map]
    wtm_at "rd"
    refine turnsR (fun i σ H' => (∃ us : List (Option V), us.length = 13 ∧ σ = some (.ref a) :: us) ∧ SqL K H' a (nums.map V.int) ∧ Tabs TT H') ⟨⟨_, rfl, rfl⟩, hs, tabs⟩ ?_ ?_
    · rintro i σ H0 hi ⟨⟨us, lu, rfl⟩, hs, tabs⟩
      have hi : i < 64 := by omega
      obtain ⟨u1, u2, u3, u4, u5, u6, u7, u8, u9, u10, u11, u12, u13, rfl⟩ : ∃ u1 u2 u3 u4 u5 u6 u7 u8 u9 u10 u11 u12 u13, us = [u1, u2, u3, u4, u5, u6, u7, u8, u9, u10, u11, u12, u13] := by
        match us, lu with
        | [u1, u2, u3, u4, u5, u6, u7, u8, u9, u10, u11, u12, u13], _ => exact ⟨_, _, _, _, _, _, _, _, _, _, _, _, _, rfl⟩
      wtm_at "rd"
      refine ⟨a, nums, i, by rw [Int.zero_add], hs, by omega, fun p big seed np pok => ?_⟩
      have hp : PoolAt (upd H0 p (poolO big seed)) p := ⟨big, seed, upd_same, pok⟩
      have tb0 : Tabs TT (upd H0 p (poolO big seed)) := tabs.ext (Same.new np)
      have keep : ∀ {H' : Hp}, GoN TT p (upd H0 p (poolO big seed)) H' → SqL K H' a (nums.map V.int) := fun {H'} g => seqL_newN hs np g
      generalize upd H0 p (poolO big seed) = H1 at hp keep tb0
      clear hs tabs np pok
      wtm_at "rd"
      refine use_graphB hp (by decide) (by decide) fun t g n e st ns ord es f H2 g2 ht gs n1 n8 _ _ _ => ?_
      refine rd_unp (SqT.of ht) rfl ?_
      have x2 := GoN.of_go tb0 hp g2
      wtm_at "rd"
      refine ⟨p, g, n, e, st, ns, ord, es, f, rfl, g2.pool, gs, fun ps pn H3 g3 _ hps pin pl => ?_⟩
      have gs3 := gs.go g2.pool g3
      have x3 := x2.go g3
      clear gs g3 x2 g2 ht tb0 hp
      have l2 : ns.length ≤ 8 := by omega
      have oin : ∀ n ∈ ord, n ∈ ns := fun n hn => gs3.pm.mem_iff.mp hn
      have lor : ord.length ≤ 100 := by rw [gs3.pm.length_eq]; omega
      have hp3 := x3.pool
      wtm_at "rd"
      refine turnsR (fun j σ H' => ∃ u6 u7 u8 u9 u10 u11 u12 u13 : Option V, σ = [some (.ref a), some (.int (0 + (i : Int))), some (.ref p), some (.ref g), some (.ref st), some (.ref ps), u6, u7, u8, u9, u10, u11, u12, u13] ∧ GoN TT p H3 H') ⟨_, _, _, _, _, _, _, _, rfl, GoN.refl x3.pool x3.tabs⟩ ?_ ?_
      · rintro j σ H4 hj ⟨u6, u7, u8, u9, u10, u11, u12, u13, rfl, x4⟩
        wtm_at "rd"
        refine ⟨p, g, n, e, st, ns, ord, es, f, rfl, x4.pool, gs3.goN hp3 x4, n1, by omega, fun lf lo h H5 g5 _ hlf pml bd => ?_⟩
        have x5 := x4.go g5
        have szb : sz ns h ≤ 800 := by
          have := sz_bound (xs := ns) (h := h) (B := 19) fun x hx => by have := bd x hx; omega
          omega
        have zlo : sz lo h = sz ns h := sz_perm pml
        wtm_at "rd"
        refine ⟨g, n, e, st, lf, ns, ord, lo, es, f, h, rfl, gs3.goN hp3 x5, hlf, pml, fun H6 s6 => ?_⟩
        wtm_at "rd"
        refine ⟨g, n, e, st, lf, ns, ord, lo, es, f, h, rfl, gs3.goN hp3 (x5.same s6), s6 _ _ hlf, pml, fun H7 s7 => ?_⟩
        have edef : liftErr ns (es.map (·.2)) f h pn = if ((es.map (·.2)).all fun e => fitB f h e.1 e.2) = true then ((ancF ns (es.map (·.2)) f pn).find? fun y => decide (h y ≠ 0)).map V.str else some .non := rfl
        rw [find_head] at edef
        have al : (ancF ns (es.map (·.2)) f pn).length ≤ 8 := Nat.le_trans ancF_len l2
        have ain : ∀ y ∈ ancF ns (es.map (·.2)) f pn, y ∈ lo := fun y hy => pml.mem_iff.mpr (ancF_mem.mp hy).1
        have hlf7 := s7 _ _ (s6 _ _ hlf)
        have x7 := (x5.same s6).same s7
        clear hlf s6 s7 x5 x4 g5
        generalize ((es.map (·.2)).all fun e => fitB f h e.1 e.2) = fits at *
        wtm_at "rd"
        refine rd_reprV (.bl fits) ?_
        wtm_at "rd"
        refine rd_reprV (.bl fits) ?_
        wtm_at "rd"
        refine rd_nno rfl ?_
        wtm_at "rd"
        refine ⟨g, n, e, st, ps, ns, ord, pn, es, f, rfl, gs3.goN hp3 x7, SqT.of (x7.tu hp3 hps), fun aa H8 s8 _ hal => ?_⟩
        generalize ancF ns (es.map (·.2)) f pn = an at *
        have x8 := x7.same s8
        have hlf8 := s8 _ _ hlf7
        clear s8 x7 hlf7
        refine rd_forL (SqL.of hal) ?_
        intro Dd fD
        refine lcL (K := K) (xs := an.map V.str) (fun q H' => Same H8 H' ∧ H' Dd = some (.lst (((an.take q).filter fun y => decide (h y ≠ 0)).map V.str))) ⟨Same.new fD, upd_same⟩ ?_ ?_ ?_
        · rintro q H' hq ⟨sb, _⟩
          exact SqL.of (sb _ _ hal)
        · rintro q y H' hy ⟨sb, hD⟩
          obtain ⟨hq, rfl⟩ := map_at hy
          have oin := ain _ (List.getElem_mem hq)
          have lt : ((an.take q).filter fun y => decide (h y ≠ 0)).length ≤ 1000 := Nat.le_trans (List.length_filter_le _ _) (by rw [List.length_take]; omega)
          rw [take_snoc hq, List.filter_append, List.map_append]
          generalize an[q] = o at *
          wtm_at "rd"
          refine rd_dat (.inl (sb _ _ hlf8)) (kvF_val oin) rfl ?_
          wtm_at "rd"
          refine rd_nsplit (fun c1 => ?_) (fun c1 => ?_)
          · wtm_at "rd"
            refine rd_acc hD (by rw [List.length_map]; omega) ?_
            refine ⟨same_put sb fD, ?_⟩
            rw [upd_same, List.filter_cons, if_pos (decide_eq_true c1)]
            rfl
          · refine ⟨sb, ?_⟩
            rw [List.filter_cons, if_neg (by rw [decide_eq_false (fun z => z c1)]; exact Bool.false_ne_true)]
            exact hD.trans (by rw [List.filter_nil, List.map_nil, List.append_nil])
        rintro H9 ⟨s9, hD⟩
        rw [List.length_map, List.take_length] at hD
        have bl : (an.filter fun y => decide (h y ≠ 0)).length ≤ 8 := Nat.le_trans (List.length_filter_le _ _) al
        have bok : ∀ y ∈ an.filter (fun y => decide (h y ≠ 0)), PyData.strOk y = true := fun y hy => gs3.sok _ (pml.mem_iff.mp (ain _ (List.mem_filter.mp hy).1))
        generalize (an.filter fun y => decide (h y ≠ 0)) = bad at *
        have x9 := x8.same s9
        have hlf9 := s9 _ _ hlf8
        clear s9 x8 hlf8 fD hal
        wtm_at "rd"
        refine rd_cK2 ?_
        wtm_at "rd"
        refine use_perf (gs3.goN hp3 x9) hlf9 pml (SqT.of (x9.tu hp3 hps)) x9.tabs pin (fun v ev d HA xA tbA hd => ?_) (fun ev => ⟨szb, fun rl rms f' h' HA xA tbA nrl hrl trl pr z0 => ?_⟩)
        · refine ⟨true, TE.ex, (fun z => nomatch z), fun _ ae na => ?_⟩
          have k := Same.new (o := exk ae (.ref CE) (some d)) na
          have hae := @upd_same HA ae (exk ae (.ref CE) (some d))
          have hd2 := k _ _ hd
          have hDB := k _ _ (ExtN.li xA hD)
          have xB := (x9.ext xA tbA).same k
          generalize upd HA ae (exk ae (.ref CE) (some d)) = HB at hae hd2 hDB xB
          clear k na hd tbA xA x9 hlf9 hD
          cases fits with
          | false =>
            rw [if_neg Bool.false_ne_true] at edef
            obtain rfl : V.non = v := Option.some.inj (edef.symm.trans ev)
            wtm_at "rd"
            try refine rd_no (fun z => by cases z) ?_
            wtm_at "rd"
            refine rd_tXk3 ?_
            wtm_at "rd"
            refine ⟨ae, CE, d, _, .non, rfl, hae, TE.xf, TE.no, hd2, lk_3, ?_⟩
            wtm_at "rd"
            intro tn ftn
            have k2 := Same.new (o := .lst [.non]) ftn
            have hn := @upd_same HB tn (.lst [.non])
            have hD2 := k2 _ _ hDB
            have hae2 := k2 _ _ hae
            have hd3 := k2 _ _ hd2
            have xC := xB.same k2
            generalize upd HB tn (.lst [.non]) = HC at hn hD2 hae2 hd3 xC
            refine rd_catL hD2 hn (by rw [List.length_map]; show _ + 1 ≤ 100000; omega) ?_
            intro tm ftm
            have k3 := Same.new (o := .lst (bad.map V.str ++ [.non])) ftm
            have hm := @upd_same HC tm (.lst (bad.map V.str ++ [.non]))
            have hae3 := k3 _ _ hae2
            have hd4 := k3 _ _ hd3
            have xD := xC.same k3
            generalize upd HC tm (.lst (bad.map V.str ++ [.non])) = HD at hm hae3 hd4 xD
            clear hn hD2 hae2 hd3 xC hae hd2 hDB xB k2 k3 ftm ftn
            wtm_at "rd"
            cases bad with
            | nil =>
              refine rd_ixL (SqL.of hm) (v := .non) (atI_nat (j := 0) rfl) ?_
              refine rd_neNN ?_
              wtm_at "rd"
              refine rd_tXk3 ?_
              wtm_at "rd"
              refine ⟨ae, CE, d, _, .non, rfl, hae3, TE.xf, TE.no, hd4, lk_3, ?_⟩
              wtm_at "rd"
              try refine rd_nno rfl ?_
              wtm_at "rd"
              exact ⟨_, _, _, _, _, _, _, _, rfl, xD⟩
            | cons y r =>
              refine rd_ixL (SqL.of hm) (v := .str y) (atI_nat (j := 0) rfl) ?_
              refine rd_neNS ?_
              wtm_at "rd"
              try refine rd_F ?_
              wtm_at "rd"
              refine rd_tXk3 ?_
              wtm_at "rd"
              refine ⟨ae, CE, d, _, .non, rfl, hae3, TE.xf, TE.no, hd4, lk_3, ?_⟩
              wtm_at "rd"
              try refine rd_nno rfl ?_
              wtm_at "rd"
              exact ⟨_, _, _, _, _, _, _, _, rfl, xD⟩
          | true =>
            rw [if_pos rfl] at edef
            obtain ⟨y, r, rfl, rfl⟩ : ∃ y r, bad = y :: r ∧ v = .str y := by
              rw [edef] at ev
              cases bad with
              | nil => cases ev
              | cons y r => exact ⟨y, r, rfl, (Option.some.inj ev).symm⟩
            wtm_at "rd"
            intro tz ftz
            have k1 := Same.new (o := .lst []) ftz
            have hD1 := k1 _ _ hDB
            have hz := @upd_same HB tz (.lst [])
            have hae1 := k1 _ _ hae
            have hd1 := k1 _ _ hd2
            have xB1 := xB.same k1
            generalize upd HB tz (.lst []) = HB1 at hD1 hz hae1 hd1 xB1
            refine rd_neSL (ys := []) (SqL.of hD1) (SqL.of hz) bok (fun x hx => nomatch hx) ?_
            rw [show (!decide (y :: r = [])) = true from rfl]
            clear hDB hae hd2 xB k1 ftz hz
            wtm_at "rd"
            try refine rd_no (fun z => by cases z) ?_
            wtm_at "rd"
            refine rd_tXk3 ?_
            wtm_at "rd"
            refine ⟨ae, CE, d, _, .str y, rfl, hae1, TE.xf, TE.no, hd1, lk_3, ?_⟩
            wtm_at "rd"
            intro tn ftn
            have k2 := Same.new (o := .lst [.non]) ftn
            have hn := @upd_same HB1 tn (.lst [.non])
            have hD2 := k2 _ _ hD1
            have hae2 := k2 _ _ hae1
            have hd3 := k2 _ _ hd1
            have xC := xB1.same k2
            generalize upd HB1 tn (.lst [.non]) = HC at hn hD2 hae2 hd3 xC
            refine rd_catL hD2 hn (by rw [List.length_map]; show _ + 1 ≤ 100000; omega) ?_
            intro tm ftm
            have k3 := Same.new (o := .lst ((y :: r).map V.str ++ [.non])) ftm
            have hm := @upd_same HC tm (.lst ((y :: r).map V.str ++ [.non]))
            have hae3 := k3 _ _ hae2
            have hd4 := k3 _ _ hd3
            have xD := xC.same k3
            generalize upd HC tm (.lst ((y :: r).map V.str ++ [.non])) = HD at hm hae3 hd4 xD
            clear hn hD2 hae2 hd3 xC hae1 hd1 hD1 xB1 k2 k3 ftm ftn
            wtm_at "rd"
            refine rd_ixL (SqL.of hm) (v := .str y) (atI_nat (j := 0) rfl) ?_
            wtm_at "rd"
            refine rd_nno rfl ?_
            wtm_at "rd"
            refine rd_tXk3 ?_
            wtm_at "rd"
            refine ⟨ae, CE, d, _, .str y, rfl, hae3, TE.xf, TE.no, hd4, lk_3, ?_⟩
            wtm_at "rd"
            try refine rd_nyes (fun z => by cases z) ?_
            wtm_at "rd"
            exact ⟨_, _, _, _, _, _, _, _, rfl, xD⟩
        · obtain ⟨rfl, rfl⟩ : fits = true ∧ bad = [] := by
            rw [edef] at ev
            cases fits with
            | false => rw [if_neg Bool.false_ne_true] at ev; cases ev
            | true =>
              rw [if_pos rfl] at ev
              cases bad with
              | nil => exact ⟨rfl, rfl⟩
              | cons y r => cases ev
          have fe := liftErr_none pin (fun x hx => by obtain ⟨y, a, _⟩ := hx; exact (adj_in gs3.eok a).2.1) ev
          obtain ⟨ok', fe', szl, _, plr⟩ := pr.any.keeps gs3.eok gs3.nd fe
          have fin := pr.any.done gs3.eok gs3.nd fe z0
          have cnt := (pr.any.count gs3.eok gs3.nd fe).2
          obtain ⟨lq, fq⟩ := plays_seq plr
          rw [List.length_map] at szl
          have xA9 := x9.ext xA tbA
          have hlfA := ExtN.dk xA hlf9
          have hDA := ExtN.li xA hD
          clear xA tbA x9 hlf9 hD nrl
          wtm_at "rd"
          intro tz ftz
          have k1 := Same.new (o := .lst []) ftz
          have hD1 := k1 _ _ hDA
          have hz := @upd_same HA tz (.lst [])
          have xB := xA9.same k1
          have hlfB := k1 _ _ hlfA
          have hrlB := k1 _ _ hrl
          have trlB := trl.same k1
          generalize upd HA tz (.lst []) = HB at hD1 hz xB hlfB hrlB trlB
          refine rd_neSL (xs := []) (ys := []) (SqL.of hD1) (SqL.of hz) (fun x hx => nomatch hx) (fun x hx => nomatch hx) ?_
          rw [show (!decide (([] : List Str) = [])) = false from rfl]
          clear hDA hD1 hz k1 ftz xA9 hlfA hrl trl
          wtm_at "rd"
          try refine rd_no (fun z => by cases z) ?_
          wtm_at "rd"
          refine rd_lenL (SqL.of hrlB) ?_
          rw [List.length_map]
          wtm_at "rd"
          refine ⟨lf, lo, h, rfl, hlfB, by rw [pml.length_eq]; omega, fun HC sC => ?_⟩
          rw [zlo]
          wtm_at "rd"
          refine rd_nno (by omega) ?_
          wtm_at "rd"
          have xC := xB.same sC
          have hps' : ∀ {Hx : Hp}, GoN TT p H3 Hx → SqT K Hx ps (pn.map V.str) := fun x => SqT.of (x.tu hp3 hps)
          refine ⟨g, n, e, st, rl, ps, ns, ord, pn, es, f, rms, rfl, gs3.goN hp3 xC, sC _ _ hrlB, trlB.same sC, lq, hps' xC, fun d HD sD _ hd => ?_⟩
          wtm_at "rd"
          refine rd_neKG hd (sD _ _ (sC _ _ hlfB)) (by rw [pml.length_eq]) (fun x hx => ⟨pml.mem_iff.mpr hx, ?_⟩) ?_
          · have c1 := cnt x hx
            rw [sz_zero.mp z0 x hx] at c1
            omega
          wtm_at "rd"
          try refine rd_F ?_
          wtm_at "rd"
          have sBD := sC.trans sD
          have xD := xB.same sBD
          refine ⟨g, n, e, st, rl, ps, ns, ord, pn, es, f, rms, rfl, gs3.goN hp3 xD, sBD _ _ hrlB, trlB.same sBD, lq, hps' xD, fun d2 HE sE _ hd2 => ?_⟩
          have sBE := sBD.trans sE
          have xE := xB.same sBE
          wtm_at "rd"
          refine ⟨st, lf, ord, lo, f, h, rfl, (gs3.goN hp3 xE).st, sBE _ _ hlfB, lor, gs3.ndo, (fun x hx => pml.mem_iff.mpr (oin x hx)), fun d3 HF sF _ hd3 => ?_⟩
          wtm_at "rd"
          refine rd_neKF (sF _ _ hd2) hd3 (fun x hx => ?_) ?_
          · rw [← fq]
            exact fin x (oin x hx)
          wtm_at "rd"
          try refine rd_F ?_
          wtm_at "rd"
          exact ⟨_, _, _, _, _, _, _, _, rfl, xE.same sF⟩
      · rintro σ H4 ⟨u6, u7, u8, u9, u10, u11, u12, u13, rfl, x4⟩
        have x34 := x3.trans x4
        exact ⟨⟨_, rfl, rfl⟩, keep x34, x34.tabs⟩
    · rintro σ H' ⟨⟨us, lu, rfl⟩, hs, _⟩
      wtm_at "rd"
      exact q H'
end
end Law

/-! the law's own head, one table of code objects tracked -/
namespace U
open PySem PySem.Spec PyProof.Rows L2 LamX
theorem law_GT {P : Program} {w : World} {K : PySem.W.Frag} {mg mb : Str → Option Value} {k : Nat} {fa a c T : Addr} {fd : FuncData} {x : Str} {sp : Sp} {s₁ : Shared} {vs : List Value} {ns : List Int}
    (KX : K.In s₁.heap) (hns : s₁.heap.Ns mainGlobals mg) (hb : s₁.heap.Ns builtinsNs mb) (hbb : ∀ x : Str, x ≠ "__name__" → mb x = bootBuiltins x) (hlim : s₁.heap.NoLimit) (hg : s₁.gens = #[])
    (hT : s₁.heap.get? T = some { cls := .none, data := .fields #[] }) (nT : K.lookup T = none) (CH : PySem.W.CodeHd s₁.heap c T)
    (hbm : ∃ (bm : Addr) (ob : Obj), mg "__builtins__" = some (.ref bm) ∧ bm ≠ builtinsNs ∧ s₁.heap.get? bm = some ob ∧ ob.cls = .type "module" ∧ ob.dict = some builtinsNs ∧ ob.data = .plain)
    (ha : s₁.heap.get? a = some { cls := .type "list", data := .seq vs.toArray }) (hi : IntsAre vs ns) (hl : ns.length ≤ sizeLine) (hr : Room k callerA)
    (F : ∀ base : Heap, K.In base → base.Ns mainGlobals mg → TabB base mg c T → FnG P w K mg base CX0 k fa fd [x] sp) (hbind : ∀ (s : Shared) (u : Value), BindsTo s fd ⟨[u], []⟩ [(x, u)])
    (hsp : ∀ H : Hp, H T = some (.tbl #[]) → SqL K H a (ns.map V.int) → sp [.ref a] H (fun v _ => v = .bl true) fun _ _ _ => False) :
    codeAny (model P w) callerA (.call (.ref fa) ⟨[.ref a], []⟩) (fun r s' => r = .ok (.ret (.bool true)) ∧ OldK s₁.heap s'.heap ∧ s'.os = s₁.os ∧ AllBare s'.gens) s₁ := by
  have rv := vals_ints hi
  have lenV := hi.length
  have aT : a ≠ T := fun z => by
    rw [z, hT] at ha
    have := congrArg Obj.data (Option.some.inj ha)
    cases this
  have main : ∀ H : Hp, H T = some (.tbl #[]) → (∀ b, H b = none ∨ b = T ∨ ∃ o xs, H b = some (.frz o (.lst xs))) → SqL K H a (ns.map V.int) → HOk P w H s₁.heap → (∀ b, H b ≠ none → b = a ∨ b = T) → (H a ≠ none → K.lookup a = none) →
      codeAny (model P w) callerA (.call (.ref fa) ⟨[.ref a], []⟩) (fun r s' => r = .ok (.ret (.bool true)) ∧ OldK s₁.heap s'.heap ∧ s'.os = s₁.os ∧ AllBare s'.gens) s₁ := by
    intro H hH only seq ok two own
    have unseen : ∀ {b : Addr} {o : Obj}, s₁.heap.get? b = some o → (∀ vs n, o.data ≠ .seq vs n) → o.data ≠ .fields #[] → H b = none := by
      intro b o e d1 d2
      cases q : H b with
      | none => rfl
      | some u =>
        rcases two b (by rw [q]; simp) with rfl | rfl
        · obtain rfl := Option.some.inj (ha.symm.trans e)
          exact (d1 _ _ rfl).elim
        · obtain rfl := Option.some.inj (hT.symm.trans e)
          exact (d2 rfl).elim
    have stays : ∀ {b : Addr} {m : Str → Option Value}, s₁.heap.Ns b m → (hidT s₁.heap H).Ns b m := by
      rintro b m ⟨o, es, ep, e, d, r⟩
      exact ⟨o, es, ep, hidT_get e (unseen e (fun _ _ z => by rw [d] at z; cases z) fun z => by rw [d] at z; cases z), d, r⟩
    have kin : K.In (hidT s₁.heap H) := by
      intro b o e
      refine hidT_get (KX b o e) ?_
      cases q : H b with
      | none => rfl
      | some u =>
        rcases two b (by rw [q]; simp) with rfl | rfl
        · rw [own (by rw [q]; simp)] at e
          cases e
        · rw [nT] at e
          cases e
    have md : Mod K mg (hidT s₁.heap H) := ⟨kin, stays hns, ⟨mb, stays hb, hbb⟩, by
      obtain ⟨mc, h1, h2⟩ := hlim
      exact ⟨mc, stays h1, h2⟩⟩
    have tab : TabB (hidT s₁.heap H) mg c T := by
      refine ⟨?_, ?_, fun z => ?_⟩
      · obtain ⟨o, us, file, tf, flags, tg, inF, text, tt, e1, r1, r2, r3, r4, r5, r6, r7, r8, r9⟩ := CH
        refine ⟨o, us, file, tf, flags, tg, inF, text, tt, hidT_get e1 (unseen e1 (fun _ _ z => by rw [r2] at z; cases z) fun z => ?_), r1, r2, r3, r4, r5, r6, r7, r8, r9⟩
        rw [r2] at z
        obtain rfl := Data.fields.inj z
        simp at r3
      · obtain ⟨bm, ob, b1, b2, b3, b4, b5, b6⟩ := hbm
        refine ⟨bm, ob, b1, b2, fun z => ?_, fun z => ?_, hidT_get b3 (unseen b3 (fun _ _ z => by rw [b6] at z; cases z) fun z => by rw [b6] at z; cases z), b4, b5, b6⟩
        · obtain ⟨o, es, ep, e, hd, _⟩ := hns
          rw [z, e] at b3
          obtain rfl := Option.some.inj b3
          rw [hd] at b6
          cases b6
        · rw [z, hT] at b3
          obtain rfl := Option.some.inj b3
          cases b6
      · obtain ⟨o, es, ep, e, hd, _⟩ := hns
        rw [z, hT] at e
        obtain rfl := Option.some.inj e
        cases hd
    have e0 : Env0 P w K mg (hidT s₁.heap H) callerA [] s₁ H := ⟨rfl, md, fun b o e => of_hidT e, Nat.le_of_eq (hidT_size _ _), trivial, fun b z => (List.not_mem_nil z).elim, ok, .of_eq hg⟩
    refine codeAny_mono ((F _ kin (stays hns) tab).go callerA [] s₁ H ⟨[.ref a], []⟩ [.ref a] [.ref a] _ _ ⟨hr, rfl⟩ e0 (hbind s₁ (.ref a)) (.cons rfl .nil) (hsp H hH seq)) ?_
    intro r s' h
    cases r with
    | error e => exact h.elim
    | ok fl =>
      cases fl with
      | next => exact h.elim
      | brk => exact h.elim
      | cont => exact h.elim
      | ret u =>
        obtain ⟨v, H', os, bare, un, ok', r', q⟩ := h
        have q' : v = .bl true := q
        subst q'
        obtain rfl : u = Value.bool true := r'
        have key : ∀ b o, b ≠ T → s₁.heap.get? b = some o → s'.heap.get? b = some o := by
          intro b o nb e
          cases q : H b with
          | none => exact un.keep b o e q (fun z => (List.not_mem_nil z).elim) (fun z => (List.not_mem_nil z).elim)
          | some u =>
            rcases only b with z | z | ⟨ob, xs, z⟩
            · rw [q] at z; cases z
            · exact (nb z).elim
            · obtain ⟨e1, _⟩ := ok b _ z
              obtain ⟨e2, _⟩ := ok' b _ (un.frzs b ob _ z)
              exact (Option.some.inj (e1.symm.trans e)) ▸ e2
        obtain ⟨more, z⟩ := un.tbls T #[] hH
        have grown := ok' T _ z
        refine ⟨rfl, ⟨fun b o e => ?_, fun b o e => ?_⟩, os, bare⟩
        · by_cases hb : b = T
          · subst hb
            obtain rfl := Option.some.inj (hT.symm.trans e)
            exact .inr (.inl ⟨(CH.tab hT).isCodeTable, rfl, #[], _, rfl, grown⟩)
          · exact .inl (key b o hb e)
        · by_cases hb : b = T
          · subst hb
            exact ⟨_, grown⟩
          · exact ⟨o, key b o hb e⟩
  cases hk : K.lookup a with
  | some o =>
    obtain rfl := Option.some.inj (ha.symm.trans (KX a o hk))
    refine main (fun b => if b = T then some (.tbl #[]) else none) (if_pos rfl) (fun b => ?_) (.inr ⟨_, vs.toArray, _, hk, rfl, rfl, rfl, ?_, by simpa using rv⟩) (fun b u z => ?_) (fun b z => ?_) fun z => (z (if_neg aT)).elim
    · by_cases e : b = T
      · exact .inr (.inl e)
      · exact .inl (if_neg e)
    · rw [List.size_toArray, lenV]
      exact hl
    · by_cases e : b = T
      · subst e
        obtain rfl := Option.some.inj ((if_pos rfl).symm.trans z)
        exact hT
      · exact nomatch (if_neg e).symm.trans z
    · by_cases e : b = T
      · exact .inr e
      · exact absurd (if_neg e) z
  | none =>
    refine main (fun b => if b = a then some (.frz { cls := .type "list", data := .seq vs.toArray } (.lst (ns.map V.int))) else if b = T then some (.tbl #[]) else none) ((if_neg aT.symm).trans (if_pos rfl)) (fun b => ?_) (.inl (.inr ⟨_, if_pos rfl⟩)) (fun b u z => ?_) (fun b z => ?_) fun _ => hk
    · by_cases hb : b = a
      · exact .inr (.inr ⟨_, _, if_pos hb⟩)
      · by_cases e : b = T
        · exact .inr (.inl e)
        · exact .inl ((if_neg hb).trans (if_neg e))
    · by_cases hb : b = a
      · subst hb
        obtain rfl := Option.some.inj ((if_pos rfl).symm.trans z)
        exact ⟨ha, by rw [List.length_map]; exact hl, vs, _, rv, ha⟩
      · by_cases e : b = T
        · subst e
          obtain rfl := Option.some.inj (((if_neg hb).trans (if_pos rfl)).symm.trans z)
          exact hT
        · exact nomatch ((if_neg hb).trans (if_neg e)).symm.trans z
    · by_cases hb : b = a
      · exact .inl hb
      · by_cases e : b = T
        · exact .inr e
        · exact absurd ((if_neg hb).trans (if_neg e)) z
theorem walk_GT {l : PySem.W.OpenLaw} {n k : Nat} {q : Program} {loose : List Str} {XP : (Str → Option Value) → Heap → Prop} {YP : World → Heap → Prop} {d : DefRec} {K : Params → PySem.W.Frag} {sp : PySem.W.Frag → Addr → Sp} {x : Str}
    (hn : l.most = some n) (hn2 : n ≤ sizeLine) (hdf : d.params.defaults = []) (hr : Room k callerA)
    (hY : ∀ (w : World) (h : Heap), YP w h → (K w.params).In h)
    (F : ∀ (w : World) (mg : Str → Option Value) (fa : Addr) (h : Heap), YP w h → (K w.params).In h → h.Ns mainGlobals mg → mg d.name = some (.ref fa) →
      ∃ (fd : FuncData) (c T : Addr), h.get? T = some { cls := .none, data := .fields #[] } ∧ (K w.params).lookup T = none ∧ PySem.W.CodeHd h c T ∧ (∀ (s : Shared) (u : Value), BindsTo s fd ⟨[u], []⟩ [(x, u)]) ∧
        ∀ base : Heap, (K w.params).In base → base.Ns mainGlobals mg → TabB base mg c T → FnG l.prog w (K w.params) mg base CX0 k fa fd [x] (sp (K w.params) T))
    (hsp : ∀ (K : PySem.W.Frag) (T : Addr) (H : Hp) (a : Addr) (ns : List Int), ns.length ≤ n → H T = some (.tbl #[]) → SqL K H a (ns.map V.int) → sp K T [.ref a] H (fun v _ => v = .bl true) fun _ _ _ => False) :
    PySem.W.WalkO q loose XP YP l.row.toRowW d [] (fun f vs => PySem.call f vs) := by
  refine Att.attach_callB hn hdf ?_
  intro w s₀ s₁ mg mb fa o pm cd doc a vs ns G Y ho hd hcd hmg hobj hints hlen bits hg
  obtain ⟨fd, c, T, hT, nT, CH, hb, hF⟩ := F w mg fa _ Y (hY w _ Y) G.T.g hmg
  exact law_GT (hY w _ Y) G.T.g G.T.b G.T.builtins G.T.nolimit hg hT nT CH G.T.bmain hobj hints (Nat.le_trans hlen hn2) hr hF hb fun H h1 seq => hsp _ T H a ns hlen h1 seq
/-- the same, the table told by the fragment -/
theorem walk_GY {l : PySem.W.OpenLaw} {n k : Nat} {q : Program} {loose : List Str} {XP : (Str → Option Value) → Heap → Prop} {YP : World → Heap → Prop} {d dy : DefRec} {K : Params → PySem.W.Frag} {sp : PySem.W.Frag → Addr → Sp} {x y : Str}
    (hn : l.most = some n) (hn2 : n ≤ sizeLine) (hdf : d.params.defaults = []) (hr : Room k callerA) (hrec : (recsOf q).find? (fun e => e.name == y) = some dy)
    (hY : ∀ (w : World) (h : Heap), YP w h → (K w.params).In h)
    (F : ∀ (w : World) (mg : Str → Option Value) (fa : Addr) (h : Heap), (K w.params).In h → h.Ns mainGlobals mg → mg d.name = some (.ref fa) →
      ∃ (fd : FuncData) (c T : Addr), PySem.W.tabIn (K w.params) y = some (c, T) ∧ (K w.params).lookup T = none ∧ (∀ (s : Shared) (u : Value), BindsTo s fd ⟨[u], []⟩ [(x, u)]) ∧
        ∀ base : Heap, (K w.params).In base → base.Ns mainGlobals mg → TabB base mg c T → FnG l.prog w (K w.params) mg base CX0 k fa fd [x] (sp (K w.params) T))
    (hsp : ∀ (K : PySem.W.Frag) (T : Addr) (H : Hp) (a : Addr) (ns : List Int), ns.length ≤ n → H T = some (.tbl #[]) → SqL K H a (ns.map V.int) → sp K T [.ref a] H (fun v _ => v = .bl true) fun _ _ _ => False) :
    PySem.W.WalkO q loose XP YP l.row.toRowW d [] (fun f vs => PySem.call f vs) := by
  refine Att.attach_callB hn hdf ?_
  intro w s₀ s₁ mg mb fa o pm cd doc a vs ns G Y ho hd hcd hmg hobj hints hlen bits hg
  obtain ⟨fd, c, T, hin, nT, hb, hF⟩ := F w mg fa _ (hY w _ Y) G.T.g hmg
  obtain ⟨CH, hT⟩ := PySem.W.tab_of G.T (hY w _ Y) hrec hin
  exact law_GT (hY w _ Y) G.T.g G.T.b G.T.builtins G.T.nolimit hg hT nT CH G.T.bmain hobj hints (Nat.le_trans hlen hn2) hr hF hb fun H h1 seq => hsp _ T H a ns hlen h1 seq
end U
namespace U
open PySem PySem.Spec PyProof.Rows L2
theorem tab_mk {K : PySem.W.Frag} {x : Str} {f c T : Addr} {oc oc2 : Value} {od od2 : Option Addr} {fd : FuncData} {sl sl2 : Array (Option Value)} {vs : Array Value} (h1 : PySem.W.nsIn K mainGlobals x = some (some (.ref f))) (h2 : K.lookup f = some ⟨oc, od, .func fd, sl⟩) (h3 : fd.code = .ref c)
    (h4 : K.lookup c = some ⟨oc2, od2, .fields vs, sl2⟩) (h5 : (vs[11]? : Option Value) = some (.ref T)) : PySem.W.tabIn K x = some (c, T) := by
  unfold PySem.W.tabIn
  rw [h1]
  simp only
  rw [h2]
  simp only
  rw [h3]
  simp only
  rw [h4]
  simp only
  rw [h5]
end U

namespace Law
open PySem PySem.Spec PyProof.Rows L2 U LamX
theorem all_mk {l : PySem.W.OpenLaw} {w : World} {K : PySem.W.Frag} {h : Heap} {mg : Str → Option Value} {fa : Addr} (X : K.In h) (G : h.Ns mainGlobals mg) (hfa : mg "law" = some (.ref fa))
    {od0 an0 : Option Addr} {sl0 : Array (Option Value)} {f0 : Addr} {oc0 kV0 dc0 pm0 cd0 ct0 : Value}
    {od1 an1 : Option Addr} {sl1 : Array (Option Value)} {f1 : Addr} {oc1 kV1 dc1 pm1 cd1 ct1 : Value}
    {od2 an2 : Option Addr} {sl2 : Array (Option Value)} {f2 : Addr} {oc2 kV2 dc2 pm2 cd2 ct2 : Value}
    {od3 an3 : Option Addr} {sl3 : Array (Option Value)} {f3 : Addr} {oc3 kV3 dc3 pm3 cd3 ct3 : Value}
    {od4 an4 : Option Addr} {sl4 : Array (Option Value)} {f4 : Addr} {oc4 kV4 dc4 pm4 cd4 ct4 : Value}
    {od5 an5 : Option Addr} {sl5 : Array (Option Value)} {f5 : Addr} {oc5 kV5 dc5 pm5 cd5 ct5 : Value}
    {D6 T6 : Addr} {odT6 : Option Addr} {nT6 : Nat} {slT6 : Array (Option Value)}
    {od6 an6 : Option Addr} {sl6 : Array (Option Value)} {f6 : Addr} {oc6 dc6 pm6 cd6 ct6 : Value}
    {od7 an7 : Option Addr} {sl7 : Array (Option Value)} {f7 : Addr} {oc7 kV7 dc7 pm7 cd7 ct7 : Value}
    {od8 an8 : Option Addr} {sl8 : Array (Option Value)} {f8 : Addr} {oc8 kV8 dc8 pm8 cd8 ct8 : Value}
    {od9 an9 : Option Addr} {sl9 : Array (Option Value)} {f9 : Addr} {oc9 kV9 dc9 pm9 ct9 : Value} {C0 T0 : Addr} {ocC : Value} {odC : Option Addr} {vsC : Array Value} {slC : Array (Option Value)}
    {od10 an10 : Option Addr} {sl10 : Array (Option Value)} {f10 : Addr} {oc10 kV10 dc10 pm10 cd10 ct10 : Value}
    {od11 an11 : Option Addr} {sl11 : Array (Option Value)} {f11 : Addr} {oc11 kV11 dc11 pm11 cd11 ct11 : Value}
    {od12 an12 : Option Addr} {sl12 : Array (Option Value)} {f12 : Addr} {oc12 kV12 dc12 pm12 cd12 ct12 : Value}
    {od13 an13 : Option Addr} {sl13 : Array (Option Value)} {f13 : Addr} {oc13 kV13 dc13 pm13 cd13 ct13 : Value}
    {od14 an14 : Option Addr} {sl14 : Array (Option Value)} {f14 : Addr} {oc14 kV14 dc14 pm14 cd14 ct14 : Value}
    {od15 an15 : Option Addr} {sl15 : Array (Option Value)} {f15 : Addr} {oc15 kV15 dc15 pm15 cd15 ct15 : Value}
    {od16 an16 : Option Addr} {sl16 : Array (Option Value)} {f16 : Addr} {oc16 kV16 dc16 pm16 cd16 ct16 : Value}
    {D17 T17 : Addr} {odT17 : Option Addr} {nT17 : Nat} {slT17 : Array (Option Value)}
    {od17 an17 : Option Addr} {sl17 : Array (Option Value)} {f17 : Addr} {oc17 dc17 pm17 cd17 ct17 : Value}
    {od18 an18 : Option Addr} {sl18 : Array (Option Value)} {f18 : Addr} {oc18 kV18 dc18 pm18 cd18 ct18 : Value}
    {od19 an19 : Option Addr} {sl19 : Array (Option Value)} {f19 : Addr} {oc19 kV19 dc19 pm19 cd19 ct19 : Value}
    {od20 an20 : Option Addr} {sl20 : Array (Option Value)} {f20 : Addr} {oc20 kV20 dc20 pm20 cd20 ct20 : Value}
    {od21 an21 : Option Addr} {sl21 : Array (Option Value)} {f21 : Addr} {oc21 kV21 dc21 pm21 cd21 ct21 : Value}
    {od22 an22 : Option Addr} {sl22 : Array (Option Value)} {f22 : Addr} {oc22 kV22 dc22 pm22 cd22 ct22 : Value}
    {od23 an23 : Option Addr} {sl23 : Array (Option Value)} {f23 : Addr} {oc23 kV23 dc23 pm23 cd23 ct23 : Value}
    {TP23 : Addr} {odP23 : Option Addr} {nP23 : Nat} {slP23 : Array (Option Value)} {tp23 : Tok}
    {D24 T24 : Addr} {odT24 : Option Addr} {nT24 : Nat} {slT24 : Array (Option Value)}
    {od24 an24 : Option Addr} {sl24 : Array (Option Value)} {f24 : Addr} {oc24 dc24 pm24 cd24 ct24 : Value}
    {od25 an25 : Option Addr} {sl25 : Array (Option Value)} {f25 : Addr} {oc25 kV25 dc25 pm25 cd25 ct25 : Value}
    {od26 an26 : Option Addr} {sl26 : Array (Option Value)} {f26 : Addr} {oc26 kV26 dc26 pm26 cd26 ct26 : Value}
    {od27 an27 : Option Addr} {sl27 : Array (Option Value)} {f27 : Addr} {oc27 kV27 dc27 pm27 cd27 ct27 : Value}
    {od28 an28 : Option Addr} {sl28 : Array (Option Value)} {f28 : Addr} {oc28 kV28 dc28 pm28 cd28 ct28 : Value}
    {od29 an29 : Option Addr} {sl29 : Array (Option Value)} {f29 : Addr} {oc29 kV29 dc29 pm29 cd29 ct29 : Value}
    {od30 an30 : Option Addr} {sl30 : Array (Option Value)} {f30 : Addr} {oc30 kV30 dc30 pm30 cd30 ct30 : Value}
    {od31 an31 : Option Addr} {sl31 : Array (Option Value)} {f31 : Addr} {oc31 kV31 dc31 pm31 cd31 ct31 : Value}
    {od32 an32 : Option Addr} {sl32 : Array (Option Value)} {f32 : Addr} {oc32 kV32 dc32 pm32 cd32 ct32 : Value}
    {od33 an33 : Option Addr} {sl33 : Array (Option Value)} {f33 : Addr} {oc33 kV33 dc33 pm33 cd33 ct33 : Value}
    {od34 an34 : Option Addr} {sl34 : Array (Option Value)} {f34 : Addr} {oc34 kV34 dc34 pm34 cd34 ct34 : Value}
    {od35 an35 : Option Addr} {sl35 : Array (Option Value)} {f35 : Addr} {oc35 kV35 dc35 pm35 cd35 ct35 : Value}
    {od36 an36 : Option Addr} {sl36 : Array (Option Value)} {f36 : Addr} {oc36 kV36 dc36 pm36 cd36 ct36 : Value}
    {od37 an37 : Option Addr} {sl37 : Array (Option Value)} {f37 : Addr} {oc37 kV37 dc37 pm37 cd37 ct37 : Value}
    {od38 an38 : Option Addr} {sl38 : Array (Option Value)} {f38 : Addr} {oc38 kV38 dc38 pm38 cd38 ct38 : Value}
    {od39 an39 : Option Addr} {sl39 : Array (Option Value)} {f39 : Addr} {oc39 kV39 dc39 pm39 cd39 ct39 : Value}
    {od40 an40 : Option Addr} {sl40 : Array (Option Value)} {f40 : Addr} {oc40 kV40 dc40 pm40 cd40 ct40 : Value}
    {od41 an41 : Option Addr} {sl41 : Array (Option Value)} {f41 : Addr} {oc41 kV41 dc41 pm41 cd41 ct41 : Value}
    {tk0 : Tok}
    {tk1 : Tok}
    {va : Addr} {odV : Option Addr} {nV : Nat} {slV : Array (Option Value)} {q0 q1 q2 : Tok}
    {CB : Addr}
    {CE0 fE0 : Addr} {nmE0 qE0 : Str} {NE0 : Addr} {bsE0 : List Value} {snE0 : List Str} {subE0 : List Value} {abE0 : Bool} {colE0 : Option Bool} {ddE0 : Option Addr} {mA0 mB0 mC0 mD0 mE0 : Option Value} {odE0 anE0 : Option Addr} {slE0 : Array (Option Value)} {ocE0 kVE0 dcE0 pmE0 cdE0 ctE0 : Value}
    (a0 : PySem.W.nsIn K mainGlobals "has_node" = some (some (.ref f0))) (l0 : K.lookup f0 = some ⟨oc0, od0, .func (PySem.W.fnOf "has_node" "has_node" (defArgs s_has_node) (defBody s_has_node) (defScope s_has_node) .none kV0 dc0 pm0 an0 cd0 ct0), sl0⟩) (c0 : PySem.W.codeIn K cd0 "has_node" = true) (k0 : PySem.W.keepIn K (.ref f0) = true)
    (a1 : PySem.W.nsIn K mainGlobals "adjacency" = some (some (.ref f1))) (l1 : K.lookup f1 = some ⟨oc1, od1, .func (PySem.W.fnOf "adjacency" "adjacency" (defArgs s_adjacency) (defBody s_adjacency) (defScope s_adjacency) .none kV1 dc1 pm1 an1 cd1 ct1), sl1⟩) (c1 : PySem.W.codeIn K cd1 "adjacency" = true) (k1 : PySem.W.keepIn K (.ref f1) = true)
    (a2 : PySem.W.nsIn K mainGlobals "is_integer" = some (some (.ref f2))) (l2 : K.lookup f2 = some ⟨oc2, od2, .func (PySem.W.fnOf "is_integer" "is_integer" (defArgs s_is_integer) (defBody s_is_integer) (defScope s_is_integer) .none kV2 dc2 pm2 an2 cd2 ct2), sl2⟩) (c2 : PySem.W.codeIn K cd2 "is_integer" = true) (k2 : PySem.W.keepIn K (.ref f2) = true)
    (a3 : PySem.W.nsIn K mainGlobals "is_value" = some (some (.ref f3))) (l3 : K.lookup f3 = some ⟨oc3, od3, .func (PySem.W.fnOf "is_value" "is_value" (defArgs s_is_value) (defBody s_is_value) (defScope s_is_value) .none kV3 dc3 pm3 an3 cd3 ct3), sl3⟩) (c3 : PySem.W.codeIn K cd3 "is_value" = true) (k3 : PySem.W.keepIn K (.ref f3) = true)
    (a4 : PySem.W.nsIn K mainGlobals "values_for" = some (some (.ref f4))) (l4 : K.lookup f4 = some ⟨oc4, od4, .func (PySem.W.fnOf "values_for" "values_for" (defArgs s_values_for) (defBody s_values_for) (defScope s_values_for) .none kV4 dc4 pm4 an4 cd4 ct4), sl4⟩) (c4 : PySem.W.codeIn K cd4 "values_for" = true) (k4 : PySem.W.keepIn K (.ref f4) = true)
    (a5 : PySem.W.nsIn K mainGlobals "is_move" = some (some (.ref f5))) (l5 : K.lookup f5 = some ⟨oc5, od5, .func (PySem.W.fnOf "is_move" "is_move" (defArgs s_is_move) (defBody s_is_move) (defScope s_is_move) .none kV5 dc5 pm5 an5 cd5 ct5), sl5⟩) (c5 : PySem.W.codeIn K cd5 "is_move" = true) (k5 : PySem.W.keepIn K (.ref f5) = true)
    (a6 : PySem.W.nsIn K mainGlobals "apply_moves" = some (some (.ref f6))) (l6 : K.lookup f6 = some ⟨oc6, od6, .func (PySem.W.fnOf "apply_moves" "apply_moves" (defArgs s_apply_moves) (defBody s_apply_moves) (defScope s_apply_moves) .none (.ref D6) dc6 pm6 an6 cd6 ct6), sl6⟩) (c6 : PySem.W.codeIn K cd6 "apply_moves" = true) (k6 : PySem.W.keepIn K (.ref f6) = true)
    (d6 : PySem.W.nsIn K D6 "pinned" = some (some (.ref T6))) (t6 : K.lookup T6 = some ⟨.type "tuple", odT6, .seq #[] nT6, slT6⟩)
    (a7 : PySem.W.nsIn K mainGlobals "slope" = some (some (.ref f7))) (l7 : K.lookup f7 = some ⟨oc7, od7, .func (PySem.W.fnOf "slope" "slope" (defArgs s_slope) (defBody s_slope) (defScope s_slope) .none kV7 dc7 pm7 an7 cd7 ct7), sl7⟩) (c7 : PySem.W.codeIn K cd7 "slope" = true) (k7 : PySem.W.keepIn K (.ref f7) = true)
    (a8 : PySem.W.nsIn K mainGlobals "sloped_paths" = some (some (.ref f8))) (l8 : K.lookup f8 = some ⟨oc8, od8, .func (PySem.W.fnOf "sloped_paths" "sloped_paths" (defArgs s_sloped_paths) (defBody s_sloped_paths) (defScope s_sloped_paths) .none kV8 dc8 pm8 an8 cd8 ct8), sl8⟩) (c8 : PySem.W.codeIn K cd8 "sloped_paths" = true) (k8 : PySem.W.keepIn K (.ref f8) = true)
    (a9 : PySem.W.nsIn K mainGlobals "smallest_path" = some (some (.ref f9))) (l9 : K.lookup f9 = some ⟨oc9, od9, .func (PySem.W.fnOf "smallest_path" "smallest_path" (defArgs s_smallest_path) (defBody s_smallest_path) (defScope s_smallest_path) .none kV9 dc9 pm9 an9 (.ref C0) ct9), sl9⟩) (c9 : PySem.W.codeIn K (.ref C0) "smallest_path" = true) (k9 : PySem.W.keepIn K (.ref f9) = true) (tl0 : K.lookup C0 = some ⟨ocC, odC, .fields vsC, slC⟩) (tl1 : (vsC[11]? : Option Value) = some (.ref T0)) (ty1 : K.lookup T0 = none)
    (a10 : PySem.W.nsIn K mainGlobals "cycle_at" = some (some (.ref f10))) (l10 : K.lookup f10 = some ⟨oc10, od10, .func (PySem.W.fnOf "cycle_at" "cycle_at" (defArgs s_cycle_at) (defBody s_cycle_at) (defScope s_cycle_at) .none kV10 dc10 pm10 an10 cd10 ct10), sl10⟩) (c10 : PySem.W.codeIn K cd10 "cycle_at" = true) (k10 : PySem.W.keepIn K (.ref f10) = true)
    (a11 : PySem.W.nsIn K mainGlobals "cycle_nodes" = some (some (.ref f11))) (l11 : K.lookup f11 = some ⟨oc11, od11, .func (PySem.W.fnOf "cycle_nodes" "cycle_nodes" (defArgs s_cycle_nodes) (defBody s_cycle_nodes) (defScope s_cycle_nodes) .none kV11 dc11 pm11 an11 cd11 ct11), sl11⟩) (c11 : PySem.W.codeIn K cd11 "cycle_nodes" = true) (k11 : PySem.W.keepIn K (.ref f11) = true)
    (a12 : PySem.W.nsIn K mainGlobals "find_anchors" = some (some (.ref f12))) (l12 : K.lookup f12 = some ⟨oc12, od12, .func (PySem.W.fnOf "find_anchors" "find_anchors" (defArgs s_find_anchors) (defBody s_find_anchors) (defScope s_find_anchors) .none kV12 dc12 pm12 an12 cd12 ct12), sl12⟩) (c12 : PySem.W.codeIn K cd12 "find_anchors" = true) (k12 : PySem.W.keepIn K (.ref f12) = true)
    (a13 : PySem.W.nsIn K mainGlobals "is_number_dict" = some (some (.ref f13))) (l13 : K.lookup f13 = some ⟨oc13, od13, .func (PySem.W.fnOf "is_number_dict" "is_number_dict" (defArgs s_is_number_dict) (defBody s_is_number_dict) (defScope s_is_number_dict) .none kV13 dc13 pm13 an13 cd13 ct13), sl13⟩) (c13 : PySem.W.codeIn K cd13 "is_number_dict" = true) (k13 : PySem.W.keepIn K (.ref f13) = true)
    (a14 : PySem.W.nsIn K mainGlobals "fits_edge" = some (some (.ref f14))) (l14 : K.lookup f14 = some ⟨oc14, od14, .func (PySem.W.fnOf "fits_edge" "fits_edge" (defArgs s_fits_edge) (defBody s_fits_edge) (defScope s_fits_edge) .none kV14 dc14 pm14 an14 cd14 ct14), sl14⟩) (c14 : PySem.W.codeIn K cd14 "fits_edge" = true) (k14 : PySem.W.keepIn K (.ref f14) = true)
    (a15 : PySem.W.nsIn K mainGlobals "is_lift" = some (some (.ref f15))) (l15 : K.lookup f15 = some ⟨oc15, od15, .func (PySem.W.fnOf "is_lift" "is_lift" (defArgs s_is_lift) (defBody s_is_lift) (defScope s_is_lift) .none kV15 dc15 pm15 an15 cd15 ct15), sl15⟩) (c15 : PySem.W.codeIn K cd15 "is_lift" = true) (k15 : PySem.W.keepIn K (.ref f15) = true)
    (a16 : PySem.W.nsIn K mainGlobals "apply_lift" = some (some (.ref f16))) (l16 : K.lookup f16 = some ⟨oc16, od16, .func (PySem.W.fnOf "apply_lift" "apply_lift" (defArgs s_apply_lift) (defBody s_apply_lift) (defScope s_apply_lift) .none kV16 dc16 pm16 an16 cd16 ct16), sl16⟩) (c16 : PySem.W.codeIn K cd16 "apply_lift" = true) (k16 : PySem.W.keepIn K (.ref f16) = true)
    (a17 : PySem.W.nsIn K mainGlobals "lift_of_moves" = some (some (.ref f17))) (l17 : K.lookup f17 = some ⟨oc17, od17, .func (PySem.W.fnOf "lift_of_moves" "lift_of_moves" (defArgs s_lift_of_moves) (defBody s_lift_of_moves) (defScope s_lift_of_moves) .none (.ref D17) dc17 pm17 an17 cd17 ct17), sl17⟩) (c17 : PySem.W.codeIn K cd17 "lift_of_moves" = true) (k17 : PySem.W.keepIn K (.ref f17) = true)
    (d17 : PySem.W.nsIn K D17 "pinned" = some (some (.ref T17))) (t17 : K.lookup T17 = some ⟨.type "tuple", odT17, .seq #[] nT17, slT17⟩)
    (a18 : PySem.W.nsIn K mainGlobals "lift_size" = some (some (.ref f18))) (l18 : K.lookup f18 = some ⟨oc18, od18, .func (PySem.W.fnOf "lift_size" "lift_size" (defArgs s_lift_size) (defBody s_lift_size) (defScope s_lift_size) .none kV18 dc18 pm18 an18 cd18 ct18), sl18⟩) (c18 : PySem.W.codeIn K cd18 "lift_size" = true) (k18 : PySem.W.keepIn K (.ref f18) = true)
    (a19 : PySem.W.nsIn K mainGlobals "progress_value" = some (some (.ref f19))) (l19 : K.lookup f19 = some ⟨oc19, od19, .func (PySem.W.fnOf "progress_value" "progress_value" (defArgs s_progress_value) (defBody s_progress_value) (defScope s_progress_value) .none kV19 dc19 pm19 an19 cd19 ct19), sl19⟩) (c19 : PySem.W.codeIn K cd19 "progress_value" = true) (k19 : PySem.W.keepIn K (.ref f19) = true)
    (a20 : PySem.W.nsIn K mainGlobals "progress_moves_with" = some (some (.ref f20))) (l20 : K.lookup f20 = some ⟨oc20, od20, .func (PySem.W.fnOf "progress_moves_with" "progress_moves_with" (defArgs s_progress_moves_with) (defBody s_progress_moves_with) (defScope s_progress_moves_with) .none kV20 dc20 pm20 an20 cd20 ct20), sl20⟩) (c20 : PySem.W.codeIn K cd20 "progress_moves_with" = true) (k20 : PySem.W.keepIn K (.ref f20) = true)
    (a21 : PySem.W.nsIn K mainGlobals "closer_to_zero" = some (some (.ref f21))) (l21 : K.lookup f21 = some ⟨oc21, od21, .func (PySem.W.fnOf "closer_to_zero" "closer_to_zero" (defArgs s_closer_to_zero) (defBody s_closer_to_zero) (defScope s_closer_to_zero) .none kV21 dc21 pm21 an21 cd21 ct21), sl21⟩) (c21 : PySem.W.codeIn K cd21 "closer_to_zero" = true) (k21 : PySem.W.keepIn K (.ref f21) = true)
    (a22 : PySem.W.nsIn K mainGlobals "check_lift" = some (some (.ref f22))) (l22 : K.lookup f22 = some ⟨oc22, od22, .func (PySem.W.fnOf "check_lift" "check_lift" (defArgs s_check_lift) (defBody s_check_lift) (defScope s_check_lift) .none kV22 dc22 pm22 an22 cd22 ct22), sl22⟩) (c22 : PySem.W.codeIn K cd22 "check_lift" = true) (k22 : PySem.W.keepIn K (.ref f22) = true)
    (a23 : PySem.W.nsIn K mainGlobals "check_size" = some (some (.ref f23))) (l23 : K.lookup f23 = some ⟨oc23, od23, .func (PySem.W.fnOf "check_size" "check_size" (defArgs s_check_size) (defBody s_check_size) (defScope s_check_size) (.ref TP23) kV23 dc23 pm23 an23 cd23 ct23), sl23⟩) (c23 : PySem.W.codeIn K cd23 "check_size" = true) (k23 : PySem.W.keepIn K (.ref f23) = true)
    (dp23 : K.lookup TP23 = some ⟨.type "tuple", odP23, .seq #[.int 800 tp23] nP23, slP23⟩)
    (a24 : PySem.W.nsIn K mainGlobals "perform_lift" = some (some (.ref f24))) (l24 : K.lookup f24 = some ⟨oc24, od24, .func (PySem.W.fnOf "perform_lift" "perform_lift" (defArgs s_perform_lift) (defBody s_perform_lift) (defScope s_perform_lift) .none (.ref D24) dc24 pm24 an24 cd24 ct24), sl24⟩) (c24 : PySem.W.codeIn K cd24 "perform_lift" = true) (k24 : PySem.W.keepIn K (.ref f24) = true)
    (d24 : PySem.W.nsIn K D24 "pinned" = some (some (.ref T24))) (t24 : K.lookup T24 = some ⟨.type "tuple", odT24, .seq #[] nT24, slT24⟩)
    (a25 : PySem.W.nsIn K mainGlobals "_law_pool" = some (some (.ref f25))) (l25 : K.lookup f25 = some ⟨oc25, od25, .func (PySem.W.fnOf "_law_pool" "_law_pool" (defArgs s__law_pool) (defBody s__law_pool) (defScope s__law_pool) .none kV25 dc25 pm25 an25 cd25 ct25), sl25⟩) (c25 : PySem.W.codeIn K cd25 "_law_pool" = true) (k25 : PySem.W.keepIn K (.ref f25) = true)
    (a26 : PySem.W.nsIn K mainGlobals "_law_draw" = some (some (.ref f26))) (l26 : K.lookup f26 = some ⟨oc26, od26, .func (PySem.W.fnOf "_law_draw" "_law_draw" (defArgs s__law_draw) (defBody s__law_draw) (defScope s__law_draw) .none kV26 dc26 pm26 an26 cd26 ct26), sl26⟩) (c26 : PySem.W.codeIn K cd26 "_law_draw" = true) (k26 : PySem.W.keepIn K (.ref f26) = true)
    (a27 : PySem.W.nsIn K mainGlobals "_law_draw_names" = some (some (.ref f27))) (l27 : K.lookup f27 = some ⟨oc27, od27, .func (PySem.W.fnOf "_law_draw_names" "_law_draw_names" (defArgs s__law_draw_names) (defBody s__law_draw_names) (defScope s__law_draw_names) .none kV27 dc27 pm27 an27 cd27 ct27), sl27⟩) (c27 : PySem.W.codeIn K cd27 "_law_draw_names" = true) (k27 : PySem.W.keepIn K (.ref f27) = true)
    (a28 : PySem.W.nsIn K mainGlobals "_law_shuffle" = some (some (.ref f28))) (l28 : K.lookup f28 = some ⟨oc28, od28, .func (PySem.W.fnOf "_law_shuffle" "_law_shuffle" (defArgs s__law_shuffle) (defBody s__law_shuffle) (defScope s__law_shuffle) .none kV28 dc28 pm28 an28 cd28 ct28), sl28⟩) (c28 : PySem.W.codeIn K cd28 "_law_shuffle" = true) (k28 : PySem.W.keepIn K (.ref f28) = true)
    (a29 : PySem.W.nsIn K mainGlobals "_law_edge_of" = some (some (.ref f29))) (l29 : K.lookup f29 = some ⟨oc29, od29, .func (PySem.W.fnOf "_law_edge_of" "_law_edge_of" (defArgs s__law_edge_of) (defBody s__law_edge_of) (defScope s__law_edge_of) .none kV29 dc29 pm29 an29 cd29 ct29), sl29⟩) (c29 : PySem.W.codeIn K cd29 "_law_edge_of" = true) (k29 : PySem.W.keepIn K (.ref f29) = true)
    (a30 : PySem.W.nsIn K mainGlobals "_law_wants_edge" = some (some (.ref f30))) (l30 : K.lookup f30 = some ⟨oc30, od30, .func (PySem.W.fnOf "_law_wants_edge" "_law_wants_edge" (defArgs s__law_wants_edge) (defBody s__law_wants_edge) (defScope s__law_wants_edge) .none kV30 dc30 pm30 an30 cd30 ct30), sl30⟩) (c30 : PySem.W.codeIn K cd30 "_law_wants_edge" = true) (k30 : PySem.W.keepIn K (.ref f30) = true)
    (a31 : PySem.W.nsIn K mainGlobals "_law_draw_graph" = some (some (.ref f31))) (l31 : K.lookup f31 = some ⟨oc31, od31, .func (PySem.W.fnOf "_law_draw_graph" "_law_draw_graph" (defArgs s__law_draw_graph) (defBody s__law_draw_graph) (defScope s__law_draw_graph) .none kV31 dc31 pm31 an31 cd31 ct31), sl31⟩) (c31 : PySem.W.codeIn K cd31 "_law_draw_graph" = true) (k31 : PySem.W.keepIn K (.ref f31) = true)
    (a32 : PySem.W.nsIn K mainGlobals "_law_draw_pins" = some (some (.ref f32))) (l32 : K.lookup f32 = some ⟨oc32, od32, .func (PySem.W.fnOf "_law_draw_pins" "_law_draw_pins" (defArgs s__law_draw_pins) (defBody s__law_draw_pins) (defScope s__law_draw_pins) .none kV32 dc32 pm32 an32 cd32 ct32), sl32⟩) (c32 : PySem.W.codeIn K cd32 "_law_draw_pins" = true) (k32 : PySem.W.keepIn K (.ref f32) = true)
    (a33 : PySem.W.nsIn K mainGlobals "_law_neighbors_of" = some (some (.ref f33))) (l33 : K.lookup f33 = some ⟨oc33, od33, .func (PySem.W.fnOf "_law_neighbors_of" "_law_neighbors_of" (defArgs s__law_neighbors_of) (defBody s__law_neighbors_of) (defScope s__law_neighbors_of) .none kV33 dc33 pm33 an33 cd33 ct33), sl33⟩) (c33 : PySem.W.codeIn K cd33 "_law_neighbors_of" = true) (k33 : PySem.W.keepIn K (.ref f33) = true)
    (a34 : PySem.W.nsIn K mainGlobals "_law_slope_of" = some (some (.ref f34))) (l34 : K.lookup f34 = some ⟨oc34, od34, .func (PySem.W.fnOf "_law_slope_of" "_law_slope_of" (defArgs s__law_slope_of) (defBody s__law_slope_of) (defScope s__law_slope_of) .none kV34 dc34 pm34 an34 cd34 ct34), sl34⟩) (c34 : PySem.W.codeIn K cd34 "_law_slope_of" = true) (k34 : PySem.W.keepIn K (.ref f34) = true)
    (a35 : PySem.W.nsIn K mainGlobals "_law_is_fitting" = some (some (.ref f35))) (l35 : K.lookup f35 = some ⟨oc35, od35, .func (PySem.W.fnOf "_law_is_fitting" "_law_is_fitting" (defArgs s__law_is_fitting) (defBody s__law_is_fitting) (defScope s__law_is_fitting) .none kV35 dc35 pm35 an35 cd35 ct35), sl35⟩) (c35 : PySem.W.codeIn K cd35 "_law_is_fitting" = true) (k35 : PySem.W.keepIn K (.ref f35) = true)
    (a36 : PySem.W.nsIn K mainGlobals "_law_reach" = some (some (.ref f36))) (l36 : K.lookup f36 = some ⟨oc36, od36, .func (PySem.W.fnOf "_law_reach" "_law_reach" (defArgs s__law_reach) (defBody s__law_reach) (defScope s__law_reach) .none kV36 dc36 pm36 an36 cd36 ct36), sl36⟩) (c36 : PySem.W.codeIn K cd36 "_law_reach" = true) (k36 : PySem.W.keepIn K (.ref f36) = true)
    (a37 : PySem.W.nsIn K mainGlobals "_law_on_cycle" = some (some (.ref f37))) (l37 : K.lookup f37 = some ⟨oc37, od37, .func (PySem.W.fnOf "_law_on_cycle" "_law_on_cycle" (defArgs s__law_on_cycle) (defBody s__law_on_cycle) (defScope s__law_on_cycle) .none kV37 dc37 pm37 an37 cd37 ct37), sl37⟩) (c37 : PySem.W.codeIn K cd37 "_law_on_cycle" = true) (k37 : PySem.W.keepIn K (.ref f37) = true)
    (a38 : PySem.W.nsIn K mainGlobals "_law_anchors_of" = some (some (.ref f38))) (l38 : K.lookup f38 = some ⟨oc38, od38, .func (PySem.W.fnOf "_law_anchors_of" "_law_anchors_of" (defArgs s__law_anchors_of) (defBody s__law_anchors_of) (defScope s__law_anchors_of) .none kV38 dc38 pm38 an38 cd38 ct38), sl38⟩) (c38 : PySem.W.codeIn K cd38 "_law_anchors_of" = true) (k38 : PySem.W.keepIn K (.ref f38) = true)
    (a39 : PySem.W.nsIn K mainGlobals "_law_components_of" = some (some (.ref f39))) (l39 : K.lookup f39 = some ⟨oc39, od39, .func (PySem.W.fnOf "_law_components_of" "_law_components_of" (defArgs s__law_components_of) (defBody s__law_components_of) (defScope s__law_components_of) .none kV39 dc39 pm39 an39 cd39 ct39), sl39⟩) (c39 : PySem.W.codeIn K cd39 "_law_components_of" = true) (k39 : PySem.W.keepIn K (.ref f39) = true)
    (a40 : PySem.W.nsIn K mainGlobals "_law_draw_lift" = some (some (.ref f40))) (l40 : K.lookup f40 = some ⟨oc40, od40, .func (PySem.W.fnOf "_law_draw_lift" "_law_draw_lift" (defArgs s__law_draw_lift) (defBody s__law_draw_lift) (defScope s__law_draw_lift) .none kV40 dc40 pm40 an40 cd40 ct40), sl40⟩) (c40 : PySem.W.codeIn K cd40 "_law_draw_lift" = true) (k40 : PySem.W.keepIn K (.ref f40) = true)
    (a41 : PySem.W.nsIn K mainGlobals "law" = some (some (.ref f41))) (l41 : K.lookup f41 = some ⟨oc41, od41, .func (PySem.W.fnOf "law" "law" (defArgs s_law) (defBody s_law) (defScope s_law) .none kV41 dc41 pm41 an41 cd41 ct41), sl41⟩) (c41 : PySem.W.codeIn K cd41 "law" = true) (k41 : PySem.W.keepIn K (.ref f41) = true)
    (z0 : PySem.W.nsIn K mainGlobals "len" = some none)
    (z1 : PySem.W.nsIn K mainGlobals "abs" = some none)
    (z2 : PySem.W.nsIn K mainGlobals "max" = some none)
    (z3 : PySem.W.nsIn K mainGlobals "min" = some none)
    (z4 : PySem.W.nsIn K mainGlobals "sorted" = some none)
    (z5 : PySem.W.nsIn K mainGlobals "isinstance" = some none)
    (z6 : PySem.W.nsIn K mainGlobals "int" = some none)
    (z7 : PySem.W.nsIn K mainGlobals "list" = some none)
    (z8 : PySem.W.nsIn K mainGlobals "tuple" = some none)
    (z9 : PySem.W.nsIn K mainGlobals "str" = some none)
    (z10 : PySem.W.nsIn K mainGlobals "range" = some none)
    (z11 : PySem.W.nsIn K mainGlobals "enumerate" = some none)
    (z12 : PySem.W.nsIn K mainGlobals "dict" = some none)
    (z13 : PySem.W.nsIn K mainGlobals "sum" = some none)
    (z14 : PySem.W.nsIn K mainGlobals "all" = some none)
    (z15 : PySem.W.nsIn K mainGlobals "any" = some none)
    (z16 : PySem.W.nsIn K mainGlobals "repr" = some none)
    (z17 : PySem.W.nsIn K mainGlobals "set" = some none)
    (z18 : PySem.W.nsIn K mainGlobals "zip" = some none)
    (z19 : PySem.W.nsIn K mainGlobals "reversed" = some none)
    (z20 : PySem.W.nsIn K mainGlobals "bool" = some none)
    (w0 : PySem.W.nsIn K mainGlobals "UP" = some (some (.int 1 tk0)))
    (w1 : PySem.W.nsIn K mainGlobals "DOWN" = some (some (.int (-1) tk1)))
    (v0 : PySem.W.nsIn K mainGlobals "VALUES" = some (some (.ref va))) (v1 : K.lookup va = some ⟨.type "tuple", odV, .seq #[.int 0 q0, .int 1 q1, .int 2 q2] nV, slV⟩)
    (y0 : PySem.W.nsIn K mainGlobals "InputError" = some (some (.ref CB))) (y1 : PySem.W.keepIn K (.ref CB) = true) (y2 : PySem.W.subIn K (.ref CB) (.type "BaseException") = some true) (y3 : PySem.W.typeIn K (.ref CB) = some (.type "type")) (y4 : PySem.W.isClsIn K CB = true)
    (y5 : PySem.W.specialIn K (.ref CB) "__getattribute__" = some (some (.builtin "type.__getattribute__"))) (y6 : PySem.W.readsIn K CB (.type "type") = true) (y7 : PySem.W.findCls K (.ref CB) (.type "type") "__init__" = some (.val (.builtin "ValueError.__init__")))
    (xa0 : PySem.W.nsIn K mainGlobals "InvalidLift" = some (some (.ref CE0))) (xb0 : K.lookup CE0 = some (excClassObj nmE0 qE0 CE0 NE0 bsE0 [.ref CB, .type "ValueError", .type "Exception", .type "BaseException", .type "object"] true snE0 subE0 abE0 colE0 ddE0 mA0 mB0 mC0 mD0 mE0 "ValueError.__new__")) (xc0 : PySem.W.findIn K (.ref CE0) "__setattr__" = some (some (.builtin "object.__setattr__"))) (xd0 : PySem.W.findIn K (.ref CE0) "__getattribute__" = some (some (.builtin "BaseException.__getattribute__"))) (xe0 : PySem.W.findIn K (.ref CE0) "__getattr__" = some none) (xf0 : PySem.W.findIn K (.ref CE0) "node" = some none) (xg0 : PySem.W.findIn K (.ref CE0) "__init__" = some (some (.ref fE0))) (xh0 : PySem.W.typeIn K (.ref fE0) = some (.type "function")) (xi0 : K.lookup fE0 = some ⟨ocE0, odE0, .func (PySem.W.fnOf "__init__" "InvalidLift.__init__" (defArgs s_InvalidLift_init) (defBody s_InvalidLift_init) (defScope s_InvalidLift_init) .none kVE0 dcE0 pmE0 anE0 cdE0 ctE0), slE0⟩) (xj0 : PySem.W.codeIn K cdE0 "InvalidLift.__init__" = true) (xk0 : PySem.W.keepIn K (.ref fE0) = true) (xl0 : PySem.W.keepIn K (.ref CE0) = true) (xm0 : PySem.W.subIn K (.ref CE0) (.type "BaseException") = some true) (xn0 : PySem.W.typeIn K (.ref CE0) = some (.type "type")) (xo0 : PySem.W.hasDictIn K CE0 = true) (xp0 : PySem.W.isClsIn K CE0 = true) (xq0 : PySem.W.subIn K (.ref CE0) (.ref CE0) = some true) (xr0 : PySem.W.subIn K (.ref CE0) (.ref CB) = some true) :
    ∃ (fd : FuncData) (c T : Addr), PySem.W.tabIn K "smallest_path" = some (c, T) ∧ K.lookup T = none ∧ (∀ (s : Shared) (u : Value), BindsTo s fd ⟨[u], []⟩ [("_law_script", u)]) ∧ ∀ base : Heap, K.In base → base.Ns mainGlobals mg → TabB base mg c T → FnG l.prog w K mg base CX0 9 fa fd ["_law_script"] (spLaw K T) := by
  have e := hfa.symm.trans (PySem.W.mg_of X G a41)
  cases e
  have n_len := PySem.W.mg_none_of X G z0
  have n_abs := PySem.W.mg_none_of X G z1
  have n_max := PySem.W.mg_none_of X G z2
  have n_min := PySem.W.mg_none_of X G z3
  have n_sorted := PySem.W.mg_none_of X G z4
  have n_isinstance := PySem.W.mg_none_of X G z5
  have n_int := PySem.W.mg_none_of X G z6
  have n_list := PySem.W.mg_none_of X G z7
  have n_tuple := PySem.W.mg_none_of X G z8
  have n_str := PySem.W.mg_none_of X G z9
  have n_range := PySem.W.mg_none_of X G z10
  have n_enumerate := PySem.W.mg_none_of X G z11
  have n_dict := PySem.W.mg_none_of X G z12
  have n_sum := PySem.W.mg_none_of X G z13
  have n_all := PySem.W.mg_none_of X G z14
  have n_any := PySem.W.mg_none_of X G z15
  have n_repr := PySem.W.mg_none_of X G z16
  have n_set := PySem.W.mg_none_of X G z17
  have n_zip := PySem.W.mg_none_of X G z18
  have n_reversed := PySem.W.mg_none_of X G z19
  have n_bool := PySem.W.mg_none_of X G z20
  have B : Bt mg := { len := n_len, abs := n_abs, max := n_max, min := n_min, sorted := n_sorted, isinstance := n_isinstance, int := n_int, list := n_list, tuple := n_tuple, str := n_str, range := n_range, enumerate := n_enumerate, dict := n_dict, sum := n_sum, all := n_all, any := n_any, repr := n_repr, set := n_set, zip := n_zip, reversed := n_reversed }
  have g_UP : ∃ u, mg "UP" = some u ∧ RelV (.int 1) u := ⟨_, PySem.W.mg_of X G w0, ⟨_, rfl⟩⟩
  have g_DOWN : ∃ u, mg "DOWN" = some u ∧ RelV (.int (-1)) u := ⟨_, PySem.W.mg_of X G w1, ⟨_, rfl⟩⟩
  have hV := PySem.W.mg_of X G v0
  have sV : ∀ H, SqT K H va ([0, 1, 2].map V.int) := fun H => .inr ⟨_, _, _, v1, rfl, rfl, (by show 3 ≤ sizeLine; decide), .cons ⟨_, rfl⟩ (.cons ⟨_, rfl⟩ (.cons ⟨_, rfl⟩ .nil))⟩
  have F0 := fun_mk (st := s_has_node) l0 c0 k0
  have b0 := F0.binds (ps := ["graph", "candidate"]) fun _ _ _ _ _ _ us hl => match us, hl with | [_, _], _ => rfl
  have F1 := fun_mk (st := s_adjacency) l1 c1 k1
  have b1 := F1.binds (ps := ["graph"]) fun _ _ _ _ _ _ us hl => match us, hl with | [_], _ => rfl
  have F2 := fun_mk (st := s_is_integer) l2 c2 k2
  have b2 := F2.binds (ps := ["candidate"]) fun _ _ _ _ _ _ us hl => match us, hl with | [_], _ => rfl
  have F3 := fun_mk (st := s_is_value) l3 c3 k3
  have b3 := F3.binds (ps := ["candidate"]) fun _ _ _ _ _ _ us hl => match us, hl with | [_], _ => rfl
  have F4 := fun_mk (st := s_values_for) l4 c4 k4
  have b4 := F4.binds (ps := ["state", "node", "adjacent", "pinned"]) fun _ _ _ _ _ _ us hl => match us, hl with | [_, _, _, _], _ => rfl
  have F5 := fun_mk (st := s_is_move) l5 c5 k5
  have b5 := F5.binds (ps := ["graph", "state", "adjacent", "candidate", "pinned"]) fun _ _ _ _ _ _ us hl => match us, hl with | [_, _, _, _, _], _ => rfl
  have sT6 : ∀ H, SqT K H T6 [] := fun H => .inr ⟨_, _, _, t6, rfl, rfl, (by show 0 ≤ sizeLine; decide), .nil⟩
  have FD6 : FunD K "apply_moves" "apply_moves" (defArgs s_apply_moves) (defBody s_apply_moves) (defScope s_apply_moves) [] [("pinned", .ref T6)] f6 _ := ⟨⟨_, _, _, _, _, _, _, _, _, _, rfl, l6, c6, .inl ⟨rfl, rfl⟩, .inr ⟨D6, rfl, fun q hq => by
    rw [List.mem_singleton] at hq
    subst hq
    exact ⟨_, d6, rfl⟩⟩⟩, k6⟩
  obtain ⟨ds6, vd6, bd6⟩ := FD6.binds0 (ps := ["graph", "state", "moves", "pinned"]) 3 (by simp) rfl fun D doc pm an cdv ct us ks hu hk => match us, ks, hu, hk with | [_, _, _], [_], _, _ => ⟨_, _, _, _, _, _, rfl, rfl, rfl⟩
  have F6 := fun_mk (st := s_apply_moves) l6 c6 k6
  have F7 := fun_mk (st := s_slope) l7 c7 k7
  have b7 := F7.binds (ps := ["state", "node", "neighbor"]) fun _ _ _ _ _ _ us hl => match us, hl with | [_, _, _], _ => rfl
  have F8 := fun_mk (st := s_sloped_paths) l8 c8 k8
  have b8 := F8.binds (ps := ["graph", "state", "node", "direction"]) fun _ _ _ _ _ _ us hl => match us, hl with | [_, _, _, _], _ => rfl
  have F9 := fun_mk (st := s_smallest_path) l9 c9 k9
  have FC9 : FunC K "smallest_path" "smallest_path" s_smallest_path f9 _ C0 := ⟨⟨_, _, _, _, _, _, _, _, rfl, l9, c9⟩⟩
  have b9 := F9.binds (ps := ["paths"]) fun _ _ _ _ _ _ us hl => match us, hl with | [_], _ => rfl
  have F10 := fun_mk (st := s_cycle_at) l10 c10 k10
  have b10 := F10.binds (ps := ["graph", "state", "node"]) fun _ _ _ _ _ _ us hl => match us, hl with | [_, _, _], _ => rfl
  have F11 := fun_mk (st := s_cycle_nodes) l11 c11 k11
  have b11 := F11.binds (ps := ["graph", "state"]) fun _ _ _ _ _ _ us hl => match us, hl with | [_, _], _ => rfl
  have F12 := fun_mk (st := s_find_anchors) l12 c12 k12
  have b12 := F12.binds (ps := ["graph", "state", "pinned"]) fun _ _ _ _ _ _ us hl => match us, hl with | [_, _, _], _ => rfl
  have F13 := fun_mk (st := s_is_number_dict) l13 c13 k13
  have b13 := F13.binds (ps := ["graph", "candidate"]) fun _ _ _ _ _ _ us hl => match us, hl with | [_, _], _ => rfl
  have F14 := fun_mk (st := s_fits_edge) l14 c14 k14
  have b14 := F14.binds (ps := ["state", "lift", "one", "other"]) fun _ _ _ _ _ _ us hl => match us, hl with | [_, _, _, _], _ => rfl
  have F15 := fun_mk (st := s_is_lift) l15 c15 k15
  have b15 := F15.binds (ps := ["graph", "state", "candidate"]) fun _ _ _ _ _ _ us hl => match us, hl with | [_, _, _], _ => rfl
  have F16 := fun_mk (st := s_apply_lift) l16 c16 k16
  have b16 := F16.binds (ps := ["state", "lift"]) fun _ _ _ _ _ _ us hl => match us, hl with | [_, _], _ => rfl
  have sT17 : ∀ H, SqT K H T17 [] := fun H => .inr ⟨_, _, _, t17, rfl, rfl, (by show 0 ≤ sizeLine; decide), .nil⟩
  have FD17 : FunD K "lift_of_moves" "lift_of_moves" (defArgs s_lift_of_moves) (defBody s_lift_of_moves) (defScope s_lift_of_moves) [] [("pinned", .ref T17)] f17 _ := ⟨⟨_, _, _, _, _, _, _, _, _, _, rfl, l17, c17, .inl ⟨rfl, rfl⟩, .inr ⟨D17, rfl, fun q hq => by
    rw [List.mem_singleton] at hq
    subst hq
    exact ⟨_, d17, rfl⟩⟩⟩, k17⟩
  obtain ⟨ds17, vd17, bd17⟩ := FD17.binds0 (ps := ["graph", "state", "moves", "pinned"]) 3 (by simp) rfl fun D doc pm an cdv ct us ks hu hk => match us, ks, hu, hk with | [_, _, _], [_], _, _ => ⟨_, _, _, _, _, _, rfl, rfl, rfl⟩
  have F17 := fun_mk (st := s_lift_of_moves) l17 c17 k17
  have F18 := fun_mk (st := s_lift_size) l18 c18 k18
  have b18 := F18.binds (ps := ["lift"]) fun _ _ _ _ _ _ us hl => match us, hl with | [_], _ => rfl
  have F19 := fun_mk (st := s_progress_value) l19 c19 k19
  have b19 := F19.binds (ps := ["state", "adjacent", "node", "number"]) fun _ _ _ _ _ _ us hl => match us, hl with | [_, _, _, _], _ => rfl
  have F20 := fun_mk (st := s_progress_moves_with) l20 c20 k20
  have b20 := F20.binds (ps := ["graph", "state", "adjacent", "lift", "pinned"]) fun _ _ _ _ _ _ us hl => match us, hl with | [_, _, _, _, _], _ => rfl
  have F21 := fun_mk (st := s_closer_to_zero) l21 c21 k21
  have b21 := F21.binds (ps := ["number"]) fun _ _ _ _ _ _ us hl => match us, hl with | [_], _ => rfl
  have F22 := fun_mk (st := s_check_lift) l22 c22 k22
  have b22 := F22.binds (ps := ["graph", "state", "lift", "pinned"]) fun _ _ _ _ _ _ us hl => match us, hl with | [_, _, _, _], _ => rfl
  have F23 : FunP K "check_size" "check_size" s_check_size f23 _ := ⟨⟨_, _, _, _, _, _, _, _, _, _, rfl, l23, c23⟩⟩
  have FD23 : FunD K "check_size" "check_size" (defArgs s_check_size) (defBody s_check_size) (defScope s_check_size) [.int 800] [] f23 _ := ⟨⟨_, _, _, _, _, _, _, _, _, _, rfl, l23, c23, .inr ⟨by simp, TP23, _, [.int 800 tp23], _, rfl, dp23, rfl, .cons ⟨_, rfl⟩ .nil⟩, .inl rfl⟩, k23⟩
  obtain ⟨ds23, vd23, bd23⟩ := FD23.binds1 (ps := ["lift", "limit"]) 1 0 (by simp) rfl fun T kV doc pm an cdv ct us its hu hi => match us, its, hu, hi with | [_], [_], _, _ => ⟨_, rfl, rfl⟩
  have sT24 : ∀ H, SqT K H T24 [] := fun H => .inr ⟨_, _, _, t24, rfl, rfl, (by show 0 ≤ sizeLine; decide), .nil⟩
  have FD24 : FunD K "perform_lift" "perform_lift" (defArgs s_perform_lift) (defBody s_perform_lift) (defScope s_perform_lift) [] [("pinned", .ref T24)] f24 _ := ⟨⟨_, _, _, _, _, _, _, _, _, _, rfl, l24, c24, .inl ⟨rfl, rfl⟩, .inr ⟨D24, rfl, fun q hq => by
    rw [List.mem_singleton] at hq
    subst hq
    exact ⟨_, d24, rfl⟩⟩⟩, k24⟩
  obtain ⟨ds24, vd24, bd24⟩ := FD24.binds0 (ps := ["graph", "state", "lift", "pinned"]) 3 (by simp) rfl fun D doc pm an cdv ct us ks hu hk => match us, ks, hu, hk with | [_, _, _], [_], _, _ => ⟨_, _, _, _, _, _, rfl, rfl, rfl⟩
  have F24 := fun_mk (st := s_perform_lift) l24 c24 k24
  have F25 := fun_mk (st := s__law_pool) l25 c25 k25
  have b25 := F25.binds (ps := ["_law_script", "_law_k"]) fun _ _ _ _ _ _ us hl => match us, hl with | [_, _], _ => rfl
  have F26 := fun_mk (st := s__law_draw) l26 c26 k26
  have b26 := F26.binds (ps := ["_law_pool_here", "_law_many"]) fun _ _ _ _ _ _ us hl => match us, hl with | [_, _], _ => rfl
  have F27 := fun_mk (st := s__law_draw_names) l27 c27 k27
  have b27 := F27.binds (ps := ["_law_pool_here", "_law_many"]) fun _ _ _ _ _ _ us hl => match us, hl with | [_, _], _ => rfl
  have F28 := fun_mk (st := s__law_shuffle) l28 c28 k28
  have b28 := F28.binds (ps := ["_law_pool_here", "_law_some"]) fun _ _ _ _ _ _ us hl => match us, hl with | [_, _], _ => rfl
  have F29 := fun_mk (st := s__law_edge_of) l29 c29 k29
  have b29 := F29.binds (ps := ["_law_one", "_law_other"]) fun _ _ _ _ _ _ us hl => match us, hl with | [_, _], _ => rfl
  have F30 := fun_mk (st := s__law_wants_edge) l30 c30 k30
  have b30 := F30.binds (ps := ["_law_pool_here", "_law_kind", "_law_at", "_law_position", "_law_many"]) fun _ _ _ _ _ _ us hl => match us, hl with | [_, _, _, _, _], _ => rfl
  have F31 := fun_mk (st := s__law_draw_graph) l31 c31 k31
  have b31 := F31.binds (ps := ["_law_pool_here", "_law_most"]) fun _ _ _ _ _ _ us hl => match us, hl with | [_, _], _ => rfl
  have F32 := fun_mk (st := s__law_draw_pins) l32 c32 k32
  have b32 := F32.binds (ps := ["_law_pool_here", "_law_graph"]) fun _ _ _ _ _ _ us hl => match us, hl with | [_, _], _ => rfl
  have F33 := fun_mk (st := s__law_neighbors_of) l33 c33 k33
  have b33 := F33.binds (ps := ["_law_graph", "_law_node"]) fun _ _ _ _ _ _ us hl => match us, hl with | [_, _], _ => rfl
  have F34 := fun_mk (st := s__law_slope_of) l34 c34 k34
  have b34 := F34.binds (ps := ["_law_state", "_law_one", "_law_other"]) fun _ _ _ _ _ _ us hl => match us, hl with | [_, _, _], _ => rfl
  have F35 := fun_mk (st := s__law_is_fitting) l35 c35 k35
  have b35 := F35.binds (ps := ["_law_graph", "_law_state", "_law_lift"]) fun _ _ _ _ _ _ us hl => match us, hl with | [_, _, _], _ => rfl
  have F36 := fun_mk (st := s__law_reach) l36 c36 k36
  have b36 := F36.binds (ps := ["_law_graph", "_law_state", "_law_node", "_law_direction"]) fun _ _ _ _ _ _ us hl => match us, hl with | [_, _, _, _], _ => rfl
  have F37 := fun_mk (st := s__law_on_cycle) l37 c37 k37
  have b37 := F37.binds (ps := ["_law_graph", "_law_state", "_law_node"]) fun _ _ _ _ _ _ us hl => match us, hl with | [_, _, _], _ => rfl
  have F38 := fun_mk (st := s__law_anchors_of) l38 c38 k38
  have b38 := F38.binds (ps := ["_law_graph", "_law_state", "_law_pins"]) fun _ _ _ _ _ _ us hl => match us, hl with | [_, _, _], _ => rfl
  have F39 := fun_mk (st := s__law_components_of) l39 c39 k39
  have b39 := F39.binds (ps := ["_law_graph"]) fun _ _ _ _ _ _ us hl => match us, hl with | [_], _ => rfl
  have F40 := fun_mk (st := s__law_draw_lift) l40 c40 k40
  have b40 := F40.binds (ps := ["_law_pool_here", "_law_graph", "_law_state"]) fun _ _ _ _ _ _ us hl => match us, hl with | [_, _, _], _ => rfl
  have F41 := fun_mk (st := s_law) l41 c41 k41
  have b41 := F41.binds (ps := ["_law_script"]) fun _ _ _ _ _ _ us hl => match us, hl with | [_], _ => rfl
  have own0 := own_mk (x := "InvalidLift") (f := "node") (PySem.W.mg_of X G xa0) (PySem.W.mg_of X G y0) xb0 xc0 xd0 xe0 xf0 xg0 xh0 xl0 xm0 xn0 xo0 xp0 xq0 y1 y2 y3 y4 xr0 y5 y6 y7
  have FE0 := fun_mk (st := s_InvalidLift_init) xi0 xj0 xk0
  have bE0 := FE0.binds (ps := ["self", "node"]) fun _ _ _ _ _ _ us hl => match us, hl with | [_, _], _ => rfl
  refine ⟨PySem.W.fnOf "law" "law" (defArgs s_law) (defBody s_law) (defScope s_law) .none kV41 dc41 pm41 an41 cd41 ct41, C0, T0, tab_mk a9 l9 rfl tl0 tl1, ty1, fun s v => .of_eq rfl, fun base _ _ TB => ?_⟩
  have err0 : ErrX l.prog w K mg base "InvalidLift" "node" CE0 CB := ⟨⟨_, _, own0, ok_initL2 FE0 own0, bE0⟩⟩
  have c_has_node : Cal l.prog w K mg base (CX0) 1 "has_node" (spHas) := ⟨⟨_, _, _, ok_has F0 B, PySem.W.mg_of X G a0, k0, b0⟩⟩
  have c_adjacency : Cal l.prog w K mg base (CX0) 1 "adjacency" (spAdj) := ⟨⟨_, _, _, ok_adj F1 B, PySem.W.mg_of X G a1, k1, b1⟩⟩
  have c_is_integer : Cal l.prog w K mg base (CX0) 1 "is_integer" (spIsInt K) := ⟨⟨_, _, _, ok_is_integer F2 B n_bool, PySem.W.mg_of X G a2, k2, b2⟩⟩
  have c_is_value : Cal l.prog w K mg base (CX0) 2 "is_value" (spIsVal) := ⟨⟨_, _, _, ok_is_value F3 B ⟨c_is_integer⟩, PySem.W.mg_of X G a3, k3, b3⟩⟩
  have c_values_for : Cal l.prog w K mg base (CX0) 1 "values_for" (spVals K) := ⟨⟨_, _, _, ok_vals F4 B hV sV, PySem.W.mg_of X G a4, k4, b4⟩⟩
  have c_is_move : Cal l.prog w K mg base (CX0) 3 "is_move" (spIsMove K) := ⟨⟨_, _, _, ok_is_move F5 B ⟨c_has_node, c_is_value, c_values_for⟩, PySem.W.mg_of X G a5, k5, b5⟩⟩
  have c_apply_moves : CalK l.prog w K mg base (CX0) 4 "apply_moves" 3 ["pinned"] (spApply K) := ⟨⟨_, _, ["graph", "state", "moves", "pinned"], ok_apply F6 B ⟨c_adjacency, c_is_move⟩, PySem.W.mg_of X G a6, k6, fun us ws hu hw => match us, ws, hu, hw with | [_, _, _], [_], _, _ => rfl⟩⟩
  have e_apply_moves : CalD l.prog w K mg base (CX0) 4 "apply_moves" [.ref T6] (spApply K) := ⟨⟨_, _, _, ds6, ok_apply F6 B ⟨c_adjacency, c_is_move⟩, PySem.W.mg_of X G a6, k6, vd6, bd6⟩⟩
  have c_slope : Cal l.prog w K mg base (CX0) 1 "slope" (spSlope) := ⟨⟨_, _, _, ok_slope F7 B ⟨g_UP, g_DOWN⟩, PySem.W.mg_of X G a7, k7, b7⟩⟩
  have c_sloped_paths : Cal l.prog w K mg base (CX0) 2 "sloped_paths" (spSloped) := ⟨⟨_, _, _, ok_sloped F8 B ⟨c_adjacency, c_slope⟩, PySem.W.mg_of X G a8, k8, b8⟩⟩
  have c_smallest_path : Cal l.prog w K mg base (CX0) 3 "smallest_path" (spSmall [(T0, qLam)]) := ⟨⟨_, _, _, ok_small FC9 n_min n_len TB (List.mem_singleton.mpr rfl) (fun y hy _ => by rw [List.mem_singleton.mp hy]; rfl), PySem.W.mg_of X G a9, k9, b9⟩⟩
  have c_cycle_at : Cal l.prog w K mg base (CX0) 4 "cycle_at" (spCycAt [(T0, qLam)]) := ⟨⟨_, _, _, ok_cycle_at F10 B ⟨c_adjacency, c_slope, c_sloped_paths, c_smallest_path, g_UP⟩, PySem.W.mg_of X G a10, k10, b10⟩⟩
  have c_cycle_nodes : Cal l.prog w K mg base (CX0) 5 "cycle_nodes" (spCycNodes [(T0, qLam)]) := ⟨⟨_, _, _, ok_cycle_nodes F11 B ⟨c_cycle_at⟩, PySem.W.mg_of X G a11, k11, b11⟩⟩
  have c_find_anchors : Cal l.prog w K mg base (CX0) 6 "find_anchors" (spFindAnchO K [(T0, qLam)]) := ⟨⟨_, _, _, ok_find_anchorsO F12 B ⟨c_cycle_nodes⟩, PySem.W.mg_of X G a12, k12, b12⟩⟩
  have c_is_number_dict : Cal l.prog w K mg base (CX0) 2 "is_number_dict" (spNumG) := ⟨⟨_, _, _, ok_numG F13 B ⟨c_is_integer, c_slope, g_UP⟩, PySem.W.mg_of X G a13, k13, b13⟩⟩
  have c_fits_edge : Cal l.prog w K mg base (CX0) 2 "fits_edge" (spFit) := ⟨⟨_, _, _, ok_fit F14 B ⟨c_is_integer, c_slope, g_UP⟩, PySem.W.mg_of X G a14, k14, b14⟩⟩
  have c_is_lift : Cal l.prog w K mg base (CX0) 3 "is_lift" (spIsLiftG) := ⟨⟨_, _, _, ok_is_liftG F15 B ⟨c_is_number_dict, c_fits_edge⟩, PySem.W.mg_of X G a15, k15, b15⟩⟩
  have c_apply_lift : Cal l.prog w K mg base (CX0) 1 "apply_lift" (spApl) := ⟨⟨_, _, _, ok_apl F16 B, PySem.W.mg_of X G a16, k16, b16⟩⟩
  have c_lift_of_moves : CalK l.prog w K mg base (CX0) 5 "lift_of_moves" 3 ["pinned"] (spLomN K) := ⟨⟨_, _, ["graph", "state", "moves", "pinned"], ok_lomN F17 B ⟨c_apply_moves⟩, PySem.W.mg_of X G a17, k17, fun us ws hu hw => match us, ws, hu, hw with | [_, _, _], [_], _, _ => rfl⟩⟩
  have e_lift_of_moves : CalD l.prog w K mg base (CX0) 5 "lift_of_moves" [.ref T17] (spLomN K) := ⟨⟨_, _, _, ds17, ok_lomN F17 B ⟨c_apply_moves⟩, PySem.W.mg_of X G a17, k17, vd17, bd17⟩⟩
  have c_lift_size : Cal l.prog w K mg base (CX0) 1 "lift_size" (spSize) := ⟨⟨_, _, _, ok_size2 F18 B, PySem.W.mg_of X G a18, k18, b18⟩⟩
  have c_progress_value : Cal l.prog w K mg base (CX0) 2 "progress_value" (spPval) := ⟨⟨_, _, _, ok_pval F19 B ⟨c_slope, g_UP, g_DOWN⟩, PySem.W.mg_of X G a19, k19, b19⟩⟩
  have c_progress_moves_with : Cal l.prog w K mg base (CX0) 3 "progress_moves_with" (spPwithG K) := ⟨⟨_, _, _, ok_pwithG F20 B ⟨c_progress_value⟩, PySem.W.mg_of X G a20, k20, b20⟩⟩
  have c_closer_to_zero : Cal l.prog w K mg base (CX0) 1 "closer_to_zero" (spCloser) := ⟨⟨_, _, _, ok_closer F21 B, PySem.W.mg_of X G a21, k21, b21⟩⟩
  have c_check_lift : Cal l.prog w K mg base (L2.CX l.prog w) 7 "check_lift" (spCheckLiftX K [(T0, qLam)] CE0) := ⟨⟨_, _, _, ok_check_liftX F22 B ⟨c_is_lift, c_find_anchors⟩ err0, PySem.W.mg_of X G a22, k22, b22⟩⟩
  have e_check_size : CalD l.prog w K mg base (CX0) 2 "check_size" [.int 800] (spCheckSize) := ⟨⟨_, _, _, ds23, ok_check_size F23 B ⟨c_lift_size⟩, PySem.W.mg_of X G a23, k23, vd23, bd23⟩⟩
  have c_perform_lift : CalK l.prog w K mg base (L2.CX l.prog w) 8 "perform_lift" 3 ["pinned"] (spPerfX K [(T0, qLam)] CE0) := ⟨⟨_, _, ["graph", "state", "lift", "pinned"], ok_performX F24 B ⟨c_check_lift, e_check_size, c_adjacency, c_progress_moves_with, c_closer_to_zero⟩, PySem.W.mg_of X G a24, k24, fun us ws hu hw => match us, ws, hu, hw with | [_, _, _], [_], _, _ => rfl⟩⟩
  have e_perform_lift : CalD l.prog w K mg base (L2.CX l.prog w) 8 "perform_lift" [.ref T24] (spPerfX K [(T0, qLam)] CE0) := ⟨⟨_, _, _, ds24, ok_performX F24 B ⟨c_check_lift, e_check_size, c_adjacency, c_progress_moves_with, c_closer_to_zero⟩, PySem.W.mg_of X G a24, k24, vd24, bd24⟩⟩
  have c__law_pool : Cal l.prog w K mg base (CX0) 1 "_law_pool" (spPool K) := ⟨⟨_, _, _, ok_pool F25 B, PySem.W.mg_of X G a25, k25, b25⟩⟩
  have c__law_draw : Cal l.prog w K mg base (CX0) 1 "_law_draw" (spDraw) := ⟨⟨_, _, _, ok_draw F26 B, PySem.W.mg_of X G a26, k26, b26⟩⟩
  have c__law_draw_names : Cal l.prog w K mg base (CX0) 2 "_law_draw_names" (spNames) := ⟨⟨_, _, _, ok_names F27 B ⟨c__law_draw⟩, PySem.W.mg_of X G a27, k27, b27⟩⟩
  have c__law_shuffle : Cal l.prog w K mg base (CX0) 2 "_law_shuffle" (spShuf K) := ⟨⟨_, _, _, ok_shuffle F28 B ⟨c__law_draw⟩, PySem.W.mg_of X G a28, k28, b28⟩⟩
  have c__law_edge_of : Cal l.prog w K mg base (CX0) 1 "_law_edge_of" (spEdgeOf) := ⟨⟨_, _, _, ok_edge_of F29 B, PySem.W.mg_of X G a29, k29, b29⟩⟩
  have c__law_wants_edge : Cal l.prog w K mg base (CX0) 2 "_law_wants_edge" (spWants) := ⟨⟨_, _, _, ok_wants F30 B ⟨c__law_draw⟩, PySem.W.mg_of X G a30, k30, b30⟩⟩
  have c__law_draw_graph : Cal l.prog w K mg base (CX0) 3 "_law_draw_graph" (spGraph) := ⟨⟨_, _, _, ok_draw_graph F31 B ⟨c__law_draw, c__law_draw_names, c__law_shuffle, c__law_edge_of, c__law_wants_edge⟩, PySem.W.mg_of X G a31, k31, b31⟩⟩
  have c__law_draw_pins : Cal l.prog w K mg base (CX0) 2 "_law_draw_pins" (spPins) := ⟨⟨_, _, _, ok_pins F32 B ⟨c__law_draw⟩, PySem.W.mg_of X G a32, k32, b32⟩⟩
  have c__law_neighbors_of : Cal l.prog w K mg base (CX0) 1 "_law_neighbors_of" (spNbr) := ⟨⟨_, _, _, ok_nbr F33 B, PySem.W.mg_of X G a33, k33, b33⟩⟩
  have c__law_slope_of : Cal l.prog w K mg base (CX0) 1 "_law_slope_of" (spSlopeOf) := ⟨⟨_, _, _, ok_slope_of F34 B, PySem.W.mg_of X G a34, k34, b34⟩⟩
  have c__law_is_fitting : Cal l.prog w K mg base (CX0) 2 "_law_is_fitting" (spFitting) := ⟨⟨_, _, _, ok_fitting F35 B ⟨c__law_slope_of⟩, PySem.W.mg_of X G a35, k35, b35⟩⟩
  have c__law_reach : Cal l.prog w K mg base (CX0) 2 "_law_reach" (spReach) := ⟨⟨_, _, _, ok_reach F36 B ⟨c__law_neighbors_of, c__law_slope_of⟩, PySem.W.mg_of X G a36, k36, b36⟩⟩
  have c__law_on_cycle : Cal l.prog w K mg base (CX0) 3 "_law_on_cycle" (spOnCyc) := ⟨⟨_, _, _, ok_on_cycle F37 B ⟨c__law_neighbors_of, c__law_slope_of, c__law_reach⟩, PySem.W.mg_of X G a37, k37, b37⟩⟩
  have c__law_anchors_of : Cal l.prog w K mg base (CX0) 4 "_law_anchors_of" (spAnchO K) := ⟨⟨_, _, _, ok_anchorsO F38 B ⟨c__law_on_cycle⟩, PySem.W.mg_of X G a38, k38, b38⟩⟩
  have c__law_components_of : Cal l.prog w K mg base (CX0) 2 "_law_components_of" (spComps) := ⟨⟨_, _, _, ok_comps_of F39 B ⟨c__law_neighbors_of⟩, PySem.W.mg_of X G a39, k39, b39⟩⟩
  have c__law_draw_lift : Cal l.prog w K mg base (CX0) 4 "_law_draw_lift" (spDrawLiftA) := ⟨⟨_, _, _, ok_draw_liftA F40 B ⟨c__law_draw, c__law_neighbors_of, c__law_slope_of, c__law_components_of⟩, PySem.W.mg_of X G a40, k40, b40⟩⟩
  exact ok_law F41 B ⟨c__law_pool, c__law_draw_graph, c__law_draw_pins, c__law_draw_lift, c__law_is_fitting, c__law_anchors_of, c_is_lift, c_lift_size, c_apply_lift, c_perform_lift, c_lift_of_moves, c_apply_moves⟩ own0
theorem walk {l : PySem.W.OpenLaw} {q : Program} {loose : List Str} {XP : (Str → Option Value) → Heap → Prop} {YP : World → Heap → Prop} {d dy : DefRec} {K : Params → PySem.W.Frag} (hn : l.most = some 63) (hdf : d.params.defaults = []) (hrec : (recsOf q).find? (fun e => e.name == ("smallest_path" : Str)) = some dy)
    (hY : ∀ (w : World) (h : Heap), YP w h → (K w.params).In h)
    (F : ∀ (w : World) (mg : Str → Option Value) (fa : Addr) (h : Heap), (K w.params).In h → h.Ns mainGlobals mg → mg d.name = some (.ref fa) →
      ∃ (fd : FuncData) (c T : Addr), PySem.W.tabIn (K w.params) "smallest_path" = some (c, T) ∧ (K w.params).lookup T = none ∧ (∀ (s : Shared) (u : Value), BindsTo s fd ⟨[u], []⟩ [("_law_script", u)]) ∧ ∀ base : Heap, (K w.params).In base → base.Ns mainGlobals mg → TabB base mg c T → FnG l.prog w (K w.params) mg base CX0 9 fa fd ["_law_script"] (spLaw (K w.params) T)) :
    PySem.W.WalkO q loose XP YP l.row.toRowW d [] (fun f vs => PySem.call f vs) :=
  walk_GY (n := 63) (k := 9) (x := "_law_script") (y := "smallest_path") (sp := spLaw) hn (by decide) hdf ⟨rfl, by decide, by decide⟩ hrec hY F fun K T H a ns hl hT hS => ⟨a, ns, rfl, hS, hl, (fun p hp => by
    rw [List.mem_singleton] at hp
    rw [hp]
    exact TabS.nil hT), fun _ => rfl⟩
end Law
open PySem PySem.W PyProof.Rows
set_option maxRecDepth 100000 in
set_option maxHeartbeats 0 in
theorem PySem.Challenge.cw_threeturned_k24_whole_every_feasible_lif_holds : PySem.Challenge.rw_threeturned_k24_whole_every_feasible_lif.Holds := by
  w_on; o_law; k_head; (case hw => w_witness2)
  k_fill
  refine Law.walk (l := PySem.Challenge.rw_threeturned_k24_whole_every_feasible_lif) rfl rfl rfl (fun w h Y => PySem.W.km_in_of Y) ?F
  case F =>
    intro w mg fa h KX G hmg
    refine' Law.all_mk KX G hmg ?a0 ?l0 ?c0 ?k0 ?a1 ?l1 ?c1 ?k1 ?a2 ?l2 ?c2 ?k2 ?a3 ?l3 ?c3 ?k3 ?a4 ?l4 ?c4 ?k4 ?a5 ?l5 ?c5 ?k5 ?a6 ?l6 ?c6 ?k6 ?d6 ?t6 ?a7 ?l7 ?c7 ?k7 ?a8 ?l8 ?c8 ?k8 ?a9 ?l9 ?c9 ?k9 ?tl0 ?tl1 ?ty1 ?a10 ?l10 ?c10 ?k10 ?a11 ?l11 ?c11 ?k11 ?a12 ?l12 ?c12 ?k12 ?a13 ?l13 ?c13 ?k13 ?a14 ?l14 ?c14 ?k14 ?a15 ?l15 ?c15 ?k15 ?a16 ?l16 ?c16 ?k16 ?a17 ?l17 ?c17 ?k17 ?d17 ?t17 ?a18 ?l18 ?c18 ?k18 ?a19 ?l19 ?c19 ?k19 ?a20 ?l20 ?c20 ?k20 ?a21 ?l21 ?c21 ?k21 ?a22 ?l22 ?c22 ?k22 ?a23 ?l23 ?c23 ?k23 ?dp23 ?a24 ?l24 ?c24 ?k24 ?d24 ?t24 ?a25 ?l25 ?c25 ?k25 ?a26 ?l26 ?c26 ?k26 ?a27 ?l27 ?c27 ?k27 ?a28 ?l28 ?c28 ?k28 ?a29 ?l29 ?c29 ?k29 ?a30 ?l30 ?c30 ?k30 ?a31 ?l31 ?c31 ?k31 ?a32 ?l32 ?c32 ?k32 ?a33 ?l33 ?c33 ?k33 ?a34 ?l34 ?c34 ?k34 ?a35 ?l35 ?c35 ?k35 ?a36 ?l36 ?c36 ?k36 ?a37 ?l37 ?c37 ?k37 ?a38 ?l38 ?c38 ?k38 ?a39 ?l39 ?c39 ?k39 ?a40 ?l40 ?c40 ?k40 ?a41 ?l41 ?c41 ?k41 ?z0 ?z1 ?z2 ?z3 ?z4 ?z5 ?z6 ?z7 ?z8 ?z9 ?z10 ?z11 ?z12 ?z13 ?z14 ?z15 ?z16 ?z17 ?z18 ?z19 ?z20 ?w0 ?w1 ?v0 ?v1 ?y0 ?y1 ?y2 ?y3 ?y4 ?y5 ?y6 ?y7 ?xa0 ?xb0 ?xc0 ?xd0 ?xe0 ?xf0 ?xg0 ?xh0 ?xi0 ?xj0 ?xk0 ?xl0 ?xm0 ?xn0 ?xo0 ?xp0 ?xq0 ?xr0
    (case a0 => k_is); (case l0 => k_is); (case c0 => k_is); (case k0 => k_is)
    (case a1 => k_is); (case l1 => k_is); (case c1 => k_is); (case k1 => k_is)
    (case a2 => k_is); (case l2 => k_is); (case c2 => k_is); (case k2 => k_is)
    (case a3 => k_is); (case l3 => k_is); (case c3 => k_is); (case k3 => k_is)
    (case a4 => k_is); (case l4 => k_is); (case c4 => k_is); (case k4 => k_is)
    (case a5 => k_is); (case l5 => k_is); (case c5 => k_is); (case k5 => k_is)
    (case a6 => k_is); (case l6 => k_is); (case c6 => k_is); (case k6 => k_is)
    (case d6 => k_is); (case t6 => k_is); (case a7 => k_is); (case l7 => k_is)
    (case c7 => k_is); (case k7 => k_is); (case a8 => k_is); (case l8 => k_is)
    (case c8 => k_is); (case k8 => k_is); (case a9 => k_is); (case l9 => k_is)
    (case c9 => k_is); (case k9 => k_is); (case tl0 => k_is); (case tl1 => exact rfl)
    (case ty1 => kernel_rfl); (case a10 => k_is); (case l10 => k_is); (case c10 => k_is)
    (case k10 => k_is); (case a11 => k_is); (case l11 => k_is); (case c11 => k_is)
    (case k11 => k_is); (case a12 => k_is); (case l12 => k_is); (case c12 => k_is)
    (case k12 => k_is); (case a13 => k_is); (case l13 => k_is); (case c13 => k_is)
    (case k13 => k_is); (case a14 => k_is); (case l14 => k_is); (case c14 => k_is)
    (case k14 => k_is); (case a15 => k_is); (case l15 => k_is); (case c15 => k_is)
    (case k15 => k_is); (case a16 => k_is); (case l16 => k_is); (case c16 => k_is)
    (case k16 => k_is); (case a17 => k_is); (case l17 => k_is); (case c17 => k_is)
    (case k17 => k_is); (case d17 => k_is); (case t17 => k_is); (case a18 => k_is)
    (case l18 => k_is); (case c18 => k_is); (case k18 => k_is); (case a19 => k_is)
    (case l19 => k_is); (case c19 => k_is); (case k19 => k_is); (case a20 => k_is)
    (case l20 => k_is); (case c20 => k_is); (case k20 => k_is); (case a21 => k_is)
    (case l21 => k_is); (case c21 => k_is); (case k21 => k_is); (case a22 => k_is)
    (case l22 => k_is); (case c22 => k_is); (case k22 => k_is); (case a23 => k_is)
    (case l23 => k_is); (case c23 => k_is); (case k23 => k_is); (case dp23 => k_is)
    (case a24 => k_is); (case l24 => k_is); (case c24 => k_is); (case k24 => k_is)
    (case d24 => k_is); (case t24 => k_is); (case a25 => k_is); (case l25 => k_is)
    (case c25 => k_is); (case k25 => k_is); (case a26 => k_is); (case l26 => k_is)
    (case c26 => k_is); (case k26 => k_is); (case a27 => k_is); (case l27 => k_is)
    (case c27 => k_is); (case k27 => k_is); (case a28 => k_is); (case l28 => k_is)
    (case c28 => k_is); (case k28 => k_is); (case a29 => k_is); (case l29 => k_is)
    (case c29 => k_is); (case k29 => k_is); (case a30 => k_is); (case l30 => k_is)
    (case c30 => k_is); (case k30 => k_is); (case a31 => k_is); (case l31 => k_is)
    (case c31 => k_is); (case k31 => k_is); (case a32 => k_is); (case l32 => k_is)
    (case c32 => k_is); (case k32 => k_is); (case a33 => k_is); (case l33 => k_is)
    (case c33 => k_is); (case k33 => k_is); (case a34 => k_is); (case l34 => k_is)
    (case c34 => k_is); (case k34 => k_is); (case a35 => k_is); (case l35 => k_is)
    (case c35 => k_is); (case k35 => k_is); (case a36 => k_is); (case l36 => k_is)
    (case c36 => k_is); (case k36 => k_is); (case a37 => k_is); (case l37 => k_is)
    (case c37 => k_is); (case k37 => k_is); (case a38 => k_is); (case l38 => k_is)
    (case c38 => k_is); (case k38 => k_is); (case a39 => k_is); (case l39 => k_is)
    (case c39 => k_is); (case k39 => k_is); (case a40 => k_is); (case l40 => k_is)
    (case c40 => k_is); (case k40 => k_is); (case a41 => k_is); (case l41 => k_is)
    (case c41 => k_is); (case k41 => k_is); (case z0 => k_is); (case z1 => k_is)
    (case z2 => k_is); (case z3 => k_is); (case z4 => k_is); (case z5 => k_is)
    (case z6 => k_is); (case z7 => k_is); (case z8 => k_is); (case z9 => k_is)
    (case z10 => k_is); (case z11 => k_is); (case z12 => k_is); (case z13 => k_is)
    (case z14 => k_is); (case z15 => k_is); (case z16 => k_is); (case z17 => k_is)
    (case z18 => k_is); (case z19 => k_is); (case z20 => k_is); (case w0 => k_is)
    (case w1 => k_is); (case v0 => k_is); (case v1 => k_is); (case y0 => k_is)
    (case y1 => k_is); (case y2 => k_is); (case y3 => k_is); (case y4 => k_is)
    (case y5 => k_is); (case y6 => k_is); (case y7 => k_is); (case xa0 => k_is)
    (case xb0 => k_is); (case xc0 => k_is); (case xd0 => k_is); (case xe0 => k_is)
    (case xf0 => k_is); (case xg0 => k_is); (case xh0 => k_is); (case xi0 => k_is)
    (case xj0 => k_is); (case xk0 => k_is); (case xl0 => k_is); (case xm0 => k_is)
    (case xn0 => k_is); (case xo0 => k_is); (case xp0 => k_is); (case xq0 => k_is)
    (case xr0 => k_is)

