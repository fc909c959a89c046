import PyProof.Rows.All
import Wide.All
import OpenK.AllK
import Wide.FinOn
import HandS.ForMost
import HandS.Exc
import HandS.EndBits
import HandS.Wide
import HandS.Codes
import HandS.TupAny
import HandS.IsInst
import HandS.Walk
import HandS.Flow
import HandS.SetKeys
import HandS.SortKw
import HandS.Style
import KE.SortData
import HandS.More
import HandS.DictComp
import PySem.Challenge.RW_threeturned_k62_whole_case_trees_are_sou
import HandS.Defaults
import HandS.Deep
import PyProof.RowDictHeap
import PyProof.ReprRoads
import PyProof.ReprBulk
import HandS.Finally
import PyProof.DictUpdate
import HandS.ExcInit
import HandS.ExcIs
import HandS.ExcField
import PyProof.P3In
import KE.KDictCopyH
import HandS.Iter
import HandS.Lambda
import KE.DataMinKey
import HandS.EndTab
set_option Elab.async false
set_option linter.all false
set_option maxRecDepth 100000
set_option maxHeartbeats 4000000
/-! calls with room and with nothing being shown (guards known) -/
namespace U
open PySem PySem.Spec PyProof.Rows L2

/-- room for k calls, and no repr is under way -/
structure Rm (k : Nat) (A : Around) : Prop where
  r : Room k A
  g : A.guards = some []
theorem Rm.mono {j k : Nat} {A : Around} (h : Rm k A) (hj : j ≤ k) : Rm j A := ⟨h.r.mono hj, h.g⟩
theorem Rm.deeper {k : Nat} {A : Around} (h : Rm (k + 1) A) (env : Env) : Rm k (A.deeper env) := ⟨h.r.deeper env, h.g⟩
theorem Rm.u1 {k : Nat} {A : Around} (h : Rm k A) : A.units + 1 < cLine := by
  have z := h.r.un
  omega
theorem Rm.u64 {k : Nat} {A : Around} (h : Rm k A) : A.units + 64 < cLine := h.r.units
theorem Rm.u0 {k : Nat} {A : Around} (h : Rm k A) : A.units < cLine := by
  have z := h.r.un
  omega
theorem Rm.u100 {k : Nat} {A : Around} (h : Rm k A) : A.units + 150 < cLine := by
  have z := h.r.un
  omega

/-- the def at f keeps the promise sp -/
structure FnG (P : Program) (w : World) (K : PySem.W.Frag) (mg : Str → Option Value) (base : Heap) (CX : CXT) (k : Nat) (f : Addr) (fd : FuncData) (ps : List Str) (sp : Sp) : Prop where
  len : ∀ vs H Q E, sp vs H Q E → vs.length = ps.length
  go : ∀ (A : Around) (outer : List Env) (s : Shared) (H : Hp) (args : Args) (us : List Value) (vs : List V) (Q : VK) (E : XK), Rm k A →
    Env0 P w K mg base A outer s H → BindsTo s fd args (ps.zip us) → Vals vs us → sp vs H Q E → codeAny (model P w) A (.call (.ref f) args) (CR CX outer P w H s Q E) s
/-- room ran out of is no way: L2's own promise serves -/
theorem FnG.of {P : Program} {w : World} {K : PySem.W.Frag} {mg : Str → Option Value} {base : Heap} {CX : CXT} {k : Nat} {f : Addr} {fd : FuncData} {ps : List Str} {sp : Sp} (F : FnOk P w K mg base CX k f fd ps sp) : FnG P w K mg base CX k f fd ps sp :=
  ⟨F.len, fun A outer s H args us vs Q E hr => F.run A outer s H args us vs Q E hr.r⟩

section
variable {P : Program} {w : World} {K : PySem.W.Frag} {mg : Str → Option Value} {base : Heap} {CX : CXT}
/-- a def by its body -/
theorem fnG {x qual : Str} {st : Stmt} {f : Addr} {fd : FuncData} {N ps : List Str} {k : Nat} {sp : Sp} (F : Fun K x qual st f fd) (S : FnScope N ps (defScope st)) (len : ∀ vs H Q E, sp vs H Q E → vs.length = ps.length)
    (body : ∀ (cdv : Value) (A : Around) (outer : List Env) (s : Shared) (H : Hp) (vs : List V) (Q : VK) (E : XK), Rm k (A.deeper (envOfC qual (defScope st) s.heap.objs.size f cdv)) → sp vs H Q E →
      ∃ t, PSs (cxOf CX P w K mg base N qual (defScope st) f cdv A outer s H E) (defBody st) t ∧ t { nx := fun _ H' => Q .non H', rt := Q } (start N vs) H) :
    FnG P w K mg base CX (k + 1) f fd ps sp := by
  obtain ⟨oc, od, kV, doc, pm, an, cdv, ct, osl, rfl, lk, hcd⟩ := F.ex
  refine ⟨len, fun A outer s H args us vs Q E room e0 bd rel want => ?_⟩
  have count := len _ _ _ _ want
  have kin : K.In s.heap := e0.mod.kin.keeps fun b o e => (e0.bs b o e).1
  have kinds : ∀ y ∈ ps.zip us, (defScope st).names.lookup y.1 = some .local ∨ ((defScope st).names.lookup y.1 = some .cell ∧ ((cellsFrom (s.heap.objs.size + 1) (defScope st).names []).lookup y.1).isSome = true) := by
    rintro ⟨n, v⟩ hy
    cases S.par n (List.of_mem_zip hy).1 with
    | inl q => exact .inl q
    | inr q => exact .inr ⟨q, PySem.W.cellsFrom_some _ _ _ (.inl q)⟩
  apply codeAny_call_function room.r.depth (kin _ _ lk) rfl S.co S.gen rfl (PySem.W.codeRec_of kin hcd) (bd _ _ _ _ _)
  apply wpAny_newFunctionEnv_cells S.kind kinds
  intro env he s1 x
  subst he
  have lim : s.heap.NoLimit := e0.mod.nolimit.keeps fun b o e => (e0.bs b o e).1
  refine ⟨lim.keeps x.toInCall.keep, codeAny_func ?_⟩
  obtain ⟨t, ht, want'⟩ := body cdv A outer s H vs Q E (room.deeper _) want
  have I := inv_start (CX := CX) (P := P) (w := w) (K := K) (mg := mg) (base := base) (E := E) S room.r.hd e0 count rel x
  refine wpAny_mono (ht.run [] s1 (start N vs) H _ I want') ?_ fun e s' hs => hs
  intro fl s' hs
  cases fl with
  | ret u =>
    obtain ⟨v, σ', H', J, rv, q⟩ := hs
    exact ⟨v, H', J.os, J.bare, J.base, J.hok, rv, q⟩
  | next =>
    obtain ⟨σ', H', J, q⟩ := hs
    exact ⟨V.non, H', J.os, J.bare, J.base, J.hok, rfl, q⟩
  | brk => exact hs.elim fun _ z => z.elim fun _ z => z.2.elim
  | cont => exact hs.elim fun _ z => z.elim fun _ z => z.2.elim
/-- a def that no exception leaves -/
theorem fnG0 {x qual : Str} {st : Stmt} {f : Addr} {fd : FuncData} {N ps : List Str} {k : Nat} {sp : Sp} (F : Fun K x qual st f fd) (S : FnScope N ps (defScope st)) (len : ∀ vs H Q E, sp vs H Q E → vs.length = ps.length)
    (body : ∀ (cdv : Value) (A : Around) (outer : List Env) (s : Shared) (H : Hp) (vs : List V) (Q : VK) (E : XK), Rm k (A.deeper (envOfC qual (defScope st) s.heap.objs.size f cdv)) → sp vs H Q E →
      ∃ t, PSs (cxOf CX0 P w K mg base N qual (defScope st) f cdv A outer s H E).nox (defBody st) t ∧ t { nx := fun _ H' => Q .non H', rt := Q } (start N vs) H) :
    FnG P w K mg base CX0 (k + 1) f fd ps sp := fnG F S len fun cdv A outer s H vs Q E hr h => by
  obtain ⟨t, p, q⟩ := body cdv A outer s H vs Q E hr h
  exact ⟨t, p.nox, q⟩
/-- a def that may be called by its global name -/
structure Cal (P : Program) (w : World) (K : PySem.W.Frag) (mg : Str → Option Value) (base : Heap) (CX : CXT) (k : Nat) (x : Str) (sp : Sp) : Prop where
  ex : ∃ (f : Addr) (fd : FuncData) (ps : List Str), FnG P w K mg base CX k f fd ps sp ∧ mg x = some (.ref f) ∧ PySem.W.keepIn K (.ref f) = true ∧ Binds K fd ps []
end

section
variable {X : Cx} {CX : L2.CXT} {k j : Nat} {f : Addr} {fd : FuncData} {ps : List Str} {sp : Sp} {E : XK} {x : Str} {p pos : Pos} {e : Expr} {es : List Expr} {t : TA}
theorem callG {pins : List (Addr × Obj)} {σ : L2.St} {H : Hp} {s : Shared} {Q : VK} {us : List Value} {vs : List V} (F : FnG X.prog X.w X.K X.mg X.base CX k f fd ps sp) (hr : Rm k X.A) (hb : Binds X.K fd ps []) (hx : Passes CX X E)
    (I : Inv X pins σ H s) (r : Vals vs us) (h : sp vs H Q E) : wpAny (model X.prog X.w) X.A (call (.ref f) us) (EP X pins σ Q) X.xe s := by
  have count : us.length = ps.length := r.length ▸ F.len _ _ _ _ h
  have bd := hb s us I.kIn (by rw [List.append_nil]; exact count)
  rw [List.append_nil] at bd
  refine wpAny_call (codeAny_mono (F.go X.A X.stack s H ⟨us, []⟩ us vs Q E hr I.env0 bd r h) ?_)
  intro res s' hq
  cases res with
  | error er => exact hx pins σ H s er s' I hq
  | ok fl =>
    cases fl with
    | ret u => exact I.after hq
    | next => exact hq.elim
    | brk => exact hq.elim
    | cont => exact hq.elim
/-- f(..): the promise -/
def tC1 (sp : Sp) (E : XK) (t : TA) : TE := fun σ H Q => t σ H fun vs H1 => sp vs H1 Q E
theorem pe_cG (c : Cal X.prog X.w X.K X.mg X.base CX k x sp) (hr : Rm j X.A) (hk : k ≤ j) (hg : Gl X x) (hx : Passes CX X E) (ha : PA X (e :: es) t)
    (hdb : (x == ("__debug__" : Str)) = false := by decide) (he : starEach (e :: es) X.env = (false, eval e X.env) :: starEach es X.env := by rfl) (hpl : (backTo pos (starEach es X.env)).any (·.1) = false := by rfl) :
    PE X (.Call (.Name x p) (e :: es) [] pos) (tC1 sp E t) := by
  obtain ⟨f, fd, ps, F, hm, kp, b⟩ := c.ex
  refine ⟨fun pins s σ H Q I h => wpAny_Call_Name_kw (ld_glob I hg hm ?_ hdb)⟩
  refine PySem.W.callWith_K (h₀ := X.base) I.ok.mod.kin kp (thn (ha.run pos pins s σ H _ I h) ?_) he hpl
  rintro us s1 ⟨vs, H1, I1, r, q⟩
  exact ⟨I1.kIn, callG F (hr.mono hk) b hx I1 r q⟩
/-- f() -/
theorem pe_cG0 (c : Cal X.prog X.w X.K X.mg X.base CX k x sp) (hr : Rm j X.A) (hk : k ≤ j) (hg : Gl X x) (hx : Passes CX X E)
    (hdb : (x == ("__debug__" : Str)) = false := by decide) : PE X (.Call (.Name x p) [] [] pos) (tC1 sp E tNil) := by
  obtain ⟨f, fd, ps, F, hm, kp, b⟩ := c.ex
  refine ⟨fun pins s σ H Q I h => wpAny_Call_Name_kw (ld_glob I hg hm ?_ hdb)⟩
  exact PySem.W.callWith_K0 I.kIn kp (callG (us := []) F (hr.mono hk) b hx I .nil h)
theorem pe_c (c : Cal X.prog X.w X.K X.mg X.base CX0 k x sp) (hr : Rm j X.A) (hk : k ≤ j) (hg : Gl X x) (ha : PA X (e :: es) t)
    (hdb : (x == ("__debug__" : Str)) = false := by decide) (he : starEach (e :: es) X.env = (false, eval e X.env) :: starEach es X.env := by rfl) (hpl : (backTo pos (starEach es X.env)).any (·.1) = false := by rfl) :
    PE X (.Call (.Name x p) (e :: es) [] pos) (tC1 sp E0 t) := pe_cG c hr hk hg pass0 ha hdb he hpl
/-- .. what is raised is wished for at the caller's slots -/
def tC2 (sp : Sp) (W : WX) (t : TA) : TE := fun σ H Q => t σ H fun vs H1 => sp vs H1 Q fun cls d H' => W cls d σ H'
theorem pe_cX {W : WX} (c : Cal X.prog X.w X.K X.mg X.base (L2.CX X.prog X.w) k x sp) (hr : Rm j X.A) (hk : k ≤ j) (hg : Gl X x) (tk : Takes X W) (ha : PA X (e :: es) t)
    (hdb : (x == ("__debug__" : Str)) = false := by decide) (he : starEach (e :: es) X.env = (false, eval e X.env) :: starEach es X.env := by rfl) (hpl : (backTo pos (starEach es X.env)).any (·.1) = false := by rfl) :
    PE X (.Call (.Name x p) (e :: es) [] pos) (tC2 sp W t) := by
  obtain ⟨f, fd, ps, F, hm, kp, b⟩ := c.ex
  refine ⟨fun pins s σ H Q I h => wpAny_Call_Name_kw (ld_glob I hg hm ?_ hdb)⟩
  refine PySem.W.callWith_K (h₀ := X.base) I.ok.mod.kin kp (thn (ha.run pos pins s σ H _ I h) ?_) he hpl
  rintro us s1 ⟨vs, H1, I1, r, q⟩
  refine ⟨I1.kIn, ?_⟩
  have count : us.length = ps.length := r.length ▸ F.len _ _ _ _ q
  have bd := b s1 us I1.kIn (by rw [List.append_nil]; exact count)
  rw [List.append_nil] at bd
  refine wpAny_call (codeAny_mono (F.go X.A X.stack s1 H1 ⟨us, []⟩ us vs _ _ (hr.mono hk) I1.env0 bd r q) ?_)
  intro res s' hq
  cases res with
  | error er => exact tk er s' (XE.of_call I1 (fun cls d H' z => z) hq)
  | ok fl =>
    cases fl with
    | ret u => exact I1.after hq
    | next => exact hq.elim
    | brk => exact hq.elim
    | cont => exact hq.elim
end

/-! ### the law's own head -/
theorem law_G {P : Program} {w : World} {K : PySem.W.Frag} {mg mb : Str → Option Value} {k : Nat} {fa a : Addr} {fd : FuncData} {x : Str} {sp : Sp} {s₁ : Shared} {vs : List Value} {ns : List Int}
    (KX : K.In s₁.heap) (hns : s₁.heap.Ns mainGlobals mg) (hb : s₁.heap.Ns builtinsNs mb) (hbb : ∀ x : Str, x ≠ "__name__" → mb x = bootBuiltins x) (hlim : s₁.heap.NoLimit) (hg : s₁.gens = #[])
    (ha : s₁.heap.get? a = some { cls := .type "list", data := .seq vs.toArray }) (hi : IntsAre vs ns) (hl : ns.length ≤ sizeLine) (hr : Room k callerA)
    (F : ∀ base : Heap, K.In base → base.Ns mainGlobals mg → FnG P w K mg base CX0 k fa fd [x] sp) (hbind : ∀ (s : Shared) (u : Value), BindsTo s fd ⟨[u], []⟩ [(x, u)])
    (hsp : ∀ H : Hp, Only H → SqL K H a (ns.map V.int) → sp [.ref a] H (fun v _ => v = .bl true) fun _ _ _ => False) :
    codeAny (model P w) callerA (.call (.ref fa) ⟨[.ref a], []⟩) (fun r s' => r = .ok (.ret (.bool true)) ∧ OldK s₁.heap s'.heap ∧ s'.os = s₁.os ∧ AllBare s'.gens) s₁ := by
  /- the promise as L2's head asks it: of room alone; it asks it of callerA alone -/
  have Z : ∀ base : Heap, K.In base → base.Ns mainGlobals mg → ∀ (outer : List Env) (s : Shared) (H : Hp) (args : Args) (us : List Value) (vs : List V) (Q : VK) (E : XK),
      Env0 P w K mg base callerA outer s H → BindsTo s fd args ([x].zip us) → Vals vs us → sp vs H Q E → codeAny (model P w) callerA (.call (.ref fa) args) (CR CX0 outer P w H s Q E) s :=
    fun base h1 h2 outer s H args us vs Q E e b r q => (F base h1 h2).go callerA outer s H args us vs Q E ⟨hr, rfl⟩ e b r q
  have rv := vals_ints hi
  have lenV := hi.length
  have main : ∀ H : Hp, Only H → SqL K H a (ns.map V.int) → HOk P w H s₁.heap → (∀ b, H b ≠ none → b = a) → (H a ≠ none → K.lookup a = none) →
      codeAny (model P w) callerA (.call (.ref fa) ⟨[.ref a], []⟩) (fun r s' => r = .ok (.ret (.bool true)) ∧ OldK s₁.heap s'.heap ∧ s'.os = s₁.os ∧ AllBare s'.gens) s₁ := by
    intro H only seq ok only_a own
    have free_dict : ∀ {b : Addr} {o : Obj} {es : Array DictEntry} {ep : Nat}, s₁.heap.get? b = some o → o.data = .dict es ep → H b = none := by
      intro b o es ep e d
      cases q : H b with
      | none => rfl
      | some u =>
        obtain rfl : b = a := only_a b (by rw [q]; simp)
        obtain rfl := Option.some.inj (ha.symm.trans e)
        cases d
    have stays : ∀ {b : Addr} {m : Str → Option Value}, s₁.heap.Ns b m → (hidT s₁.heap H).Ns b m := by
      rintro b m ⟨o, es, ep, e, d, r⟩
      exact ⟨o, es, ep, hidT_get e (free_dict e d), d, r⟩
    have kin : K.In (hidT s₁.heap H) := by
      intro b o e
      refine hidT_get (KX b o e) ?_
      cases q : H b with
      | none => rfl
      | some u =>
        obtain rfl : b = a := only_a b (by rw [q]; simp)
        rw [own (by rw [q]; simp)] at e
        cases e
    have md : Mod K mg (hidT s₁.heap H) := ⟨kin, stays hns, ⟨mb, stays hb, hbb⟩, by
      obtain ⟨mc, h1, h2⟩ := hlim
      exact ⟨mc, stays h1, h2⟩⟩
    have e0 : Env0 P w K mg (hidT s₁.heap H) callerA [] s₁ H := ⟨rfl, md, fun b o e => of_hidT e, Nat.le_of_eq (hidT_size _ _), trivial, fun b z => (List.not_mem_nil z).elim, ok, .of_eq hg⟩
    refine codeAny_mono (Z _ kin (stays hns) [] s₁ H ⟨[.ref a], []⟩ [.ref a] [.ref a] _ _ e0 (hbind s₁ (.ref a)) (.cons rfl .nil) (hsp H only seq)) ?_
    intro r s' h
    cases r with
    | error e => exact h.elim
    | ok fl =>
      cases fl with
      | next => exact h.elim
      | brk => exact h.elim
      | cont => exact h.elim
      | ret u =>
        obtain ⟨v, H', os, bare, un, ok', r', q⟩ := h
        have q' : v = .bl true := q
        subst q'
        obtain rfl : u = Value.bool true := r'
        refine ⟨rfl, OldK.of_keep ?_, os, bare⟩
        intro b o e
        cases q : H b with
        | none => exact un.keep b o e q (fun z => (List.not_mem_nil z).elim) (fun z => (List.not_mem_nil z).elim)
        | some u =>
          rcases only b with z | ⟨ob, xs, z⟩
          · rw [q] at z; cases z
          · obtain ⟨e1, _⟩ := ok b _ z
            obtain ⟨e2, _⟩ := ok' b _ (un.frzs b ob _ z)
            exact (Option.some.inj (e1.symm.trans e)) ▸ e2
  cases hk : K.lookup a with
  | some o =>
    obtain rfl := Option.some.inj (ha.symm.trans (KX a o hk))
    refine main (fun _ => none) (fun _ => .inl rfl) (.inr ⟨_, vs.toArray, _, hk, rfl, rfl, rfl, ?_, by simpa using rv⟩) (fun b u z => nomatch z) (fun b z => (z rfl).elim) fun z => (z rfl).elim
    rw [List.size_toArray, lenV]
    exact hl
  | none =>
    refine main (fun b => if b = a then some (.frz { cls := .type "list", data := .seq vs.toArray } (.lst (ns.map V.int))) else none) (fun b => ?_) (.inl (.inr ⟨_, if_pos rfl⟩)) (fun b u z => ?_) (fun b z => ?_) fun _ => hk
    · by_cases hb : b = a
      · exact .inr ⟨_, _, if_pos hb⟩
      · exact .inl (if_neg hb)
    · by_cases hb : b = a
      · subst hb
        obtain rfl := Option.some.inj ((if_pos rfl).symm.trans z)
        exact ⟨ha, by rw [List.length_map]; exact hl, vs, _, rv, ha⟩
      · exact nomatch (if_neg hb).symm.trans z
    · by_cases hb : b = a
      · exact hb
      · exact absurd (if_neg hb) z
theorem walk_G {l : PySem.W.OpenLaw} {n k : Nat} {q : Program} {loose : List Str} {XP : (Str → Option Value) → Heap → Prop} {YP : World → Heap → Prop} {d : DefRec} {K : Params → PySem.W.Frag} {sp : PySem.W.Frag → Sp} {x : Str}
    (hn : l.most = some n) (hn2 : n ≤ sizeLine) (hdf : d.params.defaults = []) (hr : Room k callerA)
    (hY : ∀ (w : World) (h : Heap), YP w h → (K w.params).In h)
    (F : ∀ (w : World) (mg : Str → Option Value) (fa : Addr) (h : Heap), (K w.params).In h → h.Ns mainGlobals mg → mg d.name = some (.ref fa) →
      ∃ fd : FuncData, (∀ (s : Shared) (u : Value), BindsTo s fd ⟨[u], []⟩ [(x, u)]) ∧
        ∀ base : Heap, (K w.params).In base → base.Ns mainGlobals mg → FnG l.prog w (K w.params) mg base CX0 k fa fd [x] (sp (K w.params)))
    (hsp : ∀ (K : PySem.W.Frag) (H : Hp) (a : Addr) (ns : List Int), ns.length ≤ n → (∀ z ∈ ns, Builtin.Int.intBits z ≤ 1048576) → Only H → SqL K H a (ns.map V.int) → sp K [.ref a] H (fun v _ => v = .bl true) fun _ _ _ => False) :
    PySem.W.WalkO q loose XP YP l.row.toRowW d [] (fun f vs => PySem.call f vs) := by
  refine Att.attach_callB hn hdf ?_
  intro w s₀ s₁ mg mb fa o pm cd doc a vs ns G Y ho hd hcd hmg hobj hints hlen bits hg
  obtain ⟨fd, hb, hF⟩ := F w mg fa _ (hY w _ Y) G.T.g hmg
  exact law_G (hY w _ Y) G.T.g G.T.b G.T.builtins G.T.nolimit hg hobj hints (Nat.le_trans hlen hn2) hr hF hb fun H only seq => hsp _ H a ns hlen bits only seq
end U

/-! operators by the values that come: one rule an operator -/
namespace U
open PySem PySem.Spec PyProof.Rows L2
section
variable {X : Cx}

/-! ### names of the world -/
theorem bb_len : bootBuiltins "len" = some (.builtin "len") := by decide +kernel
theorem bb_abs : bootBuiltins "abs" = some (.builtin "abs") := by decide +kernel
theorem bb_max : bootBuiltins "max" = some (.builtin "max") := by decide +kernel
theorem bb_min : bootBuiltins "min" = some (.builtin "min") := by decide +kernel
theorem bb_sorted : bootBuiltins "sorted" = some (.builtin "sorted") := by decide +kernel
theorem bb_sum : bootBuiltins "sum" = some (.builtin "sum") := by decide +kernel
theorem bb_all : bootBuiltins "all" = some (.builtin "all") := by decide +kernel
theorem bb_any : bootBuiltins "any" = some (.builtin "any") := by decide +kernel
theorem bb_isinstance : bootBuiltins "isinstance" = some (.builtin "isinstance") := by decide +kernel
theorem bb_repr : bootBuiltins "repr" = some (.builtin "repr") := by decide +kernel
theorem bb_int : bootBuiltins "int" = some (.type "int") := by decide +kernel
theorem bb_list : bootBuiltins "list" = some (.type "list") := by decide +kernel
theorem bb_tuple : bootBuiltins "tuple" = some (.type "tuple") := by decide +kernel
theorem bb_dict : bootBuiltins "dict" = some (.type "dict") := by decide +kernel
theorem bb_str : bootBuiltins "str" = some (.type "str") := by decide +kernel
theorem bb_bool : bootBuiltins "bool" = some (.type "bool") := by decide +kernel
theorem bb_set : bootBuiltins "set" = some (.type "set") := by decide +kernel
theorem pe_ty {x : Str} {T : String} {pos : Pos} (hg : Gl X x) (hm : X.mg x = none) (hv : bootBuiltins x = some (.type T)) (hn : x ≠ "__name__" := by decide) (hd : (x == ("__debug__" : Str)) = false := by decide) :
    PE X (.Name x pos) (tC (.ty T)) := pe_bltn hg hm hv rfl hn hd
theorem pe_gl {x : Str} {v : V} {pos : Pos} (hg : Gl X x) (h : ∃ u, X.mg x = some u ∧ RelV v u) (hd : (x == ("__debug__" : Str)) = false := by decide) : PE X (.Name x pos) (tC v) := by
  obtain ⟨u, hm, r⟩ := h
  exact pe_glob hg hm r hd

/-! ### + - * % // ** -/
/-- what is wanted where a new list, a new tuple comes -/
def nL (xs : List V) (H : Hp) (Q : VK) : Prop := ∀ p, H p = none → Q (.ref p) (upd H p (.lst xs))
def nT (xs : List V) (H : Hp) (Q : VK) : Prop := ∀ p, H p = none → Q (.ref p) (upd H p (.tup xs))
def rAddU (K : PySem.W.Frag) : R2 := fun x y H Q => match x, y with
  | .int i, .int j => Q (.int (i + j)) H
  | .str a, .str b => a.length + b.length ≤ sizeLine ∧ Q (.str (a ++ b)) H
  | .ref a, .ref b => (∃ xs ys, H a = some (.lst xs) ∧ H b = some (.lst ys) ∧ xs.length + ys.length ≤ sizeLine ∧ nL (xs ++ ys) H Q) ∨ rCatA K (.ref a) (.ref b) H Q
  | _, _ => False
theorem uAdd : OpR X (binaryOp .Add) (rAddU X.K) := by
  intro pins s σ H x y v u Q I rx ry h
  cases x <;> cases y <;> first | exact h.elim | skip
  · exact op_add pins s σ H _ _ v u Q I rx ry ⟨_, _, rfl, rfl, h⟩
  · exact op_add_str pins s σ H _ _ v u Q I rx ry ⟨_, _, rfl, rfl, h⟩
  · rcases h with ⟨xs, ys, h1, h2, h3, h4⟩ | h
    · exact op_cat pins s σ H _ _ v u Q I rx ry ⟨_, _, _, _, rfl, rfl, h1, h2, h3, h4⟩
    · exact op_catA pins s σ H _ _ v u Q I rx ry h
def rSubU : R2 := fun x y H Q => match x, y with
  | .int i, .int j => Q (.int (i - j)) H
  | _, _ => False
theorem uSub : OpR X (binaryOp .Sub) rSubU := by
  intro pins s σ H x y v u Q I rx ry h
  cases x <;> cases y <;> first | exact h.elim | exact op_sub pins s σ H _ _ v u Q I rx ry ⟨_, _, rfl, rfl, h⟩
/-- a text k times -/
def timesS (z : Str) (k : Int) : Str := ⟨((List.replicate k.toNat z.cps.toList).flatten).toArray⟩
theorem timesS_one (z : Str) : timesS z 1 = z := by
  unfold timesS
  simp
theorem timesS_neg {z : Str} {k : Int} (h : k < 1) : timesS z k = Str.empty := by
  unfold timesS
  have e : k.toNat = 0 := by omega
  rw [e]
  rfl
theorem fold_rep (a : Array Nat) : ∀ (n : Nat) (acc : Array Nat), (List.replicate n a).foldl (· ++ ·) acc = acc ++ ((List.replicate n a.toList).flatten).toArray
  | 0, acc => by simp
  | n + 1, acc => by
    rw [List.replicate_succ, List.foldl_cons, fold_rep a n, List.replicate_succ, List.flatten_cons]
    apply Array.ext'
    simp
theorem timesS_nil {z : Str} {k : Int} (h : z.length = 0) : timesS z k = z := by
  obtain ⟨a⟩ := z
  have e : a = #[] := Array.size_eq_zero_iff.mp h
  subst e
  unfold timesS
  have : (List.replicate k.toNat ([] : List Nat)).flatten = [] := by
    rw [List.flatten_eq_nil_iff]
    intro l hl
    exact List.eq_of_mem_replicate hl
  show (⟨((List.replicate k.toNat ([] : List Nat)).flatten).toArray⟩ : Str) = ⟨#[]⟩
  rw [this]
def rMulU : R2 := fun x y H Q => match x, y with
  | .int i, .int j => (CMul i j ∨ CMulW i j) ∧ Q (.int (i * j)) H
  | .str z, .int k => (0 ≤ k ∧ k ≤ 1000 ∧ z.length ≤ 1000) ∧ Q (.str (timesS z k)) H
  | .ref l, .int k => rRep (.ref l) (.int k) H Q
  | _, _ => False
theorem uMul : OpR X (binaryOp .Mult) rMulU := by
  intro pins s σ H x y v u Q I rx ry h
  cases x <;> cases y <;> first | exact h.elim | skip
  · obtain ⟨c | c, h⟩ := h
    · exact op_mul pins s σ H _ _ v u Q I rx ry ⟨_, _, rfl, rfl, c, h⟩
    · exact op_mulW pins s σ H _ _ v u Q I rx ry ⟨_, _, rfl, rfl, c, h⟩
  · rename_i z k
    obtain ⟨⟨h0, h1, hz⟩, q⟩ := h
    obtain ⟨t, rfl⟩ := rx
    obtain ⟨t', rfl⟩ := ry
    have hl : z.length * k.toNat ≤ 1000 * 1000 := Nat.mul_le_mul hz (by omega)
    refine P.mul_str ?_ ?_ ?_ ?_
    · have a : ¬ k < -(2 ^ 63) := by omega
      have b : ¬ k ≥ 2 ^ 63 := by omega
      rw [decide_eq_false a, decide_eq_false b]
      rfl
    · intro _ _ bad
      have : (z.length : Int) ≤ 1000 := by omega
      have e : (1000 : Int) ≤ (2 ^ 63 - 1) / k := by
        rw [Int.le_ediv_iff_mul_le (by omega)]
        have : (1000 : Int) * k ≤ 1000 * 1000 := Int.mul_le_mul_of_nonneg_left h1 (by decide)
        omega
      omega
    · intro _ _
      unfold Builtin.Str.tooLong
      have : z.length * k.toNat ≤ sizeLine := Nat.le_trans hl (by decide)
      simp
      exact this
    · split
      · rename_i hk
        rw [timesS_neg hk] at q
        exact ⟨by decide, ⟨.str Str.empty, H, I.tok _, ⟨_, rfl⟩, q⟩⟩
      · split
        · rename_i hk hc
          have e : timesS z k = z := by
            rcases (Bool.or_eq_true _ _).mp hc with c | c
            · have : k = 1 := by simpa using c
              rw [this, timesS_one]
            · exact timesS_nil (by simpa using c)
          rw [e] at q
          exact ⟨.str z, H, I.tok _, ⟨_, rfl⟩, q⟩
        · have e : (⟨(List.replicate k.toNat z.cps).foldl (· ++ ·) #[]⟩ : Str) = timesS z k := by
            rw [fold_rep]
            unfold timesS
            congr 1
            simp
          rw [e]
          refine ⟨?_, ⟨.str (timesS z k), H, I.tok _, ⟨_, rfl⟩, q⟩⟩
          have : (timesS z k).length = k.toNat * z.length := by
            unfold timesS Str.length
            simp
          rw [this, Nat.mul_comm]
          exact Nat.le_trans hl (by decide)
  · exact op_rep pins s σ H _ _ v u Q I rx ry h
def rModU : R2 := fun x y H Q => match x, y with
  | .int i, .int j => 0 < j ∧ Q (.int (i % j)) H
  | _, _ => False
theorem uMod : OpR X (binaryOp .Mod) rModU := by
  intro pins s σ H x y v u Q I rx ry h
  cases x <;> cases y <;> first | exact h.elim | exact op_mod pins s σ H _ _ v u Q I rx ry ⟨_, _, rfl, rfl, h.1, h.2⟩
def rDivU : R2 := fun x y H Q => match x, y with
  | .int i, .int j => (0 < j ∧ j < 1073741824) ∧ Q (.int (i / j)) H
  | _, _ => False
theorem uDiv : OpR X (binaryOp .FloorDiv) rDivU := by
  intro pins s σ H x y v u Q I rx ry h
  cases x <;> cases y <;> first | exact h.elim | exact op_fdiv pins s σ H _ _ v u Q I rx ry ⟨_, _, rfl, rfl, h.1, h.2⟩
def rPowU : R2 := fun x y H Q => match x, y with
  | .int i, .int j => CPow i j ∧ Q (.int (i ^ j.toNat)) H
  | _, _ => False
theorem uPow : OpR X (binaryOp .Pow) rPowU := by
  intro pins s σ H x y v u Q I rx ry h
  cases x <;> cases y <;> first | exact h.elim | exact op_pow pins s σ H _ _ v u Q I rx ry ⟨_, _, rfl, rfl, h.1, h.2⟩

/-! ### < <= > >= -/
def rLtU : R2 := fun x y H Q => match x, y with
  | .int i, .int j => Q (.bl (decide (i < j))) H
  | .str a, .str b => Q (.bl (decide (a.cps.toList < b.cps.toList))) H
  | _, _ => False
theorem uLt : OpR X (compareOp .Lt) rLtU := by
  intro pins s σ H x y v u Q I rx ry h
  cases x <;> cases y <;> first | exact h.elim | exact op_lt pins s σ H _ _ v u Q I rx ry ⟨_, _, rfl, rfl, h⟩ | exact op_lt_str pins s σ H _ _ v u Q I rx ry ⟨_, _, rfl, rfl, h⟩
def rLeU : R2 := fun x y H Q => match x, y with
  | .int i, .int j => Q (.bl (decide (i ≤ j))) H
  | _, _ => False
theorem uLe : OpR X (compareOp .LtE) rLeU := by
  intro pins s σ H x y v u Q I rx ry h
  cases x <;> cases y <;> first | exact h.elim | exact op_le pins s σ H _ _ v u Q I rx ry ⟨_, _, rfl, rfl, h⟩
def rGtU : R2 := fun x y H Q => match x, y with
  | .int i, .int j => Q (.bl (decide (j < i))) H
  | _, _ => False
theorem uGt : OpR X (compareOp .Gt) rGtU := by
  intro pins s σ H x y v u Q I rx ry h
  cases x <;> cases y <;> first | exact h.elim | exact op_gt pins s σ H _ _ v u Q I rx ry ⟨_, _, rfl, rfl, h⟩
def rGeU : R2 := fun x y H Q => match x, y with
  | .int i, .int j => Q (.bl (decide (j ≤ i))) H
  | _, _ => False
theorem uGe : OpR X (compareOp .GtE) rGeU := by
  intro pins s σ H x y v u Q I rx ry h
  cases x <;> cases y <;> first | exact h.elim | exact op_ge pins s σ H _ _ v u Q I rx ry ⟨_, _, rfl, rfl, h⟩

/-! ### == != is, is not -/
/-- == of any two: what is told of them is data -/
def eqB (x y : V) : Option Bool := match x, y with
  | .int i, .int j => some (decide (i = j))
  | .str a, .str b => some (decide (a = b))
  | .bl a, .bl b => some (decide (a = b))
  | .non, .non => some true
  | .int _, .str _ => some false
  | .str _, .int _ => some false
  | .non, .str _ => some false
  | .str _, .non => some false
  | .non, .int _ => some false
  | .int _, .non => some false
  | .bl _, .str _ => some false
  | .str _, .bl _ => some false
  | .bl _, .non => some false
  | .non, .bl _ => some false
  | _, _ => none
theorem eqB_scal {x y : V} {b : Bool} (h : eqB x y = some b) : scal x y = true ∧ decide (x = y) = b := by
  cases x <;> cases y <;> simp_all [eqB, scal]
def rEqU (K : PySem.W.Frag) : R2 := fun x y H Q => match eqB x y with
  | some b => Q (.bl b) H
  | none => rEqD K x y H Q
def rNeU (K : PySem.W.Frag) : R2 := fun x y H Q => match eqB x y with
  | some b => Q (.bl (!b)) H
  | none => rNeD K x y H Q
theorem uEq' (hu : X.A.units + 64 < cLine) : OpR X (compareOp .Eq) (rEqU X.K) := by
  intro pins s σ H x y v u Q I rx ry h
  unfold rEqU at h
  cases e : eqB x y with
  | some b =>
    rw [e] at h
    obtain ⟨z1, z2⟩ := eqB_scal e
    exact op_eq pins s σ H _ _ v u Q I rx ry ⟨z1, by rw [z2]; exact h⟩
  | none =>
    rw [e] at h
    exact op_eqD hu pins s σ H _ _ v u Q I rx ry h
theorem uNe' (hu : X.A.units + 64 < cLine) : OpR X (compareOp .NotEq) (rNeU X.K) := by
  intro pins s σ H x y v u Q I rx ry h
  unfold rNeU at h
  cases e : eqB x y with
  | some b =>
    rw [e] at h
    obtain ⟨z1, z2⟩ := eqB_scal e
    exact op_ne pins s σ H _ _ v u Q I rx ry ⟨z1, by rw [z2]; exact h⟩
  | none =>
    rw [e] at h
    exact op_neD hu pins s σ H _ _ v u Q I rx ry h
def rIsU : R2 := fun x y H Q => match y with
  | .non => Q (.bl (decide (x = .non))) H
  | .bl b => ∃ a, x = .bl a ∧ Q (.bl (decide (a = b))) H
  | _ => False
theorem uIs : OpR X (compareOp .Is) rIsU := by
  intro pins s σ H x y v u Q I rx ry h
  cases y <;> first | exact h.elim | exact op_isN pins s σ H _ _ v u Q I rx ry ⟨rfl, h⟩ | skip
  obtain ⟨a, rfl, h⟩ := h
  exact op_isBl pins s σ H _ _ v u Q I rx ry ⟨_, _, rfl, rfl, h⟩
def rIsNotU : R2 := fun x y H Q => match y with
  | .non => Q (.bl (!decide (x = .non))) H
  | .bl b => ∃ a, x = .bl a ∧ Q (.bl (!decide (a = b))) H
  | _ => False
theorem uIsNot : OpR X (compareOp .IsNot) rIsNotU := by
  intro pins s σ H x y v u Q I rx ry h
  cases y <;> first | exact h.elim | exact op_notN pins s σ H _ _ v u Q I rx ry ⟨rfl, h⟩ | skip
  obtain ⟨a, rfl, h⟩ := h
  exact op_notBl pins s σ H _ _ v u Q I rx ry ⟨_, _, rfl, rfl, h⟩

/-! ### in, not in: lists and tuples -/
def rInU (K : PySem.W.Frag) : R2 := fun x y H Q => match y with
  | .ref p => ∃ xs, (SqL K H p xs ∨ SqT K H p xs) ∧ ((flatV x = true ∧ xs.all flatV = true ∧ Q (.bl (inV x xs)) H))
  | _ => False
theorem uIn : OpR X (compareOp .In) (rInU X.K) := by
  intro pins s σ H x y v u Q I rx ry h
  cases y <;> first | exact h.elim | skip
  obtain ⟨xs, h1, h2, h3, h4⟩ := h
  exact op_in_seq pins s σ H _ _ v u Q I rx ry ⟨_, xs, rfl, h1, h2, h3, h4⟩
def rNotInU (K : PySem.W.Frag) : R2 := fun x y H Q => match y with
  | .ref p => ∃ xs, (SqL K H p xs ∨ SqT K H p xs) ∧ ((flatV x = true ∧ xs.all flatV = true ∧ Q (.bl (!inV x xs)) H))
  | _ => False
theorem uNotIn : OpR X (compareOp .NotIn) (rNotInU X.K) := by
  intro pins s σ H x y v u Q I rx ry h
  cases y <;> first | exact h.elim | skip
  obtain ⟨xs, h1, h2, h3, h4⟩ := h
  exact op_notIn_seq pins s σ H _ _ v u Q I rx ry ⟨_, xs, rfl, h1, h2, h3, h4⟩

/-! ### o[i], o[a:b] -/
def rIxU (K : PySem.W.Frag) : R2 := fun x y H Q => match x, y with
  | .str z, .int i => z.length ≤ sizeLine ∧ ∃ c, atI z.cps.toList i = some c ∧ Q (.str ⟨#[c]⟩) H
  | .ref p, .int i => ∃ xs, (SqL K H p xs ∨ SqT K H p xs) ∧ ∃ v, atI xs i = some v ∧ Q v H
  | _, _ => False
theorem uIx : IxR X (rIxU X.K) := by
  intro a b pins s σ H x y v u Q I rx ry h hs
  cases x <;> cases y <;> first | exact h.elim | skip
  · obtain ⟨h1, c, h2, h3⟩ := h
    exact ix_str a b pins s σ H _ _ v u Q I rx ry ⟨_, _, c, rfl, rfl, h1, h2, h3⟩ hs
  · obtain ⟨xs, h1 | h1, w', h2, h3⟩ := h
    · exact ix_list a b pins s σ H _ _ v u Q I rx ry ⟨_, xs, _, w', rfl, rfl, h1, h2, h3⟩ hs
    · exact ix_tup a b pins s σ H _ _ v u Q I rx ry ⟨_, xs, _, w', rfl, rfl, h1, h2, h3⟩ hs
end
end U

/-! slices, built-in functions by the values that come -/
namespace U
open PySem PySem.Spec PyProof.Rows L2
section
variable {X : Cx}
/-! ### slices -/
def rSlU (K : PySem.W.Frag) : V → Option Int → Option Int → Hp → VK → Prop := fun x lo hi H Q => match x with
  | .str z => z.length ≤ sizeLine ∧ Q (.str (cutS z lo hi)) H
  | .ref a => (∃ xs, SqL K H a xs ∧ nL (cutV xs lo hi) H Q) ∨ rSlA K (.ref a) lo hi H Q
  | _ => False
theorem uSl : SlR X (rSlU X.K) := by
  intro pins s σ H x v vl vu lo hi sl Q I rx hs pl pu h
  cases x <;> first | exact h.elim | skip
  · exact sl_str pins s σ H _ v vl vu lo hi sl Q I rx hs pl pu ⟨_, rfl, h.1, h.2⟩
  · rcases h with ⟨xs, h1, h2⟩ | h
    · exact sl_list pins s σ H _ v vl vu lo hi sl Q I rx hs pl pu ⟨_, xs, rfl, h1, h2⟩
    · exact sl_tupA pins s σ H _ v vl vu lo hi sl Q I rx hs pl pu h

/-! ### len, abs, max, min, int, list, tuple -/
def rLenU (K : PySem.W.Frag) : List V → Hp → VK → Prop := fun xs H Q => match xs with
  | [.str z] => z.length ≤ sizeLine ∧ Q (.int z.length) H
  | [.ref p] => (∃ ys, (SqL K H p ys ∨ SqT K H p ys) ∧ Q (.int ys.length) H) ∨ ∃ kvs, H p = some (.dK kvs) ∧ Q (.int kvs.length) H
  | _ => False
theorem cLen : CallR X (.builtin "len") (rLenU X.K) := by
  intro pins s σ H xs us Q I r h
  match xs, h with
  | [.str z], h => exact call_len_str pins s σ H _ us Q I r ⟨z, rfl, h.1, h.2⟩
  | [.ref p], .inl ⟨ys, h1, h2⟩ => exact call_len_seq pins s σ H _ us Q I r ⟨p, ys, rfl, h1, h2⟩
  | [.ref p], .inr ⟨kvs, h1, h2⟩ => exact call_lenD pins s σ H _ us Q I r ⟨p, kvs, rfl, h1, h2⟩
def rAbsU : List V → Hp → VK → Prop := fun xs H Q => match xs with
  | [.int i] => Q (.int (i.natAbs : Int)) H
  | _ => False
theorem cAbs : CallR X (.builtin "abs") rAbsU := by
  intro pins s σ H xs us Q I r h
  match xs, h with
  | [.int i], h =>
    refine call_abs pins s σ H _ us Q I r ⟨i, rfl, ?_⟩
    have e : (if i < 0 then -i else i) = (i.natAbs : Int) := by split <;> omega
    rw [e]
    exact h
def rMaxU : List V → Hp → VK → Prop := fun xs H Q => match xs with
  | [.int i, .int j] => Q (.int (max i j)) H
  | _ => False
theorem cMax (hc : X.calm = true) : CallR X (.builtin "max") rMaxU := by
  intro pins s σ H xs us Q I r h
  match xs, h with
  | [.int i, .int j], h =>
    refine call_max2 hc pins s σ H _ us Q I r ⟨i, j, rfl, ?_⟩
    have e : (if j > i then j else i) = max i j := by split <;> omega
    rw [e]
    exact h
def rMinU : List V → Hp → VK → Prop := fun xs H Q => match xs with
  | [.int i, .int j] => Q (.int (min i j)) H
  | _ => False
theorem cMin (hc : X.calm = true) : CallR X (.builtin "min") rMinU := by
  intro pins s σ H xs us Q I r h
  match xs, h with
  | [.int i, .int j], h =>
    refine call_min2 hc pins s σ H _ us Q I r ⟨i, j, rfl, ?_⟩
    have e : (if j < i then j else i) = min i j := by split <;> omega
    rw [e]
    exact h
def bToI (k : Bool) : Int := if k then 1 else 0
def rIntU : List V → Hp → VK → Prop := fun xs H Q => match xs with
  | [.int i] => Q (.int i) H
  | [.bl k] => Q (.int (bToI k)) H
  | _ => False
theorem cInt : CallR X (.type "int") rIntU := by
  intro pins s σ H xs us Q I r h
  match xs, h with
  | [.int i], h => exact call_int1 pins s σ H _ us Q I r (.inl ⟨i, rfl, h⟩)
  | [.bl k], h => exact call_int1 pins s σ H _ us Q I r (.inr ⟨k, rfl, h⟩)
def rListU (K : PySem.W.Frag) : List V → Hp → VK → Prop := fun xs H Q => match xs with
  | [.ref p] => (∃ ys, (SqL K H p ys ∨ SqT K H p ys) ∧ nL ys H Q) ∨ ∃ kvs : List (Key × V), Rd H p (.dK kvs) ∧ nL (kvs.map fun kv => kV kv.1) H Q
  | _ => False
theorem cList (hc : X.calm = true) : CallR X (.type "list") (rListU X.K) := by
  intro pins s σ H xs us Q I r h
  match xs, h with
  | [.ref p], .inl ⟨ys, h1, h2⟩ => exact call_list_of pins s σ H _ us Q I r ⟨p, ys, rfl, h1, h2⟩
  | [.ref p], .inr ⟨kvs, h1, h2⟩ => exact call_listD hc pins s σ H _ us Q I r ⟨p, kvs, rfl, h1, h2⟩
def rTupleU (K : PySem.W.Frag) : List V → Hp → VK → Prop := fun xs H Q => match xs with
  | [.ref p] => (∃ ys, SqL K H p ys ∧ nT ys H Q) ∨ ((∃ ys, SqT K H p ys) ∧ Q (.ref p) H)
  | _ => False
theorem cTuple : CallR X (.type "tuple") (rTupleU X.K) := by
  intro pins s σ H xs us Q I r h
  match xs, h with
  | [.ref p], .inl ⟨ys, h1, h2⟩ => exact call_tuple_of pins s σ H _ us Q I r ⟨p, ys, rfl, .inl ⟨h1, h2⟩⟩
  | [.ref p], .inr ⟨⟨ys, h1⟩, h2⟩ => exact call_tuple_of pins s σ H _ us Q I r ⟨p, ys, rfl, .inr ⟨h1, h2⟩⟩
def rDictU : List V → Hp → VK → Prop := fun xs H Q => match xs with
  | [.ref p] => ∃ kvs : List (Key × V), Rd H p (.dK kvs) ∧ ∀ d, H d = none → Q (.ref d) (upd H d (.dK kvs))
  | _ => False
theorem cDict : CallR X (.type "dict") rDictU := by
  intro pins s σ H xs us Q I r h
  match xs, h with
  | [.ref p], ⟨kvs, h1, h2⟩ => exact call_dictD pins s σ H _ us Q I r ⟨p, kvs, rfl, h1, h2⟩

def rSumU (K : PySem.W.Frag) : List V → Hp → VK → Prop := fun xs H Q => match xs with
  | [.ref p] => ∃ ns : List Int, SqL K H p (ns.map V.int) ∧ Q (.int ns.sum) H
  | _ => False
theorem cSum (hc : X.calm = true) : CallR X (.builtin "sum") (rSumU X.K) := by
  intro pins s σ H xs us Q I r h
  match xs, h with
  | [.ref p], ⟨ns, h1, h2⟩ => exact cr_sum hc pins s σ H _ us Q I r ⟨p, ns, rfl, h1, h2⟩
def rAllU (K : PySem.W.Frag) : List V → Hp → VK → Prop := fun xs H Q => match xs with
  | [.ref p] => ∃ bs : List Bool, SqL K H p (bs.map V.bl) ∧ Q (.bl (bs.all id)) H
  | _ => False
theorem cAll (hc : X.calm = true) : CallR X (.builtin "all") (rAllU X.K) := by
  intro pins s σ H xs us Q I r h
  match xs, h with
  | [.ref p], ⟨bs, h1, h2⟩ => exact cr_all hc pins s σ H _ us Q I r ⟨p, bs, rfl, h1, h2⟩
def rAnyU (K : PySem.W.Frag) : List V → Hp → VK → Prop := fun xs H Q => match xs with
  | [.ref p] => ∃ bs : List Bool, SqL K H p (bs.map V.bl) ∧ Q (.bl (bs.any id)) H
  | _ => False
theorem cAny (hc : X.calm = true) : CallR X (.builtin "any") (rAnyU X.K) := by
  intro pins s σ H xs us Q I r h
  match xs, h with
  | [.ref p], ⟨bs, h1, h2⟩ => exact cr_any hc pins s σ H _ us Q I r ⟨p, bs, rfl, h1, h2⟩

/-! ### sorted -/
/-- a < b, of data -/
abbrev dLt (a b : PyData) : Bool := PySem.W.dataLt a b
/-- a list of what may be sorted -/
structure Sorts (K : PySem.W.Frag) (H : Hp) (bs : List (V × PyData)) : Prop where
  dat : ∀ b ∈ bs, Dp K H b.1 b.2
  alk : PySem.W.AllAlike (bs.map (·.2))
  srt : PySem.W.Sortable (bs.map (·.2))
  dep : ∀ b ∈ bs, b.2.depth ≤ 50
  len : bs.length ≤ 100000
def rSortU (K : PySem.W.Frag) : List V → Hp → VK → Prop := fun xs H Q => match xs with
  | [.ref p] => ∃ bs : List (V × PyData), SqL K H p (bs.map (·.1)) ∧ Sorts K H bs ∧
      ∀ cs : List (V × PyData), cs.Perm bs → cs.Pairwise (fun a b => dLt b.2 a.2 = false) → nL (cs.map (·.1)) H Q
  | _ => False
theorem each_vals : ∀ {bs : List (V × PyData)} {us : List Value}, Vals (bs.map (·.1)) us → PySem.W.EachIs (fun u b => RelV b.1 u) us bs
  | [], _, r => by
    cases r
    exact .nil
  | b :: bs, _, r => by
    cases r with
    | cons r1 r2 => exact .cons r1 (each_vals r2)
theorem vals_each : ∀ {bs : List (V × PyData)} {us : List Value}, PySem.W.EachIs (fun u b => RelV b.1 u) us bs → Vals (bs.map (·.1)) us
  | [], _, r => by
    cases r
    exact .nil
  | b :: bs, _, r => by
    cases r with
    | cons r1 r2 => exact .cons r1 (vals_each r2)
theorem each_reads {pins : List (Addr × Obj)} {σ : L2.St} {H : Hp} {s : Shared} (I : Inv X pins σ H s) : ∀ {bs : List (V × PyData)} {us : List Value}, (∀ b ∈ bs, Dp X.K H b.1 b.2) → Vals (bs.map (·.1)) us → PySem.W.EachIs (fun u b => ∃ as, Reads s.heap u b.2 as) us bs
  | [], _, _, r => by
    cases r
    exact .nil
  | b :: bs, _, h, r => by
    cases r with
    | cons r1 r2 => exact .cons (Dp.reads I _ _ _ (h b List.mem_cons_self) r1) (each_reads I (fun c hc => h c (List.mem_cons_of_mem _ hc)) r2)
theorem cSorted (hu : X.A.units + 64 < cLine) : CallR X (.builtin "sorted") (rSortU X.K) := by
  intro pins s σ H xs us Q I r h
  match xs, h with
  | [.ref p], ⟨bs, hs, S, q⟩ =>
    cases r with
    | cons r rr =>
      cases rr
      cases r
      obtain ⟨its, rv, pl, hz⟩ := I.list hs
      have e1 := each_vals rv
      have hb : ∀ b, b ∈ bs → X.A.units + 2 + b.2.depth < cLine := fun b hb => by
        have := S.dep b hb
        omega
      refine PySem.W.sorted_data (vs := its) (bs := bs) (enc := fun b : V × PyData => b.2) (R := fun u b => RelV b.1 u) pl.isList e1 (each_reads I S.dat rv) S.alk S.srt ?_ hb ?_
      · rw [List.length_map] at hz
        exact hz
      · intro out ol oe
        have perm : (bs.mergeSort (PySem.W.dataLe false fun b : V × PyData => b.2)).Perm bs := List.mergeSort_perm _ _
        have srt : (bs.mergeSort (PySem.W.dataLe false fun b : V × PyData => b.2)).Pairwise (fun a b => dLt b.2 a.2 = false) :=
          (PySem.W.sort_pairwise (PySem.W.sortLe_total _ _ _) bs).imp fun {a b} z => by
            have z' : (!dLt b.2 a.2) = true := z
            simpa using z'
        generalize bs.mergeSort (PySem.W.dataLe false fun b : V × PyData => b.2) = cs at perm srt oe
        have rv2 := vals_each oe
        have hfr : s.heap.objs.size ≤ s.heap.objs.size + 1 := Nat.le_succ _
        obtain ⟨e, he⟩ := sortedAll_at s.heap its out.toArray
        have new : ObjOk X.prog X.w (upd H (s.heap.objs.size + 1) (.lst (cs.map (·.1)))) (sortedAll s.heap its out.toArray) (s.heap.objs.size + 1) (.lst (cs.map (·.1))) :=
          ⟨by rw [List.length_map, perm.length_eq]; rw [List.length_map] at hz; exact hz, out, e, rv2, he⟩
        exact ⟨.ref (s.heap.objs.size + 1), _, I.laid (t' := s.toks) (fun b u z => sortedAll_old z) hfr new, rfl, q cs perm srt _ (I.hok.fresh hfr)⟩

/-! ### isinstance of built-in classes -/
inductive Ty where
  | non | bl | int | str | lst | tup | dct
  deriving DecidableEq
def Ty.nm : Ty → String
  | .non => "NoneType"
  | .bl => "bool"
  | .int => "int"
  | .str => "str"
  | .lst => "list"
  | .tup => "tuple"
  | .dct => "dict"
def isT (a b : Ty) : Bool := decide (a = b) || (decide (a = .bl) && decide (b = .int))
theorem isT_ok (a b : Ty) (hb : b ≠ .non) : kitB a.nm b.nm = some (isT a b) := by
  cases a <;> cases b <;> first | exact absurd rfl hb | decide +kernel
/-- a value's class -/
def TyIs (K : PySem.W.Frag) (H : Hp) (x : V) (a : Ty) : Prop := TyX K H x (.type a.nm)
def tyOf : String → Option Ty
  | "bool" => some .bl
  | "int" => some .int
  | "str" => some .str
  | "list" => some .lst
  | "tuple" => some .tup
  | "dict" => some .dct
  | _ => none
theorem tyOf_ok {n : String} {t : Ty} (h : tyOf n = some t) : n = t.nm ∧ t ≠ .non := by
  unfold tyOf at h
  split at h <;> first | (cases h; exact ⟨rfl, by decide⟩) | cases h
def rIsiU (K : PySem.W.Frag) : List V → Hp → VK → Prop := fun xs H Q => match xs with
  | [x, .ty n] => ∃ a t, TyIs K H x a ∧ tyOf n = some t ∧ Q (.bl (isT a t)) H
  | _ => False
theorem cIsi : CallR X (.builtin "isinstance") (rIsiU X.K) := by
  intro pins s σ H xs us Q I r h
  match xs, h with
  | [x, .ty n], ⟨a, t, h1, h2, h3⟩ =>
    obtain ⟨e, hn⟩ := tyOf_ok h2
    exact call_isi pins s σ H _ us Q I r ⟨x, _, _, _, _, rfl, .ty n, h1, kit_ty (by rw [e]; exact isT_ok a t hn), h3⟩
theorem ty_str {K : PySem.W.Frag} {H : Hp} {x : Str} : TyIs K H (.str x) .str := .base (.str x)
theorem ty_int {K : PySem.W.Frag} {H : Hp} {x : Int} : TyIs K H (.int x) .int := .base (.int x)
theorem ty_bl {K : PySem.W.Frag} {H : Hp} {x : Bool} : TyIs K H (.bl x) .bl := .base (.bl x)
theorem ty_non {K : PySem.W.Frag} {H : Hp} : TyIs K H .non .non := .base .non
theorem ty_lst {K : PySem.W.Frag} {H : Hp} {a : Addr} {xs : List V} (h : H a = some (.lst xs)) : TyIs K H (.ref a) .lst := .base (.lst h)
theorem ty_tup {K : PySem.W.Frag} {H : Hp} {a : Addr} {xs : List V} (h : H a = some (.tup xs)) : TyIs K H (.ref a) .tup := .base (.tup h)
theorem ty_dK {K : PySem.W.Frag} {H : Hp} {a : Addr} {kvs : List (Key × V)} (h : H a = some (.dK kvs)) : TyIs K H (.ref a) .dct := .base (.dK h)
theorem ty_seqT {K : PySem.W.Frag} {H : Hp} {a : Addr} {xs : List V} (h : SqT K H a xs) : TyIs K H (.ref a) .tup := by
  rcases h with (h | ⟨o, h⟩) | ⟨o, its, n, h1, h2, _⟩
  · exact ty_tup h
  · exact .fTuple h
  · exact .kTuple h1 h2
end
end U
namespace U
open PySem PySem.Spec PyProof.Rows L2
/-! the rules with the fragment told: they serve within a comprehension's block -/
section
variable {X : Cx} (K : PySem.W.Frag) (hK : X.K = K)
include hK
theorem kAdd : OpR X (binaryOp .Add) (rAddU K) := hK ▸ uAdd
theorem kEq (hu : X.A.units + 64 < cLine) : OpR X (compareOp .Eq) (rEqU K) := hK ▸ uEq' hu
theorem kNe (hu : X.A.units + 64 < cLine) : OpR X (compareOp .NotEq) (rNeU K) := hK ▸ uNe' hu
theorem kIn : OpR X (compareOp .In) (rInU K) := hK ▸ uIn
theorem kNotIn : OpR X (compareOp .NotIn) (rNotInU K) := hK ▸ uNotIn
theorem kIx : IxR X (rIxU K) := hK ▸ uIx
theorem kSl : SlR X (rSlU K) := hK ▸ uSl
theorem kLen : CallR X (.builtin "len") (rLenU K) := hK ▸ cLen
theorem kList (hc : X.calm = true) : CallR X (.type "list") (rListU K) := hK ▸ cList hc
theorem kTuple : CallR X (.type "tuple") (rTupleU K) := hK ▸ cTuple
theorem kSum (hc : X.calm = true) : CallR X (.builtin "sum") (rSumU K) := hK ▸ cSum hc
theorem kAll (hc : X.calm = true) : CallR X (.builtin "all") (rAllU K) := hK ▸ cAll hc
theorem kAny (hc : X.calm = true) : CallR X (.builtin "any") (rAnyU K) := hK ▸ cAny hc
theorem kSorted (hu : X.A.units + 64 < cLine) : CallR X (.builtin "sorted") (rSortU K) := hK ▸ cSorted hu
theorem kIsi : CallR X (.builtin "isinstance") (rIsiU K) := hK ▸ cIsi
theorem ki_list {tg l : Expr} {tl : TE} (hl : PE X l tl) : PI X tg l (iList K tl) := hK ▸ pi_list hl
theorem ki_tup {tg l : Expr} {tl : TE} (hl : PE X l tl) : PI X tg l (iTup K tl) := hK ▸ pi_tup hl
theorem kg_tup {pos : Pos} {es : List Expr} {k : Nat} {t : TGs} {n : Nat} (hc : X.calm = true) (h : PGs X es t)
    (hn : (assignEach es X.env).length = n := by rfl) (hst : (assignEach es X.env).findIdx? (·.1) = none := by rfl) : PG X (.Tuple es k pos) (gTup K n t) := hK ▸ pg_tup hc h hn hst
end
end U

/-! the readings, step by step: one lemma a form, one word for all that need no thought -/
namespace U
open PySem PySem.Spec PyProof.Rows L2
section
variable {σ : L2.St} {H : Hp} {Q : VK} {D : Ends} {v x y : V} {i j : Int} {a b : Str} {ta tb tc te : TE} {t u : TS} {K : PySem.W.Frag}
theorem rd_seq (h : t { D with nx := u D } σ H) : tSeq t u D σ H := h
theorem rd_var {n : Nat} (e : σ[n]? = some (some v)) (h : Q v H) : tVar n σ H Q := ⟨v, e, h⟩
theorem rd_c (h : Q v H) : tC v σ H Q := h
theorem rd_asg {g : TG} (h : te σ H fun x H1 => g x σ H1 D.nx) : tAsg te g D σ H := h
theorem rd_name {n : Nat} {Q : L2.St → Hp → Prop} (h : Q (σ.set n (some v)) H) : gName n v σ H Q := h
theorem rd_ret (h : te σ H D.rt) : tRet te D σ H := h
theorem rd_retN (h : D.rt .non H) : tRetN D σ H := h
theorem rd_drop (h : te σ H fun _ H1 => D.nx σ H1) : tDrop te D σ H := h
theorem rd_next (h : D.nx σ H) : tNext D σ H := h
theorem rd_if {c : TT} (h : c σ H fun b H1 => if b = true then t D σ H1 else u D σ H1) : tIfS c t u D σ H := h
theorem rd_break (h : D.bk σ H) : tBreak D σ H := h
theorem rd_cont (h : D.ct σ H) : tCont D σ H := h
theorem rd_op {r : R2} (h : ta σ H fun x H1 => tb σ H1 fun y H2 => r x y H2 Q) : tOp r ta tb σ H Q := h
theorem rd_test {Q : Bool → Hp → Prop} (h : te σ H fun x H1 => ∃ k, x = .bl k ∧ Q k H1) : tTest te σ H Q := h
theorem rd_B {Q : Bool → Hp → Prop} (h : te σ H fun x H1 => ∃ k, x = .bl k ∧ Q k H1) : tB te σ H Q := h
theorem rd_bl {Q : Bool → Prop} {k : Bool} (h : Q k) : ∃ c, V.bl k = .bl c ∧ Q c := ⟨k, rfl, h⟩
theorem rd_chain {r r' : R2} (h : ta σ H fun x H1 => tb σ H1 fun y H2 => r x y H2 fun z H3 => ∃ k, z = .bl k ∧ (if k = true then tc σ H3 fun w' H4 => r' y w' H4 Q else Q (.bl false) H3)) : tChain r r' ta tb tc σ H Q := h
theorem rd_nil {Q : List V → Hp → Prop} (h : Q [] H) : tNil σ H Q := h
theorem rd_cons {tr : TA} {Q : List V → Hp → Prop} (h : ta σ H fun x H1 => tr σ H1 fun xs H2 => Q (x :: xs) H2) : tCons ta tr σ H Q := h
theorem rd_cb {r : List V → Hp → VK → Prop} {tr : TA} (h : tr σ H fun vs H1 => r vs H1 Q) : tCB r tr σ H Q := h
theorem rd_c1 {sp : Sp} {E : XK} {tr : TA} (h : tr σ H fun vs H1 => sp vs H1 Q E) : tC1 sp E tr σ H Q := h
theorem rd_c2 {sp : Sp} {W : WX} {tr : TA} (h : tr σ H fun vs H1 => sp vs H1 Q fun cls d H' => W cls d σ H') : tC2 sp W tr σ H Q := h
theorem rd_lst {tr : TA} (h : tr σ H fun xs H1 => xs.length ≤ sizeLine ∧ nL xs H1 Q) : tLst tr σ H Q := h
theorem rd_tup {tr : TA} (h : tr σ H fun xs H1 => xs.length ≤ sizeLine ∧ nT xs H1 Q) : tTup tr σ H Q := h
theorem rd_sz {xs : List V} {P : Prop} (h : Nat.ble xs.length 1000 = true) (q : P) : xs.length ≤ sizeLine ∧ P :=
  ⟨Nat.le_trans (Nat.le_of_ble_eq_true h) (by decide), q⟩
theorem rd_addI (h : Q (.int (i + j)) H) : rAddU K (.int i) (.int j) H Q := h
theorem rd_subI (h : Q (.int (i - j)) H) : rSubU (.int i) (.int j) H Q := h
theorem rd_mulI (c : CMul i j ∨ CMulW i j) (h : Q (.int (i * j)) H) : rMulU (.int i) (.int j) H Q := ⟨c, h⟩
theorem rd_modI (c : 0 < j) (h : Q (.int (i % j)) H) : rModU (.int i) (.int j) H Q := ⟨c, h⟩
theorem rd_divI (c : 0 < j ∧ j < 1073741824) (h : Q (.int (i / j)) H) : rDivU (.int i) (.int j) H Q := ⟨c, h⟩
theorem rd_addS (c : a.length + b.length ≤ sizeLine) (h : Q (.str (a ++ b)) H) : rAddU K (.str a) (.str b) H Q := ⟨c, h⟩
theorem rd_ltI (h : Q (.bl (decide (i < j))) H) : rLtU (.int i) (.int j) H Q := h
theorem rd_ltS (h : Q (.bl (decide (a.cps.toList < b.cps.toList))) H) : rLtU (.str a) (.str b) H Q := h
theorem rd_leI (h : Q (.bl (decide (i ≤ j))) H) : rLeU (.int i) (.int j) H Q := h
theorem rd_gtI (h : Q (.bl (decide (j < i))) H) : rGtU (.int i) (.int j) H Q := h
theorem rd_geI (h : Q (.bl (decide (j ≤ i))) H) : rGeU (.int i) (.int j) H Q := h
theorem rd_eqI (h : Q (.bl (decide (i = j))) H) : rEqU K (.int i) (.int j) H Q := h
theorem rd_eqS (h : Q (.bl (decide (a = b))) H) : rEqU K (.str a) (.str b) H Q := h
theorem rd_neI (h : Q (.bl (!decide (i = j))) H) : rNeU K (.int i) (.int j) H Q := h
theorem rd_neS (h : Q (.bl (!decide (a = b))) H) : rNeU K (.str a) (.str b) H Q := h
theorem rd_is (h : Q (.bl (decide (x = .non))) H) : rIsU x .non H Q := h
theorem rd_isNot (h : Q (.bl (!decide (x = .non))) H) : rIsNotU x .non H Q := h
theorem rd_absI (h : Q (.int (i.natAbs : Int)) H) : rAbsU [.int i] H Q := h
theorem rd_maxI (h : Q (.int (max i j)) H) : rMaxU [.int i, .int j] H Q := h
theorem rd_minI (h : Q (.int (min i j)) H) : rMinU [.int i, .int j] H Q := h
theorem rd_intI (h : Q (.int i) H) : rIntU [.int i] H Q := h
theorem rd_intB {k : Bool} (h : Q (.int (bToI k)) H) : rIntU [.bl k] H Q := h
theorem rd_neg {g : Int → Int} (h : Q (.int (g i)) H) : rU (fun i => .int (g i)) (.int i) H Q := ⟨i, rfl, h⟩
theorem rd_sub {to ti : TE} {t : TSet} {Q : L2.St → Hp → Prop} (h : to σ H fun o H1 => ti σ H1 fun i H2 => t o i v H2 fun H3 => Q σ H3) : gSub to ti t v σ H Q := h
theorem rd_and {t u : TT} {Q : Bool → Hp → Prop} (h : t σ H fun c H1 => if c = true then u σ H1 Q else Q false H1) : tAnd t u σ H Q := h
theorem rd_or {t u : TT} {Q : Bool → Hp → Prop} (h : t σ H fun c H1 => if c = true then Q true H1 else u σ H1 Q) : tOr t u σ H Q := h
theorem rd_not {t : TT} {Q : Bool → Hp → Prop} (h : t σ H fun c H1 => Q (!c) H1) : tNot t σ H Q := h
theorem rd_andV (h : ta σ H fun x H1 => ∃ c, x = .bl c ∧ if c = true then tb σ H1 Q else Q (.bl false) H1) : tAndV ta tb σ H Q := h
theorem rd_orV (h : ta σ H fun x H1 => ∃ c, x = .bl c ∧ if c = true then Q (.bl true) H1 else tb σ H1 Q) : tOrV ta tb σ H Q := h
theorem rd_notV (h : ta σ H fun x H1 => ∃ c, x = .bl c ∧ Q (.bl (!c)) H1) : tNotV ta σ H Q := h
theorem rd_ifE {t : TT} (h : t σ H fun c H1 => if c = true then ta σ H1 Q else tb σ H1 Q) : tIf t ta tb σ H Q := h
theorem rd_T {A B : Prop} (h : A) : if true = true then A else B := by
  rw [if_pos rfl]
  exact h
theorem rd_F {A B : Prop} (h : B) : if false = true then A else B := by
  rw [if_neg Bool.false_ne_true]
  exact h
/-- a test that is known -/
theorem rd_yes {c : Prop} {_ : Decidable c} {A B : Prop} (hc : c) (h : A) : if decide c = true then A else B := by
  rw [if_pos (decide_eq_true hc)]
  exact h
theorem rd_no {c : Prop} {_ : Decidable c} {A B : Prop} (hc : ¬ c) (h : B) : if decide c = true then A else B := by
  rw [if_neg (by rw [decide_eq_false hc]; exact Bool.false_ne_true)]
  exact h
theorem rd_nyes {c : Prop} {_ : Decidable c} {A B : Prop} (hc : ¬ c) (h : A) : if (!decide c) = true then A else B := by
  rw [if_pos (by rw [decide_eq_false hc]; rfl)]
  exact h
theorem rd_nno {c : Prop} {_ : Decidable c} {A B : Prop} (hc : c) (h : B) : if (!decide c) = true then A else B := by
  rw [if_neg (by rw [decide_eq_true hc]; exact Bool.false_ne_true)]
  exact h
theorem rd_split {c : Prop} {_ : Decidable c} {A B : Prop} (h1 : c → A) (h2 : ¬ c → B) : if decide c = true then A else B := by
  by_cases h : c
  · exact rd_yes h (h1 h)
  · exact rd_no h (h2 h)
theorem rd_nsplit {c : Prop} {_ : Decidable c} {A B : Prop} (h1 : ¬ c → A) (h2 : c → B) : if (!decide c) = true then A else B := by
  by_cases h : c
  · exact rd_nno h (h2 h)
  · exact rd_nyes h (h1 h)
theorem rd_b {c : Bool} {A B : Prop} (h1 : c = true → A) (h2 : c = false → B) : if c = true then A else B := by
  cases c with
  | true => exact rd_T (h1 rfl)
  | false => exact rd_F (h2 rfl)
/-- an item of a list, a tuple -/
theorem rd_ixL {p : Addr} {xs : List V} (hs : SqL K H p xs) (hv : atI xs i = some v) (h : Q v H) : rIxU K (.ref p) (.int i) H Q := ⟨xs, .inl hs, v, hv, h⟩
theorem rd_ixT {p : Addr} {xs : List V} (hs : SqT K H p xs) (hv : atI xs i = some v) (h : Q v H) : rIxU K (.ref p) (.int i) H Q := ⟨xs, .inr hs, v, hv, h⟩
theorem rd_ixS {c : Nat} (hz : a.length ≤ 100000) (hv : atI a.cps.toList i = some c) (h : Q (.str ⟨#[c]⟩) H) : rIxU K (.str a) (.int i) H Q := ⟨Nat.le_trans hz (by decide), c, hv, h⟩
theorem rd_lenL {p : Addr} {xs : List V} (hs : SqL K H p xs) (h : Q (.int xs.length) H) : rLenU K [.ref p] H Q := .inl ⟨xs, .inl hs, h⟩
theorem rd_lenT {p : Addr} {xs : List V} (hs : SqT K H p xs) (h : Q (.int xs.length) H) : rLenU K [.ref p] H Q := .inl ⟨xs, .inr hs, h⟩
theorem rd_lenS (hz : a.length ≤ 100000) (h : Q (.int a.length) H) : rLenU K [.str a] H Q := ⟨Nat.le_trans hz (by decide), h⟩
theorem rd_lenD {p : Addr} {kvs : List (Key × V)} (hs : H p = some (.dK kvs)) (h : Q (.int kvs.length) H) : rLenU K [.ref p] H Q := .inr ⟨kvs, hs, h⟩
theorem rd_setL {p : Addr} {xs : List V} {n : Nat} {Q : Hp → Prop} (hs : H p = some (.lst xs)) (hi : ixN xs.length i = some n) (h : Q (upd H p (.lst (xs.set n v)))) : rSetL (.ref p) (.int i) v H Q := ⟨p, xs, i, n, rfl, rfl, hs, hi, h⟩
theorem rd_listL {p : Addr} {xs : List V} (hs : SqL K H p xs) (h : nL xs H Q) : rListU K [.ref p] H Q := .inl ⟨xs, .inl hs, h⟩
theorem rd_listT {p : Addr} {xs : List V} (hs : SqT K H p xs) (h : nL xs H Q) : rListU K [.ref p] H Q := .inl ⟨xs, .inr hs, h⟩
theorem rd_tupleL {p : Addr} {xs : List V} (hs : SqL K H p xs) (h : nT xs H Q) : rTupleU K [.ref p] H Q := .inl ⟨xs, hs, h⟩
theorem rd_slS {lo hi : Option Int} (hz : a.length ≤ 100000) (h : Q (.str (cutS a lo hi)) H) : rSlU K (.str a) lo hi H Q := ⟨Nat.le_trans hz (by decide), h⟩
theorem rd_slL {lo hi : Option Int} {p : Addr} {xs : List V} (hs : SqL K H p xs) (h : nL (cutV xs lo hi) H Q) : rSlU K (.ref p) lo hi H Q := .inl ⟨xs, hs, h⟩
theorem rd_sl {tl th : TO} {r : V → Option Int → Option Int → Hp → VK → Prop} (h : te σ H fun x H1 => tl σ H1 fun lo H2 => th σ H2 fun hi H3 => r x lo hi H3 Q) : tSl r te tl th σ H Q := h
theorem rd_noPart {Q : Option Int → Hp → Prop} (h : Q none H) : tNoPart σ H Q := h
theorem rd_part {Q : Option Int → Hp → Prop} (h : te σ H fun x H1 => ∃ i, x = .int i ∧ Q (some i) H1) : tPart te σ H Q := h
theorem rd_exI {Q : Int → Prop} (h : Q i) : ∃ k, V.int i = .int k ∧ Q k := ⟨i, rfl, h⟩
theorem rd_bm {T : String} {r : V → List V → Hp → VK → Prop} {tr : TA} (h : te σ H fun x H1 => tyV K T x H1 ∧ tr σ H1 fun xs H2 => r x xs H2 Q) : tBM K T r te tr σ H Q := h
theorem rd_bm0 {T : String} {r : V → List V → Hp → VK → Prop} (h : te σ H fun x H1 => tyV K T x H1 ∧ r x [] H1 Q) : tBM0 K T r te σ H Q := h
theorem rd_tyL {p : Addr} {xs : List V} {P : Prop} (hs : H p = some (.lst xs)) (h : P) : tyV K "list" (.ref p) H ∧ P := ⟨.inl ⟨rfl, xs, .inl (.inl hs)⟩, h⟩
theorem rd_append {p : Addr} {xs : List V} (hs : H p = some (.lst xs)) (hz : xs.length < 100000) (h : Q .non (upd H p (.lst (xs ++ [v])))) : rAppend (.ref p) [v] H Q :=
  ⟨p, xs, v, rfl, rfl, hs, Nat.lt_of_lt_of_le hz (by decide), h⟩
theorem mul_bI {i : Int} {b : Bool} : CMul i (bToI b) ∨ CMulW i (bToI b) := .inl (.inr (by cases b <;> decide))
theorem rd_powI (c : CPow i j) (h : Q (.int (i ^ j.toNat)) H) : rPowU (.int i) (.int j) H Q := ⟨c, h⟩
/-! heaps -/
theorem new_ne {p q : Addr} {o : HO} (h : upd H p o q = none) : q ≠ p := fun e => by
  rw [e, upd_same] at h
  cases h
theorem new_old {p q : Addr} {o : HO} (h : upd H p o q = none) : H q = none := by
  rw [upd_ne (new_ne h)] at h
  exact h
theorem at_upd {p q : Addr} {o u : HO} (n : q ≠ p) (h : H q = some u) : upd H p o q = some u := (upd_ne n).trans h
theorem no_upd {p q : Addr} {o : HO} (n : q ≠ p) (h : H q = none) : upd H p o q = none := (upd_ne n).trans h
/-- all that is tracked stays, but the object at p -/
def But (p : Addr) (H H' : Hp) : Prop := ∀ b o, b ≠ p → H b = some o → H' b = some o
theorem But.refl {p : Addr} : But p H H := fun _ _ _ h => h
theorem But.trans {p : Addr} {H1 H2 : Hp} (a : But p H H1) (b : But p H1 H2) : But p H H2 := fun c o n h => b c o n (a c o n h)
theorem But.of_same {p : Addr} {H1 : Hp} (a : Same H H1) : But p H H1 := fun c o _ h => a c o h
theorem But.upd {p : Addr} {o : HO} : But p H (upd H p o) := fun _ _ n h => at_upd n h
theorem But.new {p q : Addr} {o : HO} (h : H q = none) : But p H (L2.upd H q o) := fun _ _ _ e => at_upd (ne_of_none e h) e
theorem Same.new {q : Addr} {o : HO} (h : H q = none) : Same H (L2.upd H q o) := fun _ _ e => at_upd (ne_of_none e h) e
theorem But.free {p q : Addr} {H1 : Hp} (a : But p H H1) (n : q ≠ p) (h : H1 q = none) : H q = none := by
  cases e : H q with
  | none => rfl
  | some o =>
    rw [a q o n e] at h
    cases h
theorem new_of_same {q : Addr} {H1 : Hp} (a : Same H H1) (h : H1 q = none) : H q = none := a.free h
theorem Same.seqT {H' : Hp} {a : Addr} {xs : List V} (e : Same H H') (h : SqT K H a xs) : SqT K H' a xs := by
  rcases h with (h | ⟨o, h⟩) | h
  · exact .inl (.inl (e _ _ h))
  · exact .inl (.inr ⟨o, e _ _ h⟩)
  · exact .inr h
theorem But.seqT {p : Addr} {H' : Hp} {a : Addr} {xs : List V} (e : But p H H') (n : ∃ ys, H p = some (.lst ys)) (h : SqT K H a xs) : SqT K H' a xs := by
  obtain ⟨ys, hy⟩ := n
  rcases h with (h | ⟨o, h⟩) | h
  · exact .inl (.inl (e _ _ (ne_of h hy (by intro z; cases z)) h))
  · exact .inl (.inr ⟨o, e _ _ (ne_of h hy (by intro z; cases z)) h⟩)
  · exact .inr h
theorem rd_un {r : V → Hp → VK → Prop} (h : ta σ H fun x H1 => r x H1 Q) : tUn r ta σ H Q := h
end
local macro_rules | `(tactic| wtm_at "rd1") => `(tactic| first
  | with_reducible refine rd_seq ?_
  | ((with_reducible refine rd_var (v := ?vv) ?hv ?_); (case hv => exact rfl))
  | with_reducible refine rd_c ?_
  | with_reducible refine rd_cons ?_
  | with_reducible refine rd_nil ?_
  | with_reducible refine rd_op ?_
  | with_reducible refine rd_asg ?_
  | with_reducible refine rd_name ?_
  | with_reducible refine rd_c1 ?_
  | with_reducible refine rd_cb ?_
  | with_reducible refine rd_test ?_
  | with_reducible refine rd_B ?_
  | with_reducible refine rd_bl ?_
  | with_reducible refine rd_if ?_
  | with_reducible refine rd_ret ?_
  | with_reducible refine rd_drop ?_
  | with_reducible refine rd_next ?_
  | with_reducible refine rd_addI ?_
  | with_reducible refine rd_ltI ?_
  | with_reducible refine rd_eqI ?_
  | with_reducible refine rd_neI ?_
  | with_reducible refine rd_eqS ?_
  | with_reducible refine rd_neS ?_
  | with_reducible refine rd_gtI ?_
  | with_reducible refine rd_geI ?_
  | with_reducible refine rd_leI ?_
  | with_reducible refine rd_ltS ?_
  | with_reducible refine rd_subI ?_
  | ((with_reducible refine rd_modI ?hc ?_); (case hc => first | decide | omega))
  | ((with_reducible refine rd_mulI ?hc ?_); (case hc => first | exact mul_bI | exact .inl (.inr (by decide)) | exact .inl (.inl (by decide)) | exact .inl (.inr (by omega)) | exact .inl (.inl (by omega))))
  | ((with_reducible refine rd_divI ?hc ?_); (case hc => first | decide | omega))
  | ((with_reducible refine rd_powI ?hc ?_); (case hc => exact ⟨by decide, by decide, by decide⟩))
  | with_reducible refine rd_lst ?_
  | with_reducible refine rd_tup ?_
  | ((with_reducible refine rd_sz ?hv ?_); (case hv => exact rfl))
  | with_reducible refine rd_and ?_
  | with_reducible refine rd_or ?_
  | with_reducible refine rd_not ?_
  | with_reducible refine rd_andV ?_
  | with_reducible refine rd_orV ?_
  | with_reducible refine rd_notV ?_
  | with_reducible refine rd_ifE ?_
  | with_reducible refine rd_T ?_
  | with_reducible refine rd_F ?_
  | with_reducible refine rd_chain ?_
  | with_reducible refine rd_is ?_
  | with_reducible refine rd_isNot ?_
  | with_reducible refine rd_absI ?_
  | with_reducible refine rd_maxI ?_
  | with_reducible refine rd_minI ?_
  | with_reducible refine rd_intI ?_
  | with_reducible refine rd_intB ?_
  | with_reducible refine rd_sub ?_
  | with_reducible refine rd_sl ?_
  | with_reducible refine rd_noPart ?_
  | with_reducible refine rd_part ?_
  | with_reducible refine rd_exI ?_
  | with_reducible refine rd_bm ?_
  | with_reducible refine rd_bm0 ?_
  | with_reducible refine rd_un ?_
  | with_reducible refine rd_neg ?_
  | with_reducible refine rd_c2 ?_
  | with_reducible refine rd_retN ?_
  | with_reducible refine rd_break ?_
  | with_reducible refine rd_cont ?_)
local macro_rules | `(tactic| wtm_at "rd") => `(tactic| repeat wtm_at "rd1")
end U

/-! texts in order, names -/
namespace U
open PySem PySem.Spec PyProof.Rows L2
/-- the order of texts -/
def sLt (a b : Str) : Prop := a.cps.toList < b.cps.toList
instance (a b : Str) : Decidable (sLt a b) := inferInstanceAs (Decidable (a.cps.toList < b.cps.toList))
theorem str_ext {a b : Str} (h : a.cps.toList = b.cps.toList) : a = b := by
  obtain ⟨x⟩ := a
  obtain ⟨y⟩ := b
  have e : x = y := Array.toList_inj.mp h
  rw [e]
theorem sLt_irrefl (a : Str) : ¬ sLt a a := List.lt_irrefl _
theorem sLt_trans {a b c : Str} (h : sLt a b) (h' : sLt b c) : sLt a c := List.lt_trans h h'
theorem sLt_asymm {a b : Str} (h : sLt a b) : ¬ sLt b a := fun h' => sLt_irrefl a (sLt_trans h h')
theorem sLt_total {a b : Str} (h : ¬ sLt b a) (n : a ≠ b) : sLt a b := by
  have h1 : a.cps.toList ≤ b.cps.toList := List.not_lt.mp h
  rcases List.le_iff_lt_or_eq.mp h1 with z | z
  · exact z
  · exact absurd (str_ext z) n
theorem sLt_tri (a b : Str) : sLt a b ∨ a = b ∨ sLt b a := by
  by_cases h : sLt b a
  · exact .inr (.inr h)
  · by_cases e : a = b
    · exact .inr (.inl e)
    · exact .inl (sLt_total h e)
/-- strictly upwards -/
abbrev Asc (xs : List Str) : Prop := xs.Pairwise sLt
theorem asc_nodup {xs : List Str} (h : Asc xs) : xs.Nodup := by
  refine List.Pairwise.imp ?_ h
  intro a b z e
  subst e
  exact sLt_irrefl _ z
/-- two lists upwards with the same members are one -/
theorem asc_unique : ∀ {xs ys : List Str}, Asc xs → Asc ys → (∀ z, z ∈ xs ↔ z ∈ ys) → xs = ys
  | [], [], _, _, _ => rfl
  | [], y :: ys, _, _, h => absurd ((h y).mpr List.mem_cons_self) List.not_mem_nil
  | x :: xs, [], _, _, h => absurd ((h x).mp List.mem_cons_self) List.not_mem_nil
  | x :: xs, y :: ys, hx, hy, h => by
    rw [Asc, List.pairwise_cons] at hx hy
    have e : x = y := by
      rcases List.mem_cons.mp ((h x).mp List.mem_cons_self) with z | z
      · exact z
      · rcases List.mem_cons.mp ((h y).mpr List.mem_cons_self) with z2 | z2
        · exact z2.symm
        · exact absurd (hx.1 _ z2) (sLt_asymm (hy.1 _ z))
    subst e
    have t : xs = ys := asc_unique hx.2 hy.2 fun z => by
      constructor
      · intro hz
        rcases List.mem_cons.mp ((h z).mp (List.mem_cons_of_mem _ hz)) with e | e
        · subst e
          exact absurd (hx.1 _ hz) (sLt_irrefl _)
        · exact e
      · intro hz
        rcases List.mem_cons.mp ((h z).mpr (List.mem_cons_of_mem _ hz)) with e | e
        · subst e
          exact absurd (hy.1 _ hz) (sLt_irrefl _)
        · exact e
    rw [t]
theorem asc_of_sorted {xs : List Str} (h : xs.Pairwise fun a b => ¬ sLt b a) (n : xs.Nodup) : Asc xs := by
  have z : xs.Pairwise fun a b => ¬ sLt b a ∧ a ≠ b := List.Pairwise.and h n
  exact z.imp fun {a b} q => sLt_total q.1 q.2
/-- an edge's order -/
def eLt (a b : Str × Str) : Prop := sLt a.1 b.1 ∨ (a.1 = b.1 ∧ sLt a.2 b.2)
instance (a b : Str × Str) : Decidable (eLt a b) := inferInstanceAs (Decidable (_ ∨ _))
theorem eLt_irrefl (a : Str × Str) : ¬ eLt a a := fun h => h.elim (sLt_irrefl _) fun z => sLt_irrefl _ z.2
theorem eLt_trans {a b c : Str × Str} (h : eLt a b) (h' : eLt b c) : eLt a c := by
  rcases h with h | ⟨e, h⟩
  · rcases h' with h' | ⟨e', h'⟩
    · exact .inl (sLt_trans h h')
    · exact .inl (e' ▸ h)
  · rcases h' with h' | ⟨e', h'⟩
    · exact .inl (e ▸ h')
    · exact .inr ⟨e.trans e', sLt_trans h h'⟩
theorem eLt_asymm {a b : Str × Str} (h : eLt a b) : ¬ eLt b a := fun h' => eLt_irrefl a (eLt_trans h h')
theorem eLt_total {a b : Str × Str} (h : ¬ eLt b a) (n : a ≠ b) : eLt a b := by
  rcases sLt_tri a.1 b.1 with z | z | z
  · exact .inl z
  · rcases sLt_tri a.2 b.2 with y | y | y
    · exact .inr ⟨z, y⟩
    · exact absurd (Prod.ext z y) n
    · exact absurd (.inr ⟨z.symm, y⟩) h
  · exact absurd (.inl z) h
abbrev AscE (xs : List (Str × Str)) : Prop := xs.Pairwise eLt
theorem ascE_nodup {xs : List (Str × Str)} (h : AscE xs) : xs.Nodup := by
  refine List.Pairwise.imp ?_ h
  intro a b z e
  subst e
  exact eLt_irrefl _ z
theorem ascE_of_sorted {xs : List (Str × Str)} (h : xs.Pairwise fun a b => ¬ eLt b a) (n : xs.Nodup) : AscE xs := by
  have z : xs.Pairwise fun a b => ¬ eLt b a ∧ a ≠ b := List.Pairwise.and h n
  exact z.imp fun {a b} q => eLt_total q.1 q.2

section
variable {K : PySem.W.Frag} {H : Hp} {Q : VK} {p : Addr}
theorem perm_of_map {α β : Type} {f : α → β} : ∀ {l : List β} {xs : List α}, l.Perm (xs.map f) → ∃ ys : List α, ys.Perm xs ∧ l = ys.map f := by
  intro l xs h
  generalize hm : xs.map f = m at h
  induction h generalizing xs with
  | nil =>
    cases xs with
    | nil => exact ⟨[], .nil, rfl⟩
    | cons _ _ => cases hm
  | cons x hp ih =>
    cases xs with
    | nil => cases hm
    | cons a as =>
      injection hm with h1 h2
      obtain ⟨ys, py, e⟩ := ih h2
      exact ⟨a :: ys, py.cons a, by rw [e, List.map_cons, h1]⟩
  | swap x y l =>
    cases xs with
    | nil => cases hm
    | cons a as =>
      cases as with
      | nil => cases hm
      | cons b bs =>
        injection hm with h1 h2
        injection h2 with h2 h3
        exact ⟨b :: a :: bs, .swap a b bs, by rw [List.map_cons, List.map_cons, h1, h2, h3]⟩
  | trans _ _ ih1 ih2 =>
    obtain ⟨ys, py, e⟩ := ih2 hm
    obtain ⟨zs, pz, e'⟩ := ih1 e.symm
    exact ⟨zs, pz.trans py, e'⟩
/-- sorted(a list of texts) -/
theorem rd_sortS {xs : List Str} (hs : SqL K H p (xs.map V.str)) (hl : xs.length ≤ 100000) (k : ∀ ys : List Str, ys.Perm xs → ys.Pairwise (fun a b => ¬ sLt b a) → nL (ys.map V.str) H Q) : rSortU K [.ref p] H Q := by
  refine ⟨xs.map fun x => (V.str x, PyData.str x), ?_, ⟨?_, ?_, ?_, ?_, ?_⟩, ?_⟩
  · rw [List.map_map]
    exact hs
  · intro b hb
    obtain ⟨x, _, rfl⟩ := List.mem_map.mp hb
    exact .str x
  · rw [List.map_map]
    exact PySem.W.AllAlike.of (enc := PyData.str) fun a b => by simp [PySem.W.alike]
  · rw [List.map_map]
    exact PySem.W.Sortable.others (enc := PyData.str) fun b => ⟨by simp, by simp⟩
  · intro b hb
    obtain ⟨x, _, rfl⟩ := List.mem_map.mp hb
    simp [PyData.depth]
  · rw [List.length_map]
    omega
  · intro cs pc sc
    obtain ⟨ys, py, rfl⟩ := perm_of_map pc
    rw [List.map_map]
    refine k ys py ?_
    rw [List.pairwise_map] at sc
    refine sc.imp fun {a b} z h => ?_
    have z' : PySem.W.dataLt (PyData.str b) (PyData.str a) = false := z
    rw [PySem.W.dataLt_str] at z'
    exact of_decide_eq_false z' h
/-- sorted(a list of pairs of texts): e is the pair's place, then the two -/
theorem rd_sortE {xs : List (Addr × Str × Str)} (hs : SqL K H p (xs.map fun e => V.ref e.1)) (ht : ∀ e ∈ xs, SqT K H e.1 [.str e.2.1, .str e.2.2]) (hl : xs.length ≤ 100000)
    (k : ∀ ys : List (Addr × Str × Str), ys.Perm xs → ys.Pairwise (fun a b => ¬ eLt b.2 a.2) → nL (ys.map fun e => V.ref e.1) H Q) : rSortU K [.ref p] H Q := by
  refine ⟨xs.map fun e => (V.ref e.1, PyData.tuple [.str e.2.1, .str e.2.2]), ?_, ⟨?_, ?_, ?_, ?_, ?_⟩, ?_⟩
  · rw [List.map_map]
    exact hs
  · intro b hb
    obtain ⟨x, hx, rfl⟩ := List.mem_map.mp hb
    exact .tup (ht x hx) (.cons (.str _) (.cons (.str _) .nil))
  · rw [List.map_map]
    exact PySem.W.AllAlike.of (enc := fun e : Addr × Str × Str => PyData.tuple [.str e.2.1, .str e.2.2]) fun a b => by simp [PySem.W.alike, PySem.W.alikeAll]
  · rw [List.map_map]
    exact PySem.W.Sortable.tuples (enc := fun e : Addr × Str × Str => PyData.tuple [.str e.2.1, .str e.2.2]) fun b => ⟨_, _, rfl⟩
  · intro b hb
    obtain ⟨x, _, rfl⟩ := List.mem_map.mp hb
    simp [PyData.depth, PyData.depthAll]
  · rw [List.length_map]
    omega
  · intro cs pc sc
    obtain ⟨ys, py, rfl⟩ := perm_of_map pc
    rw [List.map_map]
    refine k ys py ?_
    rw [List.pairwise_map] at sc
    refine sc.imp fun {a b} z h => ?_
    have z' : PySem.W.dataLt (PyData.tuple [.str b.2.1, .str b.2.2]) (PyData.tuple [.str a.2.1, .str a.2.2]) = false := z
    rw [PySem.W.dataLt_pair (by simp [PySem.W.alike]) (by simp [PySem.W.alike]), PySem.W.dataLt_str, PySem.W.dataLt_str] at z'
    simp only [PyData.eqv, beq_iff_eq] at z'
    rcases h with h | ⟨e, h⟩
    · have n : ¬ b.2.1 = a.2.1 := fun e => sLt_irrefl _ (by rw [e] at h; exact h)
      rw [if_neg n] at z'
      exact of_decide_eq_false z' h
    · rw [if_pos e] at z'
      have n : ¬ b.2.2 = a.2.2 := fun e => sLt_irrefl _ (by rw [e] at h; exact h)
      rw [if_neg n] at z'
      exact of_decide_eq_false z' h
end
end U

/-! names as the laws draw them -/
namespace U
open PySem PySem.Spec PyProof.Rows L2
/-- 1 to 8 small letters -/
structure IsName (z : Str) : Prop where
  lo : 1 ≤ z.length
  hi : z.length ≤ 8
  ch : ∀ c ∈ z.cps.toList, 97 ≤ c ∧ c ≤ 122
theorem letters_at {i : Int} (h0 : 0 ≤ i) (h1 : i < 26) : atI (Str.ofString "abcdefghijklmnopqrstuvwxyz").cps.toList i = some (97 + i.toNat) := by
  obtain ⟨n, rfl⟩ : ∃ n : Nat, i = (n : Int) := ⟨i.toNat, by omega⟩
  have all : ∀ n : Fin 26, (Str.ofString "abcdefghijklmnopqrstuvwxyz").cps.toList[(n : Nat)]? = some (97 + (n : Nat)) := by decide +kernel
  have hn : n < 26 := by omega
  rw [Int.toNat_natCast]
  exact atI_nat (all ⟨n, hn⟩)
theorem letters_len : (Str.ofString "abcdefghijklmnopqrstuvwxyz").length ≤ 100000 := by decide +kernel
theorem pick4 {a b c d r : Int} (h0 : 0 ≤ r) (h1 : r < 4) : ∃ v, atI [V.int a, .int b, .int c, .int d] r = some (.int v) ∧ (v = a ∨ v = b ∨ v = c ∨ v = d) := by
  have : r = 0 ∨ r = 1 ∨ r = 2 ∨ r = 3 := by omega
  rcases this with rfl | rfl | rfl | rfl
  · exact ⟨a, rfl, .inl rfl⟩
  · exact ⟨b, rfl, .inr (.inl rfl)⟩
  · exact ⟨c, rfl, .inr (.inr (.inl rfl))⟩
  · exact ⟨d, rfl, .inr (.inr (.inr rfl))⟩
theorem pick2 {x y : V} {r : Int} (h : r = 0 ∨ r = 1) : atI [x, y] r = some (if r = 0 then x else y) := by
  rcases h with rfl | rfl
  · rfl
  · rfl
theorem bToI_01 (b : Bool) : bToI b = 0 ∨ bToI b = 1 := by cases b <;> simp [bToI]
theorem bToI_pick {x y : V} (b : Bool) : atI [x, y] (bToI b) = some (if b = true then y else x) := by cases b <;> rfl
/-- the letter c put into the text t at place a -/
def putIn (t : List Nat) (a c : Nat) : List Nat := t.take a ++ [c] ++ t.drop a
theorem putIn_len (t : List Nat) (a c : Nat) (h : a ≤ t.length) : (putIn t a c).length = t.length + 1 := by
  unfold putIn
  simp
  omega
theorem putIn_inj {t : List Nat} {a c d : Nat} (h : a ≤ t.length) (e : putIn t a c = putIn t a d) : c = d := by
  unfold putIn at e
  rw [List.append_assoc, List.append_assoc] at e
  have e2 := List.append_cancel_left e
  injection e2
theorem mem_putIn {t : List Nat} {a c x : Nat} (h : x ∈ putIn t a c) : x = c ∨ x ∈ t := by
  unfold putIn at h
  rw [List.mem_append, List.mem_append, List.mem_singleton] at h
  rcases h with (h | h) | h
  · exact .inr (List.mem_of_mem_take h)
  · exact .inl h
  · exact .inr (List.mem_of_mem_drop h)
/-- the k-th name: begin b, step s, the tail's letter and times, its place, whether mixed -/
def nameK (b s : Int) (t : List Nat) (a : Nat) (m : Bool) (k : Nat) : Str :=
  if m = true ∧ k % 2 = 1 then ⟨#[97 + ((b + s * (k : Int)) % 26).toNat]⟩ else ⟨(putIn t a (97 + ((b + s * (k : Int)) % 26).toNat)).toArray⟩
theorem nameK_ok {b s : Int} {n d a : Nat} {m : Bool} {k : Nat} (hn : n ≤ 7) (ha : a ≤ n) (hd : 97 ≤ d ∧ d ≤ 122) : IsName (nameK b s (List.replicate n d) a m k) := by
  have hc : 97 ≤ 97 + ((b + s * (k : Int)) % 26).toNat ∧ 97 + ((b + s * (k : Int)) % 26).toNat ≤ 122 := by omega
  unfold nameK
  generalize 97 + ((b + s * (k : Int)) % 26).toNat = c at hc
  split
  · exact ⟨by simp [Str.length], by simp [Str.length], fun x hx => by
      have : x = c := by simpa using hx
      rw [this]
      exact hc⟩
  · have hl : (putIn (List.replicate n d) a c).length = n + 1 := by rw [putIn_len _ _ _ (by rw [List.length_replicate]; exact ha), List.length_replicate]
    refine ⟨by simp [Str.length, hl], by simp [Str.length, hl]; omega, fun x hx => ?_⟩
    have hx' : x ∈ putIn (List.replicate n d) a c := by simpa using hx
    rcases mem_putIn hx' with e | e
    · rw [e]; exact hc
    · rw [List.eq_of_mem_replicate e]; exact hd
theorem nameK_inj {b s : Int} {n d a : Nat} {m : Bool} {j k : Nat} (ha : a ≤ n) (hs : s = 1 ∨ s = 3 ∨ s = 5 ∨ s = 7) (hj : j < 26) (hk : k < 26)
    (e : nameK b s (List.replicate n d) a m j = nameK b s (List.replicate n d) a m k) : j = k := by
  have core : ∀ {x y : Nat}, x = 97 + ((b + s * (j : Int)) % 26).toNat → y = 97 + ((b + s * (k : Int)) % 26).toNat → x = y → j = k := by
    intro x y hx hy q
    rcases hs with rfl | rfl | rfl | rfl <;> omega
  have hl : ∀ c, (putIn (List.replicate n d) a c).length = n + 1 := fun c => by rw [putIn_len _ _ _ (by rw [List.length_replicate]; exact ha), List.length_replicate]
  unfold nameK at e
  split at e <;> split at e
  · injection e with e
    have e2 := congrArg Array.toList e
    simp only [List.cons.injEq, and_true] at e2
    exact core rfl rfl e2
  · rename_i h1 h2
    exfalso
    injection e with e
    have e2 := congrArg Array.size e
    simp only [List.size_toArray, hl] at e2
    have hn : n = 0 := by simpa using e2.symm
    subst hn
    obtain rfl : a = 0 := by omega
    have e3 := congrArg Array.toList e
    simp only [putIn, List.replicate_zero, List.take_nil, List.nil_append, List.drop_nil, List.append_nil, List.cons.injEq, and_true] at e3
    have := core rfl rfl e3
    subst this
    exact h2 h1
  · rename_i h1 h2
    exfalso
    injection e with e
    have e2 := congrArg Array.size e
    simp only [List.size_toArray, hl] at e2
    have hn : n = 0 := by simpa using e2
    subst hn
    obtain rfl : a = 0 := by omega
    have e3 := congrArg Array.toList e
    simp only [putIn, List.replicate_zero, List.take_nil, List.nil_append, List.drop_nil, List.append_nil, List.cons.injEq, and_true] at e3
    have := core rfl rfl e3
    subst this
    exact h1 h2
  · injection e with e
    have e2 := congrArg Array.toList e
    exact core rfl rfl (putIn_inj (by rw [List.length_replicate]; exact ha) e2)
theorem names_nodup {b s : Int} {n d a : Nat} {m : Bool} (ha : a ≤ n) (hs : s = 1 ∨ s = 3 ∨ s = 5 ∨ s = 7) {many : Nat} (hm : many ≤ 26) : ((List.range many).map (nameK b s (List.replicate n d) a m)).Nodup := by
  rw [List.nodup_iff_pairwise_ne, List.pairwise_map]
  have h : (List.range many).Pairwise fun x y => x ≠ y := List.nodup_range
  refine (List.Pairwise.and_mem.mp h).imp ?_
  intro x y ⟨hx, hy, n⟩ e
  exact n (nameK_inj ha hs (by have := List.mem_range.mp hx; omega) (by have := List.mem_range.mp hy; omega) e)
/-- names, strictly upwards -/
structure Names (ys : List Str) : Prop where
  asc : Asc ys
  ok : ∀ y ∈ ys, IsName y
/-- names, each once, in any order -/
structure NamesU (ys : List Str) : Prop where
  nd : ys.Nodup
  ok : ∀ y ∈ ys, IsName y
theorem Names.u {ys : List Str} (h : Names ys) : NamesU ys := ⟨asc_nodup h.asc, h.ok⟩
theorem NamesU.perm {xs ys : List Str} (h : NamesU xs) (p : ys.Perm xs) : NamesU ys := ⟨p.nodup_iff.mpr h.nd, fun y hy => h.ok y (p.mem_iff.mp hy)⟩
/-! slices of a text -/
theorem cutS_to {z : Str} {i : Int} (h0 : 0 ≤ i) : cutS z none (some i) = ⟨(z.cps.toList.take i.toNat).toArray⟩ := by
  unfold cutS HT.sIx
  simp only [Nat.sub_zero, List.drop_zero]
  rw [if_neg (by omega)]
  congr 2
  have : z.cps.toList.length = z.length := by simp [Str.length]
  by_cases h : i.toNat ≤ z.length
  · rw [Nat.min_eq_left h]
  · rw [Nat.min_eq_right (by omega), List.take_of_length_le (by omega), List.take_of_length_le (by omega)]
theorem cutS_from {z : Str} {i : Int} (h0 : 0 ≤ i) : cutS z (some i) none = ⟨(z.cps.toList.drop i.toNat).toArray⟩ := by
  unfold cutS HT.sIx
  simp only
  rw [if_neg (by omega)]
  congr 1
  have hl : z.cps.toList.length = z.length := by simp [Str.length]
  by_cases h : i.toNat ≤ z.length
  · rw [Nat.min_eq_left h, List.take_of_length_le (by rw [List.length_drop]; omega)]
  · rw [Nat.min_eq_right (by omega), List.drop_of_length_le (by omega), List.drop_of_length_le (by omega), List.take_nil]
theorem str_app {a b : List Nat} : (⟨a.toArray⟩ : Str) ++ ⟨b.toArray⟩ = ⟨(a ++ b).toArray⟩ := str_ext (TL.tl_append _ _)
end U

/-! loops, dictionaries, unpacking: their readings by steps -/
namespace U
open PySem PySem.Spec PyProof.Rows L2
/-- what a loop over J asks -/
def ForB (J : It) (g : TG) (tb : TS) (D : Ends) (σ : L2.St) (H : Hp) : Prop := ∃ W : Nat → Nat → L2.St → Hp → Prop, (∃ m, W 0 m σ H) ∧ ∀ i m σ H, W i m σ H →
  (J.stop i H ∧ D.nx σ H) ∨ (J.go i H ∧ ∃ N : L2.St → Hp → Prop, (∀ σ' H', N σ' H' → ∃ m', m' < m ∧ W (i + 1) m' σ' H') ∧ ∀ x H', J.yld i H x H' → g x σ H' fun σ2 H2 => tb { D with nx := N, ct := N, bk := D.nx } σ2 H2)
def LcB (J : It) (g : TG) (tt : TT) (te : TE) (vs : List Nat) (σ : L2.St) (H1 : Hp) (D : Addr) (Qd : Hp → Prop) : Prop := ∃ W : Nat → Nat → Hp → Prop, (∃ m, W 0 m (upd H1 D (.lst []))) ∧ ∀ i m H, W i m H →
  (J.stop i H ∧ Qd H) ∨ (J.go i H ∧ ∃ Nx : Hp → Prop, (∀ H', Nx H' → ∃ m', m' < m ∧ W (i + 1) m' H') ∧ ∀ x H', J.yld i H x H' → g x (wipe σ vs) H' fun σ2 H2 => wipe σ2 vs = wipe σ vs ∧ tt σ2 H2 fun b H3 =>
    if b = true then te σ2 H3 fun y H4 => ∃ acc, H4 D = some (.lst acc) ∧ acc.length < sizeLine ∧ Nx (upd H4 D (.lst (acc ++ [y]))) else Nx H3)
section
variable {σ : L2.St} {H : Hp} {Q : VK} {D : Ends} {v x y : V} {i j : Int} {ta tb tc te td ty tv : TE} {t u : TS} {K : PySem.W.Frag} {g : TG} {wi : TI} {R : It → Hp → Prop} {tr : TA}
theorem rd_for (h : wi σ H fun J H1 => ForB J g t D σ H1) : tFor wi g t D σ H := h
theorem rd_rng1 (h : tr σ H fun vs H1 => ∃ j : Int, vs = [.int j] ∧ -(2 ^ 62) ≤ j ∧ j < 2 ^ 62 ∧ R (Itr 0 j.toNat) H1) : iRng1 tr σ H R := h
theorem rd_rng2 (h : tr σ H fun vs H1 => ∃ i j : Int, vs = [.int i, .int j] ∧ (-(2 ^ 62) ≤ i ∧ i < 2 ^ 62 ∧ -(2 ^ 62) ≤ j ∧ j < 2 ^ 62) ∧ R (Itr i (j - i).toNat) H1) : iRng2 tr σ H R := h
theorem rd_iList (h : te σ H fun x H1 => ∃ a, x = .ref a ∧ (∃ xs, SqL K H1 a xs) ∧ R (Itl K a) H1) : iList K te σ H R := h
theorem rd_iTup (h : te σ H fun x H1 => ∃ a, x = .ref a ∧ (∃ xs, SqT K H1 a xs) ∧ R (Itt K a) H1) : iTup K te σ H R := h
theorem rd_iEnum (h : tr σ H fun vs H1 => ∃ a xs, vs = [.ref a] ∧ SqL K H1 a xs ∧ R (Ite K a) H1) : iEnum K tr σ H R := h
theorem rd_forL {p : Addr} {xs : List V} {R : Addr → Prop} (hs : SqL K H p xs) (h : R p) : ∃ a, V.ref p = .ref a ∧ (∃ xs, SqL K H a xs) ∧ R a := ⟨p, rfl, ⟨xs, hs⟩, h⟩
theorem rd_forT {p : Addr} {xs : List V} {R : Addr → Prop} (hs : SqT K H p xs) (h : R p) : ∃ a, V.ref p = .ref a ∧ (∃ xs, SqT K H a xs) ∧ R a := ⟨p, rfl, ⟨xs, hs⟩, h⟩
theorem rd_forR {R : Int → Prop} (h0 : -(2 ^ 62) ≤ j) (h1 : j < 2 ^ 62) (h : R j) : ∃ k : Int, [V.int j] = [.int k] ∧ -(2 ^ 62) ≤ k ∧ k < 2 ^ 62 ∧ R k := ⟨j, rfl, h0, h1, h⟩
theorem rd_forE {p : Addr} {xs : List V} {R : Addr → Prop} (hs : SqL K H p xs) (h : R p) : ∃ a xs, [V.ref p] = [.ref a] ∧ SqL K H a xs ∧ R a := ⟨p, xs, rfl, hs, h⟩
theorem turnsR {lo : Int} {n : Nat} (Pv : Nat → L2.St → Hp → Prop) (h0 : Pv 0 σ H) (hs : ∀ i σ H, i < n → Pv i σ H → g (.int (lo + i)) σ H fun σ2 H2 => t { D with nx := Pv (i + 1), ct := Pv (i + 1), bk := D.nx } σ2 H2)
    (hd : ∀ σ H, Pv n σ H → D.nx σ H) : ForB (Itr lo n) g t D σ H := for_range Pv h0 hs hd
theorem turnsL {a : Addr} {xs : List V} (Pv : Nat → L2.St → Hp → Prop) (h0 : Pv 0 σ H) (hl : ∀ i σ H, i ≤ xs.length → Pv i σ H → SqL K H a xs)
    (hs : ∀ i x σ H, xs[i]? = some x → Pv i σ H → g x σ H fun σ2 H2 => t { D with nx := Pv (i + 1), ct := Pv (i + 1), bk := D.nx } σ2 H2) (hd : ∀ σ H, Pv xs.length σ H → D.nx σ H) : ForB (Itl K a) g t D σ H := for_list Pv h0 hl hs hd
theorem turnsT {a : Addr} {xs : List V} (Pv : Nat → L2.St → Hp → Prop) (h0 : Pv 0 σ H) (hl : ∀ i σ H, i ≤ xs.length → Pv i σ H → SqT K H a xs)
    (hs : ∀ i x σ H, xs[i]? = some x → Pv i σ H → g x σ H fun σ2 H2 => t { D with nx := Pv (i + 1), ct := Pv (i + 1), bk := D.nx } σ2 H2) (hd : ∀ σ H, Pv xs.length σ H → D.nx σ H) : ForB (Itt K a) g t D σ H := for_tup Pv h0 hl hs hd
theorem turnsW {J : It} {n : Nat} {G : Hp → Prop} {Y : Nat → Hp → V → Hp → Prop} (w : Walk J n G Y) (Pv : Nat → L2.St → Hp → Prop) (h0 : Pv 0 σ H) (hG : ∀ i σ H, i ≤ n → Pv i σ H → G H)
    (hs : ∀ i x σ H H', i < n → Pv i σ H → Y i H x H' → g x σ H' fun σ2 H2 => t { D with nx := Pv (i + 1), ct := Pv (i + 1), bk := D.nx } σ2 H2) (hd : ∀ σ H, Pv n σ H → D.nx σ H) : ForB J g t D σ H := for_it w Pv h0 hG hs hd
theorem rd_lc {tt : TT} {vs : List Nat} (h : wi σ H fun J H1 => ∀ D, H1 D = none → LcB J g tt te vs σ H1 D fun H2 => Q (.ref D) H2) : tLc wi g tt te vs σ H Q := h
theorem lcT {a : Addr} {xs : List V} {tt : TT} {vs : List Nat} {D : Addr} {Qd : Hp → Prop} (Pv : Nat → Hp → Prop) (h0 : Pv 0 (upd H D (.lst []))) (hl : ∀ i H, i ≤ xs.length → Pv i H → SqT K H a xs)
    (hs : ∀ i x H, xs[i]? = some x → Pv i H → g x (wipe σ vs) H fun σ2 H2 => wipe σ2 vs = wipe σ vs ∧ tt σ2 H2 fun b H3 =>
      if b = true then te σ2 H3 fun y H4 => ∃ acc, H4 D = some (.lst acc) ∧ acc.length < sizeLine ∧ Pv (i + 1) (upd H4 D (.lst (acc ++ [y]))) else Pv (i + 1) H3) (hd : ∀ H, Pv xs.length H → Qd H) : LcB (Itt K a) g tt te vs σ H D Qd := lc_tup Pv h0 hl hs hd
theorem lcL {a : Addr} {xs : List V} {tt : TT} {vs : List Nat} {D : Addr} {Qd : Hp → Prop} (Pv : Nat → Hp → Prop) (h0 : Pv 0 (upd H D (.lst []))) (hl : ∀ i H, i ≤ xs.length → Pv i H → SqL K H a xs)
    (hs : ∀ i x H, xs[i]? = some x → Pv i H → g x (wipe σ vs) H fun σ2 H2 => wipe σ2 vs = wipe σ vs ∧ tt σ2 H2 fun b H3 =>
      if b = true then te σ2 H3 fun y H4 => ∃ acc, H4 D = some (.lst acc) ∧ acc.length < sizeLine ∧ Pv (i + 1) (upd H4 D (.lst (acc ++ [y]))) else Pv (i + 1) H3) (hd : ∀ H, Pv xs.length H → Qd H) : LcB (Itl K a) g tt te vs σ H D Qd := lc_list Pv h0 hl hs hd
theorem lcR {lo : Int} {n : Nat} {tt : TT} {vs : List Nat} {D : Addr} {Qd : Hp → Prop} (Pv : Nat → Hp → Prop) (h0 : Pv 0 (upd H D (.lst [])))
    (hs : ∀ i H, i < n → Pv i H → g (.int (lo + i)) (wipe σ vs) H fun σ2 H2 => wipe σ2 vs = wipe σ vs ∧ tt σ2 H2 fun b H3 =>
      if b = true then te σ2 H3 fun y H4 => ∃ acc, H4 D = some (.lst acc) ∧ acc.length < sizeLine ∧ Pv (i + 1) (upd H4 D (.lst (acc ++ [y]))) else Pv (i + 1) H3) (hd : ∀ H, Pv n H → Qd H) : LcB (Itr lo n) g tt te vs σ H D Qd := lc_range Pv h0 hs hd
/-- unpacking -/
theorem rd_unp {n : Nat} {ts : TGs} {p : Addr} {xs : List V} {Q : L2.St → Hp → Prop} (hs : SqT K H p xs) (hl : xs.length = n) (h : ts xs σ H Q) : gTup K n ts (.ref p) σ H Q := ⟨p, xs, rfl, hs, hl, h⟩
theorem rd_gcons {tg : TG} {u : TGs} {vr : List V} {Q : L2.St → Hp → Prop} (h : tg v σ H fun σ1 H1 => u vr σ1 H1 Q) : gCons tg u (v :: vr) σ H Q := ⟨v, vr, rfl, h⟩
theorem rd_gnil {Q : L2.St → Hp → Prop} (h : Q σ H) : gNil [] σ H Q := ⟨rfl, h⟩
/-- dictionaries -/
theorem rd_dget (h : td σ H fun x H1 => ty σ H1 fun y H2 => ∃ a v, x = .ref a ∧ DGet H2 a y (some v) ∧ Q v H2) : tDGet td ty σ H Q := h
theorem rd_dat {p : Addr} {kvs : List (Key × V)} {k : Key} (hs : Rd H p (.dK kvs)) (hv : valV kvs k = some v) {R : V → Prop} (hy : y = kV k) (h : R v) : ∃ a v, V.ref p = .ref a ∧ DGet H a y (some v) ∧ R v := ⟨p, v, rfl, .inl ⟨kvs, k, hs, hy, hv.symm⟩, h⟩
theorem rd_dput (h : tv σ H fun v H1 => td σ H1 fun x H2 => ty σ H2 fun y H3 => ∃ a H4, x = .ref a ∧ DPut H3 a y v H4 ∧ D.nx σ H4) : sDPut td ty tv D σ H := h
end
end U

/-! lists of texts as data -/
namespace U
open PySem PySem.Spec PyProof.Rows L2
theorem IsName.sok {z : Str} (h : IsName z) : PyData.strOk z = true := by
  unfold PyData.strOk
  rw [Array.all_eq_true_iff_forall_mem]
  intro x hx
  have := h.ch x (by simpa using hx)
  rw [decide_eq_true_eq]
  omega
theorem erase_map {α β : Type} {f : α → β} : ∀ {xs : List α} {i : Nat}, (xs.map f).eraseIdx i = (xs.eraseIdx i).map f
  | [], _ => by simp
  | _ :: _, 0 => rfl
  | x :: xs, i + 1 => by
    show f x :: (xs.map f).eraseIdx i = f x :: (xs.eraseIdx i).map f
    rw [erase_map]
theorem erase_perm {α : Type} : ∀ {xs : List α} {i : Nat} (h : i < xs.length), (xs[i] :: xs.eraseIdx i).Perm xs
  | _ :: _, 0, _ => .refl _
  | x :: xs, i + 1, h => by
    have h' : i < xs.length := Nat.lt_of_succ_lt_succ h
    show (xs[i] :: x :: xs.eraseIdx i).Perm (x :: xs)
    exact (List.Perm.swap x xs[i] _).trans ((erase_perm h').cons x)
section
variable {K : PySem.W.Frag} {H : Hp} {Q : VK} {p q : Addr}
theorem dp_strs : ∀ (xs : List Str), DpAll K H (xs.map V.str) (xs.map PyData.str)
  | [] => .nil
  | x :: xs => .cons (.str x) (dp_strs xs)
theorem can_strs : ∀ {xs : List Str}, (∀ x ∈ xs, PyData.strOk x = true) → PyData.canLayAll0 (xs.map PyData.str) = true
  | [], _ => by simp [PyData.canLayAll0]
  | x :: xs, h => by
    rw [List.map_cons, PyData.canLayAll0, PyData.canLay0, h x List.mem_cons_self, can_strs fun y hy => h y (List.mem_cons_of_mem _ hy)]
    rfl
theorem dep_strs : ∀ {xs : List Str}, PyData.depthAll (xs.map PyData.str) = 0
  | [] => by simp [PyData.depthAll]
  | x :: xs => by
    rw [List.map_cons, PyData.depthAll, dep_strs, PyData.depth]
    rfl
theorem shp_strs {xs : List Str} (h : ∀ x ∈ xs, PyData.strOk x = true) : SeqAt.shaped (.list (xs.map PyData.str)) = true := by
  unfold SeqAt.shaped
  rw [PyData.canLay0, can_strs h, PyData.depth, dep_strs]
  rfl
theorem eqv_nil {xs : List Str} : PyData.eqv (.list (xs.map PyData.str)) (.list []) = xs.isEmpty := by
  cases xs with
  | nil => simp [PyData.eqv, PyData.eqvAll]
  | cons _ _ => simp [PyData.eqv, PyData.eqvAll]
/-- xs != [] -/
theorem rd_neNil {xs : List Str} (hp : SqL K H p (xs.map V.str)) (hq : SqL K H q []) (ok : ∀ x ∈ xs, PyData.strOk x = true) (h : Q (.bl (!xs.isEmpty)) H) : rNeU K (.ref p) (.ref q) H Q := by
  refine ⟨_, _, .lst hp (dp_strs xs), .lst hq .nil, shp_strs ok, by decide, ?_⟩
  rw [eqv_nil]
  exact h
theorem rd_popAt {xs : List V} {i : Int} {v : V} {k : Nat} (hs : H p = some (.lst xs)) (h0 : 0 ≤ i) (hk : i.toNat = k) (hl : xs.length < 100000) (hv : xs[k]? = some v) (h : Q v (upd H p (.lst (xs.eraseIdx k)))) : rPopAt (.ref p) [.int i] H Q := by
  obtain ⟨hlt, _⟩ := List.getElem?_eq_some_iff.mp hv
  refine ⟨p, xs, i, k, v, rfl, rfl, hs, by omega, by omega, ?_, hv, h⟩
  rw [seqIndex_of h0 (by omega), hk]
end
end U

/-! graphs and states as the laws draw them -/
namespace U
open PySem PySem.Spec PyProof.Rows L2
/-- the two names, the lower first -/
def eOf (a b : Str) : Str × Str := if sLt a b then (a, b) else (b, a)
theorem eOf_cases (a b : Str) : eOf a b = (a, b) ∨ eOf a b = (b, a) := by
  unfold eOf
  split
  · exact .inl rfl
  · exact .inr rfl
theorem eOf_lt {a b : Str} (n : a ≠ b) : sLt (eOf a b).1 (eOf a b).2 := by
  unfold eOf
  split
  · assumption
  · rename_i h
    exact sLt_total h (Ne.symm n)
theorem eOf_inj {a b c d : Str} (h : eOf a b = eOf c d) : (a = c ∧ b = d) ∨ (a = d ∧ b = c) := by
  rcases eOf_cases a b with e | e <;> rcases eOf_cases c d with e' | e' <;> rw [e, e'] at h <;> injection h with h1 h2
  · exact .inl ⟨h1, h2⟩
  · exact .inr ⟨h1, h2⟩
  · exact .inr ⟨h2, h1⟩
  · exact .inl ⟨h2, h1⟩
/-- the state's pairs -/
abbrev kvsOf (ws : List (Str × Int)) : List (Key × V) := ws.map fun p => (Sum.inr p.1, V.int p.2)
/-- the number of the node n -/
def numOf (ws : List (Str × Int)) (n : Str) : Int := (ws.lookup n).getD 0
theorem val_kvs : ∀ {ws : List (Str × Int)} {n : Str}, n ∈ ws.map (·.1) → valV (kvsOf ws) (.inr n) = some (.int (numOf ws n))
  | p :: ws, n, h => by
    by_cases e : n = p.1
    · subst e
      rw [kvsOf, List.map_cons, valV_pos rfl]
      unfold numOf
      rw [List.lookup_cons_self]
      rfl
    · have e' : ¬ (Sum.inr p.1 : Key) = Sum.inr n := fun z => e (Sum.inr.inj z).symm
      rw [kvsOf, List.map_cons, valV_neg e']
      have : n ∈ ws.map (·.1) := by
        rcases List.mem_cons.mp h with z | z
        · exact absurd z e
        · exact z
      have r := val_kvs this
      rw [kvsOf] at r
      rw [r]
      unfold numOf
      rw [List.lookup_cons, show (n == p.1) = false from beq_eq_false_iff_ne.mpr e]
theorem val_none : ∀ {ws : List (Str × Int)} {n : Str}, n ∉ ws.map (·.1) → valV (kvsOf ws) (.inr n) = none
  | [], _, _ => rfl
  | p :: ws, n, h => by
    have e' : ¬ (Sum.inr p.1 : Key) = Sum.inr n := fun z => h (by rw [← Sum.inr.inj z]; exact List.mem_cons_self)
    rw [kvsOf, List.map_cons, valV_neg e']
    exact val_none fun z => h (List.mem_cons_of_mem _ z)
theorem put_kvs {ws : List (Str × Int)} {n : Str} {v : Int} (h : n ∉ ws.map (·.1)) : putK (kvsOf ws) (.inr n) (.int v) = kvsOf (ws ++ [(n, v)]) := by
  rw [putK_new _ (val_none h), kvsOf, kvsOf, List.map_append]
  rfl
theorem num_mem : ∀ {ws : List (Str × Int)} {n : Str}, n ∈ ws.map (·.1) → (n, numOf ws n) ∈ ws
  | p :: ws, n, h => by
    unfold numOf
    rw [List.lookup_cons]
    by_cases e : n = p.1
    · rw [show (n == p.1) = true from beq_iff_eq.mpr e]
      subst e
      exact List.mem_cons_self
    · rw [show (n == p.1) = false from beq_eq_false_iff_ne.mpr e]
      have : n ∈ ws.map (·.1) := by
        rcases List.mem_cons.mp h with z | z
        · exact absurd z e
        · exact z
      exact List.mem_cons_of_mem _ (num_mem this)
/-- a state: each name once, in the order ord, a number of 0, 1, 2 -/
structure StOk (ord : List Str) (ws : List (Str × Int)) : Prop where
  key : ws.map (·.1) = ord
  num : ∀ p ∈ ws, 0 ≤ p.2 ∧ p.2 < 3
theorem StOk.at {ord : List Str} {ws : List (Str × Int)} (h : StOk ord ws) {n : Str} (hn : n ∈ ord) : 0 ≤ numOf ws n ∧ numOf ws n < 3 := h.num _ (num_mem (by rw [h.key]; exact hn))
theorem StOk.val {ord : List Str} {ws : List (Str × Int)} (h : StOk ord ws) {n : Str} (hn : n ∈ ord) : valV (kvsOf ws) (.inr n) = some (.int (numOf ws n)) := val_kvs (by rw [h.key]; exact hn)
/-- the edges as they are found: at turn i, j -/
structure EdgesIn (ord : List Str) (f : Str → Int) (i j : Nat) (es : List (Addr × Str × Str)) : Prop where
  nd : (es.map (·.2)).Nodup
  of : ∀ e ∈ es, ∃ i' j', ∃ (hi : i' < ord.length) (hj : j' < ord.length), j' < i' ∧ (i' < i ∨ (i' = i ∧ j' < j)) ∧ e.2 = eOf ord[i'] ord[j'] ∧ f ord[i'] ≠ f ord[j']
theorem EdgesIn.step {ord : List Str} {f : Str → Int} {i j i2 j2 : Nat} {es : List (Addr × Str × Str)} (h : EdgesIn ord f i j es) (c : i < i2 ∨ (i = i2 ∧ j ≤ j2)) : EdgesIn ord f i2 j2 es :=
  ⟨h.nd, fun e he => by
    obtain ⟨i', j', hi, hj, h1, h2, h3⟩ := h.of e he
    exact ⟨i', j', hi, hj, h1, by omega, h3⟩⟩
theorem EdgesIn.add {ord : List Str} {f : Str → Int} {i j : Nat} {es : List (Addr × Str × Str)} {t : Addr} (h : EdgesIn ord f i j es) (nd : ord.Nodup) (hij : j < i) (hi : i < ord.length) (hj : j < ord.length) (hf : f ord[i] ≠ f ord[j]) :
    EdgesIn ord f i (j + 1) (es ++ [(t, eOf ord[i] ord[j])]) := by
  have inj : ∀ {a b : Nat} (ha : a < ord.length) (hb : b < ord.length), ord[a] = ord[b] → a = b := by
    intro a b ha hb e
    have z := List.pairwise_iff_getElem.mp (List.nodup_iff_pairwise_ne.mp nd)
    rcases Nat.lt_trichotomy a b with h | h | h
    · exact absurd e (z a b ha hb h)
    · exact h
    · exact absurd e.symm (z b a hb ha h)
  refine ⟨?_, ?_⟩
  · rw [List.map_append, List.nodup_append]
    refine ⟨h.nd, by simp, ?_⟩
    intro x hx y hy e
    obtain ⟨z, hz, rfl⟩ := List.mem_map.mp hx
    have : y = eOf ord[i] ord[j] := by simpa using hy
    subst this
    obtain ⟨i', j', hi', hj', h1, h2, h3, _⟩ := h.of z hz
    rw [h3] at e
    rcases eOf_inj e with ⟨e1, e2⟩ | ⟨e1, e2⟩
    · have := inj _ _ e1
      have := inj _ _ e2
      omega
    · have := inj _ _ e1
      have := inj _ _ e2
      omega
  · intro e he
    rcases List.mem_append.mp he with he | he
    · obtain ⟨i', j', hi', hj', h1, h2, h3⟩ := h.of e he
      exact ⟨i', j', hi', hj', h1, by omega, h3⟩
    · have : e = (t, eOf ord[i] ord[j]) := by simpa using he
      subst this
      exact ⟨i, j, hi, hj, hij, by omega, rfl, hf⟩
/-- a graph: names upwards, edges upwards, each with its lower name first -/
structure GrOk (ns : List Str) (es : List (Str × Str)) : Prop where
  names : Names ns
  asc : AscE es
  lt : ∀ e ∈ es, sLt e.1 e.2
  mem : ∀ e ∈ es, e.1 ∈ ns ∧ e.2 ∈ ns
/-- the graph stands at g -/
structure GrAt (H : Hp) (g n e : Addr) (ns : List Str) (es : List (Addr × Str × Str)) : Prop where
  top : H g = some (.tup [.ref n, .ref e])
  nodes : H n = some (.tup (ns.map V.str))
  edges : H e = some (.tup (es.map fun x => V.ref x.1))
  pairs : ∀ x ∈ es, H x.1 = some (.tup [.str x.2.1, .str x.2.2])
theorem cutV_to {xs : List V} {i : Nat} (h : i ≤ xs.length) : cutV xs none (some (i : Int)) = xs.take i := by
  unfold cutV HT.sIx
  simp only [Nat.sub_zero, List.drop_zero]
  rw [if_neg (by omega), Int.toNat_natCast, Nat.min_eq_left h]
theorem map_at {α : Type} {f : α → V} {xs : List α} {i : Nat} {x : V} (h : (xs.map f)[i]? = some x) : ∃ hi : i < xs.length, x = f xs[i] := by
  rw [List.getElem?_map] at h
  by_cases hi : i < xs.length
  · rw [List.getElem?_eq_getElem hi] at h
    exact ⟨hi, (Option.some.inj h).symm⟩
  · rw [List.getElem?_eq_none (by omega)] at h
    cases h
theorem StOk.nil : StOk [] [] := ⟨rfl, fun _ h => nomatch h⟩
theorem StOk.add {ord : List Str} {ws : List (Str × Int)} {i : Nat} {v : Int} (h : StOk (ord.take i) ws) (hi : i < ord.length) (h0 : 0 ≤ v) (h1 : v < 3) : StOk (ord.take (i + 1)) (ws ++ [(ord[i], v)]) := by
  refine ⟨?_, ?_⟩
  · rw [List.map_append, h.key, List.take_succ, List.getElem?_eq_getElem hi]
    rfl
  · intro p hp
    rcases List.mem_append.mp hp with hp | hp
    · exact h.num p hp
    · have : p = (ord[i], v) := by simpa using hp
      subst this
      exact ⟨h0, h1⟩
theorem StOk.not {ord : List Str} {ws : List (Str × Int)} {i : Nat} (h : StOk (ord.take i) ws) (nd : ord.Nodup) (hi : i < ord.length) : ord[i] ∉ ws.map (·.1) := by
  rw [h.key]
  intro hm
  obtain ⟨j, hj, e⟩ := List.mem_iff_getElem.mp hm
  rw [List.length_take] at hj
  have e' : ord[j] = ord[i] := by rw [← e, List.getElem_take]
  have z := List.pairwise_iff_getElem.mp (List.nodup_iff_pairwise_ne.mp nd)
  exact z j i (by omega) hi (by omega) e'
theorem eOf_pair {a b : Str} : (if sLt a b then [V.str a, V.str b] else [V.str b, V.str a]) = [V.str (eOf a b).1, V.str (eOf a b).2] := by
  unfold eOf
  split <;> rfl
section
variable {K : PySem.W.Frag} {H : Hp} {Q : VK} {p q : Addr} {σ : L2.St}
theorem rd_dnew (h : ∀ d, H d = none → Q (.ref d) (upd H d (.dK []))) : tDNewK σ H Q := h
theorem rd_dset {kvs : List (Key × V)} {k : Key} {y v : V} {R : Hp → Prop} (hs : H p = some (.dK kvs)) (hy : y = kV k) (hl : kvs.length < 100000) (h : R (upd H p (.dK (putK kvs k v)))) :
    ∃ a H4, V.ref p = .ref a ∧ DPut H a y v H4 ∧ R H4 := ⟨p, _, rfl, .inl ⟨kvs, k, hs, hy, Nat.lt_of_lt_of_le hl (by decide), rfl⟩, h⟩
end
end U

/-! comprehensions, locks, statements that are never reached: their readings -/
namespace U
open PySem PySem.Spec PyProof.Rows L2
/-- f(e, .., k = v, ..): the keywords in the parameters' order, behind the rest -/
structure CalK (P : Program) (w : World) (K : PySem.W.Frag) (mg : Str → Option Value) (base : Heap) (CX : CXT) (k : Nat) (x : Str) (np : Nat) (ks : List Str) (sp : Sp) : Prop where
  ex : ∃ (f : Addr) (fd : FuncData) (ps : List Str), FnG P w K mg base CX k f fd ps sp ∧ mg x = some (.ref f) ∧ PySem.W.keepIn K (.ref f) = true ∧
    ∀ us ws : List Value, us.length = np → ws.length = ks.length → bindArgs fd ⟨us, ks.zip ws⟩ = pure (ps.zip (us ++ ws))
def tCK (sp : Sp) (np nk : Nat) (E : XK) (t tk : TA) : TE := fun σ H Q => t σ H fun vs H1 => vs.length = np ∧ tk σ H1 fun zs H2 => zs.length = nk ∧ sp (vs ++ zs) H2 Q E
theorem vals_app {vs zs : List V} {us ws : List Value} (a : Vals vs us) (b : Vals zs ws) : Vals (vs ++ zs) (us ++ ws) := a.append b
theorem pe_cK {X : Cx} {CX : L2.CXT} {k j : Nat} {x : Str} {np : Nat} {ks : List Str} {sp : Sp} {E : XK} {e : Expr} {es : List Expr} {kws : List Keyword} {t tk : TA} {p pos : Pos} (c : CalK X.prog X.w X.K X.mg X.base CX k x np ks sp) (hr : Rm j X.A) (hk : k ≤ j) (hg : Gl X x) (hx : Passes CX X E)
    (ha : PA X (e :: es) t) (hkw : PK X kws tk) (hall : (backToKw pos (keywordEach kws X.env)).all (·.1.isSome) = true := by rfl) (hks : (backToKw pos (keywordEach kws X.env)).filterMap (·.1) = ks := by rfl)
    (hdb : (x == ("__debug__" : Str)) = false := by decide) (he : starEach (e :: es) X.env = (false, eval e X.env) :: starEach es X.env := by rfl)
    (hpl : ((backTo pos (starEach (e :: es) X.env)).any (·.1) || (backToKw pos (keywordEach kws X.env)).any (·.1.isNone)) = false := by rfl) :
    PE X (.Call (.Name x p) (e :: es) kws pos) (tCK sp np ks.length E t tk) := by
  obtain ⟨f, fd, ps, F, hm, kp, b⟩ := c.ex
  refine ⟨fun pins s σ H Q I h => wpAny_Call_Name_kw (ld_glob I hg hm ?_ hdb)⟩
  refine PySem.W.callWith_KW (h₀ := X.base) I.ok.mod.kin kp hall (thn (ha.run pos pins s σ H _ I h) fun us s1 ⟨vs, H1, I1, r, hn, q⟩ => ?_) hpl he
  refine thn (hkw.run pos pins s1 σ H1 _ I1 q) fun ws s2 ⟨zs, H2, I2, rz, hz, q2⟩ => ⟨I2.kIn, ?_⟩
  rw [hks]
  have bd : BindsTo s2 fd ⟨us, ks.zip ws⟩ (ps.zip (us ++ ws)) := .of_eq (b us ws (by rw [← r.length]; exact hn) (by rw [← rz.length]; exact hz))
  refine wpAny_call (codeAny_mono (F.go X.A X.stack s2 H2 ⟨us, ks.zip ws⟩ (us ++ ws) (vs ++ zs) Q E (hr.mono hk) I2.env0 bd (vals_app r rz) q2) ?_)
  intro res s' hq
  cases res with
  | error er => exact hx pins σ H2 s2 er s' I2 hq
  | ok fl =>
    cases fl with
    | ret u => exact I2.after hq
    | next => exact hq.elim
    | brk => exact hq.elim
    | cont => exact hq.elim
theorem ps_dead {X : Cx} {st : Stmt} : PS X st (fun _ _ _ => False) := ⟨fun _ _ _ _ _ _ h => h.elim⟩
def DcB (J : It) (g : TG) (tt : TT) (tk tv : TE) (vs : List Nat) (σ : L2.St) (H1 : Hp) (D : Addr) (Qd : Hp → Prop) : Prop := ∃ W : Nat → Nat → Hp → Prop, (∃ m, W 0 m (upd H1 D (.dK []))) ∧ ∀ i m H, W i m H →
  (J.stop i H ∧ Qd H) ∨ (J.go i H ∧ ∃ Nx : Hp → Prop, (∀ H', Nx H' → ∃ m', m' < m ∧ W (i + 1) m' H') ∧ ∀ x H', J.yld i H x H' → g x (wipe σ vs) H' fun σ2 H2 => wipe σ2 vs = wipe σ vs ∧ tt σ2 H2 fun b H3 =>
    if b = true then tk σ2 H3 fun y H4 => tv σ2 H4 fun z H5 => ∃ kvs k, y = kV k ∧ H5 D = some (.dK kvs) ∧ kvs.length < sizeLine ∧ Nx (upd H5 D (.dK (putK kvs k z))) else Nx H3)
section
variable {σ : L2.St} {H : Hp} {Q : VK} {D : Ends} {te td ty tv : TE} {t : TS} {g : TG} {wi : TI} {R : It → Hp → Prop} {tt : TT} {vs : List Nat} {L : Addr} {Qd : Hp → Prop} {J : It} {n : Nat} {G : Hp → Prop} {Y : Nat → Hp → V → Hp → Prop} {K : PySem.W.Frag}
theorem lcW (w : Walk J n G Y) (Pv : Nat → Hp → Prop) (h0 : Pv 0 (upd H L (.lst []))) (hG : ∀ i H, i ≤ n → Pv i H → G H)
    (hs : ∀ i x H H', i < n → Pv i H → Y i H x H' → g x (wipe σ vs) H' fun σ2 H2 => wipe σ2 vs = wipe σ vs ∧ tt σ2 H2 fun b H3 =>
      if b = true then te σ2 H3 fun y H4 => ∃ acc, H4 L = some (.lst acc) ∧ acc.length < sizeLine ∧ Pv (i + 1) (upd H4 L (.lst (acc ++ [y]))) else Pv (i + 1) H3) (hd : ∀ H, Pv n H → Qd H) : LcB J g tt te vs σ H L Qd := lc_it w Pv h0 hG hs hd
theorem dcW {tk : TE} (w : Walk J n G Y) (Pv : Nat → Hp → Prop) (h0 : Pv 0 (upd H L (.dK []))) (hG : ∀ i H, i ≤ n → Pv i H → G H)
    (hs : ∀ i x H H', i < n → Pv i H → Y i H x H' → g x (wipe σ vs) H' fun σ2 H2 => wipe σ2 vs = wipe σ vs ∧ tt σ2 H2 fun b H3 =>
      if b = true then tk σ2 H3 fun y H4 => tv σ2 H4 fun z H5 => ∃ kvs k, y = kV k ∧ H5 L = some (.dK kvs) ∧ kvs.length < sizeLine ∧ Pv (i + 1) (upd H5 L (.dK (putK kvs k z))) else Pv (i + 1) H3) (hd : ∀ H, Pv n H → Qd H) : DcB J g tt tk tv vs σ H L Qd := by
  refine ⟨fun i m H => m = n - i ∧ i ≤ n ∧ Pv i H, ⟨n, by simp, Nat.zero_le _, h0⟩, ?_⟩
  rintro i m H ⟨rfl, hi, p⟩
  have q := hG i H hi p
  by_cases hlt : i < n
  · refine .inr ⟨w.goes i H hlt q, Pv (i + 1), fun H' p' => ⟨n - (i + 1), by omega, rfl, hlt, p'⟩, fun x H' y => hs i x H H' hlt p (w.yields i H x H' hlt q y)⟩
  · have e : i = n := by omega
    subst e
    exact .inl ⟨w.stops H q, hd H p⟩
theorem rd_dc {tk : TE} (h : wi σ H fun J H1 => ∀ D, H1 D = none → DcB J g tt tk tv vs σ H1 D fun H2 => Q (.ref D) H2) : tDc wi g tt tk tv vs σ H Q := h
/-- under a lock: what the block leaves at the lock's place is the locked thing -/
theorem rd_lockE {d : Addr} {kvs : List (Key × V)} (hd : H d = some (.dK kvs)) (h : ∀ od, te σ (upd H d (.frz od (.dK kvs))) fun v H' => H' d = some (.frz od (.dK kvs)) ∧ Q v (upd H' d (.dK kvs))) : tLockE te σ H Q := ⟨d, _, hd, trivial, h⟩
theorem rd_lockS {d : Addr} {kvs : List (Key × V)} (hd : H d = some (.dK kvs)) (h : ∀ od, t ⟨fun σ' H' => H' d = some (.frz od (.dK kvs)) ∧ D.nx σ' (upd H' d (.dK kvs)), fun v H' => H' d = some (.frz od (.dK kvs)) ∧ D.rt v (upd H' d (.dK kvs)), fun σ' H' => H' d = some (.frz od (.dK kvs)) ∧ D.bk σ' (upd H' d (.dK kvs)), fun σ' H' => H' d = some (.frz od (.dK kvs)) ∧ D.ct σ' (upd H' d (.dK kvs))⟩ σ (upd H d (.frz od (.dK kvs)))) : tLock t D σ H := ⟨d, _, hd, trivial, h⟩
theorem rd_iItems (h : td σ H fun x H1 => ∃ d o kvs, x = .ref d ∧ H1 d = some (.frz o (.dK kvs)) ∧ R (Iti d o kvs) H1) : iItems td σ H R := h
theorem rd_iKeys (h : td σ H fun x H1 => ∃ d o, x = .ref d ∧ ((∃ kvs, H1 d = some (.frz o (.dK kvs)) ∧ R (Itk d o kvs) H1) ∨ ∃ kvs, H1 d = some (.frz o (.dT kvs)) ∧ R (Itkt d o kvs) H1)) : iKeys td σ H R := h
theorem rd_forI {d : Addr} {o : Obj} {kvs : List (Key × V)} {R : Addr → Obj → List (Key × V) → Prop} (hd : H d = some (.frz o (.dK kvs))) (h : R d o kvs) : ∃ d' o kvs, V.ref d = .ref d' ∧ H d' = some (.frz o (.dK kvs)) ∧ R d' o kvs := ⟨d, o, kvs, rfl, hd, h⟩
theorem rd_forK {d : Addr} {o : Obj} {kvs : List (Key × V)} {R : Addr → Obj → List (Key × V) → Prop} {R2 : Addr → Obj → List (List Key × V) → Prop} (hd : H d = some (.frz o (.dK kvs))) (h : R d o kvs) :
    ∃ d' o, V.ref d = .ref d' ∧ ((∃ kvs, H d' = some (.frz o (.dK kvs)) ∧ R d' o kvs) ∨ ∃ kvs, H d' = some (.frz o (.dT kvs)) ∧ R2 d' o kvs) := ⟨d, o, rfl, .inl ⟨kvs, hd, h⟩⟩
theorem rd_wp {vs : List Nat} {σ1 σ2 : L2.St} {P : Prop} (e : wipe σ1 vs = wipe σ2 vs) (h : P) : wipe σ1 vs = wipe σ2 vs ∧ P := ⟨e, h⟩
theorem rd_yesT {Q : Bool → Hp → Prop} (h : Q true H) : tYes σ H Q := h
theorem rd_acc {L : Addr} {acc : List V} {R : List V → Prop} (hL : H L = some (.lst acc)) (hz : acc.length < 100000) (h : R acc) : ∃ acc, H L = some (.lst acc) ∧ acc.length < sizeLine ∧ R acc := ⟨acc, hL, Nat.lt_of_lt_of_le hz (by decide), h⟩
theorem rd_accD {L : Addr} {y : V} {kvs : List (Key × V)} {k : Key} {R : List (Key × V) → Key → Prop} (hy : y = kV k) (hL : H L = some (.dK kvs)) (hz : kvs.length < 100000) (h : R kvs k) : ∃ kvs k, y = kV k ∧ H L = some (.dK kvs) ∧ kvs.length < sizeLine ∧ R kvs k := ⟨kvs, k, hy, hL, Nat.lt_of_lt_of_le hz (by decide), h⟩
theorem inV_int {v : Int} {xs : List Int} : inV (.int v) (xs.map V.int) = decide (v ∈ xs) := by
  induction xs with
  | nil => rfl
  | cons x xs ih =>
    unfold inV at ih ⊢
    rw [List.map_cons, List.any_cons, ih]
    simp only [eqV, List.mem_cons, Bool.decide_or]
    congr 1
    exact decide_eq_decide.mpr ⟨Eq.symm, Eq.symm⟩
theorem inV_str {v : Str} {xs : List Str} : inV (.str v) (xs.map V.str) = decide (v ∈ xs) := by
  induction xs with
  | nil => rfl
  | cons x xs ih =>
    unfold inV at ih ⊢
    rw [List.map_cons, List.any_cons, ih]
    simp only [eqV, List.mem_cons, Bool.decide_or]
    congr 1
    exact decide_eq_decide.mpr ⟨Eq.symm, Eq.symm⟩
theorem flat_int {xs : List Int} : (xs.map V.int).all flatV = true := by
  rw [List.all_eq_true]
  intro x hx
  obtain ⟨i, _, rfl⟩ := List.mem_map.mp hx
  rfl
theorem flat_str {xs : List Str} : (xs.map V.str).all flatV = true := by
  rw [List.all_eq_true]
  intro x hx
  obtain ⟨i, _, rfl⟩ := List.mem_map.mp hx
  rfl
theorem rd_inIL {p : Addr} {v : Int} {xs : List Int} (hs : SqL K H p (xs.map V.int)) (h : Q (.bl (decide (v ∈ xs))) H) : rInU K (.int v) (.ref p) H Q := ⟨_, .inl hs, rfl, flat_int, by rw [inV_int]; exact h⟩
theorem rd_ninIL {p : Addr} {v : Int} {xs : List Int} (hs : SqL K H p (xs.map V.int)) (h : Q (.bl (!decide (v ∈ xs))) H) : rNotInU K (.int v) (.ref p) H Q := ⟨_, .inl hs, rfl, flat_int, by rw [inV_int]; exact h⟩
theorem rd_inSL {p : Addr} {v : Str} {xs : List Str} (hs : SqL K H p (xs.map V.str)) (h : Q (.bl (decide (v ∈ xs))) H) : rInU K (.str v) (.ref p) H Q := ⟨_, .inl hs, rfl, flat_str, by rw [inV_str]; exact h⟩
theorem rd_ninSL {p : Addr} {v : Str} {xs : List Str} (hs : SqL K H p (xs.map V.str)) (h : Q (.bl (!decide (v ∈ xs))) H) : rNotInU K (.str v) (.ref p) H Q := ⟨_, .inl hs, rfl, flat_str, by rw [inV_str]; exact h⟩
theorem rd_inST {p : Addr} {v : Str} {xs : List Str} (hs : SqT K H p (xs.map V.str)) (h : Q (.bl (decide (v ∈ xs))) H) : rInU K (.str v) (.ref p) H Q := ⟨_, .inr hs, rfl, flat_str, by rw [inV_str]; exact h⟩
theorem rd_ninST {p : Addr} {v : Str} {xs : List Str} (hs : SqT K H p (xs.map V.str)) (h : Q (.bl (!decide (v ∈ xs))) H) : rNotInU K (.str v) (.ref p) H Q := ⟨_, .inr hs, rfl, flat_str, by rw [inV_str]; exact h⟩
theorem rd_catL {p q : Addr} {xs ys : List V} (h1 : H p = some (.lst xs)) (h2 : H q = some (.lst ys)) (hz : xs.length + ys.length ≤ 100000) (h : nL (xs ++ ys) H Q) : rAddU K (.ref p) (.ref q) H Q := .inl ⟨xs, ys, h1, h2, Nat.le_trans hz (by decide), h⟩
theorem GrAt.same {H' : Hp} {g n e : Addr} {ns : List Str} {es : List (Addr × Str × Str)} (h : GrAt H g n e ns es) (s : Same H H') : GrAt H' g n e ns es :=
  ⟨s _ _ h.top, s _ _ h.nodes, s _ _ h.edges, fun x hx => s _ _ (h.pairs x hx)⟩
theorem GrAt.but {H' : Hp} {p g n e : Addr} {ys : List V} {ns : List Str} {es : List (Addr × Str × Str)} (h : GrAt H g n e ns es) (hp : H p = some (.lst ys)) (b : But p H H') : GrAt H' g n e ns es := by
  have k : ∀ {a : Addr} {xs : List V}, H a = some (.tup xs) → H' a = some (.tup xs) := fun {a xs} ha => b _ _ (ne_of ha hp (by intro z; cases z)) ha
  exact ⟨k h.top, k h.nodes, k h.edges, fun x hx => k (h.pairs x hx)⟩
theorem But.dK {H' : Hp} {p d : Addr} {ys : List V} {kvs : List (Key × V)} (b : But p H H') (hp : H p = some (.lst ys)) (h : H d = some (.dK kvs)) : H' d = some (.dK kvs) := b _ _ (ne_of h hp (by intro z; cases z)) h
theorem But.tup {H' : Hp} {p d : Addr} {ys xs : List V} (b : But p H H') (hp : H p = some (.lst ys)) (h : H d = some (.tup xs)) : H' d = some (.tup xs) := b _ _ (ne_of h hp (by intro z; cases z)) h
theorem same_put {H1 : Hp} {a : Addr} {o : HO} (s : Same H H1) (n : H a = none) : Same H (upd H1 a o) := fun c u h => at_upd (ne_of_none h n) (s c u h)
theorem same_add {H1 : Hp} {a : Addr} {o : HO} (s : Same H H1) (n : H1 a = none) : Same H (upd H1 a o) := fun c u h => at_upd (ne_of_none (s c u h) n) (s c u h)
/-- xs != [], whatever data -/
theorem rd_neNilD {p q : Addr} {xs : List V} {ds : List PyData} (hp : SqL K H p xs) (hd : DpAll K H xs ds) (hq : SqL K H q []) (ok : PyData.canLayAll0 ds = true) (dep : PyData.depthAll ds ≤ 60) (h : Q (.bl (!xs.isEmpty)) H) : rNeU K (.ref p) (.ref q) H Q := by
  refine ⟨_, _, .lst hp hd, .lst hq .nil, ?_, by decide, ?_⟩
  · unfold SeqAt.shaped
    rw [PyData.canLay0, ok, PyData.depth, decide_eq_true (by omega)]
    rfl
  · have : PyData.eqv (.list ds) (.list []) = xs.isEmpty := by
      cases hd with
      | nil => simp [PyData.eqv, PyData.eqvAll]
      | cons _ _ => simp [PyData.eqv, PyData.eqvAll]
    rw [this]
    exact h
theorem rd_isi {x : V} {n : String} {a t : Ty} (h1 : TyIs K H x a) (h2 : tyOf n = some t) (h : Q (.bl (isT a t)) H) : rIsiU K [x, .ty n] H Q := ⟨a, t, h1, h2, h⟩
theorem rd_din (h : ty σ H fun y H1 => td σ H1 fun x H2 => ∃ a o, x = .ref a ∧ DGet H2 a y o ∧ Q (.bl o.isSome) H2) : tDIn ty td σ H Q := h
theorem rd_dnin (h : ty σ H fun y H1 => td σ H1 fun x H2 => ∃ a o, x = .ref a ∧ DGet H2 a y o ∧ Q (.bl (!o.isSome)) H2) : tDNotIn ty td σ H Q := h
theorem rd_din1 {p : Addr} {kvs : List (Key × V)} {k : Key} {y : V} {R : Option V → Prop} (hs : Rd H p (.dK kvs)) (hy : y = kV k) (h : R (valV kvs k)) : ∃ a o, V.ref p = .ref a ∧ DGet H a y o ∧ R o := ⟨p, _, rfl, .inl ⟨kvs, k, hs, hy, rfl⟩, h⟩
/-- two lists of other lengths -/
def rEqLen (K : PySem.W.Frag) : R2 := fun x y H Q => ∃ a b xs ys, x = .ref a ∧ y = .ref b ∧ SqL K H a xs ∧ SqL K H b ys ∧ xs.length ≠ ys.length ∧ Q (.bl false) H
theorem kEqLen {X : Cx} (K : PySem.W.Frag) (hK : X.K = K) (hu : X.A.units < cLine) : OpR X (compareOp .Eq) (rEqLen K) := by
  subst hK
  intro pins s σ H x y v u Q I rx ry h
  obtain ⟨a, b, xs, ys, rfl, rfl, h1, h2, hn, q⟩ := h
  cases rx
  cases ry
  obtain ⟨i1, v1, p1, _⟩ := I.list h1
  obtain ⟨i2, v2, p2, _⟩ := I.list h2
  have l1 := v1.length
  have l2 := v2.length
  exact SeqAt.RcAt.lists_lengths p1.isList p2.isList (by simp only [List.size_toArray, bne_iff_ne, ne_eq]; omega) hu X.prog X.w _ _ ⟨.bl false, H, I, rfl, q⟩
theorem rd_eqLen {p q : Addr} {xs ys : List V} (h1 : SqL K H p xs) (h2 : SqL K H q ys) (n : xs.length ≠ ys.length) (h : Q (.bl false) H) : rEqLen K (.ref p) (.ref q) H Q := ⟨p, q, xs, ys, rfl, rfl, h1, h2, n, h⟩
/-- sorted(a list of numbers) -/
theorem rd_sortI {p : Addr} {xs : List Int} (hs : SqL K H p (xs.map V.int)) (hl : xs.length ≤ 100000) (k : ∀ ys : List Int, ys.Perm xs → ys.Pairwise (fun a b => a ≤ b) → nL (ys.map V.int) H Q) : rSortU K [.ref p] H Q := by
  refine ⟨xs.map fun x => (V.int x, PyData.int x), ?_, ⟨?_, ?_, ?_, ?_, ?_⟩, ?_⟩
  · rw [List.map_map]
    exact hs
  · intro b hb
    obtain ⟨x, _, rfl⟩ := List.mem_map.mp hb
    exact .int x
  · rw [List.map_map]
    exact PySem.W.AllAlike.of (enc := PyData.int) fun a b => by simp [PySem.W.alike]
  · rw [List.map_map]
    exact PySem.W.Sortable.others (enc := PyData.int) fun b => ⟨by simp, by simp⟩
  · intro b hb
    obtain ⟨x, _, rfl⟩ := List.mem_map.mp hb
    simp [PyData.depth]
  · rw [List.length_map]
    omega
  · intro cs pc sc
    obtain ⟨ys, py, rfl⟩ := perm_of_map pc
    rw [List.map_map]
    refine k ys py ?_
    rw [List.pairwise_map] at sc
    refine sc.imp fun {a b} z => ?_
    have z' : PySem.W.dataLt (PyData.int b) (PyData.int a) = false := z
    rw [PySem.W.dataLt_int] at z'
    have := of_decide_eq_false z'
    omega
theorem rd_nT {A B : Prop} (h : B) : if (!true) = true then A else B := h
theorem rd_nF {A B : Prop} (h : A) : if (!false) = true then A else B := h
/-- repr of a truth value -/
def shB (b : Bool) : Str := if b then "True" else "False"
theorem shB_inj {a b : Bool} : decide (shB a = shB b) = decide (a = b) := by cases a <;> cases b <;> decide +kernel
def rReprU : List V → Hp → VK → Prop := fun xs H Q => match xs with
  | [.bl b] => Q (.str (shB b)) H
  | _ => False
theorem cRepr {X : Cx} : CallR X (.builtin "repr") rReprU := by
  intro pins s σ H xs us Q I r h
  match xs, h with
  | [.bl b], h =>
    cases r with
    | cons r rr =>
      cases rr
      cases r
      exact PySem.P.repr_of_bool ⟨.str _, H, I.tok _, ⟨_, rfl⟩, h⟩
theorem rd_reprB {b : Bool} (h : Q (.str (shB b)) H) : rReprU [.bl b] H Q := h
theorem rd_ck {sp : Sp} {E : XK} {np nk : Nat} {t tk : TA} (h : t σ H fun vs H1 => vs.length = np ∧ tk σ H1 fun zs H2 => zs.length = nk ∧ sp (vs ++ zs) H2 Q E) : tCK sp np nk E t tk σ H Q := h
theorem rd_len {vs : List V} {k : Nat} {P : Prop} (e : vs.length = k) (h : P) : vs.length = k ∧ P := ⟨e, h⟩
theorem rd_par {i j : Nat} {ta : TA} (h : ta σ H fun vs H1 => ∃ v w, vs = [v, w] ∧ D.nx ((σ.set i (some v)).set j (some w)) H1) : tPar i j ta D σ H := h
theorem rd_two {v w' : V} {R : V → V → Prop} (h : R v w') : ∃ x y, [v, w'] = [x, y] ∧ R x y := ⟨v, w', rfl, h⟩
theorem rd_wipe {P : Prop} (h : P) {σ1 σ2 : L2.St} (e : σ1 = σ2) : σ1 = σ2 ∧ P := ⟨e, h⟩
theorem rd_yes' {P : Bool → Prop} (h : P true) : tYes σ H (fun b _ => P b) := h
theorem rd_sumL {p : Addr} {ns : List Int} (hs : SqL K H p (ns.map V.int)) (h : Q (.int ns.sum) H) : rSumU K [.ref p] H Q := ⟨ns, hs, h⟩
theorem rd_allL {p : Addr} {bs : List Bool} (hs : SqL K H p (bs.map V.bl)) (h : Q (.bl (bs.all id)) H) : rAllU K [.ref p] H Q := ⟨bs, hs, h⟩
theorem rd_isB {a b : Bool} (h : Q (.bl (decide (a = b))) H) : rIsU (.bl a) (.bl b) H Q := ⟨a, rfl, h⟩
theorem rd_isNotB {a b : Bool} (h : Q (.bl (!decide (a = b))) H) : rIsNotU (.bl a) (.bl b) H Q := ⟨a, rfl, h⟩
theorem rd_daug {rd : V → V → Hp → VK → Prop} (h : td σ H fun x H1 => ty σ H1 fun y H2 => ∃ a v, x = .ref a ∧ DGet H2 a y (some v) ∧
  tv σ H2 fun y2 H3 => rd v y2 H3 fun z H4 => ∃ H5, DPut H4 a y z H5 ∧ D.nx σ H5) : sDAug td ty tv rd D σ H := h
end
end U

namespace Law
open PySem PySem.Spec PyProof.Rows L2 U
def top (i : Nat) : Stmt := PySem.Challenge.pw_threeturned_k62_whole_case_trees_are_sou.main.body.getD i (.Pass ⟨0, 0, 0, 0⟩)
abbrev c_TooLarge : Stmt := top 1
abbrev s_TooLarge_init : Stmt := inClass (top 1) 0
theorem sc_TooLarge_init : FnScope ["self", "total"] ["self", "total"] (defScope s_TooLarge_init) := ⟨rfl, rfl, rfl, by decide +kernel, rfl, by decide +kernel, by decide +kernel⟩
abbrev s_has_node : Stmt := top 3
abbrev nN_has_node : List Str := ["graph", "candidate"]
theorem sc_has_node : FnScope ["graph", "candidate"] ["graph", "candidate"] (defScope s_has_node) := ⟨rfl, rfl, rfl, by decide +kernel, rfl, by decide +kernel, by decide +kernel⟩
abbrev s_edge_of : Stmt := top 4
abbrev nN_edge_of : List Str := ["first", "second"]
theorem sc_edge_of : FnScope ["first", "second"] ["first", "second"] (defScope s_edge_of) := ⟨rfl, rfl, rfl, by decide +kernel, rfl, by decide +kernel, by decide +kernel⟩
abbrev s_first_conflict : Stmt := top 8
abbrev nN_first_conflict : List Str := ["graph", "values", "first", "second"]
theorem sc_first_conflict : FnScope ["graph", "values", "first", "second"] ["graph", "values"] (defScope s_first_conflict) := ⟨rfl, rfl, rfl, by decide +kernel, rfl, by decide +kernel, by decide +kernel⟩
abbrev s_first_extension : Stmt := top 9
abbrev nN_first_extension : List Str := ["graph", "values", "node", "value", "state"]
theorem sc_first_extension : FnScope ["graph", "values", "node", "value", "state"] ["graph", "values"] (defScope s_first_extension) := ⟨rfl, rfl, rfl, by decide +kernel, rfl, by decide +kernel, by decide +kernel⟩
abbrev s_first_state : Stmt := top 10
abbrev nN_first_state : List Str := ["graph"]
theorem sc_first_state : FnScope ["graph"] ["graph"] (defScope s_first_state) := ⟨rfl, rfl, rfl, by decide +kernel, rfl, by decide +kernel, by decide +kernel⟩
abbrev s_tree_below : Stmt := top 11
abbrev nN_tree_below : List Str := ["graph", "values", "edge", "node", "value"]
theorem sc_tree_below : FnScope ["graph", "values", "edge", "node", "value"] ["graph", "values"] (defScope s_tree_below) := ⟨rfl, rfl, rfl, by decide +kernel, rfl, by decide +kernel, by decide +kernel⟩
abbrev s_case_tree : Stmt := top 12
abbrev nN_case_tree : List Str := ["graph"]
theorem sc_case_tree : FnScope ["graph"] ["graph"] (defScope s_case_tree) := ⟨rfl, rfl, rfl, by decide +kernel, rfl, by decide +kernel, by decide +kernel⟩
abbrev s_is_tree_below : Stmt := top 13
abbrev nN_is_tree_below : List Str := ["graph", "candidate", "values", "label", "node", "last", "is_edge", "value"]
theorem sc_is_tree_below : FnScope ["graph", "candidate", "values", "label", "node", "last", "is_edge", "value"] ["graph", "candidate", "values"] (defScope s_is_tree_below) := ⟨rfl, rfl, rfl, by decide +kernel, rfl, by decide +kernel, by decide +kernel⟩
abbrev s_is_case_tree : Stmt := top 14
abbrev nN_is_case_tree : List Str := ["graph", "candidate"]
theorem sc_is_case_tree : FnScope ["graph", "candidate"] ["graph", "candidate"] (defScope s_is_case_tree) := ⟨rfl, rfl, rfl, by decide +kernel, rfl, by decide +kernel, by decide +kernel⟩
abbrev s__law_box : Stmt := top 16
abbrev nN__law_box : List Str := ["_law_script", "_law_cell"]
theorem sc__law_box : FnScope ["_law_script", "_law_cell"] ["_law_script"] (defScope s__law_box) := ⟨rfl, rfl, rfl, by decide +kernel, rfl, by decide +kernel, by decide +kernel⟩
abbrev s__law_draw : Stmt := top 17
abbrev nN__law_draw : List Str := ["_law_source", "_law_count", "_law_cell", "_law_found"]
theorem sc__law_draw : FnScope ["_law_source", "_law_count", "_law_cell", "_law_found"] ["_law_source", "_law_count"] (defScope s__law_draw) := ⟨rfl, rfl, rfl, by decide +kernel, rfl, by decide +kernel, by decide +kernel⟩
abbrev s__law_stem : Stmt := top 18
abbrev nN__law_stem : List Str := ["_law_source", "_law_k"]
theorem sc__law_stem : FnScope ["_law_source", "_law_k"] ["_law_source"] (defScope s__law_stem) := ⟨rfl, rfl, rfl, by decide +kernel, rfl, by decide +kernel, by decide +kernel⟩
abbrev s__law_random_graph : Stmt := top 19
abbrev nN__law_random_graph : List Str := ["_law_source", "_law_most", "_law_direction", "_law_count", "_law_density", "_law_pairs", "_law_k", "_law_near", "_law_on_wheel", "_law_full", "_law_front", "_law_shift", "_law_step", "_law_words", "_law_letter", "_law_stem_here", "_law_edges", "_law_one", "_law_other"]
theorem sc__law_random_graph : FnScope ["_law_source", "_law_most", "_law_direction", "_law_count", "_law_density", "_law_pairs", "_law_k", "_law_near", "_law_on_wheel", "_law_full", "_law_front", "_law_shift", "_law_step", "_law_words", "_law_letter", "_law_stem_here", "_law_edges", "_law_one", "_law_other"] ["_law_source", "_law_most"] (defScope s__law_random_graph) := ⟨rfl, rfl, rfl, by decide +kernel, rfl, by decide +kernel, by decide +kernel⟩
abbrev s__law_first : Stmt := top 20
abbrev nN__law_first : List Str := ["_law_graph", "_law_paths", "_law_path", "_law_near", "_law_k", "_law_excluded", "_law_value"]
theorem sc__law_first : FnScope ["_law_graph", "_law_paths", "_law_path", "_law_near", "_law_k", "_law_excluded", "_law_value"] ["_law_graph"] (defScope s__law_first) := ⟨rfl, rfl, rfl, by decide +kernel, rfl, by decide +kernel, by decide +kernel⟩
abbrev s__law_changed : Stmt := top 21
abbrev nN__law_changed : List Str := ["_law_source", "_law_tree", "_law_trees", "_law_direction", "_law_at"]
theorem sc__law_changed : FnScope ["_law_source", "_law_tree", "_law_trees", "_law_direction", "_law_at"] ["_law_source", "_law_tree"] (defScope s__law_changed) := ⟨rfl, rfl, rfl, by decide +kernel, rfl, by decide +kernel, by decide +kernel⟩
abbrev s__law_with_more_nodes : Stmt := top 22
abbrev nN__law_with_more_nodes : List Str := ["_law_source", "_law_graph", "_law_more", "_law_one", "_law_other", "_law_edges", "_law_k"]
theorem sc__law_with_more_nodes : FnScope ["_law_source", "_law_graph", "_law_more", "_law_one", "_law_other", "_law_edges", "_law_k"] ["_law_source", "_law_graph"] (defScope s__law_with_more_nodes) := ⟨rfl, rfl, rfl, by decide +kernel, rfl, by decide +kernel, by decide +kernel⟩
abbrev s_law : Stmt := top 23
abbrev nN_law : List Str := ["_law_script", "_law_source", "_law_graph", "_law_new_graph", "_law_at", "_law_known", "_law_trees", "_law_edge", "_law_k", "_law_great", "_law_bare", "_law_one", "_law_path", "_law_tree", "_law_good"]
theorem sc_law : FnScope ["_law_script", "_law_source", "_law_graph", "_law_new_graph", "_law_at", "_law_known", "_law_trees", "_law_edge", "_law_k", "_law_great", "_law_bare", "_law_one", "_law_path", "_law_tree", "_law_good"] ["_law_script"] (defScope s_law) := ⟨rfl, rfl, rfl, by decide +kernel, rfl, by decide +kernel, by decide +kernel⟩
end Law

namespace Law
open PySem PySem.Spec PyProof.Rows L2 U
local macro_rules | `(tactic| wtm_at "rd1") => `(tactic| first
  | with_reducible refine rd_seq ?_
  | ((with_reducible refine rd_var (v := ?vv) ?hv ?_); (case hv => exact rfl))
  | with_reducible refine rd_c ?_
  | with_reducible refine rd_cons ?_
  | with_reducible refine rd_nil ?_
  | with_reducible refine rd_op ?_
  | with_reducible refine rd_asg ?_
  | with_reducible refine rd_name ?_
  | with_reducible refine rd_c1 ?_
  | with_reducible refine rd_cb ?_
  | with_reducible refine rd_test ?_
  | with_reducible refine rd_B ?_
  | with_reducible refine rd_bl ?_
  | with_reducible refine rd_if ?_
  | with_reducible refine rd_ret ?_
  | with_reducible refine rd_drop ?_
  | with_reducible refine rd_next ?_
  | with_reducible refine rd_addI ?_
  | with_reducible refine rd_ltI ?_
  | with_reducible refine rd_eqI ?_
  | with_reducible refine rd_neI ?_
  | with_reducible refine rd_eqS ?_
  | with_reducible refine rd_neS ?_
  | with_reducible refine rd_gtI ?_
  | with_reducible refine rd_geI ?_
  | with_reducible refine rd_leI ?_
  | with_reducible refine rd_ltS ?_
  | with_reducible refine rd_subI ?_
  | ((with_reducible refine rd_modI ?hc ?_); (case hc => first | decide | omega))
  | ((with_reducible refine rd_mulI ?hc ?_); (case hc => first | exact mul_bI | exact .inl (.inr (by decide)) | exact .inl (.inl (by decide)) | exact .inl (.inr (by omega)) | exact .inl (.inl (by omega))))
  | ((with_reducible refine rd_divI ?hc ?_); (case hc => first | decide | omega))
  | ((with_reducible refine rd_powI ?hc ?_); (case hc => exact ⟨by decide, by decide, by decide⟩))
  | with_reducible refine rd_lst ?_
  | with_reducible refine rd_tup ?_
  | ((with_reducible refine rd_sz ?hv ?_); (case hv => exact rfl))
  | with_reducible refine rd_and ?_
  | with_reducible refine rd_or ?_
  | with_reducible refine rd_not ?_
  | with_reducible refine rd_andV ?_
  | with_reducible refine rd_orV ?_
  | with_reducible refine rd_notV ?_
  | with_reducible refine rd_ifE ?_
  | with_reducible refine rd_T ?_
  | with_reducible refine rd_F ?_
  | with_reducible refine rd_chain ?_
  | with_reducible refine rd_is ?_
  | with_reducible refine rd_isNot ?_
  | with_reducible refine rd_absI ?_
  | with_reducible refine rd_maxI ?_
  | with_reducible refine rd_minI ?_
  | with_reducible refine rd_intI ?_
  | with_reducible refine rd_intB ?_
  | with_reducible refine rd_sub ?_
  | with_reducible refine rd_sl ?_
  | with_reducible refine rd_noPart ?_
  | with_reducible refine rd_part ?_
  | with_reducible refine rd_exI ?_
  | with_reducible refine rd_bm ?_
  | with_reducible refine rd_bm0 ?_
  | with_reducible refine rd_un ?_
  | with_reducible refine rd_neg ?_
  | with_reducible refine rd_c2 ?_
  | with_reducible refine rd_retN ?_
  | with_reducible refine rd_break ?_
  | with_reducible refine rd_cont ?_
  | with_reducible refine rd_for ?_
  | with_reducible refine rd_rng1 ?_
  | with_reducible refine rd_rng2 ?_
  | with_reducible refine rd_iList ?_
  | with_reducible refine rd_iTup ?_
  | with_reducible refine rd_iEnum ?_
  | ((with_reducible refine rd_forR ?h0 ?h1 ?_); (case h0 => omega); (case h1 => omega))
  | with_reducible refine rd_lc ?_
  | with_reducible refine rd_gcons ?_
  | with_reducible refine rd_gnil ?_
  | with_reducible refine rd_dget ?_
  | with_reducible refine rd_dput ?_
  | with_reducible refine rd_dnew ?_
  | with_reducible refine rd_dc ?_
  | with_reducible refine rd_iItems ?_
  | with_reducible refine rd_iKeys ?_
  | with_reducible refine rd_din ?_
  | with_reducible refine rd_lc2 ?_
  | with_reducible refine rd_cd ?_
  | with_reducible refine rd_par ?_
  | with_reducible refine rd_two ?_
  | with_reducible refine rd_reprB ?_
  | with_reducible refine rd_ck ?_
  | ((with_reducible refine rd_len ?hl ?_); (case hl => exact rfl))
  | with_reducible refine rd_nT ?_
  | with_reducible refine rd_nF ?_
  | with_reducible refine rd_dnin ?_
  | with_reducible refine rd_isB ?_
  | with_reducible refine rd_isNotB ?_
  | with_reducible refine rd_daug ?_
  | with_reducible refine rd_yesT ?_
  | ((with_reducible refine rd_wp ?hw ?_); (case hw => exact rfl)))
local macro_rules | `(tactic| wtm_at "rd") => `(tactic| repeat wtm_at "rd1")
/-- the names of the world are the world's -/
structure Bt (mg : Str → Option Value) : Prop where
  len : mg "len" = none
  abs : mg "abs" = none
  max : mg "max" = none
  min : mg "min" = none
  sorted : mg "sorted" = none
  isinstance : mg "isinstance" = none
  int : mg "int" = none
  list : mg "list" = none
  tuple : mg "tuple" = none
  str : mg "str" = none
  range : mg "range" = none
  enumerate : mg "enumerate" = none
  dict : mg "dict" = none
  sum : mg "sum" = none
  all : mg "all" = none
  any : mg "any" = none
  repr : mg "repr" = none
  set : mg "set" = none
  zip : mg "zip" = none
  reversed : mg "reversed" = none
/-- a source of draws: the cells, how many are used, what is left of a great one, the seed -/
abbrev srcO (c : Addr) (pos big seed : Int) : HO := .lst [.ref c, .int pos, .int big, .int seed]
structure SrcOk (xs : List Int) (pos big seed : Int) : Prop where
  xs : ∀ x ∈ xs, 0 ≤ x
  pos : 0 ≤ pos
  big : 0 ≤ big
  s0 : 0 ≤ seed
  s1 : seed < 2147483647
def SrcAt (H : Hp) (p c : Addr) (xs : List Int) : Prop := ∃ pos big seed, H p = some (srcO c pos big seed) ∧ H c = some (.lst (xs.map V.int)) ∧ SrcOk xs pos big seed
def PoolAt (H : Hp) (p : Addr) : Prop := ∃ c xs, SrcAt H p c xs
theorem src_ne {xs : List Int} {c : Addr} {pos big seed : Int} : srcO c pos big seed ≠ .lst (xs.map V.int) := fun z => by
  match xs, HO.lst.inj z with
  | _ :: _, e => cases e
theorem PoolAt.ne {H : Hp} {p q : Addr} (h : PoolAt H p) (n : H q = none) : p ≠ q := by
  obtain ⟨c, xs, b, g, s, h, _⟩ := h
  exact ne_of_none h n
theorem PoolAt.isL {H : Hp} {p : Addr} (h : PoolAt H p) : ∃ ys, H p = some (.lst ys) := by
  obtain ⟨c, xs, b, g, s, h, _⟩ := h
  exact ⟨_, h⟩
theorem PoolAt.off {H : Hp} {p q : Addr} {xs : List Str} (h : PoolAt H p) (hq : H q = some (.lst (xs.map V.str))) : q ≠ p := by
  rintro rfl
  obtain ⟨c, ys, b, g, s, h, _⟩ := h
  rw [hq] at h
  have e := HO.lst.inj (Option.some.inj h)
  match xs, e with
  | _ :: _, e => cases e
/-- from H to H' all stays but the draws' source at p, which is one still; new things may have come -/
structure Go (p : Addr) (H H' : Hp) : Prop where
  but : But p H H'
  free : ∀ b, H' b = none → H b = none
  pool : PoolAt H' p
  cell : ∀ c pos big seed, H' p = some (srcO c pos big seed) → H c ≠ none ∧ ∃ pos big seed, H p = some (srcO c pos big seed)
theorem Go.refl {p : Addr} {H : Hp} (h : PoolAt H p) : Go p H H := ⟨But.refl, fun _ n => n, h, fun c pos big seed e => by
  obtain ⟨c', xs, b, g, s, h1, h2, _⟩ := h
  have e2 := Option.some.inj (e.symm.trans h1)
  have e3 := (List.cons.inj (HO.lst.inj e2)).1
  have e4 : c = c' := V.ref.inj e3
  subst e4
  exact ⟨(fun z => by rw [z] at h2; cases h2), _, _, _, e⟩⟩
theorem Go.trans {p : Addr} {H H1 H2 : Hp} (a : Go p H H1) (b : Go p H1 H2) : Go p H H2 := ⟨a.but.trans b.but, fun c n => a.free c (b.free c n), b.pool, fun c _ _ _ e => by
  obtain ⟨_, _, _, _, e2⟩ := b.cell c _ _ _ e
  exact a.cell c _ _ _ e2⟩
/-- an object that was not there at H is written -/
theorem Go.put {p q : Addr} {H H1 : Hp} {o : HO} (a : Go p H H1) (n : H q = none) (ne : p ≠ q) : Go p H (L2.upd H1 q o) := by
  obtain ⟨c, xs, b, g, s, h1, h2, ok⟩ := a.pool
  have nc : c ≠ q := fun z => (a.cell _ _ _ _ h1).1 (z ▸ n)
  exact ⟨fun b u h e => at_upd (ne_of_none e n) (a.but b u h e), fun c z => a.free c (new_old z), ⟨c, xs, b, g, s, at_upd ne h1, at_upd nc h2, ok⟩, fun c' _ _ _ e => a.cell c' _ _ _ ((upd_ne ne).symm.trans e)⟩
theorem Go.new {p q : Addr} {H H1 : Hp} {o : HO} (a : Go p H H1) (n : H1 q = none) : Go p H (L2.upd H1 q o) := a.put (a.free _ n) (a.pool.ne n)
theorem Go.at {p q : Addr} {H H1 : Hp} {o : HO} (a : Go p H H1) (h : H q = some o) (n : q ≠ p) : H1 q = some o := a.but q o n h
theorem Go.seqT {p a : Addr} {H H1 : Hp} {xs : List V} {K : PySem.W.Frag} (g : Go p H H1) (hp : PoolAt H p) (h : SqT K H a xs) : SqT K H1 a xs := g.but.seqT hp.isL h
theorem Go.of_same {p : Addr} {H H' : Hp} (hp : PoolAt H p) (s : Same H H') : Go p H H' := by
  obtain ⟨c, xs, b, g, sd, h1, h2, ok⟩ := hp
  refine ⟨But.of_same s, fun b n => new_of_same s n, ⟨c, xs, b, g, sd, s _ _ h1, s _ _ h2, ok⟩, fun c' _ _ _ e => ?_⟩
  have e2 := Option.some.inj (e.symm.trans (s _ _ h1))
  have e4 : c' = c := V.ref.inj (List.cons.inj (HO.lst.inj e2)).1
  subst e4
  exact ⟨(fun z => by rw [z] at h2; cases h2), _, _, _, h1⟩
theorem PoolAt.keep {p : Addr} {H H' : Hp} (h : PoolAt H p) (k : ∀ a xs, H a = some (.lst xs) → H' a = some (.lst xs)) : PoolAt H' p := by
  obtain ⟨c, xs, b, g, sd, h1, h2, ok⟩ := h
  exact ⟨c, xs, b, g, sd, k _ _ h1, k _ _ h2, ok⟩
def spBox (K : PySem.W.Frag) : Sp := fun vs H Q _ => ∃ (a : Addr) (ns : List Int), vs = [.ref a] ∧ SqL K H a (ns.map V.int) ∧ ns.length ≤ 63 ∧
  ∀ (p : Addr) (H' : Hp), Same H H' → H p = none → PoolAt H' p → Q (.ref p) H'
def spDraw : Sp := fun vs H Q _ => ∃ (p : Addr) (many : Int), vs = [.ref p, .int many] ∧ 0 < many ∧ many < 1000000 ∧ PoolAt H p ∧
  ∀ (r : Int) (H' : Hp), 0 ≤ r → r < many → Go p H H' → Q (.int r) H'
/-- _law_draw, as it is used -/
theorem use_draw {H : Hp} {p : Addr} {many : Int} {Q : VK} {E : XK} (h : PoolAt H p) (m0 : 0 < many) (m1 : many < 1000000)
    (k : ∀ (r : Int) (H' : Hp), 0 ≤ r → r < many → Go p H H' → Q (.int r) H') : spDraw [.ref p, .int many] H Q E := ⟨p, many, rfl, m0, m1, h, k⟩
section
variable {P : Program} {w : World} {K : PySem.W.Frag} {mg : Str → Option Value} {base : Heap}
theorem mul_small {i j : Int} (h : -(2 ^ 64) < j ∧ j < 2 ^ 64) : CMul i j ∨ CMulW i j := .inl (.inr h)
theorem ok_box {f : Addr} {fd : FuncData} (F : Fun K "_law_box" "_law_box" s__law_box f fd) (B : Bt mg) : FnG P w K mg base CX0 1 f fd ["_law_script"] (spBox K) := by
  refine fnG0 F sc__law_box (fun vs H Q E h => ?_) (fun cdv A outer s H vs Q E hr h => ?_)
  · obtain ⟨a, ns, rfl, _⟩ := h
    rfl
  · obtain ⟨a, ns, rfl, hs, hl, q⟩ := h
    have nd := sc__law_box.nd
    refine ⟨_, (pss_one (ps_ret (pe_lst (pa_cons (pe_lc (own := [("_law_cell", 1)]) rfl nd (ki_list K rfl (pe_slice (kSl K rfl) (pv 0) po_none (po_some pe_int))) (blkOk_by (own := [("_law_cell", 1)]) (N := nN__law_box) (sc := defScope s__law_box) (by decide +kernel)) (fun _ _ _ _ _ => (pg_name (i := 1) nd rfl (by first | exact Or.inl rfl | exact Or.inr rfl))) (fun _ _ _ _ _ => pts_nil) (fun _ _ _ _ _ => (pe_callB cAbs (by rfl) B.abs bb_abs (pa_cons (pv 1) pa_nil)))) (pa_cons pe_int (pa_cons pe_int (pa_cons pe_int pa_nil))))))), ?_⟩
    wtm_at "rd"
    refine rd_slL hs ?_
    intro t ft
    have ht := @upd_same H t (.lst (cutV (ns.map V.int) none (some 63)))
    have s1 := Same.new (o := .lst (cutV (ns.map V.int) none (some 63))) ft
    have e63 : cutV (ns.map V.int) none (some 63) = ns.map V.int := by
      unfold cutV HT.sIx
      simp only [Nat.sub_zero, List.drop_zero]
      rw [if_neg (by decide)]
      have : (ns.map V.int).length = ns.length := List.length_map _
      rw [List.take_of_length_le]
      rw [Nat.min_def]
      split <;> omega
    rw [e63] at ht s1 ⊢
    generalize upd H t (.lst (ns.map V.int)) = H1 at ht s1
    wtm_at "rd"
    refine rd_forL (SqL.of ht) ?_
    intro D fD
    refine lcL (K := K) (xs := ns.map V.int) (fun i H' => Same H1 H' ∧ H' D = some (.lst (((ns.take i).map fun z => (z.natAbs : Int)).map V.int))) ⟨Same.new fD, upd_same⟩ ?_ ?_ ?_
    · rintro i H' hi ⟨s, _⟩
      exact SqL.of (s _ _ ht)
    · rintro i y H' hy ⟨s, hD⟩
      obtain ⟨hi, rfl⟩ := map_at hy
      wtm_at "rd"
      refine rd_acc hD (by rw [List.length_map, List.length_map, List.length_take]; omega) ?_
      refine ⟨same_put s fD, ?_⟩
      rw [upd_same, show ns.take (i + 1) = ns.take i ++ [ns[i]] from by rw [List.take_succ, List.getElem?_eq_getElem hi]; rfl, List.map_append, List.map_append]
      rfl
    · rintro H2 ⟨s2, hD⟩
      rw [List.length_map, List.take_length] at hD
      wtm_at "rd"
      intro p fp
      have k := Same.new (o := srcO D 0 0 7) fp
      refine q p _ ((s1.trans s2).trans k) (new_of_same (s1.trans s2) fp) ⟨D, _, 0, 0, 7, upd_same, k _ _ hD, ⟨fun x hx => ?_, by decide, by decide, by decide, by decide⟩⟩
      obtain ⟨z, _, rfl⟩ := List.mem_map.mp hx
      omega
theorem ok_draw {f : Addr} {fd : FuncData} (F : Fun K "_law_draw" "_law_draw" s__law_draw f fd) (B : Bt mg) : FnG P w K mg base CX0 1 f fd ["_law_source", "_law_count"] spDraw := by
  refine fnG0 F sc__law_draw (fun vs H Q E h => ?_) (fun cdv A outer s H vs Q E hr h => ?_)
  · obtain ⟨p, many, rfl, _⟩ := h
    rfl
  · obtain ⟨p, many, rfl, m0, m1, hp, q⟩ := h
    have nd := sc__law_draw.nd
    have g0 := Go.refl hp
    obtain ⟨c, xs, pos, big, seed, h1, h2, ok⟩ := hp
    have ncp : c ≠ p := fun z => by
      subst z
      exact src_ne (Option.some.inj (h1.symm.trans h2))
    have set : ∀ {H1 : Hp} {pos' big' seed' pos2 big2 seed2 : Int}, Go p H H1 → H1 p = some (srcO c pos' big' seed') → H1 c = some (.lst (xs.map V.int)) → SrcOk xs pos2 big2 seed2 → Go p H (upd H1 p (srcO c pos2 big2 seed2)) ∧ upd H1 p (srcO c pos2 big2 seed2) p = some (srcO c pos2 big2 seed2) ∧ upd H1 p (srcO c pos2 big2 seed2) c = some (.lst (xs.map V.int)) := by
      intro H1 pos' big' seed' pos2 big2 seed2 g e1 e2 ok2
      refine ⟨⟨g.but.trans But.upd, fun b z => g.free b (new_old z), ⟨c, xs, _, _, _, upd_same, at_upd ncp e2, ok2⟩, fun c' _ _ _ e => ?_⟩, upd_same, at_upd ncp e2⟩
      rw [upd_same] at e
      have e4 : c = c' := V.ref.inj (List.cons.inj (HO.lst.inj (Option.some.inj e))).1
      subst e4
      exact g.cell c _ _ _ e1
    refine ⟨_, (C8.pss_cut (ps_if (PW.pt (pw_and (pt_cmpR (kEq K rfl hr.u64) (pe_ix (kIx K rfl) (pv 0) pe_int (fun _ _ => rfl)) pe_int (nomark _)) (pw_and1 (pt_cmpR uLt (pe_ix (kIx K rfl) (pv 0) pe_int (fun _ _ => rfl)) (pe_callB (kLen K rfl) (by rfl) B.len bb_len (pa_cons (pe_ix (kIx K rfl) (pv 0) pe_int (fun _ _ => rfl)) pa_nil)) (nomark _))))) (pss_cons (ps_set (i := 2) nd rfl (by first | exact Or.inl rfl | exact Or.inr rfl) (pe_ix (kIx K rfl) (pe_ix (kIx K rfl) (pv 0) pe_int (fun _ _ => rfl)) (pe_ix (kIx K rfl) (pv 0) pe_int (fun _ _ => rfl)) (fun _ _ => rfl)))
  (pss_cons (ps_asg (pe_op (kAdd K rfl) (pe_ix (kIx K rfl) (pv 0) pe_int (fun _ _ => rfl)) pe_int) (pg_sub (pv 0) pe_int set_list))
  (pss_one (ps_if (pt_cmpR uGe (pv 2) (pe_op uPow pe_int pe_int) (nomark _)) (pss_one (ps_asg (pv 2) (pg_sub (pv 0) pe_int set_list))) (pss_one (ps_asg (pe_op uMod (pe_op (kAdd K rfl) (pe_op uMul (pe_ix (kIx K rfl) (pv 0) pe_int (fun _ _ => rfl)) pe_int) (pv 2)) pe_int) (pg_sub (pv 0) pe_int set_list))))))) pss_nil)
  (pss_cons (ps_if (pt_cmpR uGt (pe_ix (kIx K rfl) (pv 0) pe_int (fun _ _ => rfl)) pe_int (nomark _)) (pss_cons (ps_set (i := 3) nd rfl (by first | exact Or.inl rfl | exact Or.inr rfl) (pe_op uMod (pe_ix (kIx K rfl) (pv 0) pe_int (fun _ _ => rfl)) (pv 1)))
  (pss_cons (ps_asg (pe_op uDiv (pe_ix (kIx K rfl) (pv 0) pe_int (fun _ _ => rfl)) (pv 1)) (pg_sub (pv 0) pe_int set_list))
  (pss_one (ps_ret (pv 3))))) pss_nil)
  (pss_cons (ps_asg (pe_op uMod (pe_op (kAdd K rfl) (pe_op uMul (pe_ix (kIx K rfl) (pv 0) pe_int (fun _ _ => rfl)) pe_int) pe_int) pe_int) (pg_sub (pv 0) pe_int set_list))
  (pss_one (ps_ret (pe_op uMod (pe_op uMod (pe_op uMul (pe_ix (kIx K rfl) (pv 0) pe_int (fun _ _ => rfl)) pe_int) pe_int) (pv 1))))))), ?_⟩
    refine ⟨fun σ' H' => ∃ (u2 u3 : Option V) (pos big seed : Int), σ' = [some (.ref p), some (.int many), u2, u3] ∧ Go p H H' ∧ H' p = some (srcO c pos big seed) ∧ H' c = some (.lst (xs.map V.int)) ∧ SrcOk xs pos big seed, ?_, ?_⟩
    · wtm_at "rd"
      refine rd_ixL (SqL.of h1) rfl ?_
      wtm_at "rd"
      refine rd_split (fun c1 => ?_) (fun c1 => ?_)
      · wtm_at "rd"
        refine rd_ixL (SqL.of h1) rfl ?_
        wtm_at "rd"
        refine rd_ixL (SqL.of h1) rfl ?_
        wtm_at "rd"
        refine rd_lenL (SqL.of h2) ?_
        rw [List.length_map]
        wtm_at "rd"
        refine rd_split (fun c2 => ?_) (fun c2 => ?_)
        · obtain ⟨k, rfl⟩ : ∃ k : Nat, pos = (k : Int) := ⟨pos.toNat, by have := ok.pos; omega⟩
          have hk : k < xs.length := by omega
          wtm_at "rd"
          refine rd_ixL (SqL.of h1) rfl ?_
          wtm_at "rd"
          refine rd_ixL (SqL.of h1) rfl ?_
          refine rd_ixL (SqL.of h2) (v := .int xs[k]) (atI_nat (by rw [List.getElem?_map, List.getElem?_eq_getElem hk]; rfl)) ?_
          have x0 := ok.xs _ (List.getElem_mem hk)
          generalize xs[k] = x at *
          wtm_at "rd"
          refine rd_ixL (SqL.of h1) rfl ?_
          wtm_at "rd"
          refine rd_setL h1 rfl ?_
          obtain ⟨g1, e1, e2⟩ := set (pos2 := (k : Int) + 1) (big2 := big) (seed2 := seed) g0 h1 h2 ⟨ok.xs, by omega, ok.big, ok.s0, ok.s1⟩
          wtm_at "rd"
          refine rd_split (fun c3 => ?_) (fun c3 => ?_)
          · wtm_at "rd"
            refine rd_setL e1 rfl ?_
            obtain ⟨g3, e3, e4⟩ := set (pos2 := (k : Int) + 1) (big2 := x) (seed2 := seed) g1 e1 e2 ⟨ok.xs, by omega, x0, ok.s0, ok.s1⟩
            exact ⟨_, _, _, _, _, rfl, g3, e3, e4, ⟨ok.xs, by omega, x0, ok.s0, ok.s1⟩⟩
          · wtm_at "rd"
            refine rd_ixL (SqL.of e1) rfl ?_
            wtm_at "rd"
            refine rd_setL e1 rfl ?_
            obtain ⟨g3, e3, e4⟩ := set (pos2 := (k : Int) + 1) (big2 := big) (seed2 := (seed * 48271 + x) % 2147483647) g1 e1 e2 ⟨ok.xs, by omega, ok.big, by omega, by omega⟩
            exact ⟨_, _, _, _, _, rfl, g3, e3, e4, ⟨ok.xs, by omega, ok.big, by omega, by omega⟩⟩
        · wtm_at "rd"
          exact ⟨_, _, _, _, _, rfl, g0, h1, h2, ok⟩
      · wtm_at "rd"
        exact ⟨_, _, _, _, _, rfl, g0, h1, h2, ok⟩
    · rintro σ' H1 ⟨u2, u3, pos, big, seed, rfl, g1, e1, e2, ok⟩
      wtm_at "rd"
      refine rd_ixL (SqL.of e1) rfl ?_
      wtm_at "rd"
      refine rd_split (fun c1 => ?_) (fun c1 => ?_)
      · wtm_at "rd"
        refine rd_ixL (SqL.of e1) rfl ?_
        wtm_at "rd"
        refine rd_ixL (SqL.of e1) rfl ?_
        wtm_at "rd"
        refine rd_setL e1 rfl ?_
        wtm_at "rd"
        exact q _ _ (Int.emod_nonneg _ (by omega)) (Int.emod_lt_of_pos _ m0) (set g1 e1 e2 ⟨ok.xs, ok.pos, Int.ediv_nonneg ok.big (by omega), ok.s0, ok.s1⟩).1
      · wtm_at "rd"
        refine rd_ixL (SqL.of e1) rfl ?_
        wtm_at "rd"
        refine rd_setL e1 rfl ?_
        obtain ⟨g3, e3, e4⟩ := set (pos2 := pos) (big2 := big) (seed2 := (seed * 48271 + 11) % 2147483647) g1 e1 e2 ⟨ok.xs, ok.pos, ok.big, by omega, by omega⟩
        wtm_at "rd"
        refine rd_ixL (SqL.of e3) rfl ?_
        wtm_at "rd"
        exact q _ _ (Int.emod_nonneg _ (by omega)) (Int.emod_lt_of_pos _ m0) g3
end
end Law

/-! the names of a random problem -/
namespace U
open PySem PySem.Spec PyProof.Rows L2
def IsTail (s : Str) : Prop := s.length ≤ 7 ∧ ∀ c ∈ s.cps.toList, 97 ≤ c ∧ c ≤ 122
open SX in
theorem tail_join {cs : List Nat} (hl : cs.length ≤ 7) (h : ∀ c ∈ cs, 97 ≤ c ∧ c ≤ 122) : IsTail (Txt.join ("" : Str) (cs.map fun c => ⟨#[c]⟩)) := by
  have e1 : (cs.map fun c => (⟨#[c]⟩ : Str)) = (cs.map fun c => [c]).map S := by
    rw [List.map_map]
    rfl
  have e2 : ∀ cs : List Nat, TL.joinL [] (cs.map fun c => [c]) = cs := by
    intro cs
    induction cs with
    | nil => rfl
    | cons a r ih =>
      cases r with
      | nil => rfl
      | cons b r => 
        show [a] ++ ([] ++ TL.joinL [] ((b :: r).map fun c => [c])) = _
        rw [ih]
        rfl
  have e3 : Txt.join ("" : Str) (cs.map fun c => ⟨#[c]⟩) = S cs := by
    rw [e1, show ("" : Str) = S [] from rfl, join_S, e2]
  rw [e3]
  exact ⟨by rw [S_len]; exact hl, by simpa [S] using h⟩
/-- a name of a random problem: the letter that tells it, in front or behind -/
def WdAt (front : Bool) (shift step : Int) (j : Nat) (w : Str) : Prop := ∃ t : Str, IsTail t ∧ w = if front = true then ⟨#[97 + (((j : Int) * step + shift) % 26).toNat]⟩ ++ t else t ++ ⟨#[97 + (((j : Int) * step + shift) % 26).toNat]⟩
theorem app_list {a b : Str} : (a ++ b).cps.toList = a.cps.toList ++ b.cps.toList := TL.tl_append a b
theorem WdAt.name {front : Bool} {shift step : Int} {j : Nat} {w : Str} (h : WdAt front shift step j w) : IsName w := by
  obtain ⟨t, ⟨tl, tc⟩, rfl⟩ := h
  have hc : 97 ≤ 97 + (((j : Int) * step + shift) % 26).toNat ∧ 97 + (((j : Int) * step + shift) % 26).toNat ≤ 122 := by omega
  generalize 97 + (((j : Int) * step + shift) % 26).toNat = c at hc
  have tl' : t.cps.toList.length ≤ 7 := by simpa [Str.length] using tl
  have len : ∀ z : Str, z.length = z.cps.toList.length := fun z => by simp [Str.length]
  split
  · refine ⟨?_, ?_, fun x hx => ?_⟩
    · rw [len, app_list, List.length_append]; show 1 ≤ 1 + _; omega
    · rw [len, app_list, List.length_append]; show 1 + _ ≤ 8; omega
    · rw [app_list] at hx
      rcases List.mem_append.mp hx with z | z
      · have : x = c := by simpa using z
        rw [this]; exact hc
      · exact tc x z
  · refine ⟨?_, ?_, fun x hx => ?_⟩
    · rw [len, app_list, List.length_append]; show 1 ≤ _ + 1; omega
    · rw [len, app_list, List.length_append]; show _ + 1 ≤ 8; omega
    · rw [app_list] at hx
      rcases List.mem_append.mp hx with z | z
      · exact tc x z
      · have : x = c := by simpa using z
        rw [this]; exact hc
theorem WdAt.inj {front : Bool} {shift step : Int} {j k : Nat} {w : Str} (hs : step = 7 ∨ step = 1 ∨ step = 3 ∨ step = 11) (hj : j < 26) (hk : k < 26) (a : WdAt front shift step j w) (b : WdAt front shift step k w) : j = k := by
  have core : 97 + (((j : Int) * step + shift) % 26).toNat = 97 + (((k : Int) * step + shift) % 26).toNat → j = k := by
    rcases hs with rfl | rfl | rfl | rfl <;> omega
  obtain ⟨t, _, e1⟩ := a
  obtain ⟨u, _, e2⟩ := b
  have e := e1.symm.trans e2
  apply core
  generalize 97 + (((j : Int) * step + shift) % 26).toNat = c at *
  generalize 97 + (((k : Int) * step + shift) % 26).toNat = d at *
  cases front with
  | true =>
    rw [if_pos rfl, if_pos rfl] at e
    have e3 := congrArg (fun z : Str => z.cps.toList) e
    simp only [app_list] at e3
    have : [c] ++ t.cps.toList = [d] ++ u.cps.toList := e3
    injection this
  | false =>
    rw [if_neg Bool.false_ne_true, if_neg Bool.false_ne_true] at e
    have e3 := congrArg (fun z : Str => z.cps.toList) e
    simp only [app_list] at e3
    have e4 : t.cps.toList ++ [c] = u.cps.toList ++ [d] := e3
    have e5 := congrArg List.getLast? e4
    simp only [List.getLast?_append, List.getLast?_singleton, Option.some_or] at e5
    exact Option.some.inj e5
/-- the words so far -/
structure Wds (front : Bool) (shift step : Int) (ws : List Str) : Prop where
  at_ : ∀ j (h : j < ws.length), WdAt front shift step j ws[j]
theorem Wds.nil {front : Bool} {shift step : Int} : Wds front shift step [] := ⟨fun j h => absurd h (Nat.not_lt_zero _)⟩
theorem Wds.snoc {front : Bool} {shift step : Int} {ws : List Str} {w : Str} (h : Wds front shift step ws) (k : WdAt front shift step ws.length w) : Wds front shift step (ws ++ [w]) := ⟨fun j hj => by
  rw [List.length_append, List.length_singleton] at hj
  by_cases z : j < ws.length
  · rw [List.getElem_append_left z]; exact h.at_ j z
  · obtain rfl : j = ws.length := by omega
    rw [List.getElem_append_right (Nat.le_refl _)]
    simpa using k⟩
theorem Wds.names {front : Bool} {shift step : Int} {ws : List Str} (h : Wds front shift step ws) (hs : step = 7 ∨ step = 1 ∨ step = 3 ∨ step = 11) (l : ws.length ≤ 26) : NamesU ws := by
  refine ⟨?_, fun y hy => ?_⟩
  · rw [List.nodup_iff_pairwise_ne, List.pairwise_iff_getElem]
    intro i j hi hj hij e
    have a := h.at_ i hi
    rw [e] at a
    have := WdAt.inj hs (by omega) (by omega) a (h.at_ j hj)
    omega
  · obtain ⟨j, hj, rfl⟩ := List.mem_iff_getElem.mp hy
    exact (h.at_ j hj).name
end U
namespace Law
open PySem PySem.Spec PyProof.Rows L2 U
local macro_rules | `(tactic| wtm_at "rd1") => `(tactic| first
  | with_reducible refine rd_seq ?_
  | ((with_reducible refine rd_var (v := ?vv) ?hv ?_); (case hv => exact rfl))
  | with_reducible refine rd_c ?_
  | with_reducible refine rd_cons ?_
  | with_reducible refine rd_nil ?_
  | with_reducible refine rd_op ?_
  | with_reducible refine rd_asg ?_
  | with_reducible refine rd_name ?_
  | with_reducible refine rd_c1 ?_
  | with_reducible refine rd_cb ?_
  | with_reducible refine rd_test ?_
  | with_reducible refine rd_B ?_
  | with_reducible refine rd_bl ?_
  | with_reducible refine rd_if ?_
  | with_reducible refine rd_ret ?_
  | with_reducible refine rd_drop ?_
  | with_reducible refine rd_next ?_
  | with_reducible refine rd_addI ?_
  | with_reducible refine rd_ltI ?_
  | with_reducible refine rd_eqI ?_
  | with_reducible refine rd_neI ?_
  | with_reducible refine rd_eqS ?_
  | with_reducible refine rd_neS ?_
  | with_reducible refine rd_gtI ?_
  | with_reducible refine rd_geI ?_
  | with_reducible refine rd_leI ?_
  | with_reducible refine rd_ltS ?_
  | with_reducible refine rd_subI ?_
  | ((with_reducible refine rd_modI ?hc ?_); (case hc => first | decide | omega))
  | ((with_reducible refine rd_mulI ?hc ?_); (case hc => first | exact mul_bI | exact .inl (.inr (by decide)) | exact .inl (.inl (by decide)) | exact .inl (.inr (by omega)) | exact .inl (.inl (by omega))))
  | ((with_reducible refine rd_divI ?hc ?_); (case hc => first | decide | omega))
  | ((with_reducible refine rd_powI ?hc ?_); (case hc => exact ⟨by decide, by decide, by decide⟩))
  | with_reducible refine rd_lst ?_
  | with_reducible refine rd_tup ?_
  | ((with_reducible refine rd_sz ?hv ?_); (case hv => exact rfl))
  | with_reducible refine rd_and ?_
  | with_reducible refine rd_or ?_
  | with_reducible refine rd_not ?_
  | with_reducible refine rd_andV ?_
  | with_reducible refine rd_orV ?_
  | with_reducible refine rd_notV ?_
  | with_reducible refine rd_ifE ?_
  | with_reducible refine rd_T ?_
  | with_reducible refine rd_F ?_
  | with_reducible refine rd_chain ?_
  | with_reducible refine rd_is ?_
  | with_reducible refine rd_isNot ?_
  | with_reducible refine rd_absI ?_
  | with_reducible refine rd_maxI ?_
  | with_reducible refine rd_minI ?_
  | with_reducible refine rd_intI ?_
  | with_reducible refine rd_intB ?_
  | with_reducible refine rd_sub ?_
  | with_reducible refine rd_sl ?_
  | with_reducible refine rd_noPart ?_
  | with_reducible refine rd_part ?_
  | with_reducible refine rd_exI ?_
  | with_reducible refine rd_bm ?_
  | with_reducible refine rd_bm0 ?_
  | with_reducible refine rd_un ?_
  | with_reducible refine rd_neg ?_
  | with_reducible refine rd_c2 ?_
  | with_reducible refine rd_retN ?_
  | with_reducible refine rd_break ?_
  | with_reducible refine rd_cont ?_
  | with_reducible refine rd_for ?_
  | with_reducible refine rd_rng1 ?_
  | with_reducible refine rd_rng2 ?_
  | with_reducible refine rd_iList ?_
  | with_reducible refine rd_iTup ?_
  | with_reducible refine rd_iEnum ?_
  | ((with_reducible refine rd_forR ?h0 ?h1 ?_); (case h0 => omega); (case h1 => omega))
  | with_reducible refine rd_lc ?_
  | with_reducible refine rd_gcons ?_
  | with_reducible refine rd_gnil ?_
  | with_reducible refine rd_dget ?_
  | with_reducible refine rd_dput ?_
  | with_reducible refine rd_dnew ?_
  | with_reducible refine rd_dc ?_
  | with_reducible refine rd_iItems ?_
  | with_reducible refine rd_iKeys ?_
  | with_reducible refine rd_din ?_
  | with_reducible refine rd_lc2 ?_
  | with_reducible refine rd_cd ?_
  | with_reducible refine rd_par ?_
  | with_reducible refine rd_two ?_
  | with_reducible refine rd_reprB ?_
  | with_reducible refine rd_ck ?_
  | ((with_reducible refine rd_len ?hl ?_); (case hl => exact rfl))
  | with_reducible refine rd_nT ?_
  | with_reducible refine rd_nF ?_
  | with_reducible refine rd_dnin ?_
  | with_reducible refine rd_isB ?_
  | with_reducible refine rd_isNotB ?_
  | with_reducible refine rd_daug ?_
  | with_reducible refine rd_yesT ?_
  | ((with_reducible refine rd_wp ?hw ?_); (case hw => exact rfl)))
local macro_rules | `(tactic| wtm_at "rd") => `(tactic| repeat wtm_at "rd1")

def spStem : Sp := fun vs H Q _ => ∃ p : Addr, vs = [.ref p] ∧ PoolAt H p ∧ ∀ (t : Str) (H' : Hp), Go p H H' → IsTail t → Q (.str t) H'
def spNamesB : Sp := fun vs H Q _ => ∃ (p : Addr) (many : Int), vs = [.ref p, .int many] ∧ 0 ≤ many ∧ many ≤ 26 ∧ PoolAt H p ∧
  ∀ (l : Addr) (ws : List Str) (H' : Hp), Go p H H' → H l = none → H' l = some (.lst (ws.map V.str)) → NamesU ws → ws.length = many.toNat → Q (.ref l) H'
abbrev spNames : Sp := spNamesB
theorem rd_join {K : PySem.W.Frag} {H : Hp} {Q : VK} {p : Addr} {cs : List Nat} (hp : SqL K H p ((cs.map fun c => (⟨#[c]⟩ : Str)).map V.str)) (hl : cs.length ≤ 100) (h : Q (.str (Txt.join ("" : Str) (cs.map fun c => ⟨#[c]⟩))) H) :
    ∃ a p', ∃ ys : List Str, V.str ("" : Str) = .str a ∧ [V.ref p] = [.ref p'] ∧ (SqL K H p' (ys.map V.str) ∨ SqT K H p' (ys.map V.str)) ∧ (ys.map (·.length)).sum + ys.length * a.length ≤ 16777216 ∧ Q (.str (Txt.join a ys)) H := by
  refine ⟨_, p, _, rfl, rfl, .inl hp, ?_, h⟩
  have e : ((cs.map fun c => (⟨#[c]⟩ : Str)).map (·.length)).sum = cs.length := by
    clear hp h hl
    induction cs with
    | nil => rfl
    | cons c r ih =>
      rw [List.map_cons, List.map_cons, List.sum_cons, ih, List.length_cons]
      show 1 + r.length = r.length + 1
      omega
  rw [e]
  show cs.length + (cs.map _).length * 0 ≤ 16777216
  omega
theorem rd_m1 {r : V → List V → Hp → VK → Prop} {to te : TE} {σ : L2.St} {H : Hp} {Q : VK} (h : to σ H fun x H1 => (∃ a, x = .str a) ∧ te σ H1 fun y H2 => r x [y] H2 Q) : tM1 r to te σ H Q := h
section
variable {P : Program} {w : World} {K : PySem.W.Frag} {mg : Str → Option Value} {base : Heap}
structure B2a (P : Program) (w : World) (K : PySem.W.Frag) (mg : Str → Option Value) (base : Heap) : Prop where
  _law_draw : Cal P w K mg base CX0 1 "_law_draw" spDraw
theorem ok_stem {f : Addr} {fd : FuncData} (F : Fun K "_law_stem" "_law_stem" s__law_stem f fd) (B : Bt mg) (C : B2a P w K mg base) : FnG P w K mg base CX0 2 f fd ["_law_source"] spStem := by
  refine fnG0 F sc__law_stem (fun vs H Q E h => ?_) (fun cdv A outer s H vs Q E hr h => ?_)
  · obtain ⟨p, rfl, _⟩ := h
    rfl
  · obtain ⟨p, rfl, hp, q⟩ := h
    have nd := sc__law_stem.nd
    refine ⟨_, (pss_one (ps_ret (pe_join pe_str (pe_lc (own := [("_law_k", 1)]) rfl nd (pi_range1 rfl B.range (pa_cons (pe_c C._law_draw hr (by decide) rfl (pa_cons (pv 0) (pa_cons pe_int pa_nil))) pa_nil)) (blkOk_by (own := [("_law_k", 1)]) (N := nN__law_stem) (sc := defScope s__law_stem) (by decide +kernel)) (fun _ _ _ _ _ => (pg_name (i := 1) nd rfl (by first | exact Or.inl rfl | exact Or.inr rfl))) (fun _ _ _ _ _ => pts_nil) (fun _ _ _ _ _ => (pe_ix (kIx K rfl) pe_str (pe_c C._law_draw hr (by decide) rfl (pa_cons (pv 0) (pa_cons pe_int pa_nil))) (fun _ _ => rfl))))))), ?_⟩
    wtm_at "rd"
    refine rd_m1 ?_
    wtm_at "rd"
    refine ⟨⟨_, rfl⟩, ?_⟩
    wtm_at "rd"
    refine use_draw hp (by decide) (by decide) fun r H1 r0 r1 g1 => ?_
    wtm_at "rd"
    intro D fD
    have npD := g1.pool.ne fD
    have fD0 := g1.free _ fD
    refine lcR (fun i H' => ∃ cs : List Nat, cs.length = i ∧ (∀ c ∈ cs, 97 ≤ c ∧ c ≤ 122) ∧ Go p H H' ∧ H' D = some (.lst ((cs.map fun c => (⟨#[c]⟩ : Str)).map V.str))) ⟨[], rfl, (fun c h => nomatch h), g1.new fD, upd_same⟩ ?_ ?_
    · rintro i H' hi ⟨cs, rfl, hc, g, hD⟩
      wtm_at "rd"
      refine use_draw g.pool (by decide) (by decide) fun d H2 d0 d1 g2 => ?_
      refine rd_ixS letters_len (letters_at d0 d1) ?_
      have hD2 := g2.at hD (Ne.symm npD)
      refine rd_acc hD2 (by rw [List.length_map, List.length_map]; omega) ?_
      refine ⟨cs ++ [97 + d.toNat], by rw [List.length_append]; rfl, fun c h => ?_, (g.trans g2).put fD0 npD, ?_⟩
      · rcases List.mem_append.mp h with h | h
        · exact hc c h
        · rw [List.mem_singleton] at h
          omega
      · rw [upd_same, List.map_append, List.map_append]
        rfl
    · rintro H' ⟨cs, hl, hc, g, hD⟩
      refine rd_join (SqL.of hD) (by omega) ?_
      wtm_at "rd"
      exact q _ _ g (tail_join (by omega) hc)
structure B2b (P : Program) (w : World) (K : PySem.W.Frag) (mg : Str → Option Value) (base : Heap) : Prop where
  _law_draw : Cal P w K mg base CX0 1 "_law_draw" spDraw
  _law_stem : Cal P w K mg base CX0 2 "_law_stem" spStem
end
end Law

/-! lifts: the plain laws -/
namespace U
open PySem PySem.Spec PyProof.Rows L2
/-- the dict of numbers over ns, in that order -/
abbrev kvF (ns : List Str) (f : Str → Int) : List (Key × V) := ns.map fun n => (Sum.inr n, V.int (f n))
def updf (f : Str → Int) (n : Str) (v : Int) : Str → Int := fun m => if m = n then v else f m
theorem kvF_congr {ns : List Str} {f g : Str → Int} (h : ∀ n ∈ ns, f n = g n) : kvF ns f = kvF ns g := List.map_congr_left fun n hn => by rw [h n hn]
theorem kvF_val : ∀ {ns : List Str} {f : Str → Int} {n : Str}, n ∈ ns → valV (kvF ns f) (.inr n) = some (.int (f n))
  | m :: ns, f, n, h => by
    by_cases e : n = m
    · subst e
      rw [kvF, List.map_cons, valV_pos rfl]
    · have e' : ¬ (Sum.inr m : Key) = Sum.inr n := fun z => e (Sum.inr.inj z).symm
      rw [kvF, List.map_cons, valV_neg e']
      refine kvF_val ?_
      rcases List.mem_cons.mp h with z | z
      · exact absurd z e
      · exact z
theorem kvF_none : ∀ {ns : List Str} {f : Str → Int} {n : Str}, n ∉ ns → valV (kvF ns f) (.inr n) = none
  | [], _, _, _ => rfl
  | m :: ns, f, n, h => by
    have e' : ¬ (Sum.inr m : Key) = Sum.inr n := fun z => h (by rw [← Sum.inr.inj z]; exact List.mem_cons_self)
    rw [kvF, List.map_cons, valV_neg e']
    exact kvF_none fun z => h (List.mem_cons_of_mem _ z)
theorem kvF_put {ns : List Str} {f : Str → Int} {n : Str} {v : Int} (h : n ∈ ns) : putK (kvF ns f) (.inr n) (.int v) = kvF ns (updf f n v) := by
  unfold putK
  rw [if_pos]
  · rw [kvF, kvF, List.map_map]
    refine List.map_congr_left fun m _ => ?_
    show (if (Sum.inr m : Key) = Sum.inr n then ((Sum.inr m : Key), V.int v) else (Sum.inr m, V.int (f m))) = (Sum.inr m, V.int (updf f n v m))
    unfold updf
    by_cases e : m = n
    · rw [if_pos (by rw [e]), if_pos e]
    · rw [if_neg (fun z => e (Sum.inr.inj z)), if_neg e]
  · rw [valV_any, kvF_val h]
    rfl
theorem kvF_new {ns : List Str} {f : Str → Int} {n : Str} {v : Int} (h : n ∉ ns) : putK (kvF ns f) (.inr n) (.int v) = kvF (ns ++ [n]) (updf f n v) := by
  rw [putK_new _ (kvF_none h), kvF, kvF, List.map_append]
  congr 1
  · refine List.map_congr_left fun m hm => ?_
    unfold updf
    rw [if_neg (fun e => h (by rw [← e]; exact hm))]
  · show [((Sum.inr n : Key), V.int v)] = [(Sum.inr n, V.int (updf f n v n))]
    unfold updf
    rw [if_pos rfl]
theorem kvs_F {ord : List Str} {ws : List (Str × Int)} (h : StOk ord ws) (nd : ord.Nodup) : kvsOf ws = kvF ord (numOf ws) := by
  obtain ⟨hk, _⟩ := h
  subst hk
  rw [kvF, List.map_map]
  refine List.map_congr_left fun p hp => ?_
  show ((Sum.inr p.1 : Key), V.int p.2) = (Sum.inr p.1, V.int (numOf ws p.1))
  have : (p.1, numOf ws p.1) ∈ ws := num_mem (List.mem_map_of_mem hp)
  congr 2
  -- one number a name
  have uniq : ∀ {ws : List (Str × Int)}, (ws.map (·.1)).Nodup → ∀ {x : Str} {a b : Int}, (x, a) ∈ ws → (x, b) ∈ ws → a = b := by
    intro ws
    induction ws with
    | nil => intro _ _ _ _ h; cases h
    | cons q ws ih =>
      intro nd x a b ha hb
      rw [List.map_cons, List.nodup_cons] at nd
      rcases List.mem_cons.mp ha with ea | ha <;> rcases List.mem_cons.mp hb with eb | hb
      · rw [← ea] at eb
        exact (Prod.mk.inj eb).2.symm
      · exact absurd (List.mem_map_of_mem (f := (·.1)) hb) (by rw [← ea] at nd; exact nd.1)
      · exact absurd (List.mem_map_of_mem (f := (·.1)) ha) (by rw [← eb] at nd; exact nd.1)
      · exact ih nd.2 ha hb
  exact uniq nd hp this

/-! ### neighbours, moves -/
def nbrF (es : List (Str × Str)) (x : Str) : List Str := es.flatMap fun e => (if e.1 = x then [e.2] else []) ++ (if e.2 = x then [e.1] else [])
theorem mem_nbrF {es : List (Str × Str)} {x z : Str} : z ∈ nbrF es x ↔ (x, z) ∈ es ∨ (z, x) ∈ es := by
  unfold nbrF
  rw [List.mem_flatMap]
  constructor
  · rintro ⟨e, he, h⟩
    rcases List.mem_append.mp h with h | h
    · split at h
      · rename_i c
        have : z = e.2 := by simpa using h
        subst this
        subst c
        exact .inl he
      · cases h
    · split at h
      · rename_i c
        have : z = e.1 := by simpa using h
        subst this
        subst c
        exact .inr he
      · cases h
  · rintro (h | h)
    · exact ⟨_, h, by simp⟩
    · exact ⟨_, h, by simp⟩
def freeB (es : List (Str × Str)) (f : Str → Int) (n : Str) (v : Int) : Bool := !decide (v ∈ (nbrF es n).map f ++ [f n])
def movesOf (es : List (Str × Str)) (f : Str → Int) (n : Str) : List (Str × Int) := (([0, 1, 2] : List Int).filter (freeB es f n)).map fun v => (n, v)
def movesF (ns : List Str) (es : List (Str × Str)) (f : Str → Int) (ps : List Str) : List (Str × Int) := ns.flatMap fun n => if n ∈ ps then [] else movesOf es f n
structure Legal (ns : List Str) (es : List (Str × Str)) (f : Str → Int) (ps : List Str) (m : Str × Int) : Prop where
  mem : m.1 ∈ ns
  pin : m.1 ∉ ps
  val : 0 ≤ m.2 ∧ m.2 < 3
  own : m.2 ≠ f m.1
  nbr : ∀ z, (m.1, z) ∈ es ∨ (z, m.1) ∈ es → m.2 ≠ f z
theorem legal_of {ns : List Str} {es : List (Str × Str)} {f : Str → Int} {ps : List Str} {m : Str × Int} (h : m ∈ movesF ns es f ps) : Legal ns es f ps m := by
  unfold movesF at h
  obtain ⟨n, hn, h⟩ := List.mem_flatMap.mp h
  split at h
  · cases h
  · rename_i hp
    unfold movesOf at h
    obtain ⟨v, hv, rfl⟩ := List.mem_map.mp h
    obtain ⟨h1, h2⟩ := List.mem_filter.mp hv
    unfold freeB at h2
    have h2 : v ∉ (nbrF es n).map f ++ [f n] := by simpa using h2
    have h3 : v = 0 ∨ v = 1 ∨ v = 2 := by simpa using h1
    refine ⟨hn, hp, by show 0 ≤ v ∧ v < 3; omega, fun e => h2 (List.mem_append_right _ (by rw [show v = f n from e]; exact List.mem_singleton_self _)), fun z hz e => h2 (List.mem_append_left _ ?_)⟩
    rw [show v = f z from e]
    exact List.mem_map_of_mem (mem_nbrF.mpr hz)
/-- one move after another -/
inductive Plays (ns : List Str) (es : List (Str × Str)) (ps : List Str) (f : Str → Int) : List (Str × Int) → (Str → Int) → Prop
  | nil : Plays ns es ps f [] f
  | snoc {ms : List (Str × Int)} {f' : Str → Int} {m : Str × Int} : Plays ns es ps f ms f' → Legal ns es f' ps m → Plays ns es ps f (ms ++ [m]) (updf f' m.1 m.2)
/-! ### counting -/
def dlt (d : Int) : Int := if d % 3 = 0 then 0 else if d % 3 = 1 then 1 else -1
def slp (f : Str → Int) (a b : Str) : Int := if (f b - f a) % 3 = 1 then 1 else -1
/-- the state and the numbers behind the moves -/
def countF (f h : Str → Int) : List (Str × Int) → (Str → Int) × (Str → Int)
  | [] => (f, h)
  | (n, v) :: r => countF (updf f n v) (updf h n (h n + dlt (f n - v))) r
theorem countF_snoc {n : Str} {v : Int} : ∀ {ms : List (Str × Int)} {f h : Str → Int}, countF f h (ms ++ [(n, v)]) = (updf (countF f h ms).1 n v, updf (countF f h ms).2 n ((countF f h ms).2 n + dlt ((countF f h ms).1 n - v)))
  | [], _, _ => rfl
  | (m, w) :: ms, _, _ => by
    rw [List.cons_append, countF, countF_snoc, countF]
structure EsOk (ns : List Str) (es : List (Str × Str)) (f : Str → Int) : Prop where
  ne : ∀ e ∈ es, e.1 ≠ e.2
  mem : ∀ e ∈ es, e.1 ∈ ns ∧ e.2 ∈ ns
  tri : ∀ n ∈ ns, 0 ≤ f n ∧ f n < 3
  pro : ∀ e ∈ es, f e.1 ≠ f e.2
theorem slp_pm (f : Str → Int) (a b : Str) : slp f a b = 1 ∨ slp f a b = -1 := by
  unfold slp
  split
  · exact .inl rfl
  · exact .inr rfl
theorem move_keeps {ns : List Str} {es : List (Str × Str)} {ps : List Str} {f0 f h : Str → Int} {m : Str × Int} (ok : EsOk ns es f) (l : Legal ns es f ps m) (t : ∀ e ∈ es, slp f0 e.1 e.2 - slp f e.1 e.2 = 2 * (h e.1 - h e.2)) :
    EsOk ns es (updf f m.1 m.2) ∧ ∀ e ∈ es, slp f0 e.1 e.2 - slp (updf f m.1 m.2) e.1 e.2 = 2 * (updf h m.1 (h m.1 + dlt (f m.1 - m.2)) e.1 - updf h m.1 (h m.1 + dlt (f m.1 - m.2)) e.2) := by
  obtain ⟨n, v⟩ := m
  have hv := l.val
  have ho := l.own
  have hm := l.mem
  simp only at hv ho hm
  refine ⟨⟨ok.ne, ok.mem, fun x hx => ?_, fun e he => ?_⟩, fun e he => ?_⟩
  · show 0 ≤ updf f n v x ∧ updf f n v x < 3
    unfold updf
    split
    · exact hv
    · exact ok.tri x hx
  · show updf f n v e.1 ≠ updf f n v e.2
    have hne := ok.ne e he
    have hp := ok.pro e he
    unfold updf
    by_cases h1 : e.1 = n
    · rw [if_pos h1, if_neg (fun z => hne (h1.trans z.symm))]
      exact l.nbr e.2 (.inl (by show (n, e.2) ∈ es; rw [← h1]; exact he))
    · by_cases h2 : e.2 = n
      · rw [if_neg h1, if_pos h2]
        exact Ne.symm (l.nbr e.1 (.inr (by show (e.1, n) ∈ es; rw [← h2]; exact he)))
      · rw [if_neg h1, if_neg h2]
        exact hp
  · show slp f0 e.1 e.2 - slp (updf f n v) e.1 e.2 = 2 * (updf h n (h n + dlt (f n - v)) e.1 - updf h n (h n + dlt (f n - v)) e.2)
    have hne := ok.ne e he
    have hp := ok.pro e he
    have t1 := ok.tri e.1 (ok.mem e he).1
    have t2 := ok.tri e.2 (ok.mem e he).2
    have te := t e he
    by_cases h1 : e.1 = n
    · have h2 : ¬ e.2 = n := fun z => hne (h1.trans z.symm)
      have nb := l.nbr e.2 (.inl (by show (n, e.2) ∈ es; rw [← h1]; exact he))
      simp only at nb
      have e1 : updf f n v e.1 = v := if_pos h1
      have e2 : updf f n v e.2 = f e.2 := if_neg h2
      have e3 : updf h n (h n + dlt (f n - v)) e.1 = h e.1 + dlt (f e.1 - v) := by rw [h1]; exact if_pos rfl
      have e4 : updf h n (h n + dlt (f n - v)) e.2 = h e.2 := if_neg h2
      rw [e3, e4]
      rw [← h1] at ho
      unfold slp dlt at *
      rw [e1, e2]
      generalize f e.1 = x at *
      generalize f e.2 = y at *
      generalize h e.1 = hx at *
      generalize h e.2 = hy at *
      generalize (if (f0 e.2 - f0 e.1) % 3 = 1 then (1 : Int) else -1) = s0 at *
      have : hx - hy + hx - hy = 2 * (hx - hy) := by omega
      split at te <;> split <;> split <;> try split
      all_goals omega
    · by_cases h2 : e.2 = n
      · have nb := l.nbr e.1 (.inr (by show (e.1, n) ∈ es; rw [← h2]; exact he))
        simp only at nb
        have e1 : updf f n v e.1 = f e.1 := if_neg h1
        have e2 : updf f n v e.2 = v := if_pos h2
        have e3 : updf h n (h n + dlt (f n - v)) e.1 = h e.1 := if_neg h1
        have e4 : updf h n (h n + dlt (f n - v)) e.2 = h e.2 + dlt (f e.2 - v) := by rw [h2]; exact if_pos rfl
        rw [e3, e4]
        rw [← h2] at ho
        unfold slp dlt at *
        rw [e1, e2]
        generalize f e.1 = x at *
        generalize f e.2 = y at *
        generalize h e.1 = hx at *
        generalize h e.2 = hy at *
        generalize (if (f0 e.2 - f0 e.1) % 3 = 1 then (1 : Int) else -1) = s0 at *
        split at te <;> split <;> split <;> try split
        all_goals omega
      · have e1 : updf f n v e.1 = f e.1 := if_neg h1
        have e2 : updf f n v e.2 = f e.2 := if_neg h2
        have e3 : updf h n (h n + dlt (f n - v)) e.1 = h e.1 := if_neg h1
        have e4 : updf h n (h n + dlt (f n - v)) e.2 = h e.2 := if_neg h2
        rw [e3, e4, ← te]
        unfold slp
        rw [e1, e2]
theorem plays_ok {ns : List Str} {es : List (Str × Str)} {ps : List Str} {f0 : Str → Int} (ok : EsOk ns es f0) {ms : List (Str × Int)} {f : Str → Int} (p : Plays ns es ps f0 ms f) :
    (countF f0 (fun _ => 0) ms).1 = f ∧ EsOk ns es f ∧ ∀ e ∈ es, slp f0 e.1 e.2 - slp f e.1 e.2 = 2 * ((countF f0 (fun _ => 0) ms).2 e.1 - (countF f0 (fun _ => 0) ms).2 e.2) := by
  induction p with
  | nil => exact ⟨rfl, ok, fun e _ => by show slp f0 e.1 e.2 - slp f0 e.1 e.2 = 2 * ((0 : Int) - 0); omega⟩
  | @snoc ms f' m p l ih =>
    obtain ⟨i1, i2, i3⟩ := ih
    obtain ⟨n, v⟩ := m
    rw [countF_snoc, i1]
    obtain ⟨k1, k2⟩ := move_keeps i2 l i3
    exact ⟨rfl, k1, k2⟩
/-! ### fitting -/
def fitB (f h : Str → Int) (a b : Str) : Bool := if slp f a b = 1 then decide (0 ≤ h a - h b) && decide (h a - h b ≤ 1) else decide (0 ≤ h b - h a) && decide (h b - h a ≤ 1)
def Fits (es : List (Str × Str)) (f h : Str → Int) : Prop := ∀ e ∈ es, fitB f h e.1 e.2 = true
theorem fit_iff {f h : Str → Int} {a b : Str} : fitB f h a b = true ↔ (if slp f a b = 1 then 0 ≤ h a - h b ∧ h a - h b ≤ 1 else 0 ≤ h b - h a ∧ h b - h a ≤ 1) := by
  unfold fitB
  split <;> simp
theorem fits_count {ns : List Str} {es : List (Str × Str)} {ps : List Str} {f0 : Str → Int} (ok : EsOk ns es f0) {ms : List (Str × Int)} {f : Str → Int} (p : Plays ns es ps f0 ms f) : Fits es f0 (countF f0 (fun _ => 0) ms).2 := by
  intro e he
  have t := (plays_ok ok p).2.2 e he
  rw [fit_iff]
  have h1 := slp_pm f e.1 e.2
  have h0 := slp_pm f0 e.1 e.2
  split <;> omega
theorem fits_min {es : List (Str × Str)} {f h k : Str → Int} (a : Fits es f h) (b : Fits es f k) : Fits es f fun n => min (h n) (k n) := by
  intro e he
  have x := fit_iff.mp (a e he)
  have y := fit_iff.mp (b e he)
  rw [fit_iff]
  split
  · rename_i c
    rw [if_pos c] at x y
    omega
  · rename_i c
    rw [if_neg c] at x y
    omega
theorem fits_max {es : List (Str × Str)} {f h k : Str → Int} (a : Fits es f h) (b : Fits es f k) : Fits es f fun n => max (h n) (k n) := by
  intro e he
  have x := fit_iff.mp (a e he)
  have y := fit_iff.mp (b e he)
  rw [fit_iff]
  split
  · rename_i c
    rw [if_pos c] at x y
    omega
  · rename_i c
    rw [if_neg c] at x y
    omega
end U

/-! medians, distances -/
namespace U
open PySem PySem.Spec PyProof.Rows L2
/-- the lower median -/
def IsMed (xs : List Int) (m : Int) : Prop := ∃ ys : List Int, ys.Perm xs ∧ ys.Pairwise (fun a b => a ≤ b) ∧ ys[(xs.length - 1) / 2]? = some m
theorem countP_all {p : Int → Bool} : ∀ {xs : List Int}, (∀ x ∈ xs, p x = true) → xs.countP p = xs.length := fun h => List.countP_eq_length.mpr h
theorem countP_zero {p : Int → Bool} {xs : List Int} (h : ∀ x ∈ xs, p x = false) : xs.countP p = 0 := List.countP_eq_zero.mpr fun x hx => by rw [h x hx]; exact Bool.false_ne_true
structure Cnt (xs : List Int) (m : Int) : Prop where
  le : (xs.length - 1) / 2 + 1 ≤ xs.countP fun a => decide (a ≤ m)
  lt : xs.countP (fun a => decide (a < m)) ≤ (xs.length - 1) / 2
theorem med_cnt {xs : List Int} {m : Int} (h : IsMed xs m) : Cnt xs m := by
  obtain ⟨ys, pm, srt, hk⟩ := h
  have hl := pm.length_eq
  rw [← hl] at hk
  obtain ⟨hlt, e⟩ := List.getElem?_eq_some_iff.mp hk
  have sg := List.pairwise_iff_getElem.mp srt
  have cp : ∀ p : Int → Bool, xs.countP p = ys.countP p := fun p => (pm.countP_eq p).symm
  constructor
  · rw [cp, ← hl]
    have : (ys.take ((ys.length - 1) / 2 + 1)).countP (fun a => decide (a ≤ m)) = (ys.take ((ys.length - 1) / 2 + 1)).length := countP_all fun x hx => by
      obtain ⟨j, hj, rfl⟩ := List.mem_iff_getElem.mp hx
      rw [List.length_take] at hj
      rw [List.getElem_take, decide_eq_true_eq, ← e]
      rcases Nat.lt_or_ge j ((ys.length - 1) / 2) with c | c
      · exact sg _ _ _ _ c
      · have : j = (ys.length - 1) / 2 := by omega
        subst this
        exact Int.le_refl _
    have h2 : ys.countP (fun a => decide (a ≤ m)) = (ys.take ((ys.length - 1) / 2 + 1)).countP (fun a => decide (a ≤ m)) + (ys.drop ((ys.length - 1) / 2 + 1)).countP (fun a => decide (a ≤ m)) := by
      rw [← List.countP_append, List.take_append_drop]
    rw [h2, this, List.length_take]
    omega
  · rw [cp, ← hl]
    have : (ys.drop ((ys.length - 1) / 2)).countP (fun a => decide (a < m)) = 0 := countP_zero fun x hx => by
      obtain ⟨j, hj, rfl⟩ := List.mem_iff_getElem.mp hx
      rw [List.length_drop] at hj
      rw [List.getElem_drop, decide_eq_false_iff_not, ← e]
      rcases Nat.eq_zero_or_pos j with c | c
      · subst c
        exact Int.lt_irrefl _
      · have := sg ((ys.length - 1) / 2) ((ys.length - 1) / 2 + j) hlt (by omega) (by omega)
        omega
    have h2 : ys.countP (fun a => decide (a < m)) = (ys.take ((ys.length - 1) / 2)).countP (fun a => decide (a < m)) + (ys.drop ((ys.length - 1) / 2)).countP (fun a => decide (a < m)) := by
      rw [← List.countP_append, List.take_append_drop]
    rw [h2, this]
    have := List.countP_le_length (p := fun a => decide (a < m)) (l := ys.take ((ys.length - 1) / 2))
    rw [List.length_take] at this
    omega
theorem countP_map_le {α : Type} {f g : α → Int} {p q : Int → Bool} : ∀ {hs : List α}, (∀ h ∈ hs, p (f h) = true → q (g h) = true) → (hs.map f).countP p ≤ (hs.map g).countP q
  | [], _ => by simp
  | h :: hs, k => by
    rw [List.map_cons, List.map_cons, List.countP_cons, List.countP_cons]
    have ih := countP_map_le (f := f) (g := g) (p := p) (q := q) (hs := hs) fun x hx => k x (List.mem_cons_of_mem _ hx)
    have := k h List.mem_cons_self
    by_cases c : p (f h) = true
    · rw [if_pos c, if_pos (this c)]
      omega
    · rw [if_neg c]
      omega
theorem med_fit {α : Type} {hs : List α} {f g : α → Int} {m n : Int} (hm : IsMed (hs.map f) m) (hn : IsMed (hs.map g) n) (h : ∀ x ∈ hs, 0 ≤ f x - g x ∧ f x - g x ≤ 1) : 0 ≤ m - n ∧ m - n ≤ 1 := by
  obtain ⟨a1, a2⟩ := med_cnt hm
  obtain ⟨b1, b2⟩ := med_cnt hn
  rw [List.length_map] at a1 a2 b1 b2
  constructor
  · by_cases c : m < n
    · have := countP_map_le (f := f) (g := g) (p := fun a => decide (a ≤ m)) (q := fun a => decide (a < n)) (hs := hs) fun x hx e => by
        have := h x hx
        simp only [decide_eq_true_eq] at e ⊢
        omega
      omega
    · omega
  · by_cases c : n + 1 < m
    · have := countP_map_le (f := g) (g := f) (p := fun a => decide (a ≤ n)) (q := fun a => decide (a < m)) (hs := hs) fun x hx e => by
        have := h x hx
        simp only [decide_eq_true_eq] at e ⊢
        omega
      omega
    · omega
theorem fits_med {es : List (Str × Str)} {f k : Str → Int} {hs : List (Str → Int)} (a : ∀ h ∈ hs, Fits es f h) (m : ∀ e ∈ es, IsMed (hs.map fun h => h e.1) (k e.1) ∧ IsMed (hs.map fun h => h e.2) (k e.2)) : Fits es f k := by
  intro e he
  rw [fit_iff]
  split
  · rename_i c
    refine med_fit (m e he).1 (m e he).2 fun h hh => ?_
    have x := fit_iff.mp (a h hh e he)
    rw [if_pos c] at x
    exact x
  · rename_i c
    refine med_fit (m e he).2 (m e he).1 fun h hh => ?_
    have x := fit_iff.mp (a h hh e he)
    rw [if_neg c] at x
    exact x
/-! ### distances -/
def ab (x y : Int) : Int := ((x - y).natAbs : Int)
def sumab (xs : List Int) (x : Int) : Int := (xs.map fun a => ab x a).sum
theorem up_ge {m x : Int} (h : m ≤ x) : ∀ xs : List Int, (x - m) * ((xs.countP fun a => decide (a ≤ m)) : Int) - (x - m) * ((xs.length : Int) - (xs.countP fun a => decide (a ≤ m))) ≤ sumab xs x - sumab xs m
  | [] => by simp [sumab]
  | a :: xs => by
    have ih := up_ge h xs
    have e1 : sumab (a :: xs) x = ab x a + sumab xs x := by simp [sumab]
    have e2 : sumab (a :: xs) m = ab m a + sumab xs m := by simp [sumab]
    rw [e1, e2, List.countP_cons, List.length_cons]
    by_cases c : a ≤ m
    · rw [if_pos (decide_eq_true c)]
      have d : ab x a - ab m a = x - m := by unfold ab; omega
      have z1 : (x - m) * (((xs.countP fun a => decide (a ≤ m)) + 1 : Nat) : Int) = (x - m) * ((xs.countP fun a => decide (a ≤ m)) : Int) + (x - m) := by rw [Int.natCast_add, Int.mul_add]; simp
      have z2 : (x - m) * (((xs.length + 1 : Nat) : Int) - (((xs.countP fun a => decide (a ≤ m)) + 1 : Nat) : Int)) = (x - m) * ((xs.length : Int) - (xs.countP fun a => decide (a ≤ m))) := by
        congr 1
        omega
      rw [z1, z2]
      omega
    · rw [if_neg (by rw [decide_eq_true_eq]; exact c)]
      simp only [Nat.add_zero]
      have d : -(x - m) ≤ ab x a - ab m a := by unfold ab; omega
      have z2 : (x - m) * (((xs.length + 1 : Nat) : Int) - ((xs.countP fun a => decide (a ≤ m)) : Int)) = (x - m) * ((xs.length : Int) - (xs.countP fun a => decide (a ≤ m))) + (x - m) := by
        have : ((xs.length + 1 : Nat) : Int) - ((xs.countP fun a => decide (a ≤ m)) : Int) = ((xs.length : Int) - (xs.countP fun a => decide (a ≤ m))) + 1 := by omega
        rw [this, Int.mul_add, Int.mul_one]
      rw [z2]
      omega
theorem down_ge {m x : Int} (h : x ≤ m) : ∀ xs : List Int, (m - x) * ((xs.length : Int) - (xs.countP fun a => decide (a < m))) - (m - x) * ((xs.countP fun a => decide (a < m)) : Int) ≤ sumab xs x - sumab xs m
  | [] => by simp [sumab]
  | a :: xs => by
    have ih := down_ge h xs
    have e1 : sumab (a :: xs) x = ab x a + sumab xs x := by simp [sumab]
    have e2 : sumab (a :: xs) m = ab m a + sumab xs m := by simp [sumab]
    rw [e1, e2, List.countP_cons, List.length_cons]
    by_cases c : a < m
    · rw [if_pos (decide_eq_true c)]
      have d : -(m - x) ≤ ab x a - ab m a := by unfold ab; omega
      have z1 : (m - x) * (((xs.countP fun a => decide (a < m)) + 1 : Nat) : Int) = (m - x) * ((xs.countP fun a => decide (a < m)) : Int) + (m - x) := by rw [Int.natCast_add, Int.mul_add]; simp
      have z2 : (m - x) * (((xs.length + 1 : Nat) : Int) - (((xs.countP fun a => decide (a < m)) + 1 : Nat) : Int)) = (m - x) * ((xs.length : Int) - (xs.countP fun a => decide (a < m))) := by
        congr 1
        omega
      rw [z1, z2]
      omega
    · rw [if_neg (by rw [decide_eq_true_eq]; exact c)]
      simp only [Nat.add_zero]
      have d : ab x a - ab m a = m - x := by unfold ab; omega
      have z2 : (m - x) * (((xs.length + 1 : Nat) : Int) - ((xs.countP fun a => decide (a < m)) : Int)) = (m - x) * ((xs.length : Int) - (xs.countP fun a => decide (a < m))) + (m - x) := by
        have : ((xs.length + 1 : Nat) : Int) - ((xs.countP fun a => decide (a < m)) : Int) = ((xs.length : Int) - (xs.countP fun a => decide (a < m))) + 1 := by omega
        rw [this, Int.mul_add, Int.mul_one]
      rw [z2]
      omega
/-- no number is nearer than the median -/
theorem med_near {xs : List Int} {m : Int} (h : IsMed xs m) (x : Int) : sumab xs m ≤ sumab xs x := by
  obtain ⟨c1, c2⟩ := med_cnt h
  rcases Int.le_total m x with c | c
  · have u := up_ge c xs
    have : 0 ≤ (x - m) * ((((xs.countP fun a => decide (a ≤ m)) : Int)) - ((xs.length : Int) - (xs.countP fun a => decide (a ≤ m)))) := Int.mul_nonneg (by omega) (by omega)
    rw [Int.mul_sub] at this
    omega
  · have u := down_ge c xs
    have hl := List.countP_le_length (p := fun a => decide (a ≤ m)) (l := xs)
    have : 0 ≤ (m - x) * (((xs.length : Int) - (xs.countP fun a => decide (a < m))) - ((xs.countP fun a => decide (a < m)) : Int)) := Int.mul_nonneg (by omega) (by omega)
    rw [Int.mul_sub] at this
    omega
/-- the distance of two over ns -/
def dist (ns : List Str) (f g : Str → Int) : Int := (ns.map fun n => ab (f n) (g n)).sum
def total (ns : List Str) (f : Str → Int) (hs : List (Str → Int)) : Int := (hs.map fun h => dist ns f h).sum
theorem sum_add {α : Type} {F G : α → Int} : ∀ {xs : List α}, (xs.map fun x => F x + G x).sum = (xs.map F).sum + (xs.map G).sum
  | [] => rfl
  | x :: xs => by
    simp only [List.map_cons, List.sum_cons]
    rw [sum_add]
    omega
theorem sum_zero {α : Type} : ∀ {xs : List α}, (xs.map fun _ => (0 : Int)).sum = 0
  | [] => rfl
  | x :: xs => by
    simp only [List.map_cons, List.sum_cons]
    rw [sum_zero]
    rfl
theorem sum_swap {α β : Type} {F : α → β → Int} : ∀ {xs : List α} {ys : List β}, (xs.map fun x => (ys.map fun y => F x y).sum).sum = (ys.map fun y => (xs.map fun x => F x y).sum).sum
  | [], ys => by
    show (0 : Int) = (ys.map fun _ => (0 : Int)).sum
    rw [sum_zero]
  | x :: xs, ys => by
    simp only [List.map_cons, List.sum_cons]
    rw [sum_swap, ← sum_add]
theorem sum_le {α : Type} {F G : α → Int} : ∀ {xs : List α}, (∀ x ∈ xs, F x ≤ G x) → (xs.map F).sum ≤ (xs.map G).sum
  | [], _ => Int.le_refl _
  | x :: xs, h => by
    simp only [List.map_cons, List.sum_cons]
    have := sum_le (xs := xs) fun y hy => h y (List.mem_cons_of_mem _ hy)
    have := h x List.mem_cons_self
    omega
theorem total_med {ns : List Str} {k : Str → Int} {hs : List (Str → Int)} (m : ∀ n ∈ ns, IsMed (hs.map fun h => h n) (k n)) (f : Str → Int) : total ns k hs ≤ total ns f hs := by
  unfold total dist
  rw [sum_swap (F := fun (h : Str → Int) (n : Str) => ab (k n) (h n)) (xs := hs) (ys := ns), sum_swap (F := fun (h : Str → Int) (n : Str) => ab (f n) (h n)) (xs := hs) (ys := ns)]
  refine sum_le fun n hn => ?_
  have := med_near (m n hn) (f n)
  unfold sumab at this
  rw [List.map_map, List.map_map] at this
  exact this
/-- between, node by node -/
def betw (ns : List Str) (f a b : Str → Int) : Bool := ns.all fun n => decide (min (a n) (b n) ≤ f n) && decide (f n ≤ max (a n) (b n))
theorem dist_tri {f a b : Str → Int} : ∀ {ns : List Str}, dist ns a b ≤ dist ns a f + dist ns f b
  | [] => by simp [dist]
  | n :: ns => by
    have := dist_tri (f := f) (a := a) (b := b) (ns := ns)
    unfold dist at *
    simp only [List.map_cons, List.sum_cons]
    have : ab (a n) (b n) ≤ ab (a n) (f n) + ab (f n) (b n) := by unfold ab; omega
    omega
theorem betw_iff {f a b : Str → Int} : ∀ {ns : List Str}, betw ns f a b = decide (dist ns a f + dist ns f b = dist ns a b)
  | [] => by simp [betw, dist]
  | n :: ns => by
    have ih := betw_iff (f := f) (a := a) (b := b) (ns := ns)
    have tr := dist_tri (f := f) (a := a) (b := b) (ns := ns)
    have e : betw (n :: ns) f a b = ((decide (min (a n) (b n) ≤ f n) && decide (f n ≤ max (a n) (b n))) && betw ns f a b) := rfl
    rw [e, ih]
    have d1 : ∀ g h : Str → Int, dist (n :: ns) g h = ab (g n) (h n) + dist ns g h := fun g h => by simp [dist]
    rw [d1, d1, d1]
    generalize dist ns a f = p at *
    generalize dist ns f b = q at *
    generalize dist ns a b = r at *
    rw [Bool.eq_iff_iff]
    simp only [Bool.and_eq_true, decide_eq_true_eq]
    unfold ab
    omega
end U

/-! dicts of references, double comprehensions, defaults, repr -/
namespace U
open PySem PySem.Spec PyProof.Rows L2
abbrev kvG (ns : List Str) (F : Str → V) : List (Key × V) := ns.map fun n => (Sum.inr n, F n)
def updV {α : Type} (f : Str → α) (n : Str) (v : α) : Str → α := fun m => if m = n then v else f m
theorem kvG_val : ∀ {ns : List Str} {F : Str → V} {n : Str}, n ∈ ns → valV (kvG ns F) (.inr n) = some (F n)
  | m :: ns, F, n, h => by
    by_cases e : n = m
    · subst e
      rw [kvG, List.map_cons, valV_pos rfl]
    · have e' : ¬ (Sum.inr m : Key) = Sum.inr n := fun z => e (Sum.inr.inj z).symm
      rw [kvG, List.map_cons, valV_neg e']
      refine kvG_val ?_
      rcases List.mem_cons.mp h with z | z
      · exact absurd z e
      · exact z
theorem kvG_none : ∀ {ns : List Str} {F : Str → V} {n : Str}, n ∉ ns → valV (kvG ns F) (.inr n) = none
  | [], _, _, _ => rfl
  | m :: ns, F, n, h => by
    have e' : ¬ (Sum.inr m : Key) = Sum.inr n := fun z => h (by rw [← Sum.inr.inj z]; exact List.mem_cons_self)
    rw [kvG, List.map_cons, valV_neg e']
    exact kvG_none fun z => h (List.mem_cons_of_mem _ z)
theorem kvG_new {ns : List Str} {F : Str → V} {n : Str} {v : V} (h : n ∉ ns) : putK (kvG ns F) (.inr n) v = kvG (ns ++ [n]) (updV F n v) := by
  rw [putK_new _ (kvG_none h), kvG, kvG, List.map_append]
  congr 1
  · refine List.map_congr_left fun m hm => ?_
    unfold updV
    rw [if_neg (fun e => h (by rw [← e]; exact hm))]
  · show [((Sum.inr n : Key), v)] = [(Sum.inr n, updV F n v n)]
    unfold updV
    rw [if_pos rfl]
theorem kvG_at {ns : List Str} {F : Str → V} {i : Nat} {x y : V} (hx : ((kvG ns F)[i]?.map fun kv => kV kv.1) = some x) (hy : (kvG ns F)[i]?.map Prod.snd = some y) : ∃ hi : i < ns.length, x = .str ns[i] ∧ y = F ns[i] := by
  rw [kvG, List.getElem?_map] at hx hy
  by_cases hi : i < ns.length
  · rw [List.getElem?_eq_getElem hi] at hx hy
    exact ⟨hi, (Option.some.inj hx).symm, (Option.some.inj hy).symm⟩
  · rw [List.getElem?_eq_none (by omega)] at hx
    cases hx
/-! f(e, ..) where defaults fill the rest -/
structure CalD (P : Program) (w : World) (K : PySem.W.Frag) (mg : Str → Option Value) (base : Heap) (CX : CXT) (k : Nat) (x : Str) (dvs : List V) (sp : Sp) : Prop where
  ex : ∃ (f : Addr) (fd : FuncData) (ps : List Str) (ds : List Value), FnG P w K mg base CX k f fd ps sp ∧ mg x = some (.ref f) ∧ PySem.W.keepIn K (.ref f) = true ∧ Vals dvs ds ∧ Binds K fd ps ds
def tCD (sp : Sp) (dvs : List V) (E : XK) (t : TA) : TE := fun σ H Q => t σ H fun vs H1 => sp (vs ++ dvs) H1 Q E
theorem pe_cD {X : Cx} {CX : L2.CXT} {k j : Nat} {x : Str} {dvs : List V} {sp : Sp} {E : XK} {e : Expr} {es : List Expr} {t : TA} {p pos : Pos} (c : CalD X.prog X.w X.K X.mg X.base CX k x dvs sp) (hr : Rm j X.A) (hk : k ≤ j) (hg : Gl X x) (hx : Passes CX X E) (ha : PA X (e :: es) t)
    (hdb : (x == ("__debug__" : Str)) = false := by decide) (he : starEach (e :: es) X.env = (false, eval e X.env) :: starEach es X.env := by rfl) (hpl : (backTo pos (starEach es X.env)).any (·.1) = false := by rfl) :
    PE X (.Call (.Name x p) (e :: es) [] pos) (tCD sp dvs E t) := by
  obtain ⟨f, fd, ps, ds, F, hm, kp, rd, b⟩ := c.ex
  refine ⟨fun pins s σ H Q I h => wpAny_Call_Name_kw (ld_glob I hg hm ?_ hdb)⟩
  refine PySem.W.callWith_K (h₀ := X.base) I.ok.mod.kin kp (thn (ha.run pos pins s σ H _ I h) ?_) he hpl
  rintro us s1 ⟨vs, H1, I1, r, q⟩
  refine ⟨I1.kIn, ?_⟩
  have r2 : Vals (vs ++ dvs) (us ++ ds) := r.append rd
  have count : (us ++ ds).length = ps.length := r2.length ▸ F.len _ _ _ _ q
  have bd := b s1 us I1.kIn count
  refine wpAny_call (codeAny_mono (F.go X.A X.stack s1 H1 ⟨us, []⟩ (us ++ ds) (vs ++ dvs) Q E (hr.mono hk) I1.env0 bd r2 q) ?_)
  intro res s' hq
  cases res with
  | error er => exact hx pins σ H1 s1 er s' I1 hq
  | ok fl =>
    cases fl with
    | ret u => exact I1.after hq
    | next => exact hq.elim
    | brk => exact hq.elim
    | cont => exact hq.elim
/-! two fors in a comprehension -/
def In1 (J1 : It) (g1 : TG) (tt1 : TT) (te : TE) (vs1 : List Nat) (σ2 : L2.St) (D : Addr) (H4 : Hp) (R : Hp → Prop) : Prop := ∃ W1 : Nat → Nat → Hp → Prop, (∃ m, W1 0 m H4) ∧ ∀ j k H, W1 j k H →
  (J1.stop j H ∧ R H) ∨ (J1.go j H ∧ ∃ Nx1 : Hp → Prop, (∀ H', Nx1 H' → ∃ k', k' < k ∧ W1 (j + 1) k' H') ∧ ∀ x H', J1.yld j H x H' → g1 x (wipe σ2 vs1) H' fun σ3 H5 => wipe σ3 vs1 = wipe σ2 vs1 ∧ tt1 σ3 H5 fun b H6 =>
    if b = true then te σ3 H6 fun y H7 => ∃ acc, H7 D = some (.lst acc) ∧ acc.length < sizeLine ∧ Nx1 (upd H7 D (.lst (acc ++ [y]))) else Nx1 H6)
def Lc2B (J : It) (g : TG) (tt : TT) (wi1 : TI) (g1 : TG) (tt1 : TT) (te : TE) (vs vs1 : List Nat) (σ : L2.St) (H1 : Hp) (D : Addr) (Qd : Hp → Prop) : Prop := ∃ W : Nat → Nat → Hp → Prop, (∃ m, W 0 m (upd H1 D (.lst []))) ∧ ∀ i m H, W i m H →
  (J.stop i H ∧ Qd H) ∨ (J.go i H ∧ ∃ Nx : Hp → Prop, (∀ H', Nx H' → ∃ m', m' < m ∧ W (i + 1) m' H') ∧ ∀ x H', J.yld i H x H' → g x (wipe σ vs) H' fun σ2 H2 => wipe σ2 vs = wipe σ vs ∧ tt σ2 H2 fun b H3 =>
    if b = true then wi1 σ2 H3 fun J1 H4 => In1 J1 g1 tt1 te vs1 σ2 D H4 Nx else Nx H3)
section
variable {σ : L2.St} {H : Hp} {Q : VK} {te : TE} {g g1 : TG} {wi wi1 : TI} {tt tt1 : TT} {vs vs1 : List Nat} {L : Addr} {Qd R : Hp → Prop} {J J1 : It} {n : Nat} {G : Hp → Prop} {Y : Nat → Hp → V → Hp → Prop} {K : PySem.W.Frag}
theorem rd_lc2 (h : wi σ H fun J H1 => ∀ D, H1 D = none → Lc2B J g tt wi1 g1 tt1 te vs vs1 σ H1 D fun H2 => Q (.ref D) H2) : tLc2 wi g tt wi1 g1 tt1 te vs vs1 σ H Q := h
theorem lc2W (w : Walk J n G Y) (Pv : Nat → Hp → Prop) (h0 : Pv 0 (upd H L (.lst []))) (hG : ∀ i H, i ≤ n → Pv i H → G H)
    (hs : ∀ i x H H', i < n → Pv i H → Y i H x H' → g x (wipe σ vs) H' fun σ2 H2 => wipe σ2 vs = wipe σ vs ∧ tt σ2 H2 fun b H3 =>
      if b = true then wi1 σ2 H3 fun J1 H4 => In1 J1 g1 tt1 te vs1 σ2 L H4 (Pv (i + 1)) else Pv (i + 1) H3) (hd : ∀ H, Pv n H → Qd H) : Lc2B J g tt wi1 g1 tt1 te vs vs1 σ H L Qd := by
  refine ⟨fun i m H => m = n - i ∧ i ≤ n ∧ Pv i H, ⟨n, by simp, Nat.zero_le _, h0⟩, ?_⟩
  rintro i m H ⟨rfl, hi, p⟩
  have q := hG i H hi p
  by_cases hlt : i < n
  · exact .inr ⟨w.goes i H hlt q, Pv (i + 1), fun H' p' => ⟨n - (i + 1), by omega, rfl, hlt, p'⟩, fun x H' y => hs i x H H' hlt p (w.yields i H x H' hlt q y)⟩
  · have e : i = n := by omega
    subst e
    exact .inl ⟨w.stops H q, hd H p⟩
theorem in1W (w : Walk J1 n G Y) (Pv : Nat → Hp → Prop) (h0 : Pv 0 H) (hG : ∀ i H, i ≤ n → Pv i H → G H)
    (hs : ∀ j x H H', j < n → Pv j H → Y j H x H' → g1 x (wipe σ vs1) H' fun σ3 H5 => wipe σ3 vs1 = wipe σ vs1 ∧ tt1 σ3 H5 fun b H6 =>
      if b = true then te σ3 H6 fun y H7 => ∃ acc, H7 L = some (.lst acc) ∧ acc.length < sizeLine ∧ Pv (j + 1) (upd H7 L (.lst (acc ++ [y]))) else Pv (j + 1) H6) (hd : ∀ H, Pv n H → R H) : In1 J1 g1 tt1 te vs1 σ L H R := by
  refine ⟨fun i m H => m = n - i ∧ i ≤ n ∧ Pv i H, ⟨n, by simp, Nat.zero_le _, h0⟩, ?_⟩
  rintro i m H ⟨rfl, hi, p⟩
  have q := hG i H hi p
  by_cases hlt : i < n
  · exact .inr ⟨w.goes i H hlt q, Pv (i + 1), fun H' p' => ⟨n - (i + 1), by omega, rfl, hlt, p'⟩, fun x H' y => hs i x H H' hlt p (w.yields i H x H' hlt q y)⟩
  · have e : i = n := by omega
    subst e
    exact .inl ⟨w.stops H q, hd H p⟩
theorem rd_cd {sp : Sp} {dvs : List V} {E : XK} {t : TA} (h : t σ H fun vs H1 => sp (vs ++ dvs) H1 Q E) : tCD sp dvs E t σ H Q := h
/-- d.clear() -/
theorem rd_clear {p : Addr} {kvs : List (Key × V)} (hs : H p = some (.dK kvs)) (h : Q .non (upd H p (.dK []))) : True := trivial
end
/-! repr -/
section
variable {X : Cx} {pins : List (Addr × Obj)} {σ : L2.St} {H : Hp} {s : Shared}
def encK : Key → PyData
  | .inl i => .int i
  | .inr x => .str x
/-- what repr is asked of: data, dicts of numbers among it -/
inductive Dr (K : PySem.W.Frag) (H : Hp) : V → PyData → Prop
  | of {v : V} {d : PyData} : Dp K H v d → d.hasDict = false → Dr K H v d
  | dct {a : Addr} {ns : List Str} {f : Str → Int} : H a = some (.dK (kvF ns f)) → Dr K H (.ref a) (.dict (ns.map fun n => (.str n, .int (f n))))
theorem kv_pairs {h : Heap} {f : Str → Int} : ∀ {ns : List Str} {vs : List (Key × Value)}, KV (kvF ns f) vs → PyProof.V.PairsRead h encK vs (ns.map fun n => (.str n, .int (f n))) []
  | [], vs, r => by
    cases r
    exact .nil
  | n :: ns, vs, r => by
    cases r with
    | @cons p q ps qs hpq t =>
      obtain ⟨h1, h2⟩ := hpq
      obtain ⟨k, v⟩ := q
      have h1' : (Sum.inr n : Key) = k := h1
      subst h1'
      obtain ⟨tk, rfl⟩ : ∃ t, v = Value.int (f n) t := h2
      exact .cons (k := .inr n) (as := []) (bs := []) (Reads.int _ _) (kv_pairs t)
theorem key_reads {h : Heap} {P : Program} {w : World} : ∀ (k : Key) (key : Value), (mixKind P w).is k key = true → Reads h key (encK k) [] := by
  intro k key hk
  rcases keyIs_shape hk with ⟨i, t, rfl, rfl⟩ | ⟨x, t, rfl, rfl⟩
  · exact Reads.int _ _
  · exact Reads.str _ _
end
end U
namespace U
open PySem PySem.Spec PyProof.Rows L2
/-! name = {k: v for ..}, the name a local -/
abbrev InBlk (X : Cx) (scope : Scope) (Φ : Cx → Prop) : Prop :=
  ∀ (s : Shared) (H : Hp) (C : Addr) (cl : List (Str × Addr)) (fp : List Addr), Φ (X.blk s H scope (compEnvC scope cl C X.env) fp)
section
variable {X : Cx}
theorem sw_dict {kx vx : Expr} {gs : List Comprehension} {scope : Scope} {pos py : Pos} {y : Str} {l : Nat} {env : Env}
    (hk : env.scope.kind = .function) (hy : env.scope.names.lookup y = some .local) (hl : (py.line == pos.line) = true)
    (ha : (scope.names.any fun (n, k) => n == y && (k == .local || k == .cell)) = false) :
    swapsWith (.DictComp kx vx gs scope pos) (some (.Name y py)) l env = pure true := by
  have q1 : env.kindOf y = some .local := hy
  have q2 : env.blockKind = .function := by
    unfold Env.blockKind
    rw [hk]
    rfl
  unfold swapsWith
  simp only [q1, q2, ha, hl, Expr.pos]
  rfl
theorem ps_setDc {i : Nat} {y : Str} {py : Pos} {kx vx tg iter : Expr} {ifs : List Expr} {scope : Scope} {own : List (Str × Nat)} {pos spos : Pos} {wi : TI} {g : TG} {tt : TT} {tk tv : TE}
    (hc : X.calm = true) (hN : X.N.Nodup) (hy : X.N[i]? = some y) (hyl : X.env.scope.names.lookup y = some .local)
    (hsw : swapsWith (.DictComp kx vx [⟨tg, iter, ifs, 0⟩] scope pos) (some (.Name y py)) spos.line X.env = pure true) (hi : PI X tg iter wi) (ok : BlkOk X.N X.env.scope scope own)
    (hg : InBlk X scope fun Y => PG Y tg g) (ht : InBlk X scope fun Y => PTs Y ifs tt) (hk : InBlk X scope fun Y => PE Y kx tk) (he : InBlk X scope fun Y => PE Y vx tv)
    (hs : ∀ x, foldedSetIterable iter X.env x = pure x := by intro _; rfl) :
    PS X (.Assign [.Name y py] (.DictComp kx vx [⟨tg, iter, ifs, 0⟩] scope pos) spos) (tAsg (tDc wi g tt tk tv (own.map (·.2))) (gName i)) := by
  refine ⟨fun pins s σ H D I want => ?_⟩
  rw [exec_Assign_Name_used _ _ _ _ hsw]
  refine wpAny_bind (wpAny_standAt (wpAny_bind ?_))
  have want : tDc wi g tt tk tv (own.map (·.2)) σ H fun x H1 => gName i x σ H1 D.nx := want
  show wpAny _ X.A (do
    let _ ← comprehension (.DictComp kx vx [⟨tg, iter, ifs, 0⟩] scope pos) scope X.env (firstIterPos [⟨tg, iter, ifs, 0⟩] pos) newDict false (eval iter X.env) (some (assign (.Name y py) X.env))) _ _ s
  refine wpAny_bind (thn (dc_core (Qf := fun _ s' => SP X pins D .next s') hc hN I hi ok hg ht hk he hs want fun L C s' m H' J q hn fpo => ?_) fun _ s' done => wpAny_pure (wpAny_pure done))
  show wpAny _ _ (assign (.Name y py) X.env (.ref L)) _ _ _
  refine wpAny_assign_Name (store_ok2 (v := V.ref L) J hN hy (.inl hyl) rfl (fun s2 J2 ⟨a, sb, ha⟩ => ?_) (.inr hyl))
  obtain ⟨p0, p1, p2, p3, p4, p5⟩ := fpo
  have apart : C ≠ a := by
    cases ha with
    | inl z => rw [z]; exact p1
    | inr z => exact fun e => p4 y a z e.symm
  refine ⟨m, hn.sameBut sb apart, fun h3 sb3 => ⟨_, H', J2.turned (t' := s2.toks) (fun b o hb e => (sb3.2 b hb).trans e) p0 p1 p3 p4 p5, q⟩⟩
end
end U

/-! repr of a list of data, dicts among it -/
namespace U
open PySem PySem.Spec PyProof.Rows L2
mutual
def tupOnly : PyData → Bool
  | .none | .bool _ | .int _ | .str _ => true
  | .tuple xs => tupOnlyAll xs
  | .list _ | .dict _ => false
def tupOnlyAll : List PyData → Bool
  | [] => true
  | x :: xs => tupOnly x && tupOnlyAll xs
end
mutual
theorem reads_nil {h : Heap} : ∀ (d : PyData) (v : Value) (as : List Addr), Reads h v d as → tupOnly d = true → as = []
  | .none, _, _, r, _ => by cases r; rfl
  | .bool _, _, _, r, _ => by cases r; rfl
  | .int _, _, _, r, _ => by cases r; rfl
  | .str _, _, _, r, _ => by cases r; rfl
  | .tuple xs, _, _, r, t => by
    cases r with
    | tuple h1 h2 h3 h4 => exact readsAll_nil xs _ _ h4 (by simpa [tupOnly] using t)
  | .list _, _, _, _, t => by simp [tupOnly] at t
  | .dict _, _, _, _, t => by simp [tupOnly] at t
theorem readsAll_nil {h : Heap} : ∀ (ds : List PyData) (vs : List Value) (as : List Addr), ReadsAll h vs ds as → tupOnlyAll ds = true → as = []
  | [], _, _, r, _ => by cases r; rfl
  | d :: ds, _, _, r, t => by
    rw [tupOnlyAll, Bool.and_eq_true] at t
    cases r with
    | cons r1 r2 => rw [reads_nil d _ _ r1 t.1, readsAll_nil ds _ _ r2 t.2]; rfl
end
/-- an item of the list: data of tuples, or a dict of numbers -/
inductive Di (K : PySem.W.Frag) (H : Hp) : V → PyData → Prop
  | of {v : V} {d : PyData} : Dp K H v d → tupOnly d = true → Di K H v d
  | dct {a : Addr} {ns : List Str} {f : Str → Int} : H a = some (.dK (kvF ns f)) → Di K H (.ref a) (.dict (ns.map fun n => (.str n, .int (f n))))
inductive DiAll (K : PySem.W.Frag) (H : Hp) : List V → List PyData → Prop
  | nil : DiAll K H [] []
  | cons {v : V} {vs : List V} {d : PyData} {ds : List PyData} : Di K H v d → DiAll K H vs ds → DiAll K H (v :: vs) (d :: ds)
structure Shows (d : PyData) : Prop where
  sh : d.showable = true
  lv : d.leavesShort 13 = true
  bk : d.bulk ≤ 2 ^ 20
  dp : d.depth ≤ 50
def rReprL (K : PySem.W.Frag) : List V → Hp → VK → Prop := fun xs H Q => match xs with
  | [.ref a] => (∃ xs ds, H a = some (.lst xs) ∧ (a == sysModules) = false ∧ DiAll K H xs ds ∧ Shows (.list ds) ∧ Q (.str (PyData.list ds).shown) H) ∨
      ∃ d, Dp K H (.ref a) d ∧ d.hasDict = false ∧ Shows d ∧ Q (.str d.shown) H
  | _ => False
section
variable {X : Cx} {pins : List (Addr × Obj)} {σ : L2.St} {H : Hp} {s : Shared}
theorem Di.reads (I : Inv X pins σ H s) {v : V} {d : PyData} {u : Value} (h : Di X.K H v d) (r : RelV v u) : ∃ as, Reads s.heap u d as ∧ sysModules ∉ as := by
  cases h with
  | of h t =>
    obtain ⟨as, q⟩ := Dp.reads I _ _ _ h r
    have := reads_nil _ _ _ q t
    subst this
    exact ⟨_, q, List.not_mem_nil⟩
  | dct h =>
    cases r
    obtain ⟨_, hd, vs, rel, dd⟩ := dk_of I.hok h
    refine ⟨_, PyProof.V.reads_dictOf key_reads dd (kv_pairs rel), ?_⟩
    intro z
    rw [List.mem_singleton] at z
    rw [z] at hd
    simp at hd
theorem DiAll.reads (I : Inv X pins σ H s) : ∀ {vs : List V} {ds : List PyData} {us : List Value}, DiAll X.K H vs ds → Vals vs us → ∃ as, ReadsAll s.heap us ds as ∧ sysModules ∉ as
  | [], _, _, h, r => by
    cases h
    cases r
    exact ⟨_, .nil, List.not_mem_nil⟩
  | v :: vs, _, _, h, r => by
    cases h with
    | cons h1 h2 =>
      cases r with
      | cons r1 r2 =>
        obtain ⟨as, q1, n1⟩ := h1.reads I r1
        obtain ⟨bs, q2, n2⟩ := DiAll.reads I h2 r2
        exact ⟨_, .cons q1 q2, fun z => (List.mem_append.mp z).elim n1 n2⟩
theorem kReprL (K : PySem.W.Frag) (hK : X.K = K) (hg : X.A.guards = some []) (hu : X.A.units + 64 < cLine) : CallR X (.builtin "repr") (rReprL K) := by
  subst hK
  intro pins s σ H xs us Q I r h
  match xs, h with
  | [.ref a], h =>
    cases r with
    | cons r rr =>
      cases rr
      cases r
      have fin : ∀ (d : PyData) (as : List Addr), Reads s.heap (.ref a) d as → (d.hasDict = true → sysModules ∉ as) → Shows d → Q (.str d.shown) H → wpAny (model X.prog X.w) X.A (call (.builtin "repr") [.ref a]) (EP X pins σ Q) X.xe s := by
        intro d as rd hsm S q
        have hdp := S.dp
        refine PySem.repr_of_reads' rd S.sh hsm hg (by omega) (fun b o e => e) (fun h' u tk hk => ⟨.str d.shown, H, I.kept (t' := tk) hk, ⟨_, rfl⟩, q⟩) (PyData.shown_fits_bulk (by decide) (by decide) S.lv S.bk)
      rcases h with ⟨xs, ds, ha, hn, hd, S, q⟩ | ⟨d, hd, hx, S, q⟩
      · obtain ⟨its, rv, ⟨o, n, ho, hc, _, hdat⟩, _⟩ := I.list (SqL.of ha)
        obtain ⟨as, ra, na⟩ := hd.reads I rv
        refine fin _ _ (Reads.list ho hc hdat (by simpa using ra)) (fun _ z => ?_) S q
        rcases List.mem_cons.mp z with z | z
        · rw [← z] at hn
          simp at hn
        · exact na z
      · obtain ⟨as, ra⟩ := Dp.reads I d _ _ hd rfl
        exact fin d as ra (fun z => by rw [hx] at z; cases z) S q
/-- a list display: its place is not that of the modules' table -/
def tLstS (t : TA) : TE := fun σ H Q => t σ H fun xs H1 => xs.length ≤ sizeLine ∧ ∀ p, H1 p = none → (p == sysModules) = false → Q (.ref p) (upd H1 p (.lst xs))
theorem pe_lstS {es : List Expr} {t : TA} {pos : Pos} (h : PA X es t) : PE X (.List es pos) (tLstS t) := by
  refine ⟨fun pins s σ H Q I hq => ?_⟩
  refine wpAny_List_spliced (thn (h.run pos pins s σ H _ I hq) fun us s1 ⟨xs, H1, I1, r, z, q⟩ => ⟨by rw [← r.length]; exact z, ?_⟩)
  have hf : H1 s1.heap.objs.size = none := I1.hok.fresh (Nat.le_refl _)
  have hb := I1.big
  refine ⟨.ref s1.heap.objs.size, upd H1 s1.heap.objs.size (.lst xs), I1.laid (t' := s1.toks) (fun b u e => Heap.get?_push_of_some _ e) (Nat.le_refl _) ?_, rfl, q _ hf (beq_eq_false_iff_ne.mpr (Ne.symm (Nat.ne_of_lt hb)))⟩
  exact ⟨z, us, 0, r, Heap.get?_push_size _ rfl⟩
end
/-! the shapes -/
abbrev dStrs (ns : List Str) : PyData := .tuple (ns.map PyData.str)
abbrev dGr (ns : List Str) (es : List (Str × Str)) : PyData := .tuple [dStrs ns, .tuple (es.map fun e => .tuple [.str e.1, .str e.2])]
abbrev dSt (ord : List Str) (f : Str → Int) : PyData := .dict (ord.map fun n => (.str n, .int (f n)))
abbrev dMv (ms : List (Str × Int)) : PyData := .list (ms.map fun m => .tuple [.str m.1, .int m.2])
theorem IsName.lv {z : Str} (h : IsName z) : (PyData.str z).leavesShort 13 = true := by
  rw [PyData.leavesShort, List.all_eq_true]
  intro x hx
  have := h.ch x hx
  rw [decide_eq_true_eq]
  omega
theorem IsName.bk {z : Str} (h : IsName z) : (PyData.str z).bulk ≤ 8 := by
  rw [PyData.bulk]
  exact h.hi
theorem lvs_strs : ∀ {ns : List Str}, (∀ n ∈ ns, IsName n) → PyData.leavesShortAll 13 (ns.map PyData.str) = true ∧ PyData.showableAll (ns.map PyData.str) = true ∧ PyData.bulkAll (ns.map PyData.str) ≤ 9 * ns.length ∧ PyData.depthAll (ns.map PyData.str) = 0
  | [], _ => by simp [PyData.leavesShortAll, PyData.showableAll, PyData.bulkAll, PyData.depthAll]
  | n :: ns, h => by
    obtain ⟨a, b, c, d⟩ := lvs_strs (ns := ns) fun x hx => h x (List.mem_cons_of_mem _ hx)
    have hn := h n List.mem_cons_self
    have := hn.bk
    simp only [List.map_cons, PyData.leavesShortAll, PyData.showableAll, PyData.bulkAll, PyData.depthAll, List.length_cons, hn.lv, a, b, d, PyData.showable, Bool.and_self, PyData.depth, true_and]
    exact ⟨by omega, rfl⟩
theorem lvs_edges : ∀ {es : List (Str × Str)}, (∀ e ∈ es, IsName e.1 ∧ IsName e.2) → PyData.leavesShortAll 13 (es.map fun e => .tuple [.str e.1, .str e.2]) = true ∧ PyData.showableAll (es.map fun e => .tuple [.str e.1, .str e.2]) = true ∧
    PyData.bulkAll (es.map fun e => .tuple [.str e.1, .str e.2]) ≤ 19 * es.length ∧ PyData.depthAll (es.map fun e => .tuple [.str e.1, .str e.2]) ≤ 1
  | [], _ => by simp [PyData.leavesShortAll, PyData.showableAll, PyData.bulkAll, PyData.depthAll]
  | e :: es, h => by
    obtain ⟨a, b, c, d⟩ := lvs_edges (es := es) fun x hx => h x (List.mem_cons_of_mem _ hx)
    obtain ⟨h1, h2⟩ := h e List.mem_cons_self
    have := h1.bk
    have := h2.bk
    simp only [List.map_cons, PyData.leavesShortAll, PyData.showableAll, PyData.bulkAll, PyData.depthAll, List.length_cons, PyData.leavesShort, PyData.showable, PyData.bulk, PyData.depth, a, b] at *
    have l1 := h1.lv
    have l2 := h2.lv
    simp only [PyData.leavesShort] at l1 l2
    rw [l1, l2]
    refine ⟨rfl, rfl, ?_, ?_⟩
    · omega
    · omega
theorem int3_lv {i : Int} (h0 : 0 ≤ i) (h1 : i < 3) : (PyData.int i).leavesShort 13 = true ∧ (PyData.int i).showable = true := by
  have : i = 0 ∨ i = 1 ∨ i = 2 := by omega
  rcases this with rfl | rfl | rfl <;> exact ⟨by decide +kernel, by decide +kernel⟩
theorem lvs_st {f : Str → Int} : ∀ {ns : List Str}, (∀ n ∈ ns, IsName n ∧ 0 ≤ f n ∧ f n < 3) → PyData.leavesShortKv 13 (ns.map fun n => (.str n, .int (f n))) = true ∧ PyData.showableKv (ns.map fun n => (.str n, .int (f n))) = true ∧
    PyData.bulkKv (ns.map fun n => (.str n, .int (f n))) ≤ 10 * ns.length ∧ PyData.depthKv (ns.map fun n => (.str n, .int (f n))) = 0
  | [], _ => by simp [PyData.leavesShortKv, PyData.showableKv, PyData.bulkKv, PyData.depthKv]
  | n :: ns, h => by
    obtain ⟨a, b, c, d⟩ := lvs_st (ns := ns) fun x hx => h x (List.mem_cons_of_mem _ hx)
    obtain ⟨h1, h2, h3⟩ := h n List.mem_cons_self
    have := h1.bk
    obtain ⟨i1, i2⟩ := int3_lv h2 h3
    have l1 := h1.lv
    simp only [List.map_cons, PyData.leavesShortKv, PyData.showableKv, PyData.bulkKv, PyData.depthKv, List.length_cons, a, b, d, i1, i2, l1, PyData.depth, Bool.and_self, PyData.bulk, true_and]
    rw [PyData.showable]
    simp only [PyData.bulk] at *
    exact ⟨rfl, by omega, rfl⟩
theorem lvs_moves : ∀ {ms : List (Str × Int)}, (∀ m ∈ ms, IsName m.1 ∧ 0 ≤ m.2 ∧ m.2 < 3) → PyData.leavesShortAll 13 (ms.map fun m => .tuple [.str m.1, .int m.2]) = true ∧ PyData.showableAll (ms.map fun m => .tuple [.str m.1, .int m.2]) = true ∧
    PyData.bulkAll (ms.map fun m => .tuple [.str m.1, .int m.2]) ≤ 11 * ms.length ∧ PyData.depthAll (ms.map fun m => .tuple [.str m.1, .int m.2]) ≤ 1 ∧ PyData.hasDictAll (ms.map fun m => .tuple [.str m.1, .int m.2]) = false
  | [], _ => by simp [PyData.leavesShortAll, PyData.showableAll, PyData.bulkAll, PyData.depthAll, PyData.hasDictAll]
  | m :: ms, h => by
    obtain ⟨a, b, c, d, e⟩ := lvs_moves (ms := ms) fun x hx => h x (List.mem_cons_of_mem _ hx)
    obtain ⟨h1, h2, h3⟩ := h m List.mem_cons_self
    have := h1.bk
    obtain ⟨i1, i2⟩ := int3_lv h2 h3
    have l1 := h1.lv
    have e1 : (PyData.tuple [.str m.1, .int m.2]).leavesShort 13 = true := by
      rw [PyData.leavesShort, PyData.leavesShortAll, PyData.leavesShortAll, PyData.leavesShortAll, l1, i1]
      rfl
    have e2 : (PyData.tuple [.str m.1, .int m.2]).showable = true := by
      rw [PyData.showable, PyData.showableAll, PyData.showableAll, PyData.showableAll, i2, PyData.showable]
      rfl
    have e3 : (PyData.tuple [.str m.1, .int m.2]).bulk ≤ 10 := by
      simp only [PyData.bulk, PyData.bulkAll] at *
      omega
    have e4 : (PyData.tuple [.str m.1, .int m.2]).depth = 1 := by simp [PyData.depth, PyData.depthAll]
    have e5 : (PyData.tuple [.str m.1, .int m.2]).hasDict = false := by simp [PyData.hasDict, PyData.hasDictAll]
    rw [List.map_cons, PyData.leavesShortAll, PyData.showableAll, PyData.bulkAll, PyData.depthAll, PyData.hasDictAll, List.length_cons, e1, e2, e4, e5, a, b, e]
    exact ⟨rfl, rfl, by omega, by omega, rfl⟩
theorem shows_moves {ms : List (Str × Int)} (h : ∀ m ∈ ms, IsName m.1 ∧ 0 ≤ m.2 ∧ m.2 < 3) (l : ms.length ≤ 2000) : Shows (dMv ms) ∧ (dMv ms).hasDict = false := by
  obtain ⟨a, b, c, d, e⟩ := lvs_moves h
  refine ⟨⟨by rw [PyData.showable]; exact b, by rw [PyData.leavesShort]; exact a, ?_, ?_⟩, by rw [PyData.hasDict]; exact e⟩
  · rw [PyData.bulk]
    omega
  · rw [PyData.depth]
    omega
theorem shows_all {ns ord pn : List Str} {es : List (Str × Str)} {f : Str → Int} (h1 : ∀ n ∈ ns, IsName n) (h2 : ∀ e ∈ es, IsName e.1 ∧ IsName e.2) (h3 : ∀ n ∈ ord, IsName n ∧ 0 ≤ f n ∧ f n < 3) (h4 : ∀ n ∈ pn, IsName n)
    (l1 : ns.length ≤ 100) (l2 : es.length ≤ 1000) (l3 : ord.length ≤ 100) (l4 : pn.length ≤ 100) : Shows (.list [dGr ns es, dSt ord f, dStrs pn]) := by
  obtain ⟨a1, b1, c1, d1⟩ := lvs_strs h1
  obtain ⟨a2, b2, c2, d2⟩ := lvs_edges h2
  obtain ⟨a3, b3, c3, d3⟩ := lvs_st h3
  obtain ⟨a4, b4, c4, d4⟩ := lvs_strs h4
  refine ⟨?_, ?_, ?_, ?_⟩
  · simp [PyData.showable, PyData.showableAll, b1, b2, b3, b4]
  · simp [PyData.leavesShort, PyData.leavesShortAll, a1, a2, a3, a4]
  · simp only [PyData.bulk, PyData.bulkAll]
    omega
  · simp only [PyData.depth, PyData.depthAll]
    omega
end U

/-! paths found level by level: the plain law -/
namespace U
open PySem PySem.Spec PyProof.Rows L2
/-- nodes found, each with its path, in the order in which they are found -/
abbrev keysF (kp : List (Str × List Str)) : List Str := kp.map (·.1)
def addF (ok : Str → Str → Bool) (c : Str × List Str) (kp : List (Str × List Str)) (o : Str) : List (Str × List Str) := if o ∉ keysF kp ∧ ok c.1 o = true then kp ++ [(o, c.2 ++ [o])] else kp
def addsF (ok : Str → Str → Bool) (c : Str × List Str) (os : List Str) (kp : List (Str × List Str)) : List (Str × List Str) := os.foldl (addF ok c) kp
def stF (adj : Str → List Str) (ok : Str → Str → Bool) (root : Str) : Nat → List (Str × List Str)
  | 0 => [(root, [root])]
  | i + 1 => match (stF adj ok root i)[i]? with
    | none => stF adj ok root i
    | some c => addsF ok c (adj c.1) (stF adj ok root i)
def pathsF (adj : Str → List Str) (ok : Str → Str → Bool) (root : Str) : List (Str × List Str) := stF adj ok root 1000
inductive Reach (adj : Str → List Str) (ok : Str → Str → Bool) (root : Str) : Str → Prop
  | refl : Reach adj ok root root
  | step {a b : Str} : Reach adj ok root a → b ∈ adj a → ok a b = true → Reach adj ok root b
theorem Reach.trans {adj : Str → List Str} {ok : Str → Str → Bool} {a b c : Str} (h : Reach adj ok a b) (k : Reach adj ok b c) : Reach adj ok a c := by
  induction k with
  | refl => exact h
  | step _ m o ih => exact .step ih m o
section
variable {adj : Str → List Str} {ok : Str → Str → Bool} {root : Str}
theorem addF_cases (c : Str × List Str) (kp : List (Str × List Str)) (o : Str) : (addF ok c kp o = kp ∧ (o ∈ keysF kp ∨ ok c.1 o = false)) ∨ (addF ok c kp o = kp ++ [(o, c.2 ++ [o])] ∧ o ∉ keysF kp ∧ ok c.1 o = true) := by
  unfold addF
  by_cases h : o ∉ keysF kp ∧ ok c.1 o = true
  · rw [if_pos h]
    exact .inr ⟨rfl, h⟩
  · rw [if_neg h]
    refine .inl ⟨rfl, ?_⟩
    by_cases m : o ∈ keysF kp
    · exact .inl m
    · refine .inr ?_
      cases e : ok c.1 o with
      | false => rfl
      | true => exact (h ⟨m, e⟩).elim
theorem addsF_snoc {c : Str × List Str} {os : List Str} {o : Str} {kp : List (Str × List Str)} : addsF ok c (os ++ [o]) kp = addF ok c (addsF ok c os kp) o := by
  unfold addsF
  rw [List.foldl_append]
  rfl
theorem addsF_pre {c : Str × List Str} : ∀ {os : List Str} {kp : List (Str × List Str)}, ∃ r, addsF ok c os kp = kp ++ r
  | [], kp => ⟨[], (List.append_nil kp).symm⟩
  | o :: os, kp => by
    obtain ⟨r, hr⟩ := addsF_pre (c := c) (os := os) (kp := addF ok c kp o)
    have e : addsF ok c (o :: os) kp = addsF ok c os (addF ok c kp o) := rfl
    rw [e, hr]
    rcases addF_cases c kp o with ⟨h, _⟩ | ⟨h, _⟩
    · rw [h]
      exact ⟨r, rfl⟩
    · rw [h, List.append_assoc]
      exact ⟨_, rfl⟩
/-- what is added: each a neighbour that may be gone to -/
theorem addsF_mem {c : Str × List Str} : ∀ {os : List Str} {kp : List (Str × List Str)} {x : Str × List Str}, x ∈ addsF ok c os kp → x ∈ kp ∨ (x.1 ∈ os ∧ ok c.1 x.1 = true ∧ x.2 = c.2 ++ [x.1])
  | [], kp, x, h => .inl h
  | o :: os, kp, x, h => by
    have e : addsF ok c (o :: os) kp = addsF ok c os (addF ok c kp o) := rfl
    rw [e] at h
    rcases addsF_mem h with h | ⟨h1, h2, h3⟩
    · rcases addF_cases c kp o with ⟨e, _⟩ | ⟨e, _, k⟩
      · rw [e] at h
        exact .inl h
      · rw [e] at h
        rcases List.mem_append.mp h with h | h
        · exact .inl h
        · rw [List.mem_singleton] at h
          subst h
          exact .inr ⟨List.mem_cons_self, k, rfl⟩
    · exact .inr ⟨List.mem_cons_of_mem _ h1, h2, h3⟩
theorem addsF_all {c : Str × List Str} : ∀ {os : List Str} {kp : List (Str × List Str)} {o : Str}, o ∈ os → ok c.1 o = true → o ∈ keysF (addsF ok c os kp)
  | o' :: os, kp, o, h, k => by
    have e : addsF ok c (o' :: os) kp = addsF ok c os (addF ok c kp o') := rfl
    rw [e]
    rcases List.mem_cons.mp h with rfl | h
    · obtain ⟨r, hr⟩ := addsF_pre (ok := ok) (c := c) (os := os) (kp := addF ok c kp o)
      rw [hr, keysF, List.map_append]
      refine List.mem_append_left _ ?_
      rcases addF_cases c kp o with ⟨e, m⟩ | ⟨e, _⟩
      · rw [e]
        rcases m with m | m
        · exact m
        · rw [k] at m
          cases m
      · rw [e, List.map_append]
        exact List.mem_append_right _ List.mem_cons_self
    · exact addsF_all h k
theorem addF_nodup {c : Str × List Str} {kp : List (Str × List Str)} {o : Str} (h : (keysF kp).Nodup) : (keysF (addF ok c kp o)).Nodup := by
  rcases addF_cases c kp o with ⟨e, _⟩ | ⟨e, m, _⟩
  · rw [e]
    exact h
  · rw [e, keysF, List.map_append, List.nodup_append]
    refine ⟨h, by simp, fun a ha b hb z => ?_⟩
    have : b = o := by simpa using hb
    rw [z, this] at ha
    exact m ha
theorem addsF_nodup {c : Str × List Str} : ∀ {os : List Str} {kp : List (Str × List Str)}, (keysF kp).Nodup → (keysF (addsF ok c os kp)).Nodup
  | [], _, h => h
  | o :: os, kp, h => addsF_nodup (os := os) (addF_nodup h)
theorem stF_at {i : Nat} {c : Str × List Str} (h : (stF adj ok root i)[i]? = some c) : stF adj ok root (i + 1) = addsF ok c (adj c.1) (stF adj ok root i) := by
  rw [stF, h]
theorem stF_end {i : Nat} (h : (stF adj ok root i)[i]? = none) : stF adj ok root (i + 1) = stF adj ok root i := by
  rw [stF, h]
theorem stF_pre (i : Nat) : ∃ r, stF adj ok root (i + 1) = stF adj ok root i ++ r := by
  cases h : (stF adj ok root i)[i]? with
  | none => rw [stF_end h]; exact ⟨[], (List.append_nil _).symm⟩
  | some c => rw [stF_at h]; exact addsF_pre
theorem stF_pre' (i : Nat) : ∀ k, ∃ r, stF adj ok root (i + k) = stF adj ok root i ++ r
  | 0 => ⟨[], (List.append_nil _).symm⟩
  | k + 1 => by
    obtain ⟨r, hr⟩ := stF_pre' i k
    obtain ⟨r2, h2⟩ := stF_pre (adj := adj) (ok := ok) (root := root) (i + k)
    exact ⟨r ++ r2, by rw [← Nat.add_assoc, h2, hr, List.append_assoc]⟩
theorem stF_stop {i : Nat} (h : (stF adj ok root i).length ≤ i) : ∀ k, stF adj ok root (i + k) = stF adj ok root i
  | 0 => rfl
  | k + 1 => by
    have e := stF_stop h k
    rw [← Nat.add_assoc, stF_end (by rw [e]; exact List.getElem?_eq_none (by omega)), e]
theorem stF_nodup : ∀ i, (keysF (stF adj ok root i)).Nodup
  | 0 => by simp [stF]
  | i + 1 => by
    cases h : (stF adj ok root i)[i]? with
    | none => rw [stF_end h]; exact stF_nodup i
    | some c => rw [stF_at h]; exact addsF_nodup (stF_nodup i)
theorem stF_root (i : Nat) : ∃ r, stF adj ok root i = (root, [root]) :: r := by
  obtain ⟨r, h⟩ := stF_pre' (adj := adj) (ok := ok) (root := root) 0 i
  rw [Nat.zero_add] at h
  exact ⟨r, h⟩
/-- a path: from the first to the last, each step to a neighbour that may be gone to -/
inductive PathTo (adj : Str → List Str) (ok : Str → Str → Bool) (root : Str) : Str → List Str → Prop
  | one : PathTo adj ok root root [root]
  | snoc {a b : Str} {p : List Str} : PathTo adj ok root a p → b ∈ adj a → ok a b = true → PathTo adj ok root b (p ++ [b])
theorem PathTo.reach {a : Str} {p : List Str} (h : PathTo adj ok root a p) : Reach adj ok root a := by
  induction h with
  | one => exact .refl
  | snoc _ m o ih => exact .step ih m o
theorem stF_path : ∀ i x, x ∈ stF adj ok root i → PathTo adj ok root x.1 x.2
  | 0, x, h => by
    rw [stF, List.mem_singleton] at h
    subst h
    exact .one
  | i + 1, x, h => by
    cases e : (stF adj ok root i)[i]? with
    | none => rw [stF_end e] at h; exact stF_path i x h
    | some c =>
      rw [stF_at e] at h
      rcases addsF_mem h with h | ⟨h1, h2, h3⟩
      · exact stF_path i x h
      · have := stF_path i c (List.mem_of_getElem? e)
        rw [h3]
        exact .snoc this h1 h2
theorem stF_reach {i : Nat} {x : Str} (h : x ∈ keysF (stF adj ok root i)) : Reach adj ok root x := by
  obtain ⟨y, hy, rfl⟩ := List.mem_map.mp h
  exact (stF_path i y hy).reach
/-- those whose turn has been have their neighbours found -/
theorem stF_closed : ∀ (i j : Nat) (c : Str × List Str), j < i → (stF adj ok root i)[j]? = some c → ∀ b ∈ adj c.1, ok c.1 b = true → b ∈ keysF (stF adj ok root i)
  | i + 1, j, c, hj, hc, b, hb, hk => by
    cases e : (stF adj ok root i)[i]? with
    | none =>
      rw [stF_end e] at hc ⊢
      have : j < (stF adj ok root i).length := (List.getElem?_eq_some_iff.mp hc).1
      have := List.getElem?_eq_none_iff.mp e
      exact stF_closed i j c (by omega) hc b hb hk
    | some d =>
      have li : i < (stF adj ok root i).length := (List.getElem?_eq_some_iff.mp e).1
      obtain ⟨r, hr⟩ := stF_pre (adj := adj) (ok := ok) (root := root) i
      have hc2 : (stF adj ok root i)[j]? = some c := by
        rw [hr, List.getElem?_append_left (by omega)] at hc
        exact hc
      by_cases q : j < i
      · have := stF_closed i j c q hc2 b hb hk
        rw [hr, keysF, List.map_append]
        exact List.mem_append_left _ this
      · have : j = i := by omega
        subst this
        rw [hc2] at e
        cases e
        rw [stF_at hc2]
        exact addsF_all hb hk
theorem stF_all {i : Nat} (h : (stF adj ok root i).length ≤ i) {x : Str} (r : Reach adj ok root x) : x ∈ keysF (stF adj ok root i) := by
  induction r with
  | refl =>
    obtain ⟨r, e⟩ := stF_root (adj := adj) (ok := ok) (root := root) i
    rw [e]
    exact List.mem_cons_self
  | step _ m o ih =>
    obtain ⟨y, hy, rfl⟩ := List.mem_map.mp ih
    obtain ⟨j, hj, e⟩ := List.mem_iff_getElem.mp hy
    exact stF_closed i j y (by omega) (by rw [List.getElem?_eq_getElem hj, e]) _ m o
/-- nodes of ns alone -/
theorem reach_mem {ns : List Str} (cl : ∀ x ∈ ns, ∀ y ∈ adj x, y ∈ ns) (h0 : root ∈ ns) {x : Str} (r : Reach adj ok root x) : x ∈ ns := by
  induction r with
  | refl => exact h0
  | step _ m _ ih => exact cl _ ih _ m
theorem nodup_len {α : Type} [DecidableEq α] : ∀ {xs ys : List α}, xs.Nodup → (∀ x ∈ xs, x ∈ ys) → xs.length ≤ ys.length
  | [], _, _, _ => Nat.zero_le _
  | x :: xs, ys, nd, h => by
    rw [List.nodup_cons] at nd
    have hx := h x List.mem_cons_self
    have := nodup_len (xs := xs) (ys := ys.erase x) nd.2 fun y hy => by
      refine (List.mem_erase_of_ne ?_).mpr (h y (List.mem_cons_of_mem _ hy))
      rintro rfl
      exact nd.1 hy
    rw [List.length_erase_of_mem hx] at this
    have : 0 < ys.length := List.length_pos_of_mem hx
    rw [List.length_cons]
    omega
theorem stF_len {ns : List Str} (cl : ∀ x ∈ ns, ∀ y ∈ adj x, y ∈ ns) (h0 : root ∈ ns) (i : Nat) : (stF adj ok root i).length ≤ ns.length := by
  have := nodup_len (stF_nodup (adj := adj) (ok := ok) (root := root) i) (ys := ns) fun x hx => reach_mem cl h0 (stF_reach hx)
  rw [List.length_map] at this
  exact this
theorem addsF_len {c : Str × List Str} : ∀ {os : List Str} {kp : List (Str × List Str)}, (addsF ok c os kp).length ≤ kp.length + os.length
  | [], kp => Nat.le_refl _
  | o :: os, kp => by
    have e : addsF ok c (o :: os) kp = addsF ok c os (addF ok c kp o) := rfl
    have := addsF_len (c := c) (os := os) (kp := addF ok c kp o)
    rw [e, List.length_cons]
    rcases addF_cases c kp o with ⟨z, _⟩ | ⟨z, _⟩ <;> rw [z] at this
    · rw [z]
      omega
    · rw [z]
      rw [List.length_append, List.length_singleton] at this
      omega
theorem stF_plen : ∀ i x, x ∈ stF adj ok root i → x.2.length ≤ i + 1
  | 0, x, h => by
    rw [stF, List.mem_singleton] at h
    subst h
    exact Nat.le_refl _
  | i + 1, x, h => by
    cases e : (stF adj ok root i)[i]? with
    | none =>
      rw [stF_end e] at h
      have := stF_plen i x h
      omega
    | some c =>
      rw [stF_at e] at h
      rcases addsF_mem h with h | ⟨h1, h2, h3⟩
      · have := stF_plen i x h
        omega
      · have := stF_plen i c (List.mem_of_getElem? e)
        rw [h3, List.length_append, List.length_singleton]
        omega
/-- where the loop ends, all is found -/
theorem stF_done {i : Nat} (h : (stF adj ok root i).length ≤ i) (hi : i ≤ 1000) : stF adj ok root i = pathsF adj ok root := by
  have e := stF_stop h (1000 - i)
  rw [Nat.add_sub_cancel' hi] at e
  exact e.symm
end

/-! ### neighbours in order -/
def sortS (xs : List Str) : List Str := xs.mergeSort fun a b => !decide (sLt b a)
theorem sortS_perm (xs : List Str) : (sortS xs).Perm xs := List.mergeSort_perm xs _
theorem nlt_trans {a b c : Str} (h : ¬ sLt b a) (k : ¬ sLt c b) : ¬ sLt c a := by
  intro z
  rcases sLt_tri a b with t | t | t
  · exact k (sLt_trans z t)
  · subst t
    exact k z
  · exact h t
theorem sortS_pw (xs : List Str) : (sortS xs).Pairwise fun a b => ¬ sLt b a := by
  have := List.pairwise_mergeSort (le := fun a b : Str => !decide (sLt b a)) (fun a b c h k => by
    simp only [Bool.not_eq_true', decide_eq_false_iff_not] at h k ⊢
    exact nlt_trans h k) (fun a b => by
    rw [Bool.or_eq_true]
    simp only [Bool.not_eq_true', decide_eq_false_iff_not]
    by_cases z : sLt b a
    · exact .inr (sLt_asymm z)
    · exact .inl z) xs
  exact this.imp fun h => by
    simp only [Bool.not_eq_true', decide_eq_false_iff_not] at h
    exact h
theorem sortS_asc {xs : List Str} (nd : xs.Nodup) : Asc (sortS xs) := asc_of_sorted (sortS_pw xs) ((sortS_perm xs).nodup_iff.mpr nd)
theorem sort_uniq {xs ys : List Str} (p : ys.Perm xs) (s : ys.Pairwise fun a b => ¬ sLt b a) (nd : xs.Nodup) : ys = sortS xs :=
  asc_unique (asc_of_sorted s (p.nodup_iff.mpr nd)) (sortS_asc nd) fun z => by rw [p.mem_iff, (sortS_perm xs).mem_iff]
theorem nbrF_nodup {ns : List Str} {es : List (Str × Str)} (ok : GrOk ns es) (x : Str) : (nbrF es x).Nodup := by
  unfold nbrF
  rw [List.nodup_iff_pairwise_ne, List.pairwise_flatMap]
  have m : ∀ {e : Str × Str} {z : Str}, z ∈ (if e.1 = x then [e.2] else []) ++ (if e.2 = x then [e.1] else []) → (e.1 = x ∧ z = e.2) ∨ (e.2 = x ∧ z = e.1) := by
    intro e z h
    rcases List.mem_append.mp h with h | h
    · split at h
      · rename_i c
        exact .inl ⟨c, by simpa using h⟩
      · cases h
    · split at h
      · rename_i c
        exact .inr ⟨c, by simpa using h⟩
      · cases h
  refine ⟨fun e he => ?_, ?_⟩
  · by_cases c : e.1 = x
    · have c2 : ¬ e.2 = x := fun z => by
        have := ok.lt e he
        rw [c, z] at this
        exact sLt_irrefl _ this
      rw [if_pos c, if_neg c2]
      simp
    · rw [if_neg c]
      split <;> simp
  · have nd := List.nodup_iff_pairwise_ne.mp (ascE_nodup ok.asc)
    refine List.Pairwise.imp_of_mem (fun {e d} he hd ne => ?_) nd
    intro z hz y hy zy
    subst zy
    have le := ok.lt e he
    have ld := ok.lt d hd
    rcases m hz with ⟨a1, a2⟩ | ⟨a1, a2⟩ <;> rcases m hy with ⟨b1, b2⟩ | ⟨b1, b2⟩
    · exact ne (Prod.ext (a1.trans b1.symm) (a2.symm.trans b2))
    · rw [a1, ← a2] at le
      rw [b1, ← b2] at ld
      exact sLt_asymm le ld
    · rw [a1, ← a2] at le
      rw [b1, ← b2] at ld
      exact sLt_asymm le ld
    · exact ne (Prod.ext (a2.symm.trans b2) (a1.trans b1.symm))
def nbS (es : List (Str × Str)) (x : Str) : List Str := sortS (nbrF es x)
theorem nbS_mem {es : List (Str × Str)} {x z : Str} : z ∈ nbS es x ↔ (x, z) ∈ es ∨ (z, x) ∈ es := by
  unfold nbS
  rw [(sortS_perm _).mem_iff]
  exact mem_nbrF
theorem nbS_of {ns : List Str} {es : List (Str × Str)} {x : Str} {ys : List Str} (ok : GrOk ns es) (p : ys.Perm (nbrF es x)) (s : ys.Pairwise fun a b => ¬ sLt b a) : ys = nbS es x := sort_uniq p s (nbrF_nodup ok x)
theorem nbS_in {ns : List Str} {es : List (Str × Str)} (ok : GrOk ns es) {x y : Str} (h : y ∈ nbS es x) : y ∈ ns := by
  rcases nbS_mem.mp h with h | h
  · exact (ok.mem _ h).2
  · exact (ok.mem _ h).1
end U

/-! d.update(e); lists of texts compared; the last but one -/
namespace U
open PySem PySem.Spec PyProof.Rows L2
def rDUpd : V → List V → Hp → VK → Prop := fun x vs H Q => ∃ (a b : Addr) (kvs more : List (Key × V)), x = .ref a ∧ vs = [.ref b] ∧ a ≠ b ∧ H a = some (.dK kvs) ∧ H b = some (.dK more) ∧ kvs.length + more.length ≤ 100000 ∧ Q .non (upd H a (.dK (mergeK kvs more)))
theorem mtd_update {X : Cx} : MtR X "dict.update" rDUpd := by
  intro pins s σ H x vs v us Q I rx rv h
  obtain ⟨a, b, kvs, more, rfl, rfl, hab, ha, hb, hl, q⟩ := h
  obtain rfl : v = Value.ref a := rx
  cases rv with
  | cons r rr =>
    cases rr
    cases r
    obtain ⟨la, na, vs1, rel1, d1⟩ := dk_of I.hok ha
    obtain ⟨lb, nb, vs2, rel2, d2⟩ := dk_of I.hok hb
    have l1 := rel1.length
    have l2 := rel2.length
    have big : kvs.length + more.length ≤ sizeLine := Nat.le_trans hl (by decide)
    refine call_meetsIn PySem.F.slot_dict_update d1.typeIs PySem.F.entry_dict_update (PySem.F.args_dict_update_2 _ _) (meets_dict_update (mixKind X.prog X.w) a b hab nb) ⟨vs1, vs2, d1, d2, by rw [← l1, ← l2]; exact big, fun h' dd' _ hs => ?_⟩
    have he : ∃ q, h'.get? a = some q := let ⟨q, _, _, hq, _⟩ := dd'; ⟨q, hq⟩
    exact ⟨.non, _, d_write (t' := s.toks) I (by rw [ha]; exact True.intro) hs he (dk_new (Nat.le_trans (length_mergeK more kvs) big) na (KV.merge rel2 rel1) dd'), rfl, q⟩
/-! lists of texts compared -/
theorem eqvAll_strs : ∀ (xs ys : List Str), PyData.eqvAll (xs.map PyData.str) (ys.map PyData.str) = decide (xs = ys)
  | [], [] => by simp [PyData.eqvAll]
  | [], y :: ys => by simp [PyData.eqvAll]
  | x :: xs, [] => by simp [PyData.eqvAll]
  | x :: xs, y :: ys => by
    rw [List.map_cons, List.map_cons, PyData.eqvAll, eqvAll_strs xs ys]
    by_cases e : x = y
    · subst e
      simp [PyData.eqv]
    · simp [PyData.eqv, e]
theorem canLay_strs : ∀ {xs : List Str}, (∀ x ∈ xs, PyData.strOk x = true) → PyData.canLayAll0 (xs.map PyData.str) = true
  | [], _ => by simp [PyData.canLayAll0]
  | x :: xs, h => by
    rw [List.map_cons, PyData.canLayAll0, PyData.canLay0, h x List.mem_cons_self, canLay_strs fun y hy => h y (List.mem_cons_of_mem _ hy)]
    rfl
theorem depth_strs : ∀ {xs : List Str}, PyData.depthAll (xs.map PyData.str) = 0
  | [] => by simp [PyData.depthAll]
  | x :: xs => by
    rw [List.map_cons, PyData.depthAll, PyData.depth, depth_strs]
    rfl
theorem shaped_strs {xs : List Str} (h : ∀ x ∈ xs, PyData.strOk x = true) : SeqAt.shaped (.list (xs.map PyData.str)) = true := by
  unfold SeqAt.shaped
  rw [PyData.canLay0, canLay_strs h, PyData.depth, depth_strs]
  rfl
section
variable {K : PySem.W.Frag} {H : Hp} {Q : VK} {p q : Addr} {x y : V} {d : PyData} {xs ys : List Str}
theorem rd_neSL (hp : SqL K H p (xs.map V.str)) (hq : SqL K H q (ys.map V.str)) (ox : ∀ x ∈ xs, PyData.strOk x = true) (oy : ∀ x ∈ ys, PyData.strOk x = true) (h : Q (.bl (!decide (xs = ys))) H) : rNeU K (.ref p) (.ref q) H Q := by
  refine ⟨_, _, .lst hp (dp_strs _), .lst hq (dp_strs _), shaped_strs ox, shaped_strs oy, ?_⟩
  rw [PyData.eqv, eqvAll_strs]
  exact h
theorem rd_eqSL (hp : SqL K H p (xs.map V.str)) (hq : SqL K H q (ys.map V.str)) (ox : ∀ x ∈ xs, PyData.strOk x = true) (oy : ∀ x ∈ ys, PyData.strOk x = true) (h : Q (.bl (decide (xs = ys))) H) : rEqU K (.ref p) (.ref q) H Q := by
  refine ⟨_, _, .lst hp (dp_strs _), .lst hq (dp_strs _), shaped_strs ox, shaped_strs oy, ?_⟩
  rw [PyData.eqv, eqvAll_strs]
  exact h
/-- the same data twice -/
theorem rd_neSame (hp : Dp K H (.ref p) d) (hq : Dp K H (.ref q) d) (sh : SeqAt.shaped d = true) (h : Q (.bl false) H) : rNeU K (.ref p) (.ref q) H Q := by
  refine ⟨_, _, hp, hq, sh, sh, ?_⟩
  rw [SeqAt.eqv_refl _ (SeqAt.canLay_of_shaped sh)]
  exact h
theorem rd_eqSame (hp : Dp K H (.ref p) d) (hq : Dp K H (.ref q) d) (sh : SeqAt.shaped d = true) (h : Q (.bl true) H) : rEqU K (.ref p) (.ref q) H Q := by
  refine ⟨_, _, hp, hq, sh, sh, ?_⟩
  rw [SeqAt.eqv_refl _ (SeqAt.canLay_of_shaped sh)]
  exact h
end
end U

/-! exceptions that outlive their handler; own classes over own classes -/
namespace U
open PySem PySem.Spec PyProof.Rows L2
/-- at a: an exception of the class cls, its dict at d -/
def exk (a : Addr) (cls : Value) (d : Option Addr) : HO := .ext fun h => ∃ oe vs, h.get? a = some oe ∧ Zc cls d oe ∧ oe.data = .fields vs
theorem exk_ok {P : Program} {w : World} {H : Hp} {h : Heap} {a : Addr} {cls : Value} {d : Option Addr} {oe : Obj} {vs : Array Value} (e : h.get? a = some oe) (z : Zc cls d oe) (f : oe.data = .fields vs) : ObjOk P w H h a (exk a cls d) := by
  refine ⟨⟨oe, vs, e, z, f⟩, ⟨_, e⟩, fun h1 h2 t k => ?_⟩
  obtain ⟨o2, v2, e2, z2, f2⟩ := t
  exact ⟨o2, v2, k _ e2, z2, f2⟩
theorem exk_at {P : Program} {w : World} {H : Hp} {h : Heap} {a : Addr} {cls : Value} {d : Option Addr} (hok : HOk P w H h) (e : H a = some (exk a cls d)) : ∃ oe vs, h.get? a = some oe ∧ Zc cls d oe ∧ oe.data = .fields vs := by
  have t : ObjOk P w H h a (.ext fun h => ∃ oe vs, h.get? a = some oe ∧ Zc cls d oe ∧ oe.data = .fields vs) := hok a _ e
  exact t.1
section
variable {X : Cx} {pins : List (Addr × Obj)} {σ : L2.St} {H : Hp} {sI s' : Shared} {B : Heap} {a : Addr} {cls : Value} {d : Option Addr} {oe : Obj} {vs : Array Value}
/-- back on the ground, the exception tracked -/
theorem landed_k (I : Inv X pins σ H sI) (nb : ∀ b o, sI.heap.get? b = some o → b ∉ frs X.stack → B.get? b = some o) (st : B.StaysIn s'.heap) (up : sI.heap.UpToSlots s'.heap) (os : s'.os = sI.os) (ag : AllBare s'.gens)
    (hB : B.get? a = none) (nfr : a ∉ frs X.stack) (na : H a = none) (he : s'.heap.get? a = some oe) (hz : Zc cls d oe) (hd : oe.data = .fields vs) : Inv X pins σ (upd H a (exk a cls d)) s' := by
  have fr : ∀ b ∈ frs X.stack, ∀ o, sI.heap.get? b = some o → ∃ sl, s'.heap.get? b = some { o with slots := sl } := by
    intro b hb o e
    obtain ⟨_, o1, e1, h1⟩ := I.stack.mem hb
    rw [e] at e1
    cases e1
    exact up b o e h1
  have sIa : ∀ o, sI.heap.get? a ≠ some o := fun o e => by
    rw [nb a o e nfr] at hB
    cases hB
  have ok1 : HOk X.prog X.w H s'.heap := (I.inGround nb).kept st
  have ok2 : HOk X.prog X.w (upd H a (exk a cls d)) s'.heap := by
    intro b o e
    by_cases hb : b = a
    · subst hb
      rw [upd_same] at e
      cases e
      exact exk_ok he hz hd
    · rw [upd_ne hb] at e
      exact (ok1 b o e).stay (fun c v _ q => q) (fun c q => at_upd (ne_of_none q na) q) fun c xs q => at_upd (ne_of_none q na) q
  have J := I.call (ch := []) (h' := s'.heap) (g' := s'.gens) (t' := s'.toks) (d' := s'.drawn) (H' := upd H a (exk a cls d))
    { keep := fun b o e _ hb _ => st b o (nb b o e hb)
      slot := fun b o e _ hb _ => fr b hb o e
      free := fun b o e n _ => no_upd (fun z => sIa o (by rw [← z]; exact e)) n
      there := fun b o e _ => by
        by_cases hb : b ∈ frs X.stack
        · obtain ⟨sl, q⟩ := fr b hb o e
          exact ⟨_, q⟩
        · exact ⟨o, st b o (nb b o e hb)⟩
      tups := fun _ _ e => at_upd (ne_of_none e na) e
      frzs := fun _ _ _ e => at_upd (ne_of_none e na) e
      tbls := fun b ps e => ⟨#[], by rw [at_upd (ne_of_none e na) e]; simp⟩ } ok2 ag (fun _ z => nomatch z)
  obtain ⟨b1, b2, b3, b4, b5⟩ := s'
  have e5 : b5 = sI.os := os
  subst e5
  exact J
end
/-- the wish of 'except x as n', the exception tracked: slot i is n's -/
def wKeep (K : PySem.W.Frag) (c : Value) (i : Nat) (ts : TS) (Wout : WX) (D : Ends) : WX := fun cls d σ H =>
  ∃ b, PySem.W.exmOne K cls c = some b ∧ (b = false → Wout cls d σ H) ∧
    (b = true → ∀ a, H a = none → ts { nx := fun σ1 H1 => D.nx (σ1.set i none) H1, rt := D.rt, bk := fun σ1 H1 => D.bk (σ1.set i none) H1, ct := fun σ1 H1 => D.ct (σ1.set i none) H1 } (σ.set i (some (.ref a))) (upd H a (exk a cls d)))
section
variable {X : Cx} {x n : Str} {c : Value} {i : Nat} {body suite : List Stmt} {b₀ : Stmt} {np pos pos' : Pos} {tb : WX → TS} {ts : TS} {Wout : WX}
theorem ps_try_keep (hs : X.stack = X.env :: X.outer) (hf : X.env.frame = some X.env.locals) (hN : X.N.Nodup) (hi : X.N[i]? = some n) (hln : X.env.kindOf n = some .local) (hc : L2.Names X x c) (tk : Takes X Wout)
    (hb : ∀ (W : WX) (pn : List (Addr × Obj)) (xe : Value → Shared → Prop), Takes (X.tr pn xe) W → PassesOwn (model X.prog X.w) X.A X.env xe → PSs (X.tr pn xe) body (tb W))
    (hsu : ∀ (a : Addr) (pn : List (Addr × Obj)), PSs (X.suite a pn) (b₀ :: suite) ts) :
    PS X (.Try body [.ExceptHandler (some (.Name x np)) (some n) (b₀ :: suite) pos'] [] [] pos) (fun D σ H => tb (wKeep X.K c i ts Wout D) D σ H) := by
  refine ⟨fun pins s σ H D I want => ?_⟩
  have okX := I.ok
  have frX : X.A.frames = some (X.env :: X.outer) := by rw [okX.frames, hs]
  refine wpAny_Try_except ?_
  have run := (hb (wKeep X.K c i ts Wout D) (X.pn ++ pins) (fun e t1 => wpAny (model X.prog X.w) X.A (noteFrame e X.env) (fun _ t2 => wpAny (model X.prog X.w) X.A (setFlight e none) (fun _ t3 =>
    wpAny (model X.prog X.w) X.A (handleBy e X.env [.ExceptHandler (some (.Name x np)) (some n) (b₀ :: suite) pos']) (SP X pins D) X.xe t3) X.xe t2) X.xe t1) ?_ PassesOwn.looking).run [] s σ H D (I.toTry _) want
  · refine wpAny_mono run (fun f t1 h => ?_) fun _ _ z => z
    cases f with
    | next =>
      obtain ⟨σ1, H1, J, q⟩ := h
      exact wpAny_execs_nil ⟨σ1, H1, J.ofTry okX, q⟩
    | brk =>
      obtain ⟨σ1, H1, J, q⟩ := h
      exact ⟨σ1, H1, J.ofTry okX, q⟩
    | cont =>
      obtain ⟨σ1, H1, J, q⟩ := h
      exact ⟨σ1, H1, J.ofTry okX, q⟩
    | ret v =>
      obtain ⟨v1, σ1, H1, J, r, q⟩ := h
      exact ⟨v1, σ1, H1, J.ofTry okX, r, q⟩
  · intro u t0 xx
    obtain ⟨a, B, sI, pins1, σ1, H1, cls, d, rfl, J1, nb, up, sky, na, os, ag, b, hb1, hno, hyes⟩ := xx
    have J : Inv X pins σ1 H1 sI := J1.ofTry okX
    have sky1 : Sky B (X.env :: X.outer) a (Zc cls d) X.env.locals t0.heap := by rw [← hs]; exact sky
    show wpAny (model X.prog X.w) X.A (noteFrame (.ref a) X.env) _ _ _
    refine Sky.land Zc.steady frX hf sky1 fun h3 fl3 up3 => ?_
    have J3 : Inv X pins σ1 H1 { t0 with heap := h3 } := J.landed nb fl3.1 (up.trans up3) os ag
    obtain ⟨oe3, vs3, he3, hz3, hd3⟩ := fl3.there
    have off : ∀ {h : Heap} {o : Obj} {vs : Array Value}, h.FunFrames B (X.env :: X.outer) → h.get? a = some o → o.data = .fields vs → a ∉ frs (X.env :: X.outer) := by
      intro h o vs ff e dd hm
      obtain ⟨_, o1, e1, hnf⟩ := ff.mem hm
      rw [e] at e1
      cases e1
      exact hnf _ dd
    have nfr := off fl3.2.2.1 he3 hd3
    have nL : a ≠ X.env.locals := fun z => nfr (List.mem_filterMap.mpr ⟨X.env, List.mem_cons_self, by rw [hf, z]⟩)
    have nF : a ∉ X.fs := by
      intro hm
      obtain ⟨e, he, q⟩ := List.mem_filterMap.mp hm
      exact nfr (List.mem_filterMap.mpr ⟨e, List.mem_cons_of_mem _ he, q⟩)
    have S3 := J3.suite he3 hd3 na nL nF
    refine wpAny_handleBy_cons (codeAny_handlers_test ?_) (by intro q; cases q)
    have LT : PySem.W.Looks (model X.prog X.w) h3 (typeOf (.ref a)) cls := fun A Q E s k q => wpAny_typeOf_ref (k _ _ he3) (by rw [hz3.1]; exact q)
    have LM := PySem.W.exm_one (M := model X.prog X.w) (J3.kIn) LT hb1
    have named : ∀ {Q E : Value → Shared → Prop}, Q c { t0 with heap := h3 } → wpAny (model X.prog X.w) (X.A.mark (some (.ref a))) (eval (.Name x np) X.env) Q E { t0 with heap := h3 } := by
      intro Q E q
      obtain ⟨hg, hdbg, hm | ⟨hm, hv, hnn⟩⟩ := hc
      · exact ld_glob (X := X.suite a ((a, oe3) :: (X.pn ++ pins))) S3 hg hm q hdbg
      · exact ld_blt (X := X.suite a ((a, oe3) :: (X.pn ++ pins))) S3 hg hm hv q hnn hdbg
    refine named (LM.here ?_)
    cases b with
    | false =>
      show wpAny _ X.A (handleBy (.ref a) X.env []) _ _ _
      refine wpAny_handleBy_nil ?_
      obtain ⟨k1, k2, k3, oe, vs, T, oT, ts1, he, hz, hd, h1, hr⟩ := id fl3
      unfold PySem.passOn
      refine wpAny_bind (wpAny_field he hd h1 ?_)
      rw [if_neg (show ¬ ((Value.ref T == Value.none) = true) from by simp)]
      have onward : wpAny (model X.prog X.w) X.A (setFlight (.ref a) X.env.frame) (fun _ s4 => wpAny (model X.prog X.w) X.A (throw (.ref a) : Sem Flow) (SP X pins D) X.xe s4) X.xe { t0 with heap := h3 } := by
        rw [hf]
        refine HandSPX.setFlight_upZ fl3 fun h4 hh4 up4 => wpAny_throw (tk _ _ ?_)
        exact ⟨a, B, sI, pins, σ1, H1, cls, d, rfl, J, nb, (up.trans up3).trans up4, .inr (.inr (by rw [hs]; exact hh4)), na, os, ag, hno rfl⟩
      first
        | exact wpAny_bind (wpAny_pure (wpAny_bind onward))
        | exact wpAny_bind onward
    | true =>
      refine codeAny_handlers_suite_as ?_
      refine HandSPX.lands_againZ fl3 fun h4 fl4 up4 => ?_
      obtain ⟨oe4, vs4, he4, hz4, hd4⟩ := fl4.there
      have J4 : Inv X pins σ1 (upd H1 a (exk a cls d)) { t0 with heap := h4 } := landed_k J nb fl4.1 ((up.trans up3).trans up4) os ag fl4.2.1 (by rw [hs]; exact nfr) na he4 hz4 hd4
      have S4 : Inv (X.suite a (X.pn ++ pins)) [] σ1 (upd H1 a (exk a cls d)) { t0 with heap := h4 } :=
        ⟨J4.ok.suite _ _, J4.os, J4.bare, J4.base, J4.loc, J4.cell, J4.free, J4.freeC, fun p hp => J4.pin p (by rw [List.append_nil] at hp; exact hp), J4.hok, J4.len⟩
      refine store_ok (X := X.suite a (X.pn ++ pins)) (v := .ref a) S4 hN hi (.inl hln) rfl (fun s5 S5 => ?_) (.inr hln)
      refine wpAny_mono ((hsu a (X.pn ++ pins)).run [] s5 _ _ _ S5 (hyes rfl a na)) (fun f s6 hsp => ?_) (fun _ _ z => False.elim z)
      have back : ∀ {σ6 : L2.St} {H6 : Hp}, Inv (X.suite a (X.pn ++ pins)) [] σ6 H6 s6 → Inv X pins σ6 H6 s6 := fun S =>
        ⟨okX, S.os, S.bare, S.base, S.loc, S.cell, S.free, S.freeC, fun p hp => S.pin p (List.mem_append_left _ hp), S.hok, S.len⟩
      have over : ∀ {σ6 : L2.St} {H6 : Hp} {Q : Shared → Prop}, Inv (X.suite a (X.pn ++ pins)) [] σ6 H6 s6 → (∀ s7, Inv X pins (σ6.set i none) H6 s7 → Q s7) →
          wpAny (model X.prog X.w) X.A (do bindName X.env n .none; unbindBehindTheSuite X.env n pos') (fun _ s7 => Q s7) X.xe s6 := fun S6 hq => gone_ok (back S6) hN hi hln hq
      cases f with
      | next =>
        obtain ⟨σ6, H6, S6, q6⟩ := hsp
        exact over S6 fun s7 J7 => ⟨_, _, J7, q6⟩
      | brk =>
        obtain ⟨σ6, H6, S6, q6⟩ := hsp
        exact over S6 fun s7 J7 => ⟨_, _, J7, q6⟩
      | cont =>
        obtain ⟨σ6, H6, S6, q6⟩ := hsp
        exact over S6 fun s7 J7 => ⟨_, _, J7, q6⟩
      | ret v =>
        obtain ⟨v6, σ6, H6, S6, r6, q6⟩ := hsp
        exact over S6 fun s7 J7 => ⟨_, _, _, J7, r6, q6⟩
end
/-! e.f of a tracked exception -/
def tXk (K : PySem.W.Frag) (f : Str) (te : TE) : TE := fun σ H Q => te σ H fun x H1 => ∃ (a C dd : Addr) (fs : List (Str × V)) (v : V), x = .ref a ∧ H1 a = some (exk a (.ref C) (some dd)) ∧ XfC K C ∧ PySem.W.findIn K (.ref C) f = some none ∧ H1 dd = some (.xd fs) ∧ fs.lookup f = some v ∧ Q v H1
theorem pe_xk {X : Cx} {e : Expr} {te : TE} {pos : Pos} {n : Str} (he : PE X e te) (hb : attributeBase e n X.env (eval e X.env) = eval e X.env := by rfl) : PE X (.Attribute e n pos) (tXk X.K n te) := by
  refine ⟨fun pins s σ H Q I want => attr_of hb (thn (he.run pins s σ H _ I want) fun u s1 got => ?_)⟩
  obtain ⟨x, H1, I1, rx, a, C, dd, fs, v, rfl, hk, T, hno, hdd, hl, q⟩ := got
  obtain rfl : u = Value.ref a := rx
  obtain ⟨oe, vs, h1, hz, hd⟩ := exk_at I1.hok hk
  have hx : ObjOk X.prog X.w H1 s1.heap dd (.xd fs) := I1.hok dd _ hdd
  obtain ⟨mA, hns, hr⟩ := hx
  obtain ⟨od, ho, hl2⟩ := lookIn_ns hns
  obtain ⟨u2, hu, ru⟩ := RelO.some_of (v := v) (o := mA n) (by rw [← hl]; exact hr n)
  have J : PySem.W.InstAt s1.heap a oe C (some od) := by
    refine ⟨h1, hz.1, ?_, ?_⟩
    · unfold PySem.W.notCls
      rw [hd] <;> rfl
    · rw [hz.2]
      exact ho
  exact HandSPX.exc_get I1.kIn J T.ga T.gg T.exC (PySem.W.findObj_own T.hdC hno rfl (by rw [hl2, hu])) (handed_of ru) ⟨v, H1, I1.tok _, ru, q⟩
/-! Base.__init__(self, ..), Base an own class over ValueError with no __init__ of its own -/
structure BaseI (K : PySem.W.Frag) (CB : Addr) : Prop where
  kp : PySem.W.keepIn K (.ref CB) = true
  ga : PySem.W.specialIn K (.ref CB) "__getattribute__" = some (some (.builtin "type.__getattribute__"))
  rd : PySem.W.readsIn K CB (.type "type") = true
  at_ : PySem.W.findCls K (.ref CB) (.type "type") "__init__" = some (.val (.builtin "ValueError.__init__"))
theorem pe_binit {X : Cx} {x : Str} {CB : Addr} {e : Expr} {es : List Expr} {ta : TA} {p1 p2 pos : Pos} {pl : Sem Bool} (hg : Gl X x) (hm : X.mg x = some (.ref CB)) (T : BaseI X.K CB) (ha : PA X (e :: es) ta)
    (hc : eval (.Call (.Attribute (.Name x p1) "__init__" p2) (e :: es) [] pos) X.env = (do
      let ov ← eval (.Name x p1) X.env
      standAt p2.atName
      let (f, first) ← holding [ov] (getMethod ov "__init__" pl)
      callWith pos f first (backTo pos (starEach (e :: es) X.env)) (backToKw pos (keywordEach [] X.env))) := by rfl)
    (hdb : (x == ("__debug__" : Str)) = false := by decide)
    (he : starEach (e :: es) X.env = (false, eval e X.env) :: starEach es X.env := by rfl) (hpl : (backTo pos (starEach es X.env)).any (·.1) = false := by rfl) :
    PE X (.Call (.Attribute (.Name x p1) "__init__" p2) (e :: es) [] pos) (tVeI X.K ta) := by
  refine ⟨fun pins s σ H Q I want => ?_⟩
  refine PySem.W.methodCall_KW (ld_glob I hg hm ?_ hdb) hc
  refine PySem.W.method_cls I.kIn T.ga (PySem.W.cls_value I.kIn T.rd T.at_ (by decide +kernel) ?_)
  show wpAny _ _ (callWith pos (Value.builtin "ValueError.__init__") [] (backTo pos (starEach (e :: es) X.env)) []) _ _ _
  refine PyProof.Rows.callWith_method1 (thn (ha.run pos pins _ σ H _ (I.tok _) want) fun us s1 ⟨vs, H1, I1, r1, a, C, ws, ev, hl, O, ea, q⟩ => ?_) he hpl
  subst ev
  cases r1 with
  | @cons _ u0 _ ur ra rest =>
    obtain rfl : u0 = Value.ref a := ra
    have few : ur.length ≤ sizeLine := by
      rw [← Paired.length rest, sizeLine_eq]
      omega
    exact oinit_ok O I1 ea few fun s2 J => ⟨.non, H1, J, rfl, q⟩
end U

/-! small readings that many laws want -/
namespace U
open PySem PySem.Spec PyProof.Rows L2
section
variable {K : PySem.W.Frag} {H H' : Hp} {Q : VK} {p q a : Addr} {σ : L2.St} {te td : TE} {tr : TA} {xs : List V}
theorem rd_tyD {kvs : List (Key × V)} {P : Prop} (hs : H p = some (.dK kvs)) (h : P) : tyV K "dict" (.ref p) H ∧ P := ⟨.inr (.inr (.inl ⟨rfl, .inl ⟨kvs, hs⟩⟩)), h⟩
theorem rd_clr {kvs : List (Key × V)} (hs : H p = some (.dK kvs)) (h : Q .non (upd H p (.dK []))) : rDClear (.ref p) [] H Q := ⟨p, kvs, rfl, rfl, hs, h⟩
theorem rd_neKF {ord : List Str} {f g : Str → Int} (h1 : H p = some (.dK (kvF ord f))) (h2 : H q = some (.dK (kvF ord g))) (e : ∀ n ∈ ord, f n = g n) (h : Q (.bl false) H) : rNeDA (.ref p) (.ref q) H Q := by
  refine ⟨p, q, _, _, rfl, rfl, h1, h2, by rw [List.length_map, List.length_map], fun x hx => ?_, h⟩
  obtain ⟨n, hn, rfl⟩ := List.mem_map.mp hx
  exact ⟨by rw [kvF_val hn, e n hn], rfl⟩
theorem rd_lstS {tr : TA} (h : tr σ H fun xs H1 => xs.length ≤ sizeLine ∧ ∀ p, H1 p = none → (p == sysModules) = false → Q (.ref p) (upd H1 p (.lst xs))) : tLstS tr σ H Q := h
theorem rd_revL (h : te σ H fun x H1 => ∃ a xs, x = .ref a ∧ SqL K H1 a xs ∧ ∀ p, H1 p = none → Q (.ref p) (upd H1 p (.lst xs.reverse))) : tRevL K te σ H Q := h
theorem rd_iVals {R : It → Hp → Prop} (h : td σ H fun x H1 => ∃ d o kvs, x = .ref d ∧ H1 d = some (.frz o (.dK kvs)) ∧ R (Itd d o kvs) H1) : iVals td σ H R := h
theorem rd_tXk {f : Str} (h : te σ H fun x H1 => ∃ (a C dd : Addr) (fs : List (Str × V)) (v : V), x = .ref a ∧ H1 a = some (exk a (.ref C) (some dd)) ∧ XfC K C ∧ PySem.W.findIn K (.ref C) f = some none ∧ H1 dd = some (.xd fs) ∧ fs.lookup f = some v ∧ Q v H1) : tXk K f te σ H Q := h
theorem Same.sqL (s : Same H H') (h : SqL K H a xs) : SqL K H' a xs := by
  rcases h with (h | ⟨o, h⟩) | h
  · exact .inl (.inl (s _ _ h))
  · exact .inl (.inr ⟨o, s _ _ h⟩)
  · exact .inr h
theorem seqL_keep (h : SqL K H a xs) (np : H p = none) (b : But p H H') : SqL K H' a xs := by
  rcases h with (h | ⟨o, h⟩) | h
  · exact .inl (.inl (b _ _ (ne_of_none h np) h))
  · exact .inl (.inr ⟨o, b _ _ (ne_of_none h np) h⟩)
  · exact .inr h
end
theorem lk_one {k : Str} {v : V} : List.lookup k [(k, v)] = some v := by
  have e : (k == k) = true := beq_self_eq_true k
  simp only [List.lookup, e]
theorem merge_kvF {h : Str → Int} : ∀ {b a : List Str}, (a ++ b).Nodup → mergeK (kvF a h) (kvF b h) = kvF (a ++ b) h
  | [], a, _ => by rw [List.append_nil]; rfl
  | n :: b, a, nd => by
    have nn : n ∉ a := by
      rw [List.nodup_append] at nd
      exact fun z => nd.2.2 n z n List.mem_cons_self rfl
    have e : mergeK (kvF a h) (kvF (n :: b) h) = mergeK (putK (kvF a h) (.inr n) (.int (h n))) (kvF b h) := rfl
    have u : updf h n (h n) = h := by
      funext x
      unfold updf
      by_cases z : x = n
      · rw [if_pos z, z]
      · rw [if_neg z]
    rw [e, kvF_new nn, u, merge_kvF (by rw [List.append_assoc]; exact nd), List.append_assoc]
    rfl
theorem merge_all {ns : List Str} {h : Str → Int} (nd : ns.Nodup) : mergeK [] (kvF ns h) = kvF ns h := by
  have mk := merge_kvF (a := []) (b := ns) (h := h) (by rw [List.nil_append]; exact nd)
  rw [List.nil_append] at mk
  exact mk
theorem paired_mono {α β : Type} {F G : α → β → Prop} (k : ∀ a b, F a b → G a b) : ∀ {xs : List α} {ys : List β}, Paired F xs ys → Paired G xs ys
  | _, _, .nil => .nil
  | _, _, .cons h t => .cons (k _ _ h) (paired_mono k t)
theorem kvF_app {a : List Str} {x : Str} {h : Str → Int} : kvF (a ++ [x]) h = kvF a h ++ [(.inr x, .int (h x))] := List.map_append
theorem but_lk {H2 : Hp} {d D t : Addr} {X o l : HO} (ft : H2 t = none) : But D (upd H2 d X) (upd (upd (upd H2 t o) D l) d X) := fun b o' nb hb => by
  by_cases e : b = d
  · subst e
    rw [upd_same] at hb ⊢
    exact hb
  · rw [upd_ne e] at hb ⊢
    rw [upd_ne nb]
    exact at_upd (ne_of_none hb ft) hb
theorem key_at {ns : List Str} {h : Str → Int} {j : Nat} {k1 : Key} {v1 : V} (hin : j < ns.length) (e1 : (kvF ns h)[j]? = some (k1, v1)) : k1 = .inr ns[j] ∧ v1 = .int (h ns[j]) := by
  rw [kvF, List.getElem?_map, List.getElem?_eq_getElem hin] at e1
  have := Option.some.inj e1
  exact ⟨(Prod.mk.inj this).1.symm, (Prod.mk.inj this).2.symm⟩
theorem cutV_from {xs : List V} {i : Nat} (h : i ≤ xs.length) : cutV xs (some (i : Int)) none = xs.drop i := by
  unfold cutV HT.sIx
  simp only
  rw [if_neg (by omega), Int.toNat_natCast, Nat.min_eq_left h]
  exact List.take_of_length_le (by rw [List.length_drop]; omega)
end U

/-! a pair among pairs; lists of lists of texts -/
namespace U
open PySem PySem.Spec PyProof.Rows L2
def rNinT (K : PySem.W.Frag) : R2 := fun x y H Q => ∃ (d : PyData) (ds : List PyData), Dp K H x d ∧ Dp K H y (.tuple ds) ∧ SeqAt.shaped d = true ∧ SeqAt.shaped (.tuple ds) = true ∧ Q (.bl (!ds.any fun z => PyData.eqv z d)) H
theorem kNinT {X : Cx} (K : PySem.W.Frag) (hK : X.K = K) (hu : X.A.units + 65 < cLine) : OpR X (compareOp .NotIn) (rNinT K) := by
  subst hK
  intro pins s σ H x y v u Q I rx ry ⟨d, ds, hd, he, sd, se, q⟩
  obtain ⟨_, r1⟩ := Dp.reads I _ _ _ hd rx
  obtain ⟨_, r2⟩ := Dp.reads I _ _ _ he ry
  exact SeqAt.notIn_tuple_reads r2 r1 (SeqAt.canLay_of_shaped se) (SeqAt.canLay_of_shaped sd) (room_in_shaped sd hu) ⟨.bl _, H, I, rfl, q⟩
theorem kNinL {X : Cx} (K : PySem.W.Frag) (hK : X.K = K) (hu : X.A.units + 65 < cLine) : OpR X (compareOp .NotIn) (rNotInD K) := by
  subst hK
  exact op_notInD hu
abbrev dE (e : Str × Str) : PyData := .tuple [.str e.1, .str e.2]
theorem eqv_dE {a b : Str × Str} : PyData.eqv (dE a) (dE b) = decide (a = b) := by
  obtain ⟨a1, a2⟩ := a
  obtain ⟨b1, b2⟩ := b
  rw [Bool.eq_iff_iff]
  simp [dE, PyData.eqv, PyData.eqvAll]
theorem any_dE {es : List (Str × Str)} {e : Str × Str} : ((es.map dE).any fun z => PyData.eqv z (dE e)) = decide (e ∈ es) := by
  rw [Bool.eq_iff_iff, List.any_eq_true, decide_eq_true_iff]
  constructor
  · rintro ⟨z, hz, h⟩
    obtain ⟨y, hy, rfl⟩ := List.mem_map.mp hz
    rw [eqv_dE, decide_eq_true_iff] at h
    rw [← h]
    exact hy
  · intro h
    exact ⟨_, List.mem_map_of_mem h, by rw [eqv_dE]; exact decide_eq_true rfl⟩
theorem dp_edges {K : PySem.W.Frag} {H : Hp} : ∀ {es : List (Addr × Str × Str)}, (∀ x ∈ es, SqT K H x.1 [.str x.2.1, .str x.2.2]) → DpAll K H (es.map fun x => V.ref x.1) ((es.map (·.2)).map dE)
  | [], _ => .nil
  | x :: r, h => .cons (.tup (h x List.mem_cons_self) (.cons (.str _) (.cons (.str _) .nil))) (dp_edges fun y hy => h y (List.mem_cons_of_mem _ hy))
theorem can_edges : ∀ {es : List (Str × Str)}, (∀ e ∈ es, PyData.strOk e.1 = true ∧ PyData.strOk e.2 = true) → PyData.canLayAll0 (es.map dE) = true ∧ PyData.depthAll (es.map dE) ≤ 1
  | [], _ => by simp [PyData.canLayAll0, PyData.depthAll]
  | e :: r, h => by
    obtain ⟨a, b⟩ := can_edges (es := r) fun y hy => h y (List.mem_cons_of_mem _ hy)
    obtain ⟨h1, h2⟩ := h e List.mem_cons_self
    have c : (dE e).canLay0 = true := by simp [dE, PyData.canLay0, PyData.canLayAll0, h1, h2]
    have d : (dE e).depth = 1 := by simp [dE, PyData.depth, PyData.depthAll]
    rw [List.map_cons, PyData.canLayAll0, PyData.depthAll, a, c, d]
    exact ⟨rfl, by omega⟩
theorem shaped_edge {e : Str × Str} (h : PyData.strOk e.1 = true ∧ PyData.strOk e.2 = true) : SeqAt.shaped (dE e) = true := by
  unfold SeqAt.shaped
  simp [dE, PyData.canLay0, PyData.canLayAll0, PyData.depth, PyData.depthAll, h.1, h.2]
theorem shaped_edgesT {es : List (Str × Str)} (h : ∀ e ∈ es, PyData.strOk e.1 = true ∧ PyData.strOk e.2 = true) : SeqAt.shaped (.tuple (es.map dE)) = true := by
  obtain ⟨a, b⟩ := can_edges h
  unfold SeqAt.shaped
  rw [PyData.canLay0, a, PyData.depth, decide_eq_true (by omega)]
  rfl
theorem shaped_edgesL {es : List (Str × Str)} (h : ∀ e ∈ es, PyData.strOk e.1 = true ∧ PyData.strOk e.2 = true) : SeqAt.shaped (.list (es.map dE)) = true := by
  obtain ⟨a, b⟩ := can_edges h
  unfold SeqAt.shaped
  rw [PyData.canLay0, a, PyData.depth, decide_eq_true (by omega)]
  rfl
theorem rd_ninTE {K : PySem.W.Frag} {H : Hp} {Q : VK} {p q : Addr} {e : Str × Str} {es : List (Addr × Str × Str)} (hp : SqT K H p [.str e.1, .str e.2]) (hq : SqT K H q (es.map fun x => V.ref x.1)) (pr : ∀ x ∈ es, SqT K H x.1 [.str x.2.1, .str x.2.2])
    (o1 : PyData.strOk e.1 = true ∧ PyData.strOk e.2 = true) (o2 : ∀ x ∈ es.map (·.2), PyData.strOk x.1 = true ∧ PyData.strOk x.2 = true) (h : Q (.bl (!decide (e ∈ es.map (·.2)))) H) : rNinT K (.ref p) (.ref q) H Q := by
  refine ⟨dE e, _, .tup hp (.cons (.str _) (.cons (.str _) .nil)), .tup hq (dp_edges pr), shaped_edge o1, shaped_edgesT o2, ?_⟩
  rw [any_dE]
  exact h
theorem rd_ninLE {K : PySem.W.Frag} {H : Hp} {Q : VK} {p q : Addr} {e : Str × Str} {es : List (Addr × Str × Str)} (hp : SqT K H p [.str e.1, .str e.2]) (hq : SqL K H q (es.map fun x => V.ref x.1)) (pr : ∀ x ∈ es, SqT K H x.1 [.str x.2.1, .str x.2.2])
    (o1 : PyData.strOk e.1 = true ∧ PyData.strOk e.2 = true) (o2 : ∀ x ∈ es.map (·.2), PyData.strOk x.1 = true ∧ PyData.strOk x.2 = true) (h : Q (.bl (!decide (e ∈ es.map (·.2)))) H) : rNotInD K (.ref p) (.ref q) H Q := by
  refine ⟨dE e, _, .tup hp (.cons (.str _) (.cons (.str _) .nil)), .lst hq (dp_edges pr), shaped_edge o1, shaped_edgesL o2, ?_⟩
  rw [any_dE]
  exact h
/-! lists of lists of texts -/
abbrev dLL (cs : List (List Str)) : PyData := .list (cs.map fun c => .list (c.map PyData.str))
theorem dp_LL {K : PySem.W.Frag} {H : Hp} {l : Addr} {cs : List (Addr × List Str)} (hl : SqL K H l (cs.map fun c => V.ref c.1)) (h : ∀ c ∈ cs, SqL K H c.1 (c.2.map V.str)) : Dp K H (.ref l) (dLL (cs.map (·.2))) := by
  refine .lst hl ?_
  clear hl
  induction cs with
  | nil => exact .nil
  | cons c r ih => exact .cons (.lst (h c List.mem_cons_self) (dp_strs _)) (ih fun d hd => h d (List.mem_cons_of_mem _ hd))
theorem shaped_LL {cs : List (List Str)} (h : ∀ c ∈ cs, ∀ x ∈ c, PyData.strOk x = true) : SeqAt.shaped (dLL cs) = true := by
  have key : PyData.canLayAll0 (cs.map fun c => .list (c.map PyData.str)) = true ∧ PyData.depthAll (cs.map fun c => .list (c.map PyData.str)) ≤ 1 := by
    induction cs with
    | nil => simp [PyData.canLayAll0, PyData.depthAll]
    | cons c r ih =>
      obtain ⟨a, b⟩ := ih fun d hd => h d (List.mem_cons_of_mem _ hd)
      rw [List.map_cons, PyData.canLayAll0, PyData.depthAll, PyData.canLay0, PyData.depth, canLay_strs (h c List.mem_cons_self), depth_strs, a]
      exact ⟨rfl, by omega⟩
  unfold SeqAt.shaped
  rw [dLL, PyData.canLay0, key.1, PyData.depth, decide_eq_true (by omega)]
  rfl
end U

/-! a random problem: the graph, the state, the pins -/
namespace U
open PySem PySem.Spec PyProof.Rows L2
abbrev dP (e : Int × Int) : PyData := .tuple [.int e.1, .int e.2]
theorem eqv_dP {a b : Int × Int} : PyData.eqv (dP a) (dP b) = decide (a = b) := by
  obtain ⟨a1, a2⟩ := a
  obtain ⟨b1, b2⟩ := b
  rw [Bool.eq_iff_iff]
  simp [dP, PyData.eqv, PyData.eqvAll]
theorem any_dP {es : List (Int × Int)} {e : Int × Int} : ((es.map dP).any fun z => PyData.eqv z (dP e)) = decide (e ∈ es) := by
  rw [Bool.eq_iff_iff, List.any_eq_true, decide_eq_true_iff]
  constructor
  · rintro ⟨z, hz, h⟩
    obtain ⟨y, hy, rfl⟩ := List.mem_map.mp hz
    rw [eqv_dP, decide_eq_true_iff] at h
    rw [← h]
    exact hy
  · intro h
    exact ⟨_, List.mem_map_of_mem h, by rw [eqv_dP]; exact decide_eq_true rfl⟩
theorem dp_prs {K : PySem.W.Frag} {H : Hp} : ∀ {es : List (Addr × Int × Int)}, (∀ x ∈ es, SqT K H x.1 [.int x.2.1, .int x.2.2]) → DpAll K H (es.map fun x => V.ref x.1) ((es.map (·.2)).map dP)
  | [], _ => .nil
  | x :: r, h => .cons (.tup (h x List.mem_cons_self) (.cons (.int _) (.cons (.int _) .nil))) (dp_prs fun y hy => h y (List.mem_cons_of_mem _ hy))
theorem can_prs : ∀ {es : List (Int × Int)}, PyData.canLayAll0 (es.map dP) = true ∧ PyData.depthAll (es.map dP) ≤ 1
  | [] => by simp [PyData.canLayAll0, PyData.depthAll]
  | e :: r => by
    obtain ⟨a, b⟩ := can_prs (es := r)
    have c : (dP e).canLay0 = true := by simp [dP, PyData.canLay0, PyData.canLayAll0]
    have d : (dP e).depth = 1 := by simp [dP, PyData.depth, PyData.depthAll]
    rw [List.map_cons, PyData.canLayAll0, PyData.depthAll, a, c, d]
    exact ⟨rfl, by omega⟩
theorem rd_ninLP {K : PySem.W.Frag} {H : Hp} {Q : VK} {p q : Addr} {e : Int × Int} {es : List (Addr × Int × Int)} (hp : SqT K H p [.int e.1, .int e.2]) (hq : SqL K H q (es.map fun x => V.ref x.1)) (pr : ∀ x ∈ es, SqT K H x.1 [.int x.2.1, .int x.2.2])
    (h : Q (.bl (!decide (e ∈ es.map (·.2)))) H) : rNotInD K (.ref p) (.ref q) H Q := by
  refine ⟨dP e, _, .tup hp (.cons (.int _) (.cons (.int _) .nil)), .lst hq (dp_prs pr), ?_, ?_, ?_⟩
  · unfold SeqAt.shaped
    simp [dP, PyData.canLay0, PyData.canLayAll0, PyData.depth, PyData.depthAll]
  · obtain ⟨a, b⟩ := can_prs (es := es.map (·.2))
    unfold SeqAt.shaped
    rw [PyData.canLay0, a, PyData.depth, decide_eq_true (by omega)]
    rfl
  · rw [any_dP]
    exact h
/-- values by names -/
def fV : List Str → List Int → Str → Int
  | w :: ws, v :: vs, x => if x = w then v else fV ws vs x
  | _, _, _ => 0
theorem fV_at : ∀ {ws : List Str} {vs : List Int}, ws.Nodup → ∀ (j : Nat) (h : j < ws.length) (h2 : j < vs.length), fV ws vs ws[j] = vs[j]
  | w :: ws, v :: vs, nd, 0, _, _ => if_pos rfl
  | w :: ws, v :: vs, nd, j + 1, h, h2 => by
    have nd' := List.nodup_cons.mp nd
    have h' : j < ws.length := by simpa using h
    have h2' : j < vs.length := by simpa using h2
    have ne : ws[j] ≠ w := fun z => nd'.1 (z ▸ List.getElem_mem h')
    show (if ws[j] = w then v else fV ws vs ws[j]) = vs[j]
    rw [if_neg ne]
    exact fV_at nd'.2 j h' h2'
theorem getD_l {xs ys : List Int} {i : Nat} (h : i < xs.length) : (xs ++ ys).getD i 0 = xs.getD i 0 := by
  rw [List.getD_eq_getElem?_getD, List.getD_eq_getElem?_getD, List.getElem?_append_left h]
theorem getD_end {xs : List Int} {v : Int} : (xs ++ [v]).getD xs.length 0 = v := by
  rw [List.getD_eq_getElem?_getD, List.getElem?_append_right (Nat.le_refl _), Nat.sub_self]
  rfl
/-- pairs of places, each once, with other values -/
structure PrOk (vals : List Int) (prs : List (Nat × Nat)) : Prop where
  nd : prs.Nodup
  ok : ∀ x ∈ prs, x.1 < x.2 ∧ x.2 < vals.length ∧ vals.getD x.1 0 ≠ vals.getD x.2 0
theorem PrOk.nil {vals : List Int} : PrOk vals [] := ⟨List.nodup_nil, fun x h => nomatch h⟩
theorem PrOk.val {vals : List Int} {prs : List (Nat × Nat)} {v : Int} (h : PrOk vals prs) : PrOk (vals ++ [v]) prs := ⟨h.nd, fun x hx => by
  obtain ⟨a, b, c⟩ := h.ok x hx
  refine ⟨a, by rw [List.length_append]; omega, ?_⟩
  rw [getD_l (by omega), getD_l b]
  exact c⟩
theorem PrOk.add {vals : List Int} {prs : List (Nat × Nat)} {a b : Nat} (h : PrOk vals prs) (n : (a, b) ∉ prs) (h1 : a < b) (h2 : b < vals.length) (h3 : vals.getD a 0 ≠ vals.getD b 0) : PrOk vals (prs ++ [(a, b)]) := by
  refine ⟨?_, fun x hx => ?_⟩
  · rw [List.nodup_append]
    refine ⟨h.nd, by simp, fun x hx y hy e => ?_⟩
    rw [List.mem_singleton] at hy
    subst hy
    subst e
    exact n hx
  · rcases List.mem_append.mp hx with hx | hx
    · exact h.ok x hx
    · rw [List.mem_singleton] at hx
      subst hx
      exact ⟨h1, h2, h3⟩
theorem sort2 {a b : Str} {ys : List Str} (n : a ≠ b) (p : ys.Perm [a, b]) (s : ys.Pairwise fun a b => ¬ sLt b a) : ys = [(eOf a b).1, (eOf a b).2] := by
  have l := p.length_eq
  match ys, l with
  | [y1, y2], _ =>
    have m1 : y1 ∈ [a, b] := p.mem_iff.mp List.mem_cons_self
    have m2 : y2 ∈ [a, b] := p.mem_iff.mp (List.mem_cons_of_mem _ List.mem_cons_self)
    have ndp : [y1, y2].Nodup := p.nodup_iff.mpr (by simp [n])
    have ne : y1 ≠ y2 := by simpa using ndp
    have ns : ¬ sLt y2 y1 := by
      rw [List.pairwise_cons] at s
      exact s.1 y2 (List.mem_singleton.mpr rfl)
    simp only [List.mem_cons, List.not_mem_nil, or_false] at m1 m2
    unfold eOf
    rcases m1 with rfl | rfl <;> rcases m2 with rfl | rfl
    · exact absurd rfl ne
    · rw [if_pos (sLt_total ns ne)]
    · rw [if_neg ns]
    · exact absurd rfl ne
theorem nodup_ix {xs : List Str} (nd : xs.Nodup) {i j : Nat} {hi : i < xs.length} {hj : j < xs.length} (e : xs[i] = xs[j]) : i = j := by
  have h := List.pairwise_iff_getElem.mp (List.nodup_iff_pairwise_ne.mp nd)
  rcases Nat.lt_trichotomy i j with z | z | z
  · exact absurd e (h i j hi hj z)
  · exact z
  · exact absurd e.symm (h j i hj hi z)
theorem getDU {α : Type} {xs : List α} {i : Nat} {d : α} (h : i < xs.length) : xs.getD i d = xs[i] := by
  rw [List.getD_eq_getElem?_getD, List.getElem?_eq_getElem h]
  rfl
end U
namespace Law
open PySem PySem.Spec PyProof.Rows L2 U
local macro_rules | `(tactic| wtm_at "rd1") => `(tactic| first
  | with_reducible refine rd_seq ?_
  | ((with_reducible refine rd_var (v := ?vv) ?hv ?_); (case hv => exact rfl))
  | with_reducible refine rd_c ?_
  | with_reducible refine rd_cons ?_
  | with_reducible refine rd_nil ?_
  | with_reducible refine rd_op ?_
  | with_reducible refine rd_asg ?_
  | with_reducible refine rd_name ?_
  | with_reducible refine rd_c1 ?_
  | with_reducible refine rd_cb ?_
  | with_reducible refine rd_test ?_
  | with_reducible refine rd_B ?_
  | with_reducible refine rd_bl ?_
  | with_reducible refine rd_if ?_
  | with_reducible refine rd_ret ?_
  | with_reducible refine rd_drop ?_
  | with_reducible refine rd_next ?_
  | with_reducible refine rd_addI ?_
  | with_reducible refine rd_ltI ?_
  | with_reducible refine rd_eqI ?_
  | with_reducible refine rd_neI ?_
  | with_reducible refine rd_eqS ?_
  | with_reducible refine rd_neS ?_
  | with_reducible refine rd_gtI ?_
  | with_reducible refine rd_geI ?_
  | with_reducible refine rd_leI ?_
  | with_reducible refine rd_ltS ?_
  | with_reducible refine rd_subI ?_
  | ((with_reducible refine rd_modI ?hc ?_); (case hc => first | decide | omega))
  | ((with_reducible refine rd_mulI ?hc ?_); (case hc => first | exact mul_bI | exact .inl (.inr (by decide)) | exact .inl (.inl (by decide)) | exact .inl (.inr (by omega)) | exact .inl (.inl (by omega))))
  | ((with_reducible refine rd_divI ?hc ?_); (case hc => first | decide | omega))
  | ((with_reducible refine rd_powI ?hc ?_); (case hc => exact ⟨by decide, by decide, by decide⟩))
  | with_reducible refine rd_lst ?_
  | with_reducible refine rd_tup ?_
  | ((with_reducible refine rd_sz ?hv ?_); (case hv => exact rfl))
  | with_reducible refine rd_and ?_
  | with_reducible refine rd_or ?_
  | with_reducible refine rd_not ?_
  | with_reducible refine rd_andV ?_
  | with_reducible refine rd_orV ?_
  | with_reducible refine rd_notV ?_
  | with_reducible refine rd_ifE ?_
  | with_reducible refine rd_T ?_
  | with_reducible refine rd_F ?_
  | with_reducible refine rd_chain ?_
  | with_reducible refine rd_is ?_
  | with_reducible refine rd_isNot ?_
  | with_reducible refine rd_absI ?_
  | with_reducible refine rd_maxI ?_
  | with_reducible refine rd_minI ?_
  | with_reducible refine rd_intI ?_
  | with_reducible refine rd_intB ?_
  | with_reducible refine rd_sub ?_
  | with_reducible refine rd_sl ?_
  | with_reducible refine rd_noPart ?_
  | with_reducible refine rd_part ?_
  | with_reducible refine rd_exI ?_
  | with_reducible refine rd_bm ?_
  | with_reducible refine rd_bm0 ?_
  | with_reducible refine rd_un ?_
  | with_reducible refine rd_neg ?_
  | with_reducible refine rd_c2 ?_
  | with_reducible refine rd_retN ?_
  | with_reducible refine rd_break ?_
  | with_reducible refine rd_cont ?_
  | with_reducible refine rd_for ?_
  | with_reducible refine rd_rng1 ?_
  | with_reducible refine rd_rng2 ?_
  | with_reducible refine rd_iList ?_
  | with_reducible refine rd_iTup ?_
  | with_reducible refine rd_iEnum ?_
  | ((with_reducible refine rd_forR ?h0 ?h1 ?_); (case h0 => omega); (case h1 => omega))
  | with_reducible refine rd_lc ?_
  | with_reducible refine rd_gcons ?_
  | with_reducible refine rd_gnil ?_
  | with_reducible refine rd_dget ?_
  | with_reducible refine rd_dput ?_
  | with_reducible refine rd_dnew ?_
  | with_reducible refine rd_dc ?_
  | with_reducible refine rd_iItems ?_
  | with_reducible refine rd_iKeys ?_
  | with_reducible refine rd_din ?_
  | with_reducible refine rd_lc2 ?_
  | with_reducible refine rd_cd ?_
  | with_reducible refine rd_par ?_
  | with_reducible refine rd_two ?_
  | with_reducible refine rd_reprB ?_
  | with_reducible refine rd_ck ?_
  | ((with_reducible refine rd_len ?hl ?_); (case hl => exact rfl))
  | with_reducible refine rd_nT ?_
  | with_reducible refine rd_nF ?_
  | with_reducible refine rd_dnin ?_
  | with_reducible refine rd_isB ?_
  | with_reducible refine rd_isNotB ?_
  | with_reducible refine rd_daug ?_
  | with_reducible refine rd_yesT ?_
  | ((with_reducible refine rd_wp ?hw ?_); (case hw => exact rfl)))
local macro_rules | `(tactic| wtm_at "rd") => `(tactic| repeat wtm_at "rd1")

abbrev iP (x : Nat × Nat) : Int × Int := ((x.1 : Int), (x.2 : Int))
/-- values and pairs being made -/
structure BK (H0 : Hp) (p vA pA : Addr) (vals : List Int) (prs : List (Addr × Nat × Nat)) (H : Hp) : Prop where
  go : Go p H0 H
  hv : H vA = some (.lst (vals.map V.int))
  hp : H pA = some (.lst (prs.map fun x => V.ref x.1))
  tp : ∀ x ∈ prs, H x.1 = some (.tup [.int (x.2.1 : Nat), .int (x.2.2 : Nat)])
structure BN (H0 : Hp) (p vA pA : Addr) : Prop where
  fv : H0 vA = none
  fp : H0 pA = none
  vp : vA ≠ p
  pp : pA ≠ p
  vq : vA ≠ pA
section
variable {H0 H H2 : Hp} {p vA pA : Addr} {vals : List Int} {prs : List (Addr × Nat × Nat)}
theorem PoolAt.offTB {q : Addr} {xs : List V} (h : PoolAt H p) (hq : H q = some (.tup xs)) : q ≠ p := by
  rintro rfl
  obtain ⟨ys, h⟩ := h.isL
  rw [hq] at h
  cases h
theorem BK.new (b : BK H0 p vA pA vals prs H) {t : Addr} {o : HO} (f : H t = none) : BK H0 p vA pA vals prs (upd H t o) :=
  ⟨b.go.new f, at_upd (ne_of_none b.hv f) b.hv, at_upd (ne_of_none b.hp f) b.hp, fun x hx => at_upd (ne_of_none (b.tp x hx) f) (b.tp x hx)⟩
theorem BK.step (b : BK H0 p vA pA vals prs H) (n : BN H0 p vA pA) (g : Go p H H2) : BK H0 p vA pA vals prs H2 :=
  ⟨b.go.trans g, g.at b.hv n.vp, g.at b.hp n.pp, fun x hx => g.at (b.tp x hx) (b.go.pool.offTB (b.tp x hx))⟩
theorem BK.val (b : BK H0 p vA pA vals prs H) (n : BN H0 p vA pA) {v : Int} : BK H0 p vA pA (vals ++ [v]) prs (upd H vA (.lst (vals.map V.int ++ [.int v]))) :=
  ⟨b.go.put n.fv (Ne.symm n.vp), by rw [upd_same, List.map_append]; rfl, at_upd (Ne.symm n.vq) b.hp, fun x hx => at_upd (ne_of (b.tp x hx) b.hv (by intro z; cases z)) (b.tp x hx)⟩
theorem BK.pair (b : BK H0 p vA pA vals prs H) (n : BN H0 p vA pA) {t : Addr} {x y : Nat} (ht : H t = some (.tup [.int (x : Nat), .int (y : Nat)])) : BK H0 p vA pA vals (prs ++ [(t, x, y)]) (upd H pA (.lst ((prs.map fun x => V.ref x.1) ++ [.ref t]))) :=
  ⟨b.go.put n.fp (Ne.symm n.pp), at_upd n.vq b.hv, by rw [upd_same, List.map_append]; rfl, fun z hz => by
    rcases List.mem_append.mp hz with hz | hz
    · exact at_upd (ne_of (b.tp z hz) b.hp (by intro z; cases z)) (b.tp z hz)
    · rw [List.mem_singleton] at hz
      subst hz
      exact at_upd (ne_of ht b.hp (by intro z; cases z)) ht⟩
end
theorem Go.same {p : Addr} {H H1 H2 : Hp} (a : Go p H H1) (s : Same H1 H2) : Go p H H2 := a.trans (Go.of_same a.pool s)
def PrsAt (H : Hp) (es : List (Addr × Str × Str)) : Prop := ∀ x ∈ es, H x.1 = some (.tup [.str x.2.1, .str x.2.2])
theorem PrsAt.same {H H' : Hp} {es : List (Addr × Str × Str)} (h : PrsAt H es) (s : Same H H') : PrsAt H' es := fun x hx => s _ _ (h x hx)
theorem PrsAt.go {p : Addr} {H H' : Hp} {es : List (Addr × Str × Str)} (h : PrsAt H es) (hp : PoolAt H p) (g : Go p H H') : PrsAt H' es := fun x hx => g.at (h x hx) (hp.offTB (h x hx))
theorem asc_uniq {xs ys : List Str} (a : Asc xs) (b : Asc ys) (p : xs.Perm ys) : xs = ys := p.eq_of_pairwise (fun x y _ _ h1 h2 => absurd h2 (sLt_asymm h1)) a b
/-- a random problem -/
def spProblem : Sp := fun vs H Q _ => ∃ (p : Addr) (most : Int), vs = [.ref p, .int most] ∧ PoolAt H p ∧ 0 ≤ most ∧ most ≤ 25 ∧
  ∀ (t g n e st ps : Addr) (ns ord pn : List Str) (es : List (Addr × Str × Str)) (f : Str → Int) (H' : Hp), Go p H H' → H t = none → H g = none → H st = none → H ps = none → H' t = some (.tup [.ref g, .ref st, .ref ps]) → GrAt H' g n e ns es → GrOk ns (es.map (·.2)) → ord.Perm ns → (ns.length : Int) ≤ most → es.length ≤ 1000 →
    H' st = some (.dK (kvF ord f)) → (∀ x ∈ ns, 0 ≤ f x ∧ f x < 3) → (∀ x ∈ es, f x.2.1 ≠ f x.2.2) → H' ps = some (.tup (pn.map V.str)) → (∀ x ∈ pn, x ∈ ns) → pn.length ≤ ns.length → Asc pn → Q (.ref t) H'
section
variable {P : Program} {w : World} {K : PySem.W.Frag} {mg : Str → Option Value} {base : Heap}
structure B3a (P : Program) (w : World) (K : PySem.W.Frag) (mg : Str → Option Value) (base : Heap) : Prop where
  _law_draw : Cal P w K mg base CX0 1 "_law_draw" spDraw
  _law_random_names : Cal P w K mg base CX0 3 "_law_random_names" spNamesB
end
end Law

/-! tuples of numbers compared; a pair in a tuple of pairs; numbers == [] -/
namespace U
open PySem PySem.Spec PyProof.Rows L2
def rInT (K : PySem.W.Frag) : R2 := fun x y H Q => ∃ (d : PyData) (ds : List PyData), Dp K H x d ∧ Dp K H y (.tuple ds) ∧ SeqAt.shaped d = true ∧ SeqAt.shaped (.tuple ds) = true ∧ Q (.bl (ds.any fun z => PyData.eqv z d)) H
theorem kInT {X : Cx} (K : PySem.W.Frag) (hK : X.K = K) (hu : X.A.units + 65 < cLine) : OpR X (compareOp .In) (rInT K) := by
  subst hK
  intro pins s σ H x y v u Q I rx ry ⟨d, ds, hd, he, sd, se, q⟩
  obtain ⟨_, r1⟩ := Dp.reads I _ _ _ hd rx
  obtain ⟨_, r2⟩ := Dp.reads I _ _ _ he ry
  exact SeqAt.in_tuple_reads r2 r1 (SeqAt.canLay_of_shaped se) (SeqAt.canLay_of_shaped sd) (room_in_shaped sd hu) ⟨.bl _, H, I, rfl, q⟩
theorem rd_inTE {K : PySem.W.Frag} {H : Hp} {Q : VK} {p q : Addr} {e : Str × Str} {es : List (Addr × Str × Str)} (hp : SqT K H p [.str e.1, .str e.2]) (hq : SqT K H q (es.map fun x => V.ref x.1)) (pr : ∀ x ∈ es, SqT K H x.1 [.str x.2.1, .str x.2.2])
    (o1 : PyData.strOk e.1 = true ∧ PyData.strOk e.2 = true) (o2 : ∀ x ∈ es.map (·.2), PyData.strOk x.1 = true ∧ PyData.strOk x.2 = true) (h : Q (.bl (decide (e ∈ es.map (·.2)))) H) : rInT K (.ref p) (.ref q) H Q := by
  refine ⟨dE e, _, .tup hp (.cons (.str _) (.cons (.str _) .nil)), .tup hq (dp_edges pr), shaped_edge o1, shaped_edgesT o2, ?_⟩
  rw [any_dE]
  exact h
theorem canI : ∀ xs : List Int, PyData.canLayAll0 (xs.map PyData.int) = true ∧ PyData.depthAll (xs.map PyData.int) = 0
  | [] => by simp [PyData.canLayAll0, PyData.depthAll]
  | x :: r => by simp [PyData.canLayAll0, PyData.depthAll, PyData.canLay0, PyData.depth, (canI r).1, (canI r).2]
theorem shapedIT (xs : List Int) : SeqAt.shaped (.tuple (xs.map PyData.int)) = true := by
  unfold SeqAt.shaped
  rw [PyData.canLay0, (canI xs).1, PyData.depth, (canI xs).2]
  rfl
theorem shapedIL (xs : List Int) : SeqAt.shaped (.list (xs.map PyData.int)) = true := by
  unfold SeqAt.shaped
  rw [PyData.canLay0, (canI xs).1, PyData.depth, (canI xs).2]
  rfl
theorem dpI {K : PySem.W.Frag} {H : Hp} : ∀ xs : List Int, DpAll K H (xs.map V.int) (xs.map PyData.int)
  | [] => .nil
  | x :: r => .cons (.int x) (dpI r)
theorem eqvAll_ints : ∀ (xs ys : List Int), PyData.eqvAll (xs.map PyData.int) (ys.map PyData.int) = decide (xs = ys)
  | [], [] => by simp [PyData.eqvAll]
  | [], y :: ys => by simp [PyData.eqvAll]
  | x :: xs, [] => by simp [PyData.eqvAll]
  | x :: xs, y :: ys => by
    rw [List.map_cons, List.map_cons, PyData.eqvAll, eqvAll_ints xs ys, Bool.eq_iff_iff]
    simp [PyData.eqv]
section
variable {K : PySem.W.Frag} {H : Hp} {Q : VK} {p q : Addr} {xs ys : List Int}
theorem rd_neIT (hp : SqT K H p (xs.map V.int)) (hq : SqT K H q (ys.map V.int)) (h : Q (.bl (!decide (xs = ys))) H) : rNeU K (.ref p) (.ref q) H Q := by
  refine ⟨_, _, .tup hp (dpI _), .tup hq (dpI _), shapedIT _, shapedIT _, ?_⟩
  rw [PyData.eqv, eqvAll_ints]
  exact h
theorem rd_eqIT (hp : SqT K H p (xs.map V.int)) (hq : SqT K H q (ys.map V.int)) (h : Q (.bl (decide (xs = ys))) H) : rEqU K (.ref p) (.ref q) H Q := by
  refine ⟨_, _, .tup hp (dpI _), .tup hq (dpI _), shapedIT _, shapedIT _, ?_⟩
  rw [PyData.eqv, eqvAll_ints]
  exact h
theorem rd_neIL2 (hp : SqL K H p (xs.map V.int)) (hq : SqL K H q (ys.map V.int)) (h : Q (.bl (!decide (xs = ys))) H) : rNeU K (.ref p) (.ref q) H Q := by
  refine ⟨_, _, .lst hp (dpI _), .lst hq (dpI _), shapedIL _, shapedIL _, ?_⟩
  rw [PyData.eqv, eqvAll_ints]
  exact h
theorem rd_eqIL (hp : SqL K H p (xs.map V.int)) (hq : SqL K H q (ys.map V.int)) (h : Q (.bl (decide (xs = ys))) H) : rEqU K (.ref p) (.ref q) H Q := by
  refine ⟨_, _, .lst hp (dpI _), .lst hq (dpI _), shapedIL _, shapedIL _, ?_⟩
  rw [PyData.eqv, eqvAll_ints]
  exact h
end
end U

/-! dict | dict -/
namespace U
open PySem PySem.Spec PyProof.Rows L2
section
variable {prog : Program} {w : World} {κ : Type} [DecidableEq κ] {knd : KeyKind prog w κ} {A : Around} {E : Value → Shared → Prop} {s : Shared}
/-- the copy that `|` begins with -/
theorem or_copy {nm : String} {d : Addr} {kvs : List (κ × Value)} {Q : Value → Shared → Prop} (hd : (d == sysModules) = false) (hm : s.heap.DictOf knd d kvs) (hsz : kvs.length ≤ sizeLine)
    (h : ∀ h', h'.DictOf knd s.heap.objs.size kvs → (∀ b o, s.heap.get? b = some o → h'.get? b = some o) → Q (.ref s.heap.objs.size) { s with heap := h' }) :
    wpAny (model prog w) A (Builtin.Dict.copyOf nm (.ref d)) Q E s := by
  obtain ⟨o, es, ep, ho, hc, hdat, hk, hp, hn⟩ := id hm
  have hes : es.size ≤ sizeLine + 1 := by
    have e1 := hp.length
    have e2 : es.toList.length = es.size := by simp
    omega
  have fin : ∀ es' : Array DictEntry, es' = es → Q (.ref s.heap.objs.size) { s with heap := s.heap.push { cls := .type "dict", data := .dict es' } } := by
    rintro es' rfl
    exact h _ ⟨_, es', 0, Heap.get?_push_size _ rfl, ⟨rfl, rfl, rfl⟩, rfl, hk, hp, hn⟩ fun b o' e => Heap.get?_push_of_some _ e
  unfold Builtin.Dict.copyOf
  refine wpAny_bind (wpAny_pure ?_)
  unfold Builtin.Dict.showsAll
  rw [if_neg (by rw [hd]; exact Bool.false_ne_true)]
  refine wpAny_bind (wpAny_pure (wpAny_bind (wpAny_dictEntries ho hdat ?_)))
  by_cases z : es.isEmpty = true
  · rw [if_pos z]
    exact wpAny_bind (wpAny_rule (wpAny_newObj_type (fin #[] (Array.isEmpty_iff.mp z).symm)))
  · rw [if_neg z]
    refine wpAny_bind ?_
    unfold Builtin.Dict.readDirectly
    refine wpAny_bind (wpAny_isInstance hm.typeIs isSubtype_dict_dict ?_)
    simp only [Bool.not_true, Bool.false_eq_true, if_false]
    refine wpAny_bind (wpAny_specialOf hm.typeIs F.slot_dict_iter.lookup (wpAny_pure ?_))
    simp only [beq_self_eq_true, if_true]
    exact wpAny_bind (wpAny_entriesForEmpty (knd := knd) ho hdat hk (wpAny_newObj_type (fin es rfl) hes))
theorem or_slots {a b : Addr} {kvs more : List (κ × Value)} (ha : (a == sysModules) = false) (hb : (b == sysModules) = false) :
    MeetsIn prog w (Builtin.«dict.__or__» ⟨[.ref a, .ref b], []⟩) (fun _ R s => s.heap.DictOf knd a kvs ∧ s.heap.DictOf knd b more ∧ kvs.length + more.length ≤ sizeLine ∧
      ∀ h', h'.DictOf knd s.heap.objs.size (merged kvs more) → (∀ b o, s.heap.get? b = some o → h'.get? b = some o) → R (.ok (.ret (.ref s.heap.objs.size))) { s with heap := h' }) :=
  .of_wp fun A R s ⟨h1, h2, hz, h⟩ => by
    unfold Builtin.«dict.__or__»
    refine wpAny_bind ?_
    unfold Builtin.Dict.dictSlotArgs
    refine wpAny_bind (wpAny_notOrdered_dict h1.typeIs ?_)
    show wpAny _ _ (pure (Value.ref a, Value.ref b)) _ _ s
    refine wpAny_pure ?_
    refine wpAny_bind ?_
    refine wpAny_bind (wpAny_isInstance h1.typeIs isSubtype_dict_dict ?_)
    refine wpAny_isInstance h2.typeIs isSubtype_dict_dict ?_
    rw [if_neg (by decide)]
    refine wpAny_bind (or_copy (knd := knd) ha h1 (by omega) fun h' d1 k1 => ?_)
    have hbs : s.heap.objs.size ≠ b := by
      obtain ⟨_, _, _, hg, _⟩ := id h2
      exact fun e => absurd (Heap.lt_size hg) (by rw [e]; exact Nat.lt_irrefl _)
    have d2 : h'.DictOf knd b more := by
      obtain ⟨o, es, ep, q1, q2⟩ := id h2
      exact ⟨o, es, ep, k1 _ _ q1, q2⟩
    refine wpAny_bind (wpAny_pure ?_)
    refine wpAny_holding ?_
    unfold Builtin.Dict.updateFrom
    refine wpAny_bind (wpAny_typeOf d2.typeIs ?_)
    rw [if_neg (by decide)]
    refine wpAny_bind ?_
    unfold Builtin.Dict.merge
    refine wpAny_bind ?_
    unfold Builtin.Dict.readDirectly
    refine wpAny_bind (wpAny_isInstance d2.typeIs isSubtype_dict_dict ?_)
    simp only [Bool.not_true, Bool.false_eq_true, if_false]
    refine wpAny_bind (wpAny_specialOf d2.typeIs F.slot_dict_iter.lookup (wpAny_pure ?_))
    simp only [beq_self_eq_true, if_true]
    refine wpAny_bind (wpAny_pure ?_)
    refine wpAny_mergeDict (hsz := hz) hbs hb d1 d2 fun h'' d3 _ sb => ?_
    show wpAny _ _ (Builtin.Dict.addKeywords s.heap.objs.size [] >>= _) _ _ _
    exact wpAny_bind (wpAny_pure (wpAny_pure ⟨_, rfl, h h'' d3 fun c o e => (sb.2 c (Nat.ne_of_lt (Heap.lt_size e))).trans (k1 c o e)⟩))
end
section
variable {X : Cx}
/-- a | b of dicts of texts and numbers: a new one -/
def rBorD : R2 := fun x y H Q => ∃ (a b : Addr) (kvs more : List (Key × V)), x = .ref a ∧ y = .ref b ∧ Rd H a (.dK kvs) ∧ Rd H b (.dK more) ∧ kvs.length + more.length ≤ sizeLine ∧ ∀ p, H p = none → Q (.ref p) (upd H p (.dK (mergeK kvs more)))
theorem uBor : OpR X (binaryOp .BitOr) rBorD := by
  intro pins s σ H x y v u Q I rx ry h
  obtain ⟨a, b, kvs, more, rfl, rfl, hA, hB, hz, q⟩ := h
  cases rx
  cases ry
  obtain ⟨z1, n1, vs, r1, d1⟩ := dk_rd I.hok hA
  obtain ⟨z2, n2, ws, r2, d2⟩ := dk_rd I.hok hB
  refine wpAny_binaryOp_same d1.typeIs d2.typeIs F.fills_dict_or F.slot_dict_or ?_
  refine call_meetsIn F.slot_dict_or d1.typeIs F.entry_dict_or (F.args_dict_or_2 _ _) (or_slots (knd := mixKind X.prog X.w) (kvs := vs) (more := ws) n1 n2) ⟨d1, d2, by rw [← r1.length, ← r2.length]; exact hz, fun h' dd k => ?_⟩
  refine ⟨(fun e => nomatch e), ?_⟩
  exact ⟨.ref _, _, I.laid (a := s.heap.objs.size) (o := .dK (mergeK kvs more)) (t' := s.toks) (fun b q hq => k b q hq) (Nat.le_refl _) (dk_new (Nat.le_trans (length_mergeK more kvs) hz) (beq_eq_false_iff_ne.mpr (Ne.symm (Nat.ne_of_lt I.big))) (KV.merge r2 r1) dd), rfl, q _ (I.hok.fresh (Nat.le_refl _))⟩
theorem rd_borF {H : Hp} {Q : VK} {a b : Addr} {kvs : List (Key × V)} {k : Key} {v : V} (h1 : Rd H a (.dK kvs)) (h2 : Rd H b (.dK [(k, v)])) (hz : kvs.length < sizeLine) (h : ∀ p, H p = none → Q (.ref p) (upd H p (.dK (putK kvs k v)))) : rBorD (.ref a) (.ref b) H Q := ⟨a, b, kvs, _, rfl, rfl, h1, h2, hz, h⟩
end
end U

/-! k61's random graph -/
namespace U
open PySem PySem.Spec PyProof.Rows L2
theorem sort2h {a b : Str} {ys : List Str} (p : ys.Perm [a, b]) (s : ys.Pairwise fun a b => ¬ sLt b a) : ys = [(eOf a b).1, (eOf a b).2] := by
  by_cases n : a = b
  · subst n
    have l := p.length_eq
    match ys, l with
    | [y1, y2], _ =>
      have m1 : y1 ∈ [a, a] := p.mem_iff.mp List.mem_cons_self
      have m2 : y2 ∈ [a, a] := p.mem_iff.mp (List.mem_cons_of_mem _ List.mem_cons_self)
      simp only [List.mem_cons, List.not_mem_nil, or_false, or_self] at m1 m2
      subst m1
      rw [m2]
      rcases eOf_cases y1 y1 with z | z <;> rw [z]
  · exact sort2 n p s
theorem eOf_idem {a b : Str} : eOf (eOf a b).1 (eOf a b).2 = eOf a b := by
  by_cases e : a = b
  · subst e
    rcases eOf_cases a a with z | z <;> rw [z] <;> exact z
  · by_cases c : sLt a b
    · have z : eOf a b = (a, b) := by unfold eOf; rw [if_pos c]
      rw [z]
      exact z
    · have z : eOf a b = (b, a) := by unfold eOf; rw [if_neg c]
      have c2 : sLt b a := sLt_total c (Ne.symm e)
      rw [z]
      show eOf b a = (b, a)
      unfold eOf
      rw [if_pos c2]
theorem tk_snoc2 {α : Type} {xs : List α} {i : Nat} (hi : i < xs.length) : xs.take (i + 1) = xs.take i ++ [xs[i]] := by
  rw [List.take_succ, List.getElem?_eq_getElem hi]
  rfl
end U
namespace Law
open PySem PySem.Spec PyProof.Rows L2 U
local macro_rules | `(tactic| wtm_at "rd1") => `(tactic| first
  | with_reducible refine rd_seq ?_
  | ((with_reducible refine rd_var (v := ?vv) ?hv ?_); (case hv => exact rfl))
  | with_reducible refine rd_c ?_
  | with_reducible refine rd_cons ?_
  | with_reducible refine rd_nil ?_
  | with_reducible refine rd_op ?_
  | with_reducible refine rd_asg ?_
  | with_reducible refine rd_name ?_
  | with_reducible refine rd_c1 ?_
  | with_reducible refine rd_cb ?_
  | with_reducible refine rd_test ?_
  | with_reducible refine rd_B ?_
  | with_reducible refine rd_bl ?_
  | with_reducible refine rd_if ?_
  | with_reducible refine rd_ret ?_
  | with_reducible refine rd_drop ?_
  | with_reducible refine rd_next ?_
  | with_reducible refine rd_addI ?_
  | with_reducible refine rd_ltI ?_
  | with_reducible refine rd_eqI ?_
  | with_reducible refine rd_neI ?_
  | with_reducible refine rd_eqS ?_
  | with_reducible refine rd_neS ?_
  | with_reducible refine rd_gtI ?_
  | with_reducible refine rd_geI ?_
  | with_reducible refine rd_leI ?_
  | with_reducible refine rd_ltS ?_
  | with_reducible refine rd_subI ?_
  | ((with_reducible refine rd_modI ?hc ?_); (case hc => first | decide | omega))
  | ((with_reducible refine rd_mulI ?hc ?_); (case hc => first | exact mul_bI | exact .inl (.inr (by decide)) | exact .inl (.inl (by decide)) | exact .inl (.inr (by omega)) | exact .inl (.inl (by omega))))
  | ((with_reducible refine rd_divI ?hc ?_); (case hc => first | decide | omega))
  | ((with_reducible refine rd_powI ?hc ?_); (case hc => exact ⟨by decide, by decide, by decide⟩))
  | with_reducible refine rd_lst ?_
  | with_reducible refine rd_tup ?_
  | ((with_reducible refine rd_sz ?hv ?_); (case hv => exact rfl))
  | with_reducible refine rd_and ?_
  | with_reducible refine rd_or ?_
  | with_reducible refine rd_not ?_
  | with_reducible refine rd_andV ?_
  | with_reducible refine rd_orV ?_
  | with_reducible refine rd_notV ?_
  | with_reducible refine rd_ifE ?_
  | with_reducible refine rd_T ?_
  | with_reducible refine rd_F ?_
  | with_reducible refine rd_chain ?_
  | with_reducible refine rd_is ?_
  | with_reducible refine rd_isNot ?_
  | with_reducible refine rd_absI ?_
  | with_reducible refine rd_maxI ?_
  | with_reducible refine rd_minI ?_
  | with_reducible refine rd_intI ?_
  | with_reducible refine rd_intB ?_
  | with_reducible refine rd_sub ?_
  | with_reducible refine rd_sl ?_
  | with_reducible refine rd_noPart ?_
  | with_reducible refine rd_part ?_
  | with_reducible refine rd_exI ?_
  | with_reducible refine rd_bm ?_
  | with_reducible refine rd_bm0 ?_
  | with_reducible refine rd_un ?_
  | with_reducible refine rd_neg ?_
  | with_reducible refine rd_c2 ?_
  | with_reducible refine rd_retN ?_
  | with_reducible refine rd_break ?_
  | with_reducible refine rd_cont ?_
  | with_reducible refine rd_for ?_
  | with_reducible refine rd_rng1 ?_
  | with_reducible refine rd_rng2 ?_
  | with_reducible refine rd_iList ?_
  | with_reducible refine rd_iTup ?_
  | with_reducible refine rd_iEnum ?_
  | ((with_reducible refine rd_forR ?h0 ?h1 ?_); (case h0 => omega); (case h1 => omega))
  | with_reducible refine rd_lc ?_
  | with_reducible refine rd_gcons ?_
  | with_reducible refine rd_gnil ?_
  | with_reducible refine rd_dget ?_
  | with_reducible refine rd_dput ?_
  | with_reducible refine rd_dnew ?_
  | with_reducible refine rd_dc ?_
  | with_reducible refine rd_iItems ?_
  | with_reducible refine rd_iKeys ?_
  | with_reducible refine rd_din ?_
  | with_reducible refine rd_lc2 ?_
  | with_reducible refine rd_cd ?_
  | with_reducible refine rd_par ?_
  | with_reducible refine rd_two ?_
  | with_reducible refine rd_reprB ?_
  | with_reducible refine rd_ck ?_
  | ((with_reducible refine rd_len ?hl ?_); (case hl => exact rfl))
  | with_reducible refine rd_nT ?_
  | with_reducible refine rd_nF ?_
  | with_reducible refine rd_dnin ?_
  | with_reducible refine rd_isB ?_
  | with_reducible refine rd_isNotB ?_
  | with_reducible refine rd_daug ?_
  | with_reducible refine rd_yesT ?_
  | ((with_reducible refine rd_wp ?hw ?_); (case hw => exact rfl)))
local macro_rules | `(tactic| wtm_at "rd") => `(tactic| repeat wtm_at "rd1")

/-- pairs being made -/
structure PK (H0 : Hp) (p pA : Addr) (prs : List (Addr × Nat × Nat)) (H : Hp) : Prop where
  go : Go p H0 H
  hp : H pA = some (.lst (prs.map fun x => V.ref x.1))
  tp : ∀ x ∈ prs, H x.1 = some (.tup [.int (x.2.1 : Nat), .int (x.2.2 : Nat)])
section
variable {H0 H H2 : Hp} {p pA : Addr} {prs : List (Addr × Nat × Nat)}
theorem PK.same (b : PK H0 p pA prs H) (s : Same H H2) : PK H0 p pA prs H2 := ⟨b.go.same s, s _ _ b.hp, fun x hx => s _ _ (b.tp x hx)⟩
theorem PK.step (b : PK H0 p pA prs H) (n : pA ≠ p) (g : Go p H H2) : PK H0 p pA prs H2 := ⟨b.go.trans g, g.at b.hp n, fun x hx => g.at (b.tp x hx) (b.go.pool.offTB (b.tp x hx))⟩
theorem PK.pair (b : PK H0 p pA prs H) (f : H0 pA = none) (n : pA ≠ p) {t : Addr} {x y : Nat} (ht : H t = some (.tup [.int (x : Nat), .int (y : Nat)])) : PK H0 p pA (prs ++ [(t, x, y)]) (upd H pA (.lst ((prs.map fun x => V.ref x.1) ++ [.ref t]))) :=
  ⟨b.go.put f (Ne.symm n), by rw [upd_same, List.map_append]; rfl, fun z hz => by
    rcases List.mem_append.mp hz with hz | hz
    · exact at_upd (ne_of (b.tp z hz) b.hp (by intro z; cases z)) (b.tp z hz)
    · rw [List.mem_singleton] at hz
      subst hz
      exact at_upd (ne_of ht b.hp (by intro z; cases z)) ht⟩
theorem PK.putW (b : PK H0 p pA prs H) {wA : Addr} {xs : List V} {o : HO} (f : H0 wA = none) (n : wA ≠ p) (n2 : pA ≠ wA) (hw : H wA = some (.lst xs)) : PK H0 p pA prs (upd H wA o) :=
  ⟨b.go.put f (Ne.symm n), at_upd n2 b.hp, fun x hx => at_upd (ne_of (b.tp x hx) hw (by intro z; cases z)) (b.tp x hx)⟩
end
/-- a graph: names, and edges among them -/
structure GrN (H : Hp) (g n e : Addr) (ns : List Str) (es : List (Addr × Str × Str)) : Prop where
  gr : GrAt H g n e ns es
  nm : ∀ x ∈ ns, IsName x
  nd : ns.Nodup
  mem : ∀ x ∈ es.map (·.2), x.1 ∈ ns ∧ x.2 ∈ ns
  so : ∀ x ∈ es.map (·.2), eOf x.1 x.2 = x
  ne : ∀ x ∈ es.map (·.2), x.1 ≠ x.2
  l1 : ns.length ≤ 100
  l2 : es.length ≤ 2000
def spGraphN : Sp := fun vs H Q _ => ∃ (p : Addr) (most : Int), vs = [.ref p, .int most] ∧ PoolAt H p ∧ 0 ≤ most ∧ most ≤ 25 ∧
  ∀ (g n e : Addr) (ns : List Str) (es : List (Addr × Str × Str)) (H' : Hp), Go p H H' → GrN H' g n e ns es → (ns.length : Int) ≤ most ∧ es.length ≤ 700 → Q (.ref g) H'
section
variable {P : Program} {w : World} {K : PySem.W.Frag} {mg : Str → Option Value} {base : Heap}
structure CTa (P : Program) (w : World) (K : PySem.W.Frag) (mg : Str → Option Value) (base : Heap) : Prop where
  _law_draw : Cal P w K mg base CX0 1 "_law_draw" spDraw
  _law_stem : Cal P w K mg base CX0 2 "_law_stem" spStem
theorem ok_graphN {f : Addr} {fd : FuncData} (F : Fun K "_law_random_graph" "_law_random_graph" s__law_random_graph f fd) (B : Bt mg) (C : CTa P w K mg base) : FnG P w K mg base CX0 3 f fd ["_law_source", "_law_most"] spGraphN := by
  refine fnG0 F sc__law_random_graph (fun vs H Q E h => ?_) (fun cdv A outer s H vs Q E hr h => ?_)
  · obtain ⟨p, most, rfl, _⟩ := h
    rfl
  · obtain ⟨p, most, rfl, hp0, m0, m1, q⟩ := h
    have nd := sc__law_random_graph.nd
    have hu := hr.u1
    refine ⟨_, (pss_cons (ps_set (i := 2) nd rfl (by first | exact Or.inl rfl | exact Or.inr rfl) (pe_c C._law_draw hr (by decide) rfl (pa_cons (pv 0) (pa_cons pe_int pa_nil))))
  (pss_cons (ps_set (i := 3) nd rfl (by first | exact Or.inl rfl | exact Or.inr rfl) (pe_c C._law_draw hr (by decide) rfl (pa_cons (pv 0) (pa_cons (pe_op (kAdd K rfl) (pv 1) pe_int) pa_nil))))
  (pss_cons (ps_set (i := 4) nd rfl (by first | exact Or.inl rfl | exact Or.inr rfl) (pe_c C._law_draw hr (by decide) rfl (pa_cons (pv 0) (pa_cons pe_int pa_nil))))
  (pss_cons (ps_set (i := 5) nd rfl (by first | exact Or.inl rfl | exact Or.inr rfl) (pe_lst pa_nil))
  (pss_cons (ps_for PassesOwn.never rfl (pi_range1 rfl B.range (pa_cons (pv 3) pa_nil)) (pg_name (i := 6) nd rfl (by first | exact Or.inl rfl | exact Or.inr rfl)) (pss_one (ps_for PassesOwn.never rfl (pi_range1 rfl B.range (pa_cons (pv 6) pa_nil)) (pg_name (i := 7) nd rfl (by first | exact Or.inl rfl | exact Or.inr rfl)) (C8.pss_cut (ps_set (i := 8) nd rfl (by first | exact Or.inl rfl | exact Or.inr rfl) (pe_or (pe_cmpR (kEq K rfl hr.u64) (pv 7) pe_int (nomark _)) (pe_or (pe_cmpR (kEq K rfl hr.u64) (pv 6) (pe_op (kAdd K rfl) (pv 7) pe_int) (nomark _)) (pe_one (pe_cmpR (kEq K rfl hr.u64) (pe_tup (pa_cons (pv 7) (pa_cons (pv 6) pa_nil))) (pe_tup (pa_cons pe_int (pa_cons pe_int pa_nil))) (nomark _))))))
  (C8.pss_cut (ps_set (i := 9) nd rfl (by first | exact Or.inl rfl | exact Or.inr rfl) (pe_or (pe_and (pe_cmpR (kEq K rfl hr.u64) (pv 2) pe_int (nomark _)) (pe_one (pe_cmpR uLt (pv 6) pe_int (nomark _)))) (pe_one (pe_and (pe_cmpR (kEq K rfl hr.u64) (pv 2) pe_int (nomark _)) (pe_and (pe_cmpR uLt (pv 6) pe_int (nomark _)) (pe_one (pv 8)))))))
  (pss_one (ps_if (PW.pt (pw_or (pt_val (pv 9)) (pw_or1 (pt_cmpR uLt (pe_c C._law_draw hr (by decide) rfl (pa_cons (pv 0) (pa_cons pe_int pa_nil))) (pv 4) (nomark _))))) (pss_one (ps_expr (pe_bm PySem.F.plainAttrs_list PySem.F.slot_list_append PySem.F.type_list_append mt_append (pv 5) (pa_cons (pe_tup (pa_cons (pv 7) (pa_cons (pv 6) pa_nil))) pa_nil)))) pss_nil)))))))
  (pss_cons (ps_set (i := 10) nd rfl (by first | exact Or.inl rfl | exact Or.inr rfl) (pe_c C._law_draw hr (by decide) rfl (pa_cons (pv 0) (pa_cons pe_int pa_nil))))
  (pss_cons (ps_set (i := 11) nd rfl (by first | exact Or.inl rfl | exact Or.inr rfl) (pe_c C._law_draw hr (by decide) rfl (pa_cons (pv 0) (pa_cons pe_int pa_nil))))
  (pss_cons (ps_set (i := 12) nd rfl (by first | exact Or.inl rfl | exact Or.inr rfl) (pe_ix (kIx K rfl) (pe_lst (pa_cons pe_int (pa_cons pe_int (pa_cons pe_int (pa_cons pe_int pa_nil))))) (pe_c C._law_draw hr (by decide) rfl (pa_cons (pv 0) (pa_cons pe_int pa_nil))) (fun _ _ => rfl)))
  (pss_cons (ps_set (i := 13) nd rfl (by first | exact Or.inl rfl | exact Or.inr rfl) (pe_lst pa_nil))
  (pss_cons (ps_for PassesOwn.never rfl (pi_range1 rfl B.range (pa_cons (pv 3) pa_nil)) (pg_name (i := 6) nd rfl (by first | exact Or.inl rfl | exact Or.inr rfl)) (pss_cons (ps_set (i := 14) nd rfl (by first | exact Or.inl rfl | exact Or.inr rfl) (pe_ix (kIx K rfl) pe_str (pe_op uMod (pe_op (kAdd K rfl) (pe_op uMul (pv 6) (pv 12)) (pv 11)) pe_int) (fun _ _ => rfl)))
  (pss_cons (ps_set (i := 15) nd rfl (by first | exact Or.inl rfl | exact Or.inr rfl) (pe_c C._law_stem hr (by decide) rfl (pa_cons (pv 0) pa_nil)))
  (pss_one (ps_expr (pe_bm PySem.F.plainAttrs_list PySem.F.slot_list_append PySem.F.type_list_append mt_append (pv 13) (pa_cons (pe_ifExp (pt_cmpR (kEq K rfl hr.u64) (pv 10) pe_int (nomark _)) (pe_op (kAdd K rfl) (pv 14) (pv 15)) (pe_op (kAdd K rfl) (pv 15) (pv 14))) pa_nil)))))))
  (pss_cons (ps_set (i := 16) nd rfl (by first | exact Or.inl rfl | exact Or.inr rfl) (pe_callB (kSorted K rfl hr.u64) (by rfl) B.sorted bb_sorted (pa_cons (pe_lc (own := [("_law_one", 17), ("_law_other", 18)]) rfl nd (ki_list K rfl (pv 5)) (blkOk_by (own := [("_law_one", 17), ("_law_other", 18)]) (N := nN__law_random_graph) (sc := defScope s__law_random_graph) (by decide +kernel)) (fun _ _ _ _ _ => (kg_tup (n := 2) K rfl rfl (pgs_cons (pg_name (i := 17) nd rfl (by first | exact Or.inl rfl | exact Or.inr rfl)) (pgs_cons (pg_name (i := 18) nd rfl (by first | exact Or.inl rfl | exact Or.inr rfl)) pgs_nil)))) (fun _ _ _ _ _ => pts_nil) (fun _ _ _ _ _ => (pe_callTy (kTuple K rfl) (by rfl) B.tuple bb_tuple (pa_cons (pe_callB (kSorted K rfl hr.u64) (by rfl) B.sorted bb_sorted (pa_cons (pe_lst (pa_cons (pe_ix (kIx K rfl) (pv 13) (pv 17) (fun _ _ => rfl)) (pa_cons (pe_ix (kIx K rfl) (pv 13) (pv 18) (fun _ _ => rfl)) pa_nil))) pa_nil)) pa_nil)))) pa_nil)))
  (pss_one (ps_ret (pe_tup (pa_cons (pe_callTy (kTuple K rfl) (by rfl) B.tuple bb_tuple (pa_cons (pe_callB (kSorted K rfl hr.u64) (by rfl) B.sorted bb_sorted (pa_cons (pv 13) pa_nil)) pa_nil)) (pa_cons (pe_callTy (kTuple K rfl) (by rfl) B.tuple bb_tuple (pa_cons (pv 16) pa_nil)) pa_nil)))))))))))))))), ?_⟩
    wtm_at "rd"
    refine use_draw hp0 (by decide) (by decide) fun dir H1 _ _ g1 => ?_
    wtm_at "rd"
    refine use_draw g1.pool (by omega) (by omega) fun many H2 c0 c1 g => ?_
    have g2 := g1.trans g
    clear g g1
    wtm_at "rd"
    refine use_draw g2.pool (by decide) (by decide) fun dens H3 _ _ g => ?_
    have g3 := g2.trans g
    clear g g2
    wtm_at "rd"
    intro pA fpA
    have npp := Ne.symm (g3.pool.ne fpA)
    have fp0 := g3.free _ fpA
    have b4 : PK H p pA [] (upd H3 pA (.lst [])) := ⟨g3.new fpA, upd_same, fun x h => nomatch h⟩
    generalize upd H3 pA (.lst []) = H4 at b4
    clear fpA g3
    wtm_at "rd"
    refine turnsR (fun i σ H' => ∃ (u6 u7 u8 u9 : Option V) (prs : List (Addr × Nat × Nat)), σ = [some (.ref p), some (.int most), some (.int dir), some (.int many), some (.int dens), some (.ref pA), u6, u7, u8, u9, none, none, none, none, none, none, none, none, none] ∧ PK H p pA prs H' ∧ (∀ x ∈ prs, x.2.1 < many.toNat ∧ x.2.2 < many.toNat ∧ x.2.1 ≠ x.2.2) ∧ prs.length ≤ 25 * i) ⟨_, _, _, _, [], rfl, b4, (fun x h => nomatch h), Nat.le_refl _⟩ ?_ ?_
    · rintro i σ H' hi ⟨u6, u7, u8, u9, prs, rfl, bk, pin, pl⟩
      have hi25 : i < 25 := by omega
      wtm_at "rd"
      refine turnsR (fun j σ H' => ∃ (u7 u8 u9 : Option V) (prs : List (Addr × Nat × Nat)), σ = [some (.ref p), some (.int most), some (.int dir), some (.int many), some (.int dens), some (.ref pA), some (.int (0 + (i : Int))), u7, u8, u9, none, none, none, none, none, none, none, none, none] ∧ PK H p pA prs H' ∧ (∀ x ∈ prs, x.2.1 < many.toNat ∧ x.2.2 < many.toNat ∧ x.2.1 ≠ x.2.2) ∧ prs.length ≤ 25 * i + j) ⟨_, _, _, prs, rfl, bk, pin, pl⟩ ?_ ?_
      · rintro j σ H' hj ⟨u7, u8, u9, prs, rfl, bk, pin, pl⟩
        have hj : j < i := by omega
        have e0 : (0 + (i : Int)) = (i : Int) := Int.zero_add _
        have e1 : (0 + (j : Int)) = (j : Int) := Int.zero_add _
        rw [e0, e1]
        wtm_at "rd"
        refine ⟨fun σ' H2 => ∃ b : Bool, σ' = [some (.ref p), some (.int most), some (.int dir), some (.int many), some (.int dens), some (.ref pA), some (.int (i : Int)), some (.int (j : Int)), some (.bl b), u9, none, none, none, none, none, none, none, none, none] ∧ PK H p pA prs H2, ?_, ?_⟩
        · wtm_at "rd"
          refine rd_split (fun _ => ?_) (fun _ => ?_)
          · wtm_at "rd"
            exact ⟨_, rfl, bk⟩
          · wtm_at "rd"
            refine rd_split (fun _ => ?_) (fun _ => ?_)
            · wtm_at "rd"
              exact ⟨_, rfl, bk⟩
            · wtm_at "rd"
              intro t1 ft1
              have k1 := Same.new (o := .tup [.int (j : Int), .int (i : Int)]) ft1
              have h1 := @upd_same H' t1 (.tup [.int (j : Int), .int (i : Int)])
              wtm_at "rd"
              intro t2 ft2
              have k2 := Same.new (o := .tup [.int 1, .int 5]) ft2
              refine rd_eqIT (xs := [(j : Int), (i : Int)]) (ys := [1, 5]) (SqT.of (k2 _ _ h1)) (SqT.of upd_same) ?_
              wtm_at "rd"
              exact ⟨_, rfl, (bk.same k1).same k2⟩
        rintro σ' H2 ⟨b, rfl, bk⟩
        wtm_at "rd"
        refine ⟨fun σ' H2 => ∃ c : Bool, σ' = [some (.ref p), some (.int most), some (.int dir), some (.int many), some (.int dens), some (.ref pA), some (.int (i : Int)), some (.int (j : Int)), some (.bl b), some (.bl c), none, none, none, none, none, none, none, none, none] ∧ PK H p pA prs H2, ?_, ?_⟩
        · wtm_at "rd"
          refine rd_split (fun _ => ?_) (fun _ => ?_)
          · wtm_at "rd"
            refine rd_split (fun _ => ?_) (fun _ => ?_)
            · wtm_at "rd"
              exact ⟨_, rfl, bk⟩
            · wtm_at "rd"
              refine rd_split (fun _ => ?_) (fun _ => ?_)
              · wtm_at "rd"
                refine rd_split (fun _ => ?_) (fun _ => ?_)
                · wtm_at "rd"
                  exact ⟨_, rfl, bk⟩
                · wtm_at "rd"
                  exact ⟨_, rfl, bk⟩
              · wtm_at "rd"
                exact ⟨_, rfl, bk⟩
          · wtm_at "rd"
            refine rd_split (fun _ => ?_) (fun _ => ?_)
            · wtm_at "rd"
              refine rd_split (fun _ => ?_) (fun _ => ?_)
              · wtm_at "rd"
                exact ⟨_, rfl, bk⟩
              · wtm_at "rd"
                exact ⟨_, rfl, bk⟩
            · wtm_at "rd"
              exact ⟨_, rfl, bk⟩
        rintro σ' H2 ⟨c, rfl, bk⟩
        have np : ∀ {t : Addr}, ∀ x ∈ prs ++ [(t, j, i)], x.2.1 < many.toNat ∧ x.2.2 < many.toNat ∧ x.2.1 ≠ x.2.2 := fun {t} x hx => by
          rcases List.mem_append.mp hx with hx | hx
          · exact pin x hx
          · rw [List.mem_singleton.mp hx]
            exact ⟨by show j < many.toNat; omega, hi, by show j ≠ i; omega⟩
        have nl : ∀ {t : Addr}, (prs ++ [(t, j, i)]).length ≤ 25 * i + (j + 1) := fun {t} => by
          rw [List.length_append, List.length_singleton]
          omega
        wtm_at "rd"
        refine rd_b (fun _ => ?_) (fun _ => ?_)
        · refine rd_b (fun _ => ?_) (fun z => by cases z)
          wtm_at "rd"
          refine rd_tyL bk.hp ?_
          wtm_at "rd"
          intro t ft
          have bk := bk.same (Same.new (o := .tup [.int (j : Nat), .int (i : Nat)]) ft)
          have ht := @upd_same H2 t (.tup [.int (j : Nat), .int (i : Nat)])
          generalize upd H2 t (.tup [.int (j : Nat), .int (i : Nat)]) = H3 at bk ht
          wtm_at "rd"
          refine rd_append bk.hp (by rw [List.length_map]; omega) ?_
          exact ⟨_, _, _, prs ++ [(t, j, i)], rfl, bk.pair fp0 npp ht, np, nl⟩
        · wtm_at "rd"
          refine use_draw bk.go.pool (by decide) (by decide) fun r H2b _ _ g => ?_
          have bk := bk.step npp g
          wtm_at "rd"
          refine rd_split (fun _ => ?_) (fun _ => ?_)
          · wtm_at "rd"
            refine rd_tyL bk.hp ?_
            wtm_at "rd"
            intro t ft
            have bk := bk.same (Same.new (o := .tup [.int (j : Nat), .int (i : Nat)]) ft)
            have ht := @upd_same H2b t (.tup [.int (j : Nat), .int (i : Nat)])
            generalize upd H2b t (.tup [.int (j : Nat), .int (i : Nat)]) = H3 at bk ht
            wtm_at "rd"
            refine rd_append bk.hp (by rw [List.length_map]; omega) ?_
            exact ⟨_, _, _, prs ++ [(t, j, i)], rfl, bk.pair fp0 npp ht, np, nl⟩
          · wtm_at "rd"
            exact ⟨_, _, _, prs, rfl, bk, pin, by omega⟩
      · rintro σ H' ⟨u7, u8, u9, prs, rfl, bk, pin, pl⟩
        exact ⟨_, _, _, _, prs, rfl, bk, pin, by omega⟩
    rintro σ H5 ⟨u6, u7, u8, u9, prs, rfl, bk, pin, pl⟩
    have pl : prs.length ≤ 625 := by omega
    wtm_at "rd"
    refine use_draw bk.go.pool (by decide) (by decide) fun front Ha _ _ g => ?_
    have bk := bk.step npp g
    clear g
    wtm_at "rd"
    refine use_draw bk.go.pool (by decide) (by decide) fun shift Hb _ _ g => ?_
    have bk := bk.step npp g
    clear g
    wtm_at "rd"
    intro t ft
    have k := Same.new (o := .lst [.int 7, .int 1, .int 3, .int 11]) ft
    have ht := @upd_same Hb t (.lst [.int 7, .int 1, .int 3, .int 11])
    have ntp := Ne.symm (bk.go.pool.ne ft)
    have bk := bk.same k
    generalize upd Hb t (.lst [.int 7, .int 1, .int 3, .int 11]) = Hc at k ht bk
    clear k
    wtm_at "rd"
    refine use_draw bk.go.pool (by decide) (by decide) fun r Hd r0 r1 g => ?_
    have ht := g.at ht ntp
    have bk := bk.step npp g
    obtain ⟨step, hst, ist⟩ := pick4 (a := 7) (b := 1) (c := 3) (d := 11) r0 r1
    refine rd_ixL (SqL.of ht) hst ?_
    clear ht hst
    wtm_at "rd"
    intro wA fwA
    have nwp := Ne.symm (bk.go.pool.ne fwA)
    have fw0 := bk.go.free _ fwA
    have npw := ne_of_none bk.hp fwA
    have k := Same.new (o := .lst []) fwA
    have bk := bk.same k
    have hw := @upd_same Hd wA (.lst [])
    generalize upd Hd wA (.lst []) = He at k bk hw
    clear k g
    wtm_at "rd"
    refine turnsR (fun i σ H' => ∃ (u6 u14 u15 : Option V) (ws : List Str), σ = [some (.ref p), some (.int most), some (.int dir), some (.int many), some (.int dens), some (.ref pA), u6, u7, u8, u9, some (.int front), some (.int shift), some (.int step), some (.ref wA), u14, u15, none, none, none] ∧ PK H p pA prs H' ∧ H' wA = some (.lst (ws.map V.str)) ∧ ws.length = i ∧ Wds (decide (front = 0)) shift step ws) ⟨_, _, _, [], rfl, bk, hw, rfl, Wds.nil⟩ ?_ ?_
    · rintro i σ H' hi ⟨u6, u14, u15, ws, rfl, bk, hw, hwl, wn⟩
      have ir : 0 ≤ ((0 + (i : Int)) * step + shift) % 26 ∧ ((0 + (i : Int)) * step + shift) % 26 < 26 := by omega
      wtm_at "rd"
      refine rd_ixS letters_len (letters_at ir.1 ir.2) ?_
      have e0 : 97 + (((0 + (i : Int)) * step + shift) % 26).toNat = 97 + (((ws.length : Int) * step + shift) % 26).toNat := by rw [hwl, Int.zero_add]
      rw [e0]
      generalize hch : (⟨#[97 + (((ws.length : Int) * step + shift) % 26).toNat]⟩ : Str) = ch
      have chl : ch.length = 1 := by rw [← hch]; rfl
      wtm_at "rd"
      refine ⟨p, rfl, bk.go.pool, fun st H2 g it => ?_⟩
      have bk := bk.step npp g
      have hw := g.at hw nwp
      have tl := it.1
      wtm_at "rd"
      refine rd_tyL hw ?_
      wtm_at "rd"
      refine rd_split (fun c => ?_) (fun c => ?_)
      · wtm_at "rd"
        refine rd_addS (Nat.le_trans (Nat.add_le_add (Nat.le_of_eq chl) tl) (by decide)) ?_
        wtm_at "rd"
        refine rd_append hw (by rw [List.length_map]; omega) ?_
        have nm : WdAt (decide (front = 0)) shift step ws.length (ch ++ st) := ⟨st, it, by rw [decide_eq_true c, if_pos rfl, hch]⟩
        refine ⟨_, _, _, ws ++ [ch ++ st], rfl, bk.putW fw0 nwp npw hw, by rw [upd_same, List.map_append]; rfl, by rw [List.length_append, hwl]; rfl, wn.snoc nm⟩
      · wtm_at "rd"
        refine rd_addS (Nat.le_trans (Nat.add_le_add tl (Nat.le_of_eq chl)) (by decide)) ?_
        wtm_at "rd"
        refine rd_append hw (by rw [List.length_map]; omega) ?_
        have nm : WdAt (decide (front = 0)) shift step ws.length (st ++ ch) := ⟨st, it, by rw [decide_eq_false c, if_neg Bool.false_ne_true, hch]⟩
        refine ⟨_, _, _, ws ++ [st ++ ch], rfl, bk.putW fw0 nwp npw hw, by rw [upd_same, List.map_append]; rfl, by rw [List.length_append, hwl]; rfl, wn.snoc nm⟩
    rintro σ H6 ⟨u6, u14, u15, ws, rfl, bk, hw, hwl, wn⟩
    have nu := wn.names ist (by omega)
    wtm_at "rd"
    refine rd_forL (SqL.of bk.hp) ?_
    intro D fD
    refine lcL (K := K) (xs := prs.map fun x => V.ref x.1) (fun i H' => ∃ es : List (Addr × Str × Str), Same H6 H' ∧ H' D = some (.lst (es.map fun x => V.ref x.1)) ∧ PrsAt H' es ∧ (∀ x ∈ es.map (·.2), (x.1 ∈ ws ∧ x.2 ∈ ws) ∧ eOf x.1 x.2 = x ∧ x.1 ≠ x.2) ∧ es.length ≤ i) ⟨[], Same.new fD, upd_same, (fun x h => nomatch h), (fun x h => nomatch h), Nat.le_refl _⟩ ?_ ?_ ?_
    · rintro i H' hi ⟨es, sb, _⟩
      exact SqL.of (sb _ _ bk.hp)
    · rintro i y H' hy ⟨es, sb, hD, tp, em, el⟩
      obtain ⟨hi, rfl⟩ := map_at hy
      have pm := List.getElem_mem hi
      have ht := sb _ _ (bk.tp _ pm)
      have pi := pin _ pm
      generalize prs[i] = x at *
      obtain ⟨xa, a, b⟩ := x
      dsimp only at ht pi ⊢
      have ha : a < ws.length := by omega
      have hb : b < ws.length := by omega
      refine rd_unp (SqT.of (xs := [.int (a : Nat), .int (b : Nat)]) ht) rfl ?_
      wtm_at "rd"
      refine rd_ixL (SqL.of (sb _ _ hw)) (v := .str ws[a]) (atI_nat (by rw [List.getElem?_map, List.getElem?_eq_getElem ha]; rfl)) ?_
      wtm_at "rd"
      refine rd_ixL (SqL.of (sb _ _ hw)) (v := .str ws[b]) (atI_nat (by rw [List.getElem?_map, List.getElem?_eq_getElem hb]; rfl)) ?_
      have nab : ws[a] ≠ ws[b] := fun z => pi.2.2 (by
        have inj := List.pairwise_iff_getElem.mp (List.nodup_iff_pairwise_ne.mp nu.nd)
        rcases Nat.lt_trichotomy a b with c | c | c
        · exact absurd z (inj a b ha hb c)
        · exact c
        · exact absurd z.symm (inj b a hb ha c))
      have ma := List.getElem_mem ha
      have mb := List.getElem_mem hb
      generalize ws[a] = xa at *
      generalize ws[b] = xb at *
      wtm_at "rd"
      intro t1 ft1
      have k1 := Same.new (o := .lst [.str xa, .str xb]) ft1
      wtm_at "rd"
      refine rd_sortS (xs := [xa, xb]) (SqL.of upd_same) (by show 2 ≤ 100000; decide) ?_
      intro ys py sy t2 ft2
      have k2 := Same.new (o := .lst (ys.map V.str)) ft2
      wtm_at "rd"
      refine rd_tupleL (SqL.of upd_same) ?_
      intro t3 ft3
      have k3 := Same.new (o := .tup (ys.map V.str)) ft3
      have sA := (k1.trans k2).trans k3
      have h3 := @upd_same (upd (upd H' t1 (.lst [.str xa, .str xb])) t2 (.lst (ys.map V.str))) t3 (.tup (ys.map V.str))
      generalize upd (upd (upd H' t1 (.lst [.str xa, .str xb])) t2 (.lst (ys.map V.str))) t3 (.tup (ys.map V.str)) = Ha at sA h3
      rw [sort2h py sy] at h3
      refine rd_acc (sA _ _ hD) (by rw [List.length_map]; omega) ?_
      have hDa := sA _ _ hD
      refine ⟨es ++ [(t3, eOf xa xb)], same_put (sb.trans sA) fD, by rw [upd_same, List.map_append]; rfl, fun z hz => ?_, fun z hz => ?_, by rw [List.length_append, List.length_singleton]; omega⟩
      · rcases List.mem_append.mp hz with hz | hz
        · exact at_upd (ne_of (sA _ _ (tp z hz)) hDa (by intro z; cases z)) (sA _ _ (tp z hz))
        · rw [List.mem_singleton] at hz
          subst hz
          exact at_upd (ne_of h3 hDa (by intro z; cases z)) h3
      · rw [List.map_append] at hz
        rcases List.mem_append.mp hz with hz | hz
        · exact em z hz
        · rw [List.mem_singleton.mp hz]
          refine ⟨?_, eOf_idem, ?_⟩
          · show (eOf xa xb).1 ∈ ws ∧ (eOf xa xb).2 ∈ ws
            rcases eOf_cases xa xb with z | z <;> rw [z]
            · exact ⟨ma, mb⟩
            · exact ⟨mb, ma⟩
          · show (eOf xa xb).1 ≠ (eOf xa xb).2
            rcases eOf_cases xa xb with z | z <;> rw [z]
            · exact nab
            · exact nab.symm
    rintro H7 ⟨es, s7, hD, tp, em, el⟩
    rw [List.length_map] at el
    have g7 := bk.go.same s7
    have hw := s7 _ _ hw
    clear bk s7 fD
    wtm_at "rd"
    refine rd_sortE (SqL.of hD) (fun x hx => SqT.of (tp x hx)) (by omega) ?_
    intro es2 pe se
    have tp : PrsAt H7 es2 := fun x hx => tp x (pe.mem_iff.mp hx)
    have em : ∀ x ∈ es2.map (·.2), (x.1 ∈ ws ∧ x.2 ∈ ws) ∧ eOf x.1 x.2 = x ∧ x.1 ≠ x.2 := fun x hx => em x ((pe.map (·.2)).mem_iff.mp hx)
    have el2 : es2.length ≤ 700 := by rw [pe.length_eq]; omega
    intro eA feA
    have k := Same.new (o := .lst (es2.map fun x => V.ref x.1)) feA
    have he := @upd_same H7 eA (.lst (es2.map fun x => V.ref x.1))
    have hw := k _ _ hw
    have tp := tp.same k
    have g7 := g7.same k
    generalize upd H7 eA (.lst (es2.map fun x => V.ref x.1)) = H8 at he hw tp g7
    clear k feA hD
    wtm_at "rd"
    refine rd_sortS (SqL.of hw) (by omega) ?_
    intro ns1 pn1 sn1 l1 fl1
    have k := Same.new (o := .lst (ns1.map V.str)) fl1
    have hl1 := @upd_same H8 l1 (.lst (ns1.map V.str))
    have hw := k _ _ hw
    have he := k _ _ he
    have tp := tp.same k
    have g7 := g7.same k
    generalize upd H8 l1 (.lst (ns1.map V.str)) = H9 at hl1 hw he tp g7
    clear k fl1
    wtm_at "rd"
    refine rd_tupleL (SqL.of hl1) ?_
    intro nA fnA
    have k := Same.new (o := .tup (ns1.map V.str)) fnA
    have hn := @upd_same H9 nA (.tup (ns1.map V.str))
    have hw := k _ _ hw
    have he := k _ _ he
    have tp := tp.same k
    have g7 := g7.same k
    generalize upd H9 nA (.tup (ns1.map V.str)) = Ha at hn hw he tp g7
    clear k fnA
    wtm_at "rd"
    refine rd_tupleL (SqL.of he) ?_
    intro eT feT
    have k := Same.new (o := .tup (es2.map fun x => V.ref x.1)) feT
    have het := @upd_same Ha eT (.tup (es2.map fun x => V.ref x.1))
    have hn := k _ _ hn
    have tp := tp.same k
    have g7 := g7.same k
    generalize upd Ha eT (.tup (es2.map fun x => V.ref x.1)) = Hb at hn het tp g7
    clear k feT
    wtm_at "rd"
    intro gA fgA
    have k := Same.new (o := .tup [.ref nA, .ref eT]) fgA
    have hg := @upd_same Hb gA (.tup [.ref nA, .ref eT])
    have hn := k _ _ hn
    have het := k _ _ het
    have tp := tp.same k
    have g7 := g7.same k
    generalize upd Hb gA (.tup [.ref nA, .ref eT]) = Hz at hn het tp g7 hg
    exact q gA nA eT ns1 es2 Hz g7 ⟨⟨hg, hn, het, tp⟩, fun x hx => nu.ok x (pn1.mem_iff.mp hx), pn1.nodup_iff.mpr nu.nd, fun x hx => ⟨pn1.mem_iff.mpr (em x hx).1.1, pn1.mem_iff.mpr (em x hx).1.2⟩, fun x hx => (em x hx).2.1, fun x hx => (em x hx).2.2, by rw [pn1.length_eq]; omega, by omega⟩ ⟨by rw [pn1.length_eq]; omega, el2⟩
end
end Law

/-! a def that calls itself -/
namespace Law
open PySem PySem.Spec PyProof.Rows L2 U
structure SelfR (K : PySem.W.Frag) (mg : Str → Option Value) (x : Str) (f : Addr) (fd : FuncData) (ps : List Str) : Prop where
  mg : mg x = some (.ref f)
  kp : PySem.W.keepIn K (.ref f) = true
  bd : Binds K fd ps []
end Law

/-! k61: is_tree_below -/
namespace U
open PySem PySem.Spec PyProof.Rows L2
/-- a candidate: no tree, three texts, or a text, a name and parts -/
inductive Tr where
  | no
  | leaf (l x y : Str)
  | node (l x : Str) (ts : List Tr)
def trK (tr : List (Str × Int)) : List (Key × V) := tr.map fun x => (.inr x.1, .int x.2)
def valS (tr : List (Str × Int)) (x : Str) : Option Int := (tr.find? fun y => decide (y.1 = x)).map (·.2)
def putS (tr : List (Str × Int)) (x : Str) (v : Int) : List (Str × Int) := if (tr.any fun y => decide (y.1 = x)) = true then tr.map (fun y => if y.1 = x then (y.1, v) else y) else tr ++ [(x, v)]
theorem valS_K {x : Str} : ∀ {tr : List (Str × Int)}, valV (trK tr) (.inr x) = (valS tr x).map V.int
  | [] => rfl
  | y :: r => by
    have ih := valS_K (x := x) (tr := r)
    unfold valV valS trK at ih ⊢
    rw [List.map_cons]
    by_cases c : y.1 = x
    · rw [List.find?_cons_of_pos (by simp [c]), List.find?_cons_of_pos (by simp [c])]
      rfl
    · rw [List.find?_cons_of_neg (by simp [c]), List.find?_cons_of_neg (by simp [c]), ih]
theorem putS_K {tr : List (Str × Int)} {x : Str} {v : Int} : putK (trK tr) (.inr x) (.int v) = trK (putS tr x v) := by
  have an : ((trK tr).any fun kv => decide (kv.1 = .inr x)) = tr.any fun y => decide (y.1 = x) := by
    unfold trK
    rw [List.any_map]
    congr 1
    funext y
    exact decide_eq_decide.mpr ⟨fun e => Sum.inr.inj e, fun e => congrArg Sum.inr e⟩
  unfold putK putS
  rw [an]
  by_cases c : (tr.any fun y => decide (y.1 = x)) = true
  · rw [if_pos c, if_pos c]
    unfold trK
    rw [List.map_map, List.map_map]
    refine List.map_congr_left fun y _ => ?_
    simp only [Function.comp]
    by_cases z : y.1 = x
    · rw [if_pos (by rw [z]), if_pos z]
    · rw [if_neg (fun e => z (Sum.inr.inj e)), if_neg z]
  · rw [if_neg c, if_neg c]
    unfold trK
    rw [List.map_append]
    rfl
theorem putS_len {tr : List (Str × Int)} {x : Str} {v : Int} : (putS tr x v).length ≤ tr.length + 1 := by
  unfold putS
  split
  · rw [List.length_map]; omega
  · rw [List.length_append]; exact Nat.le_refl _
/-- is it a case tree below these values -/
def okT (ns : List Str) (es : List (Str × Str)) : Nat → Tr → List (Str × Int) → Bool
  | _, .no, _ => false
  | _, .leaf l x y, tr => decide (l = "conflict") && (decide (x ∈ ns) && (decide (eOf x y ∈ es) && ((valS tr x).isSome && ((valS tr y).isSome && decide (valS tr x = valS tr y)))))
  | 0, .node _ _ _, _ => false
  | n + 1, .node l x ts, tr => decide (l = "branch") && (decide (x ∈ ns) && ((valS tr x).isNone && match ts with
    | [a, b, c] => [okT ns es n a (putS tr x 0), okT ns es n b (putS tr x 1), okT ns es n c (putS tr x 2)].all id
    | _ => false))
theorem okT_leaf {ns : List Str} {es : List (Str × Str)} {n : Nat} {l x y : Str} {tr : List (Str × Int)} : okT ns es n (.leaf l x y) tr = (decide (l = "conflict") && (decide (x ∈ ns) && (decide (eOf x y ∈ es) && ((valS tr x).isSome && ((valS tr y).isSome && decide (valS tr x = valS tr y)))))) := by
  unfold okT
  rfl
theorem okT_node {ns : List Str} {es : List (Str × Str)} {n : Nat} {l x : Str} {ts : List Tr} {tr : List (Str × Int)} : okT ns es (n + 1) (.node l x ts) tr = (decide (l = "branch") && (decide (x ∈ ns) && ((valS tr x).isNone && (decide (ts.length = 3) && (((List.range 3).map fun i => okT ns es n (ts.getD i .no) (putS tr x i)).all id))))) := by
  conv => lhs; unfold okT
  match ts with
  | [] => simp
  | [_] => simp
  | [_, _] => simp
  | [a, b, c] =>
    rw [show (decide ([a, b, c].length = 3)) = true from rfl, Bool.true_and]
    rfl
  | a :: b :: c :: d :: r =>
    rw [show decide ((a :: b :: c :: d :: r).length = 3) = false from decide_eq_false (by simp), Bool.false_and]
theorem conf_ne : ("conflict" : Str) ≠ "branch" := by decide +kernel
/-- a random tree in the heap -/
def RtAt : Nat → (Addr → Prop) → Hp → V → Tr → Prop
  | _, _, H, v, .no => v = .non ∨ v = .str "ab" ∨ ∃ a, v = .ref a ∧ (H a = some (.tup []) ∨ H a = some (.tup [.str "conflict", .int 1, .int 2]))
  | _, _, H, v, .leaf l x y => ∃ a, v = .ref a ∧ H a = some (.tup [.str l, .str x, .str y])
  | 0, _, _, _, .node _ _ _ => False
  | n + 1, p, H, v, .node l x ts => ∃ (a q : Addr) (vs : List V), v = .ref a ∧ H a = some (.tup [.str l, .str x, .ref q]) ∧ H q = some (.lst vs) ∧ ¬ p q ∧ Paired (RtAt n p H) vs ts
theorem Paired.mapR {α β : Type} {F G : α → β → Prop} (h : ∀ a b, F a b → G a b) : ∀ {xs : List α} {ys : List β}, Paired F xs ys → Paired G xs ys
  | _, _, .nil => .nil
  | _, _, .cons a r => .cons (h _ _ a) (Paired.mapR h r)
theorem Paired.lenR {α β : Type} {F : α → β → Prop} : ∀ {xs : List α} {ys : List β}, Paired F xs ys → xs.length = ys.length
  | _, _, .nil => rfl
  | _, _, .cons _ r => congrArg (· + 1) (Paired.lenR r)
theorem RtAt.keep {p : Addr → Prop} {H H' : Hp} (kt : ∀ a xs, H a = some (.tup xs) → H' a = some (.tup xs)) (kl : ∀ a xs, ¬ p a → H a = some (.lst xs) → H' a = some (.lst xs)) : ∀ {n : Nat} {v : V} {t : Tr}, RtAt n p H v t → RtAt n p H' v t
  | n, v, .no, h => by
    unfold RtAt at h ⊢
    rcases h with h | h | ⟨a, e, h⟩
    · exact .inl h
    · exact .inr (.inl h)
    · exact .inr (.inr ⟨a, e, h.imp (kt _ _) (kt _ _)⟩)
  | n, v, .leaf l x y, h => by
    unfold RtAt at h ⊢
    obtain ⟨a, e, h⟩ := h
    exact ⟨a, e, kt _ _ h⟩
  | 0, v, .node l x ts, h => by
    unfold RtAt at h
    exact h.elim
  | n + 1, v, .node l x ts, h => by
    unfold RtAt at h ⊢
    obtain ⟨a, q, vs, e, h1, h2, h3, h4⟩ := h
    exact ⟨a, q, vs, e, kt _ _ h1, kl _ _ h3 h2, h3, Paired.mapR (fun a b z => RtAt.keep kt kl z) h4⟩
theorem RtAt.same {p : Addr → Prop} {H H' : Hp} {n : Nat} {v : V} {t : Tr} (h : RtAt n p H v t) (s : Same H H') : RtAt n p H' v t := h.keep (fun a xs => s _ _) (fun a xs _ => s _ _)
/-- no tree -/
def NtAt (K : PySem.W.Frag) (H : Hp) (v : V) : Prop := (∃ ty, TyIs K H v ty ∧ isT ty .tup = false) ∨ (∃ a xs, v = .ref a ∧ SqT K H a xs ∧ xs.length ≠ 3) ∨ ∃ a l m r ty, v = .ref a ∧ SqT K H a [l, m, r] ∧ TyIs K H m ty ∧ isT ty .str = false
/-- a candidate, seen from above -/
theorem RtAt.see {K : PySem.W.Frag} {n : Nat} {p : Addr → Prop} {H : Hp} {v : V} {t : Tr} {ns : List Str} {es : List (Str × Str)} {tr : List (Str × Int)} (h : RtAt n p H v t) :
    (NtAt K H v ∧ okT ns es n t tr = false) ∨ (∃ l x y a, t = .leaf l x y ∧ v = .ref a ∧ H a = some (.tup [.str l, .str x, .str y])) ∨ ∃ m l x ts a q vs, n = m + 1 ∧ t = .node l x ts ∧ v = .ref a ∧ H a = some (.tup [.str l, .str x, .ref q]) ∧ H q = some (.lst vs) ∧ ¬ p q ∧ Paired (RtAt m p H) vs ts := by
  match n, t, h with
  | n, .no, h =>
    unfold RtAt at h
    refine .inl ⟨?_, by unfold okT; rfl⟩
    rcases h with rfl | rfl | ⟨a, rfl, h | h⟩
    · exact .inl ⟨.non, .base .non, rfl⟩
    · exact .inl ⟨.str, .base (.str _), rfl⟩
    · exact .inr (.inl ⟨a, _, rfl, SqT.of h, by decide⟩)
    · exact .inr (.inr ⟨a, _, _, _, .int, rfl, SqT.of h, .base (.int _), rfl⟩)
  | n, .leaf l x y, h =>
    unfold RtAt at h
    obtain ⟨a, e, h⟩ := h
    exact .inr (.inl ⟨l, x, y, a, rfl, e, h⟩)
  | n + 1, .node l x ts, h =>
    unfold RtAt at h
    obtain ⟨a, q, vs, h⟩ := h
    exact .inr (.inr ⟨n, l, x, ts, a, q, vs, rfl, rfl, h⟩)
end U
namespace Law
open PySem PySem.Spec PyProof.Rows L2 U
local macro_rules | `(tactic| wtm_at "rd1") => `(tactic| first
  | with_reducible refine rd_seq ?_
  | ((with_reducible refine rd_var (v := ?vv) ?hv ?_); (case hv => exact rfl))
  | with_reducible refine rd_c ?_
  | with_reducible refine rd_cons ?_
  | with_reducible refine rd_nil ?_
  | with_reducible refine rd_op ?_
  | with_reducible refine rd_asg ?_
  | with_reducible refine rd_name ?_
  | with_reducible refine rd_c1 ?_
  | with_reducible refine rd_cb ?_
  | with_reducible refine rd_test ?_
  | with_reducible refine rd_B ?_
  | with_reducible refine rd_bl ?_
  | with_reducible refine rd_if ?_
  | with_reducible refine rd_ret ?_
  | with_reducible refine rd_drop ?_
  | with_reducible refine rd_next ?_
  | with_reducible refine rd_addI ?_
  | with_reducible refine rd_ltI ?_
  | with_reducible refine rd_eqI ?_
  | with_reducible refine rd_neI ?_
  | with_reducible refine rd_eqS ?_
  | with_reducible refine rd_neS ?_
  | with_reducible refine rd_gtI ?_
  | with_reducible refine rd_geI ?_
  | with_reducible refine rd_leI ?_
  | with_reducible refine rd_ltS ?_
  | with_reducible refine rd_subI ?_
  | ((with_reducible refine rd_modI ?hc ?_); (case hc => first | decide | omega))
  | ((with_reducible refine rd_mulI ?hc ?_); (case hc => first | exact mul_bI | exact .inl (.inr (by decide)) | exact .inl (.inl (by decide)) | exact .inl (.inr (by omega)) | exact .inl (.inl (by omega))))
  | ((with_reducible refine rd_divI ?hc ?_); (case hc => first | decide | omega))
  | ((with_reducible refine rd_powI ?hc ?_); (case hc => exact ⟨by decide, by decide, by decide⟩))
  | with_reducible refine rd_lst ?_
  | with_reducible refine rd_tup ?_
  | ((with_reducible refine rd_sz ?hv ?_); (case hv => exact rfl))
  | with_reducible refine rd_and ?_
  | with_reducible refine rd_or ?_
  | with_reducible refine rd_not ?_
  | with_reducible refine rd_andV ?_
  | with_reducible refine rd_orV ?_
  | with_reducible refine rd_notV ?_
  | with_reducible refine rd_ifE ?_
  | with_reducible refine rd_T ?_
  | with_reducible refine rd_F ?_
  | with_reducible refine rd_chain ?_
  | with_reducible refine rd_is ?_
  | with_reducible refine rd_isNot ?_
  | with_reducible refine rd_absI ?_
  | with_reducible refine rd_maxI ?_
  | with_reducible refine rd_minI ?_
  | with_reducible refine rd_intI ?_
  | with_reducible refine rd_intB ?_
  | with_reducible refine rd_sub ?_
  | with_reducible refine rd_sl ?_
  | with_reducible refine rd_noPart ?_
  | with_reducible refine rd_part ?_
  | with_reducible refine rd_exI ?_
  | with_reducible refine rd_bm ?_
  | with_reducible refine rd_bm0 ?_
  | with_reducible refine rd_un ?_
  | with_reducible refine rd_neg ?_
  | with_reducible refine rd_c2 ?_
  | with_reducible refine rd_retN ?_
  | with_reducible refine rd_break ?_
  | with_reducible refine rd_cont ?_
  | with_reducible refine rd_for ?_
  | with_reducible refine rd_rng1 ?_
  | with_reducible refine rd_rng2 ?_
  | with_reducible refine rd_iList ?_
  | with_reducible refine rd_iTup ?_
  | with_reducible refine rd_iEnum ?_
  | ((with_reducible refine rd_forR ?h0 ?h1 ?_); (case h0 => omega); (case h1 => omega))
  | with_reducible refine rd_lc ?_
  | with_reducible refine rd_gcons ?_
  | with_reducible refine rd_gnil ?_
  | with_reducible refine rd_dget ?_
  | with_reducible refine rd_dput ?_
  | with_reducible refine rd_dnew ?_
  | with_reducible refine rd_dc ?_
  | with_reducible refine rd_iItems ?_
  | with_reducible refine rd_iKeys ?_
  | with_reducible refine rd_din ?_
  | with_reducible refine rd_lc2 ?_
  | with_reducible refine rd_cd ?_
  | with_reducible refine rd_par ?_
  | with_reducible refine rd_two ?_
  | with_reducible refine rd_reprB ?_
  | with_reducible refine rd_ck ?_
  | ((with_reducible refine rd_len ?hl ?_); (case hl => exact rfl))
  | with_reducible refine rd_nT ?_
  | with_reducible refine rd_nF ?_
  | with_reducible refine rd_dnin ?_
  | with_reducible refine rd_isB ?_
  | with_reducible refine rd_isNotB ?_
  | with_reducible refine rd_daug ?_
  | with_reducible refine rd_yesT ?_
  | ((with_reducible refine rd_wp ?hw ?_); (case hw => exact rfl)))
local macro_rules | `(tactic| wtm_at "rd") => `(tactic| repeat wtm_at "rd1")

theorem RtAt.go {W : Addr → Prop} {p : Addr} {H H' : Hp} {n : Nat} {v : V} {t : Tr} (h : RtAt n W H v t) (wp : W p) (hp : PoolAt H p) (g : Go p H H') : RtAt n W H' v t := h.keep (fun a xs z => g.at z (hp.offTB z)) (fun a xs ne z => g.at z fun e => ne (e ▸ wp))
theorem RtAt.mono {W W' : Addr → Prop} (w : ∀ a, W' a → W a) {H : Hp} : ∀ {n : Nat} {v : V} {t : Tr}, RtAt n W H v t → RtAt n W' H v t
  | n, v, .no, h => by
    unfold RtAt at h ⊢
    exact h
  | n, v, .leaf l x y, h => by
    unfold RtAt at h ⊢
    exact h
  | 0, v, .node l x ts, h => by
    unfold RtAt at h
    exact h.elim
  | n + 1, v, .node l x ts, h => by
    unfold RtAt at h ⊢
    obtain ⟨a, q, vs, e, h1, h2, h3, h4⟩ := h
    exact ⟨a, q, vs, e, h1, h2, fun z => h3 (w q z), Paired.mapR (fun a b z => RtAt.mono w z) h4⟩
theorem rd_dispT {σ : L2.St} {H : Hp} {Q : VK} {tk tv : TE} (h : ∀ p, H p = none → tk σ (upd H p (.dK [])) fun x H1 => tv σ H1 fun y H2 => H2 p = some (.dK []) ∧ ∃ kvs : List (Key × V), [(x, y)] = kvs.map (fun kv => (kV kv.1, kv.2)) ∧ kvs.length ≤ 15 ∧ Q (.ref p) (upd H2 p (.dK (mergeK [] kvs)))) : tDisp [(tk, tv)] σ H Q := h
def spHasT (K : PySem.W.Frag) : Sp := fun vs H Q _ => ∃ (g n e : Addr) (v : V) (ty : Ty) (ns : List Str) (es : List (Addr × Str × Str)), vs = [.ref g, v] ∧ GrAt H g n e ns es ∧ ((∃ x, v = .str x ∧ Q (.bl (decide (x ∈ ns))) H) ∨ (TyIs K H v ty ∧ isT ty .str = false ∧ Q (.bl false) H))
def spEdgeT : Sp := fun vs H Q _ => ∃ x y : Str, vs = [.str x, .str y] ∧ ∀ t, H t = none → Q (.ref t) (upd H t (.tup [.str (eOf x y).1, .str (eOf x y).2]))
def spTree (K : PySem.W.Frag) (n : Nat) : Sp := fun vs H Q _ => ∃ (g nA e d : Addr) (p : Addr → Prop) (v : V) (ns : List Str) (es : List (Addr × Str × Str)) (tr : List (Str × Int)) (b : Bool), vs = [.ref g, v, .ref d] ∧ GrN H g nA e ns es ∧ H d = some (.dK (trK tr)) ∧ tr.length + n ≤ 100 ∧ ((NtAt K H v ∧ b = false) ∨ ∃ t, RtAt n p H v t ∧ b = okT ns (es.map (·.2)) n t tr) ∧
  ∀ H', Same H H' → Q (.bl b) H'
theorem GrN.same {H H' : Hp} {g n e : Addr} {ns : List Str} {es : List (Addr × Str × Str)} (h : GrN H g n e ns es) (s : Same H H') : GrN H' g n e ns es := ⟨h.gr.same s, h.nm, h.nd, h.mem, h.so, h.ne, h.l1, h.l2⟩
theorem GrN.sok {H : Hp} {g n e : Addr} {ns : List Str} {es : List (Addr × Str × Str)} (h : GrN H g n e ns es) : ∀ x ∈ es.map (·.2), PyData.strOk x.1 = true ∧ PyData.strOk x.2 = true := fun x hx => ⟨(h.nm _ (h.mem x hx).1).sok, (h.nm _ (h.mem x hx).2).sok⟩
section
variable {P : Program} {w : World} {K : PySem.W.Frag} {mg : Str → Option Value} {base : Heap}
theorem ok_hasT {f : Addr} {fd : FuncData} (F : Fun K "has_node" "has_node" s_has_node f fd) (B : Bt mg) : FnG P w K mg base CX0 1 f fd ["graph", "candidate"] (spHasT K) := by
  refine fnG0 F sc_has_node (fun vs H Q E h => ?_) (fun cdv A outer s H vs Q E hr h => ?_)
  · obtain ⟨g, n, e, v, ty, ns, es, rfl, _⟩ := h
    rfl
  · obtain ⟨g, n, e, v, ty, ns, es, rfl, hg, h⟩ := h
    have nd := sc_has_node.nd
    have hu := hr.u1
    refine ⟨_, (pss_one (ps_ret (pe_and (pe_callB (kIsi K rfl) (by rfl) B.isinstance bb_isinstance (pa_cons (pv 1) (pa_cons (pe_ty rfl B.str bb_str) pa_nil))) (pe_one (pe_cmpR (kIn K rfl) (pv 1) (pe_ix (kIx K rfl) (pv 0) pe_int (fun _ _ => rfl)) rfl))))), ?_⟩
    wtm_at "rd"
    rcases h with ⟨x, rfl, q⟩ | ⟨ht, hs, q⟩
    · refine rd_isi (a := .str) (.base (.str _)) rfl ?_
      rw [show isT Ty.str Ty.str = true from rfl]
      wtm_at "rd"
      refine rd_ixT (SqT.of hg.top) (v := .ref n) rfl ?_
      refine rd_inST (SqT.of hg.nodes) ?_
      wtm_at "rd"
      exact q
    · refine rd_isi ht rfl ?_
      rw [hs]
      wtm_at "rd"
      exact q
theorem ok_edgeT {f : Addr} {fd : FuncData} (F : Fun K "edge_of" "edge_of" s_edge_of f fd) (B : Bt mg) : FnG P w K mg base CX0 1 f fd ["first", "second"] spEdgeT := by
  refine fnG0 F sc_edge_of (fun vs H Q E h => ?_) (fun cdv A outer s H vs Q E hr h => ?_)
  · obtain ⟨x, y, rfl, _⟩ := h
    rfl
  · obtain ⟨x, y, rfl, q⟩ := h
    have nd := sc_edge_of.nd
    refine ⟨_, (pss_one (ps_ret (pe_ifExp (pt_cmpR uLt (pv 0) (pv 1) (nomark _)) (pe_tup (pa_cons (pv 0) (pa_cons (pv 1) pa_nil))) (pe_tup (pa_cons (pv 1) (pa_cons (pv 0) pa_nil)))))), ?_⟩
    unfold eOf at q
    wtm_at "rd"
    refine rd_split (fun c => ?_) (fun c => ?_)
    · have c : sLt x y := c
      rw [if_pos c] at q
      wtm_at "rd"
      exact fun t ft => q t ft
    · have c : ¬ sLt x y := c
      rw [if_neg c] at q
      wtm_at "rd"
      exact fun t ft => q t ft
structure CUa (P : Program) (w : World) (K : PySem.W.Frag) (mg : Str → Option Value) (base : Heap) : Prop where
  has_node : Cal P w K mg base CX0 1 "has_node" (spHasT K)
  edge_of : Cal P w K mg base CX0 1 "edge_of" spEdgeT
theorem ok_tree {f : Addr} {fd : FuncData} {va : Addr} (F : Fun K "is_tree_below" "is_tree_below" s_is_tree_below f fd) (B : Bt mg) (C : CUa P w K mg base) (S : SelfR K mg "is_tree_below" f fd ["graph", "candidate", "values"]) (hV : mg "VALUES" = some (.ref va)) (sV : ∀ H, SqT K H va ([0, 1, 2].map V.int)) : ∀ n : Nat, FnG P w K mg base CX0 (n + 2) f fd ["graph", "candidate", "values"] (spTree K n) := by
  intro n
  induction n using Nat.strongRecOn with
  | ind n ih =>
  have cal : Cal P w K mg base CX0 (n + 1) "is_tree_below" (fun vs H Q E => ∃ m, m < n ∧ spTree K m vs H Q E) := ⟨f, fd, _, ⟨fun vs H Q E h => by
    obtain ⟨m, hm, h⟩ := h
    exact (ih m hm).len vs H Q E h, fun A outer s H args us vs Q E hr he hb hv h => by
    obtain ⟨m, hm, h⟩ := h
    exact (ih m hm).go A outer s H args us vs Q E (hr.mono (by omega)) he hb hv h⟩, S.mg, S.kp, S.bd⟩
  refine fnG0 F sc_is_tree_below (fun vs H Q E h => ?_) (fun cdv A outer s H vs Q E hr h => ?_)
  · obtain ⟨g, nA, e, d, p, v, ns, es, tr, b, rfl, _⟩ := h
    rfl
  · have hu65 : (A.deeper (envOfC "is_tree_below" (defScope s_is_tree_below) s.heap.objs.size f cdv)).units + 65 < cLine := by
      have := hr.u100
      omega
    obtain ⟨g, nA, e, d, p, v, ns, es, tr, b, rfl, gn, hd, tl, cand, q⟩ := h
    have nd := sc_is_tree_below.nd
    have hu := hr.u1
    refine ⟨_, (pss_cons (ps_if (PW.pt (pw_or (pt_not (pt_val (pe_callB (kIsi K rfl) (by rfl) B.isinstance bb_isinstance (pa_cons (pv 1) (pa_cons (pe_ty rfl B.tuple bb_tuple) pa_nil))))) (pw_or (pt_cmpR (kNe K rfl hr.u64) (pe_callB (kLen K rfl) (by rfl) B.len bb_len (pa_cons (pv 1) pa_nil)) pe_int (nomark _)) (pw_or1 (pt_not (pt_val (pe_c C.has_node hr (by omega) rfl (pa_cons (pv 0) (pa_cons (pe_ix (kIx K rfl) (pv 1) pe_int (fun _ _ => rfl)) pa_nil))))))))) (pss_one (ps_ret pe_bl)) pss_nil)
  (pss_cons (ps_asg (pv 1) (kg_tup (n := 3) K rfl rfl (pgs_cons (pg_name (i := 3) nd rfl (by first | exact Or.inl rfl | exact Or.inr rfl)) (pgs_cons (pg_name (i := 4) nd rfl (by first | exact Or.inl rfl | exact Or.inr rfl)) (pgs_cons (pg_name (i := 5) nd rfl (by first | exact Or.inl rfl | exact Or.inr rfl)) pgs_nil)))))
  (pss_cons (ps_if (PW.pt (pw_and (pt_cmpR (kEq K rfl hr.u64) (pv 3) pe_str (nomark _)) (pw_and1 (pt_val (pe_c C.has_node hr (by omega) rfl (pa_cons (pv 0) (pa_cons (pv 5) pa_nil))))))) (pss_cons (ps_set (i := 6) nd rfl (by first | exact Or.inl rfl | exact Or.inr rfl) (pe_cmpR (kInT K rfl hu65) (pe_c C.edge_of hr (by omega) rfl (pa_cons (pv 4) (pa_cons (pv 5) pa_nil))) (pe_ix (kIx K rfl) (pv 0) pe_int (fun _ _ => rfl)) rfl))
  (pss_one (ps_ret (pe_and (pv 6) (pe_and (pe_cmp (pc_din hu (pv 4) (pv 2))) (pe_and (pe_cmp (pc_din hu (pv 5) (pv 2))) (pe_one (pe_cmpR (kEq K rfl hr.u64) (pe_dget hu (pv 2) (pv 4) (fun _ _ => rfl)) (pe_dget hu (pv 2) (pv 5) (fun _ _ => rfl)) (nomark _))))))))) pss_nil)
  (pss_cons (ps_if (PW.pt (pw_or (pt_cmpR (kNe K rfl hr.u64) (pv 3) pe_str (nomark _)) (pw_or (pt_cmp (pc_din hu (pv 4) (pv 2))) (pw_or (pt_not (pt_val (pe_callB (kIsi K rfl) (by rfl) B.isinstance bb_isinstance (pa_cons (pv 5) (pa_cons (pe_ty rfl B.list bb_list) pa_nil))))) (pw_or1 (pt_cmpR (kNe K rfl hr.u64) (pe_callB (kLen K rfl) (by rfl) B.len bb_len (pa_cons (pv 5) pa_nil)) (pe_callB (kLen K rfl) (by rfl) B.len bb_len (pa_cons (pe_gl (v := .ref va) rfl ⟨_, hV, rfl⟩) pa_nil)) (nomark _))))))) (pss_one (ps_ret pe_bl)) pss_nil)
  (pss_one (ps_ret (pe_callB (kAll K rfl rfl) (by rfl) B.all bb_all (pa_cons (pe_lc (own := [("value", 7)]) rfl nd (ki_tup K rfl (pe_gl (v := .ref va) rfl ⟨_, hV, rfl⟩)) (blkOk_by (own := [("value", 7)]) (N := nN_is_tree_below) (sc := defScope s_is_tree_below) (by decide +kernel)) (fun _ _ _ _ _ => (pg_name (i := 7) nd rfl (by first | exact Or.inl rfl | exact Or.inr rfl))) (fun _ _ _ _ _ => pts_nil) (fun _ _ _ _ _ => (pe_c cal hr (by omega) rfl (pa_cons (pv 0) (pa_cons (pe_ix (kIx K rfl) (pv 5) (pv 7) (fun _ _ => rfl)) (pa_cons (pe_op uBor (pv 2) (pe_disp (pps_cons (pv 4) (pv 7) pps_nil) (by rfl) (by rfl) (fun z => by cases z) (by decide))) pa_nil)))))) pa_nil)))))))), ?_⟩
    have seen : (NtAt K H v ∧ b = false) ∨ (∃ l x y a, v = .ref a ∧ H a = some (.tup [.str l, .str x, .str y]) ∧ b = okT ns (es.map (·.2)) n (.leaf l x y) tr) ∨ ∃ m l x ts a q vs, n = m + 1 ∧ v = .ref a ∧ H a = some (.tup [.str l, .str x, .ref q]) ∧ H q = some (.lst vs) ∧ Paired (RtAt m p H) vs ts ∧ b = okT ns (es.map (·.2)) (m + 1) (.node l x ts) tr := by
      rcases cand with h | ⟨t, h, e⟩
      · exact .inl h
      · rcases h.see (K := K) (ns := ns) (es := es.map (·.2)) (tr := tr) with ⟨z, z2⟩ | ⟨l, x, y, a, rfl, z⟩ | ⟨m, l, x, ts, a, q, vs, rfl, rfl, z1, z2, z3, _, z4⟩
        · exact .inl ⟨z, e.trans z2⟩
        · exact .inr (.inl ⟨l, x, y, a, z.1, z.2, e⟩)
        · exact .inr (.inr ⟨m, l, x, ts, a, q, vs, rfl, z1, z2, z3, z4, e⟩)
    clear cand
    wtm_at "rd"
    rcases seen with ⟨nt, rfl⟩ | ⟨l, x, y, a, rfl, ha, rfl⟩ | ⟨m, l, x, ts, a, qa, vs, rfl, rfl, ha, hqa, pr, rfl⟩
    · rcases nt with ⟨ty, ht, hs⟩ | ⟨a, xs, rfl, ha, hl⟩ | ⟨a, l, m, r, ty, rfl, ha, ht, hs⟩
      · refine rd_isi ht rfl ?_
        rw [hs]
        wtm_at "rd"
        exact q H fun _ _ h => h
      · refine rd_isi (ty_seqT ha) rfl ?_
        rw [show isT Ty.tup Ty.tup = true from rfl]
        wtm_at "rd"
        refine rd_lenT ha ?_
        wtm_at "rd"
        refine rd_nyes (by omega) ?_
        wtm_at "rd"
        exact q H fun _ _ h => h
      · refine rd_isi (ty_seqT ha) rfl ?_
        rw [show isT Ty.tup Ty.tup = true from rfl]
        wtm_at "rd"
        refine rd_lenT ha ?_
        wtm_at "rd"
        refine rd_nno (by rfl) ?_
        wtm_at "rd"
        refine rd_ixT ha (v := m) rfl ?_
        wtm_at "rd"
        refine ⟨g, nA, e, m, ty, ns, es, rfl, gn.gr, .inr ⟨ht, hs, ?_⟩⟩
        wtm_at "rd"
        exact q H fun _ _ h => h
    · have fin : ∀ b' H', Same H H' → okT ns (es.map (·.2)) n (.leaf l x y) tr = b' → Q (.bl b') H' := fun b' H' s e => e ▸ q H' s
      clear q
      rw [okT_leaf] at fin
      have s0 : Same H H := fun _ _ h => h
      refine rd_isi (ty_tup ha) rfl ?_
      rw [show isT Ty.tup Ty.tup = true from rfl]
      wtm_at "rd"
      refine rd_lenT (SqT.of ha) ?_
      wtm_at "rd"
      refine rd_nno (by rfl) ?_
      wtm_at "rd"
      refine rd_ixT (SqT.of ha) (v := .str x) rfl ?_
      wtm_at "rd"
      refine ⟨g, nA, e, .str x, .str, ns, es, rfl, gn.gr, .inl ⟨x, rfl, ?_⟩⟩
      by_cases hx : x ∈ ns
      · rw [decide_eq_true hx]
        wtm_at "rd"
        refine rd_unp (SqT.of ha) rfl ?_
        wtm_at "rd"
        refine rd_split (fun c1 => ?_) (fun c1 => ?_)
        · wtm_at "rd"
          refine ⟨g, nA, e, .str y, .str, ns, es, rfl, gn.gr, .inl ⟨y, rfl, ?_⟩⟩
          by_cases hy : y ∈ ns
          · rw [decide_eq_true hy]
            wtm_at "rd"
            refine ⟨x, y, rfl, fun t ft => ?_⟩
            have k := Same.new (o := .tup [.str (eOf x y).1, .str (eOf x y).2]) ft
            have ht := @upd_same H t (.tup [.str (eOf x y).1, .str (eOf x y).2])
            have gn1 := gn.same k
            have hd1 := k _ _ hd
            generalize upd H t (.tup [.str (eOf x y).1, .str (eOf x y).2]) = H1 at k ht gn1 hd1
            wtm_at "rd"
            refine rd_ixT (SqT.of gn1.gr.top) (v := .ref e) rfl ?_
            refine rd_inTE (e := eOf x y) (SqT.of ht) (SqT.of gn1.gr.edges) (fun x hx => SqT.of (gn1.gr.pairs x hx)) (by
              rcases eOf_cases x y with e | e <;> rw [e]
              · exact ⟨(gn.nm _ hx).sok, (gn.nm _ hy).sok⟩
              · exact ⟨(gn.nm _ hy).sok, (gn.nm _ hx).sok⟩) gn1.sok ?_
            rw [decide_eq_true c1, decide_eq_true hx, Bool.true_and, Bool.true_and] at fin
            wtm_at "rd"
            refine rd_split (fun c3 => ?_) (fun c3 => ?_)
            · rw [decide_eq_true c3, Bool.true_and] at fin
              wtm_at "rd"
              refine rd_din1 (.inl hd1) (k := .inr x) rfl ?_
              rw [valS_K]
              cases hvx : valS tr x with
              | none =>
                wtm_at "rd"
                exact fin _ _ k (by rw [hvx]; rfl)
              | some vx =>
                rw [show (Option.map V.int (some vx)).isSome = true from rfl]
                refine ⟨true, rfl, ?_⟩
                rw [if_pos rfl]
                wtm_at "rd"
                refine rd_din1 (.inl hd1) (k := .inr y) rfl ?_
                rw [valS_K]
                cases hvy : valS tr y with
                | none =>
                  wtm_at "rd"
                  exact fin _ _ k (by rw [hvx, hvy]; rfl)
                | some vy =>
                  rw [show (Option.map V.int (some vy)).isSome = true from rfl]
                  refine ⟨true, rfl, ?_⟩
                  rw [if_pos rfl]
                  wtm_at "rd"
                  refine rd_dat (.inl hd1) (k := .inr x) (v := .int vx) (by rw [valS_K, hvx]; rfl) rfl ?_
                  wtm_at "rd"
                  refine rd_dat (.inl hd1) (k := .inr y) (v := .int vy) (by rw [valS_K, hvy]; rfl) rfl ?_
                  wtm_at "rd"
                  refine fin _ _ k ?_
                  rw [hvx, hvy]
                  show (true && (true && decide (some vx = some vy))) = _
                  rw [Bool.true_and, Bool.true_and]
                  exact decide_eq_decide.mpr ⟨fun e => Option.some.inj e, fun e => congrArg some e⟩
            · wtm_at "rd"
              exact fin _ _ k (by rw [decide_eq_false c3]; rfl)
          · rw [decide_eq_false hy]
            wtm_at "rd"
            rw [c1]
            refine rd_nyes conf_ne ?_
            wtm_at "rd"
            refine fin _ _ s0 ?_
            rw [decide_eq_false (fun z : eOf x y ∈ es.map (·.2) => hy (by
              obtain ⟨m1, m2⟩ := gn.mem _ z
              rcases eOf_cases x y with e | e <;> rw [e] at m1 m2
              · exact m2
              · exact m1))]
            simp
        · wtm_at "rd"
          have no : ∀ H', Same H H' → Q (.bl false) H' := fun H' s => fin _ _ s (by rw [decide_eq_false c1]; rfl)
          refine rd_nsplit (fun c2 => ?_) (fun c2 => ?_)
          · wtm_at "rd"
            exact no _ s0
          · wtm_at "rd"
            refine rd_din1 (.inl hd) (k := .inr x) rfl ?_
            cases (valV (trK tr) (.inr x)).isSome with
            | true =>
              wtm_at "rd"
              exact no _ s0
            | false =>
              wtm_at "rd"
              refine rd_isi (a := .str) (.base (.str _)) rfl ?_
              rw [show isT Ty.str Ty.lst = false from rfl]
              wtm_at "rd"
              exact no _ s0
      · rw [decide_eq_false hx]
        wtm_at "rd"
        exact fin _ _ s0 (by simp [hx])
    · have fin : ∀ b' H', Same H H' → okT ns (es.map (·.2)) (m + 1) (.node l x ts) tr = b' → Q (.bl b') H' := fun b' H' s e => e ▸ q H' s
      clear q
      rw [okT_node] at fin
      have s0 : Same H H := fun _ _ h => h
      refine rd_isi (ty_tup ha) rfl ?_
      rw [show isT Ty.tup Ty.tup = true from rfl]
      wtm_at "rd"
      refine rd_lenT (SqT.of ha) ?_
      wtm_at "rd"
      refine rd_nno (by rfl) ?_
      wtm_at "rd"
      refine rd_ixT (SqT.of ha) (v := .str x) rfl ?_
      wtm_at "rd"
      refine ⟨g, nA, e, .str x, .str, ns, es, rfl, gn.gr, .inl ⟨x, rfl, ?_⟩⟩
      by_cases hx : x ∈ ns
      · rw [decide_eq_true hx]
        wtm_at "rd"
        refine rd_unp (SqT.of ha) rfl ?_
        wtm_at "rd"
        refine rd_split (fun c1 => ?_) (fun c1 => ?_)
        · wtm_at "rd"
          refine ⟨g, nA, e, .ref qa, .lst, ns, es, rfl, gn.gr, .inr ⟨ty_lst hqa, rfl, ?_⟩⟩
          wtm_at "rd"
          rw [c1]
          refine rd_nyes conf_ne ?_
          wtm_at "rd"
          exact fin _ _ s0 (by rw [c1, decide_eq_false conf_ne]; rfl)
        · wtm_at "rd"
          refine rd_nsplit (fun c2 => ?_) (fun c2 => ?_)
          · wtm_at "rd"
            exact fin _ _ s0 (by rw [decide_eq_false c2]; rfl)
          · rw [decide_eq_true c2, decide_eq_true hx, Bool.true_and, Bool.true_and] at fin
            wtm_at "rd"
            refine rd_din1 (.inl hd) (k := .inr x) rfl ?_
            rw [valS_K]
            cases hvx : valS tr x with
            | some vx =>
              wtm_at "rd"
              exact fin _ _ s0 (by rw [hvx]; rfl)
            | none =>
              rw [show (Option.map V.int none).isSome = false from rfl]
              refine ⟨false, rfl, ?_⟩
              rw [if_neg Bool.false_ne_true]
              wtm_at "rd"
              refine rd_isi (ty_lst hqa) rfl ?_
              rw [show isT Ty.lst Ty.lst = true from rfl]
              wtm_at "rd"
              refine rd_lenL (SqL.of hqa) ?_
              wtm_at "rd"
              refine rd_lenT (sV _) ?_
              wtm_at "rd"
              have pl := Paired.lenR pr
              rw [hvx, show ((none : Option Int)).isNone = true from rfl, Bool.true_and] at fin
              refine rd_nsplit (fun c3 => ?_) (fun c3 => ?_)
              · wtm_at "rd"
                refine fin _ _ s0 ?_
                rw [decide_eq_false (fun z => c3 (by rw [pl, z]; rfl))]
                rfl
              · have l3 : vs.length = 3 := by
                  have : ((vs.length : Nat) : Int) = 3 := c3
                  omega
                rw [decide_eq_true (pl.symm.trans l3), Bool.true_and] at fin
                have at3 : ∀ i (hi : i < vs.length), RtAt m p H vs[i] (ts.getD i .no) := by
                  intro i hi
                  clear fin c3 l3 hqa ha
                  induction pr generalizing i with
                  | nil => exact absurd hi (Nat.not_lt_zero _)
                  | @cons a b xs ys h r ih2 =>
                    cases i with
                    | zero => exact h
                    | succ i => exact ih2 (Paired.lenR r) i (by simpa using hi)
                wtm_at "rd"
                refine rd_forT (sV _) ?_
                intro D fD
                refine lcT (K := K) (xs := [0, 1, 2].map V.int) (fun i H' => Same H H' ∧ H' D = some (.lst ((((List.range 3).map fun i => okT ns (es.map (·.2)) m (ts.getD i .no) (putS tr x i)).take i).map V.bl))) ⟨Same.new fD, upd_same⟩ ?_ ?_ ?_
                · rintro i H' hi ⟨sb, _⟩
                  exact sV _
                · rintro i y H1 hy ⟨sb, hD⟩
                  obtain ⟨hi, rfl⟩ := map_at hy
                  have hi3 : i < 3 := hi
                  have hiv : i < vs.length := by omega
                  have e1 : ([0, 1, 2] : List Int)[i] = (i : Int) := by
                    have : i = 0 ∨ i = 1 ∨ i = 2 := by omega
                    rcases this with rfl | rfl | rfl <;> rfl
                  rw [e1]
                  have tk : ((List.range 3).map fun i : Nat => okT ns (es.map (·.2)) m (ts.getD i .no) (putS tr x i)).take (i + 1) = ((List.range 3).map fun i : Nat => okT ns (es.map (·.2)) m (ts.getD i .no) (putS tr x i)).take i ++ [okT ns (es.map (·.2)) m (ts.getD i .no) (putS tr x i)] := by
                    rw [tk_snoc2 (by simpa using hi3)]
                    simp
                  rw [tk]
                  clear tk e1
                  wtm_at "rd"
                  refine rd_ixL (SqL.of (sb _ _ hqa)) (v := vs[i]) (atI_nat (List.getElem?_eq_getElem hiv)) ?_
                  wtm_at "rd"
                  refine rd_dispT fun d1 f1 => ?_
                  wtm_at "rd"
                  refine ⟨upd_same, [(.inr x, .int (i : Int))], rfl, by show (1 : Nat) ≤ 15; decide, ?_⟩
                  have k1 : Same H1 (upd (upd H1 d1 (.dK [])) d1 (.dK (mergeK [] [((.inr x : Key), V.int (i : Int))]))) := fun b o hb => at_upd (ne_of_none hb f1) (at_upd (ne_of_none hb f1) hb)
                  have hd1 := @upd_same (upd H1 d1 (.dK [])) d1 (.dK (mergeK [] [((.inr x : Key), V.int (i : Int))]))
                  generalize upd (upd H1 d1 (.dK [])) d1 (.dK (mergeK [] [((.inr x : Key), V.int (i : Int))])) = H2 at k1 hd1
                  have s2 := sb.trans k1
                  have hD2 := k1 _ _ hD
                  wtm_at "rd"
                  refine rd_borF (kvs := trK tr) (k := .inr x) (v := .int (i : Int)) (.inl (s2 _ _ hd)) (.inl hd1) (by unfold trK; rw [List.length_map]; exact Nat.lt_of_le_of_lt (by omega : tr.length ≤ 100) (by decide)) ?_
                  intro d2 f2
                  rw [putS_K]
                  have k2 := Same.new (o := .dK (trK (putS tr x (i : Int)))) f2
                  have hd2 := @upd_same H2 d2 (.dK (trK (putS tr x (i : Int))))
                  have s3 := s2.trans k2
                  have hD3 := k2 _ _ hD2
                  generalize upd H2 d2 (.dK (trK (putS tr x (i : Int)))) = H3 at k2 hd2 s3 hD3
                  wtm_at "rd"
                  have pl2 := putS_len (tr := tr) (x := x) (v := (i : Int))
                  refine ⟨m, Nat.lt_succ_self m, g, nA, e, d2, p, vs[i], ns, es, putS tr x (i : Int), _, rfl, gn.same s3, hd2, by omega, .inr ⟨_, (at3 i hiv).same s3, rfl⟩, fun H4 s4 => ?_⟩
                  refine rd_acc (s4 _ _ hD3) (by rw [List.length_map, List.length_take]; omega) ?_
                  exact ⟨same_put (s3.trans s4) fD, by rw [upd_same, List.map_append]; rfl⟩
                · rintro H1 ⟨sb, hD⟩
                  wtm_at "rd"
                  refine rd_allL (SqL.of hD) ?_
                  wtm_at "rd"
                  exact fin _ _ sb rfl
      · rw [decide_eq_false hx]
        wtm_at "rd"
        exact fin _ _ s0 (by simp [hx])
end
end Law

/-! k61: _law_tree, is_case_tree -/
namespace U
open PySem PySem.Spec PyProof.Rows L2
theorem valS_mem {tr : List (Str × Int)} {x : Str} {v : Int} (h : valS tr x = some v) : ∃ k ∈ tr, k.1 = x := by
  unfold valS at h
  cases e : tr.find? fun y => decide (y.1 = x) with
  | none =>
    rw [e] at h
    cases h
  | some k => exact ⟨k, List.mem_of_find?_eq_some e, by simpa using List.find?_some e⟩
theorem putS_mem {tr : List (Str × Int)} {x : Str} {v : Int} {ns : List Str} (h : ∀ k ∈ tr, k.1 ∈ ns) (hx : x ∈ ns) : ∀ k ∈ putS tr x v, k.1 ∈ ns := by
  intro k hk
  unfold putS at hk
  split at hk
  · obtain ⟨z, hz, rfl⟩ := List.mem_map.mp hk
    split
    · exact h z hz
    · exact h z hz
  · rcases List.mem_append.mp hk with hk | hk
    · exact h k hk
    · rw [List.mem_singleton.mp hk]
      exact hx
end U
namespace Law
open PySem PySem.Spec PyProof.Rows L2 U
local macro_rules | `(tactic| wtm_at "rd1") => `(tactic| first
  | with_reducible refine rd_seq ?_
  | ((with_reducible refine rd_var (v := ?vv) ?hv ?_); (case hv => exact rfl))
  | with_reducible refine rd_c ?_
  | with_reducible refine rd_cons ?_
  | with_reducible refine rd_nil ?_
  | with_reducible refine rd_op ?_
  | with_reducible refine rd_asg ?_
  | with_reducible refine rd_name ?_
  | with_reducible refine rd_c1 ?_
  | with_reducible refine rd_cb ?_
  | with_reducible refine rd_test ?_
  | with_reducible refine rd_B ?_
  | with_reducible refine rd_bl ?_
  | with_reducible refine rd_if ?_
  | with_reducible refine rd_ret ?_
  | with_reducible refine rd_drop ?_
  | with_reducible refine rd_next ?_
  | with_reducible refine rd_addI ?_
  | with_reducible refine rd_ltI ?_
  | with_reducible refine rd_eqI ?_
  | with_reducible refine rd_neI ?_
  | with_reducible refine rd_eqS ?_
  | with_reducible refine rd_neS ?_
  | with_reducible refine rd_gtI ?_
  | with_reducible refine rd_geI ?_
  | with_reducible refine rd_leI ?_
  | with_reducible refine rd_ltS ?_
  | with_reducible refine rd_subI ?_
  | ((with_reducible refine rd_modI ?hc ?_); (case hc => first | decide | omega))
  | ((with_reducible refine rd_mulI ?hc ?_); (case hc => first | exact mul_bI | exact .inl (.inr (by decide)) | exact .inl (.inl (by decide)) | exact .inl (.inr (by omega)) | exact .inl (.inl (by omega))))
  | ((with_reducible refine rd_divI ?hc ?_); (case hc => first | decide | omega))
  | ((with_reducible refine rd_powI ?hc ?_); (case hc => exact ⟨by decide, by decide, by decide⟩))
  | with_reducible refine rd_lst ?_
  | with_reducible refine rd_tup ?_
  | ((with_reducible refine rd_sz ?hv ?_); (case hv => exact rfl))
  | with_reducible refine rd_and ?_
  | with_reducible refine rd_or ?_
  | with_reducible refine rd_not ?_
  | with_reducible refine rd_andV ?_
  | with_reducible refine rd_orV ?_
  | with_reducible refine rd_notV ?_
  | with_reducible refine rd_ifE ?_
  | with_reducible refine rd_T ?_
  | with_reducible refine rd_F ?_
  | with_reducible refine rd_chain ?_
  | with_reducible refine rd_is ?_
  | with_reducible refine rd_isNot ?_
  | with_reducible refine rd_absI ?_
  | with_reducible refine rd_maxI ?_
  | with_reducible refine rd_minI ?_
  | with_reducible refine rd_intI ?_
  | with_reducible refine rd_intB ?_
  | with_reducible refine rd_sub ?_
  | with_reducible refine rd_sl ?_
  | with_reducible refine rd_noPart ?_
  | with_reducible refine rd_part ?_
  | with_reducible refine rd_exI ?_
  | with_reducible refine rd_bm ?_
  | with_reducible refine rd_bm0 ?_
  | with_reducible refine rd_un ?_
  | with_reducible refine rd_neg ?_
  | with_reducible refine rd_c2 ?_
  | with_reducible refine rd_retN ?_
  | with_reducible refine rd_break ?_
  | with_reducible refine rd_cont ?_
  | with_reducible refine rd_for ?_
  | with_reducible refine rd_rng1 ?_
  | with_reducible refine rd_rng2 ?_
  | with_reducible refine rd_iList ?_
  | with_reducible refine rd_iTup ?_
  | with_reducible refine rd_iEnum ?_
  | ((with_reducible refine rd_forR ?h0 ?h1 ?_); (case h0 => omega); (case h1 => omega))
  | with_reducible refine rd_lc ?_
  | with_reducible refine rd_gcons ?_
  | with_reducible refine rd_gnil ?_
  | with_reducible refine rd_dget ?_
  | with_reducible refine rd_dput ?_
  | with_reducible refine rd_dnew ?_
  | with_reducible refine rd_dc ?_
  | with_reducible refine rd_iItems ?_
  | with_reducible refine rd_iKeys ?_
  | with_reducible refine rd_din ?_
  | with_reducible refine rd_lc2 ?_
  | with_reducible refine rd_cd ?_
  | with_reducible refine rd_par ?_
  | with_reducible refine rd_two ?_
  | with_reducible refine rd_reprB ?_
  | with_reducible refine rd_ck ?_
  | ((with_reducible refine rd_len ?hl ?_); (case hl => exact rfl))
  | with_reducible refine rd_nT ?_
  | with_reducible refine rd_nF ?_
  | with_reducible refine rd_dnin ?_
  | with_reducible refine rd_isB ?_
  | with_reducible refine rd_isNotB ?_
  | with_reducible refine rd_daug ?_
  | with_reducible refine rd_yesT ?_
  | ((with_reducible refine rd_wp ?hw ?_); (case hw => exact rfl)))
local macro_rules | `(tactic| wtm_at "rd") => `(tactic| repeat wtm_at "rd1")

def spLTree (K : PySem.W.Frag) (n : Nat) : Sp := fun vs H Q _ => ∃ (g nA e d : Addr) (p : Addr → Prop) (v : V) (ns : List Str) (es : List (Addr × Str × Str)) (tr : List (Str × Int)) (t : Tr), vs = [.ref g, v, .ref d] ∧ GrN H g nA e ns es ∧ H d = some (.dK (trK tr)) ∧ tr.length + n ≤ 100 ∧ (∀ k ∈ tr, k.1 ∈ ns) ∧ RtAt n p H v t ∧
  ∀ H', Same H H' → Q (.bl (okT ns (es.map (·.2)) n t tr)) H'
def spCase (K : PySem.W.Frag) : Sp := fun vs H Q _ => ∃ (g nA e : Addr) (p : Addr → Prop) (v : V) (ns : List Str) (es : List (Addr × Str × Str)) (b : Bool), vs = [.ref g, v] ∧ GrN H g nA e ns es ∧ (((∀ H', Same H H' → NtAt K H' v) ∧ b = false) ∨ ∃ t, RtAt 5 p H v t ∧ b = okT ns (es.map (·.2)) 5 t []) ∧
  ∀ H', Same H H' → Q (.bl b) H'
section
variable {P : Program} {w : World} {K : PySem.W.Frag} {mg : Str → Option Value} {base : Heap}
theorem ok_treeU {f : Addr} {fd : FuncData} {va : Addr} (F : Fun K "is_tree_below" "is_tree_below" s_is_tree_below f fd) (B : Bt mg) (C : CUa P w K mg base) (S : SelfR K mg "is_tree_below" f fd ["graph", "candidate", "values"]) (hV : mg "VALUES" = some (.ref va)) (sV : ∀ H, SqT K H va ([0, 1, 2].map V.int)) : FnG P w K mg base CX0 7 f fd ["graph", "candidate", "values"] (spTree K 5) := by
  exact ok_tree F B C S hV sV 5
structure CVa (P : Program) (w : World) (K : PySem.W.Frag) (mg : Str → Option Value) (base : Heap) : Prop where
  is_tree_below : Cal P w K mg base CX0 7 "is_tree_below" (spTree K 5)
theorem ok_case {f : Addr} {fd : FuncData} (F : Fun K "is_case_tree" "is_case_tree" s_is_case_tree f fd) (B : Bt mg) (C : CVa P w K mg base) : FnG P w K mg base CX0 8 f fd ["graph", "candidate"] (spCase K) := by
  refine fnG0 F sc_is_case_tree (fun vs H Q E h => ?_) (fun cdv A outer s H vs Q E hr h => ?_)
  · obtain ⟨g, nA, e, p, v, ns, es, b, rfl, _⟩ := h
    rfl
  · obtain ⟨g, nA, e, p, v, ns, es, b, rfl, gn, cand, q⟩ := h
    have nd := sc_is_case_tree.nd
    have hu := hr.u1
    refine ⟨_, (pss_one (ps_ret (pe_c C.is_tree_below hr (by decide) rfl (pa_cons (pv 0) (pa_cons (pv 1) (pa_cons pe_dnewK pa_nil)))))), ?_⟩
    wtm_at "rd"
    intro d fd
    have k := Same.new (o := .dK []) fd
    refine ⟨g, nA, e, d, p, v, ns, es, [], b, rfl, gn.same k, upd_same, by decide, ?_, fun H' s => q H' (k.trans s)⟩
    rcases cand with ⟨a, h⟩ | ⟨t, h, z⟩
    · exact .inl ⟨a _ k, h⟩
    · exact .inr ⟨t, h.same k, z⟩
end
end Law

/-! k62, k60: case trees are sound (plain law) -/
namespace U
open PySem PySem.Spec PyProof.Rows L2
theorem valS_put {x y : Str} {v : Int} : ∀ {tr : List (Str × Int)}, valS (putS tr x v) y = if y = x then some v else valS tr y := by
  intro tr
  unfold putS
  by_cases an : (tr.any fun y => decide (y.1 = x)) = true
  · rw [if_pos an]
    induction tr with
    | nil => cases an
    | cons z r ih =>
      unfold valS at ih ⊢
      rw [List.map_cons]
      by_cases c : z.1 = x
      · rw [if_pos c]
        by_cases e : y = x
        · rw [if_pos e, List.find?_cons_of_pos (by simp [c, e])]
          rfl
        · rw [if_neg e, List.find?_cons_of_neg (by simp [c]; exact fun h => e h.symm), List.find?_cons_of_neg (by simp [c]; exact fun h => e h.symm)]
          by_cases an2 : (r.any fun y => decide (y.1 = x)) = true
          · have := ih an2
            rw [if_neg e] at this
            exact this
          · have : r.map (fun y => if y.1 = x then (y.1, v) else y) = r := by
              conv => rhs; rw [← List.map_id r]
              refine List.map_congr_left fun w hw => ?_
              rw [if_neg fun h => an2 (List.any_eq_true.mpr ⟨w, hw, decide_eq_true h⟩)]
              rfl
            rw [this]
      · rw [if_neg c]
        by_cases e2 : z.1 = y
        · rw [List.find?_cons_of_pos (by simp [e2]), List.find?_cons_of_pos (by simp [e2]), if_neg fun h => c (e2.trans h)]
        · rw [List.find?_cons_of_neg (by simp [e2]), List.find?_cons_of_neg (by simp [e2])]
          refine ih ?_
          rw [List.any_cons, decide_eq_false c, Bool.false_or] at an
          exact an
  · rw [if_neg an]
    unfold valS
    rw [List.find?_append]
    by_cases e : y = x
    · subst e
      have : (tr.find? fun z => decide (z.1 = y)) = none := List.find?_eq_none.mpr fun z hz h => an (List.any_eq_true.mpr ⟨z, hz, h⟩)
      rw [this, if_pos rfl, Option.none_or, List.find?_cons_of_pos (by simp)]
      rfl
    · rw [if_neg e, List.find?_cons_of_neg (by simp; exact fun h => e h.symm), List.find?_nil, Option.or_none]
theorem rd_isSb {o : Option Int} {A B : Prop} (h1 : ∀ v, o = some v → A) (h2 : o = none → B) : ∃ k, V.bl (Option.map V.int o).isSome = V.bl k ∧ if k = true then A else B := by
  cases o with
  | none => exact ⟨false, rfl, by rw [if_neg Bool.false_ne_true]; exact h2 rfl⟩
  | some v => exact ⟨true, rfl, by rw [if_pos rfl]; exact h1 v rfl⟩
/-- no tree where there is a colouring -/
theorem okT_sound {ns : List Str} {es : List (Str × Str)} {f : Str → Int} (h3 : ∀ x ∈ ns, f x = 0 ∨ f x = 1 ∨ f x = 2) (pr : ∀ e ∈ es, f e.1 ≠ f e.2) :
    ∀ (n : Nat) (t : Tr) (tr : List (Str × Int)), (∀ x v, valS tr x = some v → v = f x) → okT ns es n t tr = false
  | n, .no, tr, _ => by unfold okT; rfl
  | n, .leaf l x y, tr, h => by
    rw [okT_leaf]
    by_cases c : eOf x y ∈ es
    · have ne : f x ≠ f y := by
        have := pr _ c
        rcases eOf_cases x y with e | e <;> rw [e] at this
        · exact this
        · exact this.symm
      cases hx : valS tr x with
      | none => simp
      | some vx =>
        cases hy : valS tr y with
        | none => simp
        | some vy =>
          have : (some vx : Option Int) ≠ some vy := fun e => ne (by rw [← h x vx hx, ← h y vy hy]; exact Option.some.inj e)
          rw [decide_eq_false this]
          simp
    · rw [decide_eq_false c]
      simp
  | 0, .node l x ts, tr, _ => by unfold okT; rfl
  | n + 1, .node l x ts, tr, h => by
    rw [okT_node]
    by_cases hx : x ∈ ns
    · have step : ∀ i : Nat, i < 3 → f x = (i : Int) → okT ns es n (ts.getD i .no) (putS tr x i) = false := fun i _ e => okT_sound h3 pr n _ _ fun y v hy => by
        rw [valS_put] at hy
        split at hy
        · rename_i c
          rw [c, e]
          exact (Option.some.inj hy).symm
        · exact h y v hy
      have bad : ((List.range 3).map fun i : Nat => okT ns es n (ts.getD i .no) (putS tr x i)).all id = false := by
        rw [List.all_eq_false]
        rcases h3 x hx with e | e | e
        · exact ⟨_, List.mem_map.mpr ⟨0, by decide, rfl⟩, by rw [step 0 (by decide) e]; exact Bool.false_ne_true⟩
        · exact ⟨_, List.mem_map.mpr ⟨1, by decide, rfl⟩, by rw [step 1 (by decide) e]; exact Bool.false_ne_true⟩
        · exact ⟨_, List.mem_map.mpr ⟨2, by decide, rfl⟩, by rw [step 2 (by decide) e]; exact Bool.false_ne_true⟩
      rw [bad]
      simp
    · rw [decide_eq_false hx]
      simp
end U

/-! k62, k60: first_conflict, first_extension, tree_below -/
namespace U
open PySem PySem.Spec PyProof.Rows L2
def isConf (tr : List (Str × Int)) (e : Str × Str) : Bool := (valS tr e.1).isSome && ((valS tr e.2).isSome && decide (valS tr e.1 = valS tr e.2))
def confF (es : List (Str × Str)) (tr : List (Str × Int)) : Option (Str × Str) := es.find? (isConf tr)
/-- the first extension without conflict; n nodes are left -/
def extF (ns : List Str) (es : List (Str × Str)) : Nat → List (Str × Int) → Option (List (Str × Int))
  | 0, tr => if (confF es tr).isSome = true then none else some tr
  | n + 1, tr => if (confF es tr).isSome = true then none else (extF ns es n (putS tr (ns.getD tr.length "") 0)).or ((extF ns es n (putS tr (ns.getD tr.length "") 1)).or (extF ns es n (putS tr (ns.getD tr.length "") 2)))
/-- the names tried are the first ones -/
def PreN (ns : List Str) (tr : List (Str × Int)) : Prop := tr.map (·.1) = ns.take tr.length ∧ tr.length ≤ ns.length
theorem PreN.put {ns : List Str} {tr : List (Str × Int)} {v : Int} (nd : ns.Nodup) (h : PreN ns tr) (l : tr.length < ns.length) : putS tr ns[tr.length] v = tr ++ [(ns[tr.length], v)] ∧ PreN ns (tr ++ [(ns[tr.length], v)]) := by
  have nin : ¬ (tr.any fun y => decide (y.1 = ns[tr.length])) = true := fun z => by
    obtain ⟨y, hy, e⟩ := List.any_eq_true.mp z
    have m : ns[tr.length] ∈ ns.take tr.length := by
      rw [← h.1, ← of_decide_eq_true e]
      exact List.mem_map_of_mem hy
    obtain ⟨j, hj, e2⟩ := List.mem_iff_getElem.mp m
    rw [List.getElem_take] at e2
    rw [List.length_take] at hj
    have := (List.pairwise_iff_getElem.mp (List.nodup_iff_pairwise_ne.mp nd)) j tr.length (by omega) l (by omega)
    exact this e2
  refine ⟨?_, ?_, ?_⟩
  · unfold putS
    rw [if_neg nin]
  · rw [List.map_append, h.1, List.length_append, List.length_singleton, tk_snoc2 l]
    rfl
  · rw [List.length_append, List.length_singleton]
    omega
end U
namespace Law
open PySem PySem.Spec PyProof.Rows L2 U
local macro_rules | `(tactic| wtm_at "rd1") => `(tactic| first
  | with_reducible refine rd_seq ?_
  | ((with_reducible refine rd_var (v := ?vv) ?hv ?_); (case hv => exact rfl))
  | with_reducible refine rd_c ?_
  | with_reducible refine rd_cons ?_
  | with_reducible refine rd_nil ?_
  | with_reducible refine rd_op ?_
  | with_reducible refine rd_asg ?_
  | with_reducible refine rd_name ?_
  | with_reducible refine rd_c1 ?_
  | with_reducible refine rd_cb ?_
  | with_reducible refine rd_test ?_
  | with_reducible refine rd_B ?_
  | with_reducible refine rd_bl ?_
  | with_reducible refine rd_if ?_
  | with_reducible refine rd_ret ?_
  | with_reducible refine rd_drop ?_
  | with_reducible refine rd_next ?_
  | with_reducible refine rd_addI ?_
  | with_reducible refine rd_ltI ?_
  | with_reducible refine rd_eqI ?_
  | with_reducible refine rd_neI ?_
  | with_reducible refine rd_eqS ?_
  | with_reducible refine rd_neS ?_
  | with_reducible refine rd_gtI ?_
  | with_reducible refine rd_geI ?_
  | with_reducible refine rd_leI ?_
  | with_reducible refine rd_ltS ?_
  | with_reducible refine rd_subI ?_
  | ((with_reducible refine rd_modI ?hc ?_); (case hc => first | decide | omega))
  | ((with_reducible refine rd_mulI ?hc ?_); (case hc => first | exact mul_bI | exact .inl (.inr (by decide)) | exact .inl (.inl (by decide)) | exact .inl (.inr (by omega)) | exact .inl (.inl (by omega))))
  | ((with_reducible refine rd_divI ?hc ?_); (case hc => first | decide | omega))
  | ((with_reducible refine rd_powI ?hc ?_); (case hc => exact ⟨by decide, by decide, by decide⟩))
  | with_reducible refine rd_lst ?_
  | with_reducible refine rd_tup ?_
  | ((with_reducible refine rd_sz ?hv ?_); (case hv => exact rfl))
  | with_reducible refine rd_and ?_
  | with_reducible refine rd_or ?_
  | with_reducible refine rd_not ?_
  | with_reducible refine rd_andV ?_
  | with_reducible refine rd_orV ?_
  | with_reducible refine rd_notV ?_
  | with_reducible refine rd_ifE ?_
  | with_reducible refine rd_T ?_
  | with_reducible refine rd_F ?_
  | with_reducible refine rd_chain ?_
  | with_reducible refine rd_is ?_
  | with_reducible refine rd_isNot ?_
  | with_reducible refine rd_absI ?_
  | with_reducible refine rd_maxI ?_
  | with_reducible refine rd_minI ?_
  | with_reducible refine rd_intI ?_
  | with_reducible refine rd_intB ?_
  | with_reducible refine rd_sub ?_
  | with_reducible refine rd_sl ?_
  | with_reducible refine rd_noPart ?_
  | with_reducible refine rd_part ?_
  | with_reducible refine rd_exI ?_
  | with_reducible refine rd_bm ?_
  | with_reducible refine rd_bm0 ?_
  | with_reducible refine rd_un ?_
  | with_reducible refine rd_neg ?_
  | with_reducible refine rd_c2 ?_
  | with_reducible refine rd_retN ?_
  | with_reducible refine rd_break ?_
  | with_reducible refine rd_cont ?_
  | with_reducible refine rd_for ?_
  | with_reducible refine rd_rng1 ?_
  | with_reducible refine rd_rng2 ?_
  | with_reducible refine rd_iList ?_
  | with_reducible refine rd_iTup ?_
  | with_reducible refine rd_iEnum ?_
  | ((with_reducible refine rd_forR ?h0 ?h1 ?_); (case h0 => omega); (case h1 => omega))
  | with_reducible refine rd_lc ?_
  | with_reducible refine rd_gcons ?_
  | with_reducible refine rd_gnil ?_
  | with_reducible refine rd_dget ?_
  | with_reducible refine rd_dput ?_
  | with_reducible refine rd_dnew ?_
  | with_reducible refine rd_dc ?_
  | with_reducible refine rd_iItems ?_
  | with_reducible refine rd_iKeys ?_
  | with_reducible refine rd_din ?_
  | with_reducible refine rd_lc2 ?_
  | with_reducible refine rd_cd ?_
  | with_reducible refine rd_par ?_
  | with_reducible refine rd_two ?_
  | with_reducible refine rd_reprB ?_
  | with_reducible refine rd_ck ?_
  | ((with_reducible refine rd_len ?hl ?_); (case hl => exact rfl))
  | with_reducible refine rd_nT ?_
  | with_reducible refine rd_nF ?_
  | with_reducible refine rd_dnin ?_
  | with_reducible refine rd_isB ?_
  | with_reducible refine rd_isNotB ?_
  | with_reducible refine rd_daug ?_
  | with_reducible refine rd_yesT ?_
  | ((with_reducible refine rd_wp ?hw ?_); (case hw => exact rfl)))
local macro_rules | `(tactic| wtm_at "rd") => `(tactic| repeat wtm_at "rd1")

def spConf : Sp := fun vs H Q _ => ∃ (g nA e d : Addr) (ns : List Str) (es : List (Addr × Str × Str)) (tr : List (Str × Int)), vs = [.ref g, .ref d] ∧ GrN H g nA e ns es ∧ H d = some (.dK (trK tr)) ∧
  (confF (es.map (·.2)) tr = none → Q .non H) ∧ ∀ x, confF (es.map (·.2)) tr = some x → ∀ t, H t = none → Q (.ref t) (upd H t (.tup [.str x.1, .str x.2]))
section
variable {P : Program} {w : World} {K : PySem.W.Frag} {mg : Str → Option Value} {base : Heap}
theorem ok_conf {f : Addr} {fd : FuncData} (F : Fun K "first_conflict" "first_conflict" s_first_conflict f fd) (B : Bt mg) : FnG P w K mg base CX0 1 f fd ["graph", "values"] spConf := by
  refine fnG0 F sc_first_conflict (fun vs H Q E h => ?_) (fun cdv A outer s H vs Q E hr h => ?_)
  · obtain ⟨g, nA, e, d, ns, es, tr, rfl, _⟩ := h
    rfl
  · obtain ⟨g, nA, e, d, ns, es, tr, rfl, gn, hd, q0, q1⟩ := h
    have nd := sc_first_conflict.nd
    have hu := hr.u1
    refine ⟨_, (pss_cons (ps_for PassesOwn.never rfl (ki_tup K rfl (pe_ix (kIx K rfl) (pv 0) pe_int (fun _ _ => rfl))) (kg_tup (n := 2) K rfl rfl (pgs_cons (pg_name (i := 2) nd rfl (by first | exact Or.inl rfl | exact Or.inr rfl)) (pgs_cons (pg_name (i := 3) nd rfl (by first | exact Or.inl rfl | exact Or.inr rfl)) pgs_nil))) (pss_one (ps_if (PW.pt (pw_and (pt_cmp (pc_din hu (pv 2) (pv 1))) (pw_and (pt_cmp (pc_din hu (pv 3) (pv 1))) (pw_and1 (pt_cmpR (kEq K rfl hr.u64) (pe_dget hu (pv 1) (pv 2) (fun _ _ => rfl)) (pe_dget hu (pv 1) (pv 3) (fun _ _ => rfl)) (nomark _)))))) (pss_one (ps_ret (pe_tup (pa_cons (pv 2) (pa_cons (pv 3) pa_nil))))) pss_nil)))
  (pss_one (ps_ret pe_non))), ?_⟩
    wtm_at "rd"
    refine rd_ixT (SqT.of gn.gr.top) (v := .ref e) rfl ?_
    refine rd_forT (SqT.of gn.gr.edges) ?_
    refine turnsT (K := K) (xs := es.map fun x => V.ref x.1) (fun i σ H' => ∃ (u2 u3 : Option V), σ = [some (.ref g), some (.ref d), u2, u3] ∧ H' = H ∧ ∀ x ∈ (es.map (·.2)).take i, isConf tr x = false) ⟨_, _, rfl, rfl, fun x h => nomatch h⟩ ?_ ?_ ?_
    · rintro i σ H' hi ⟨u2, u3, rfl, rfl, _⟩
      exact SqT.of gn.gr.edges
    · rintro i y σ H' hy ⟨u2, u3, rfl, rfl, no⟩
      obtain ⟨hi, rfl⟩ := map_at hy
      have pr := gn.gr.pairs _ (List.getElem_mem hi)
      have him : i < (es.map (·.2)).length := by rw [List.length_map]; exact hi
      have eg : (es.map (·.2))[i] = es[i].2 := List.getElem_map _
      have found : isConf tr es[i].2 = true → confF (es.map (·.2)) tr = some es[i].2 := fun c => by
        unfold confF
        rw [← List.take_append_drop i (es.map (·.2)), List.find?_append, List.find?_eq_none.mpr (fun x hx => by rw [no x hx]; exact Bool.false_ne_true), Option.none_or, List.drop_eq_getElem_cons him, List.find?_cons_of_pos (by rw [eg]; exact c), eg]
      have next : isConf tr es[i].2 = false → ∀ x ∈ (es.map (·.2)).take (i + 1), isConf tr x = false := fun c x hx => by
        rw [tk_snoc2 him, eg] at hx
        rcases List.mem_append.mp hx with hx | hx
        · exact no x hx
        · rw [List.mem_singleton.mp hx]; exact c
      clear no eg him
      generalize es[i] = x at *
      unfold isConf at found next
      refine rd_unp (SqT.of pr) rfl ?_
      wtm_at "rd"
      refine rd_din1 (.inl hd) (k := .inr x.2.1) rfl ?_
      rw [valS_K]
      refine rd_isSb (fun v1 e1 => ?_) (fun e1 => ?_)
      · wtm_at "rd"
        refine rd_din1 (.inl hd) (k := .inr x.2.2) rfl ?_
        rw [valS_K]
        refine rd_isSb (fun v2 e2 => ?_) (fun e2 => ?_)
        · wtm_at "rd"
          refine rd_dat (.inl hd) (k := .inr x.2.1) (v := .int v1) (by rw [valS_K, e1]; rfl) rfl ?_
          wtm_at "rd"
          refine rd_dat (.inl hd) (k := .inr x.2.2) (v := .int v2) (by rw [valS_K, e2]; rfl) rfl ?_
          wtm_at "rd"
          refine rd_split (fun c => ?_) (fun c => ?_)
          · wtm_at "rd"
            intro t ft
            exact q1 x.2 (found (by rw [e1, e2, c]; simp)) t ft
          · wtm_at "rd"
            exact ⟨_, _, rfl, rfl, next (by rw [e1, e2, decide_eq_false fun z => c (Option.some.inj z)]; rfl)⟩
        · wtm_at "rd"
          exact ⟨_, _, rfl, rfl, next (by rw [e2]; simp)⟩
      · wtm_at "rd"
        exact ⟨_, _, rfl, rfl, next (by rw [e1]; simp)⟩
    · rintro σ H' ⟨u2, u3, rfl, rfl, no⟩
      rw [List.length_map, List.take_of_length_le (by rw [List.length_map]; exact Nat.le_refl _)] at no
      wtm_at "rd"
      exact q0 (List.find?_eq_none.mpr fun x hx => by rw [no x hx]; exact Bool.false_ne_true)
def spExt (n : Nat) : Sp := fun vs H Q _ => ∃ (g nA e d : Addr) (ns : List Str) (es : List (Addr × Str × Str)) (tr : List (Str × Int)), vs = [.ref g, .ref d] ∧ GrN H g nA e ns es ∧ H d = some (.dK (trK tr)) ∧ PreN ns tr ∧ tr.length + n = ns.length ∧
  ∀ H', Same H H' → (extF ns (es.map (·.2)) n tr = none → Q .non H') ∧ ∀ tr', extF ns (es.map (·.2)) n tr = some tr' → ∀ d', H' d' = some (.dK (trK tr')) → Q (.ref d') H'
structure DBa (P : Program) (w : World) (K : PySem.W.Frag) (mg : Str → Option Value) (base : Heap) : Prop where
  first_conflict : Cal P w K mg base CX0 1 "first_conflict" spConf
theorem ok_ext {f : Addr} {fd : FuncData} {va : Addr} (F : Fun K "first_extension" "first_extension" s_first_extension f fd) (B : Bt mg) (C : DBa P w K mg base) (S : SelfR K mg "first_extension" f fd ["graph", "values"]) (hV : mg "VALUES" = some (.ref va)) (sV : ∀ H, SqT K H va ([0, 1, 2].map V.int)) : ∀ n : Nat, FnG P w K mg base CX0 (n + 2) f fd ["graph", "values"] (spExt n) := by
  intro n
  induction n using Nat.strongRecOn with
  | ind n ih =>
  have cal : Cal P w K mg base CX0 (n + 1) "first_extension" (fun vs H Q E => ∃ m, m < n ∧ spExt m vs H Q E) := ⟨f, fd, _, ⟨fun vs H Q E h => by
    obtain ⟨m, hm, h⟩ := h
    exact (ih m hm).len vs H Q E h, fun A outer s H args us vs Q E hr he hb hv h => by
    obtain ⟨m, hm, h⟩ := h
    exact (ih m hm).go A outer s H args us vs Q E (hr.mono (by omega)) he hb hv h⟩, S.mg, S.kp, S.bd⟩
  refine fnG0 F sc_first_extension (fun vs H Q E h => ?_) (fun cdv A outer s H vs Q E hr h => ?_)
  · obtain ⟨g, nA, e, d, ns, es, tr, rfl, _⟩ := h
    rfl
  · obtain ⟨g, nA, e, d, ns, es, tr, rfl, gn, hd, pre, ln, q⟩ := h
    have nd := sc_first_extension.nd
    have hu := hr.u1
    refine ⟨_, (pss_cons (ps_if (pt_cmpR uIsNot (pe_c C.first_conflict hr (by omega) rfl (pa_cons (pv 0) (pa_cons (pv 1) pa_nil))) pe_non (nomark _)) (pss_one (ps_ret pe_non)) pss_nil)
  (pss_cons (ps_if (pt_cmpR (kEq K rfl hr.u64) (pe_callB (kLen K rfl) (by rfl) B.len bb_len (pa_cons (pv 1) pa_nil)) (pe_callB (kLen K rfl) (by rfl) B.len bb_len (pa_cons (pe_ix (kIx K rfl) (pv 0) pe_int (fun _ _ => rfl)) pa_nil)) (nomark _)) (pss_one (ps_ret (pv 1))) pss_nil)
  (pss_cons (ps_set (i := 2) nd rfl (by first | exact Or.inl rfl | exact Or.inr rfl) (pe_ix (kIx K rfl) (pe_ix (kIx K rfl) (pv 0) pe_int (fun _ _ => rfl)) (pe_callB (kLen K rfl) (by rfl) B.len bb_len (pa_cons (pv 1) pa_nil)) (fun _ _ => rfl)))
  (pss_cons (ps_for PassesOwn.never rfl (ki_tup K rfl (pe_gl (v := .ref va) rfl ⟨_, hV, rfl⟩)) (pg_name (i := 3) nd rfl (by first | exact Or.inl rfl | exact Or.inr rfl)) (pss_cons (ps_set (i := 4) nd rfl (by first | exact Or.inl rfl | exact Or.inr rfl) (pe_c cal hr (by omega) rfl (pa_cons (pv 0) (pa_cons (pe_op uBor (pv 1) (pe_disp (pps_cons (pv 2) (pv 3) pps_nil) (by rfl) (by rfl) (fun z => by cases z) (by decide))) pa_nil))))
  (pss_one (ps_if (pt_cmpR uIsNot (pv 4) pe_non (nomark _)) (pss_one (ps_ret (pv 4))) pss_nil))))
  (pss_one (ps_ret pe_non)))))), ?_⟩
    have l1 := gn.l1
    wtm_at "rd"
    refine ⟨g, nA, e, d, ns, es, tr, rfl, gn, hd, fun c0 => ?_, fun x c1 t ft => ?_⟩
    · wtm_at "rd"
      refine rd_nno rfl ?_
      wtm_at "rd"
      refine rd_lenD hd ?_
      wtm_at "rd"
      refine rd_ixT (SqT.of gn.gr.top) (v := .ref nA) rfl ?_
      wtm_at "rd"
      refine rd_lenT (SqT.of gn.gr.nodes) ?_
      wtm_at "rd"
      have tlen : (trK tr).length = tr.length := by
        unfold trK
        rw [List.length_map]
      rw [tlen, List.length_map]
      refine rd_split (fun c => ?_) (fun c => ?_)
      · obtain rfl : n = 0 := by omega
        wtm_at "rd"
        exact (q H fun _ _ h => h).2 tr (by unfold extF; rw [c0]; rfl) d hd
      · obtain ⟨m, rfl⟩ : ∃ m, n = m + 1 := ⟨n - 1, by omega⟩
        have kl : tr.length < ns.length := by omega
        obtain ⟨_, pre2⟩ := PreN.put (v := 0) gn.nd pre kl
        have put : ∀ v : Int, putS tr ns[tr.length] v = tr ++ [(ns[tr.length], v)] ∧ PreN ns (tr ++ [(ns[tr.length], v)]) := fun v => PreN.put gn.nd pre kl
        have eF : extF ns (es.map (·.2)) (m + 1) tr = (extF ns (es.map (·.2)) m (putS tr ns[tr.length] 0)).or ((extF ns (es.map (·.2)) m (putS tr ns[tr.length] 1)).or (extF ns (es.map (·.2)) m (putS tr ns[tr.length] 2))) := by
          conv => lhs; unfold extF
          rw [c0, if_neg (by decide), show ns.getD tr.length "" = ns[tr.length] from getDU kl]
        have xin := List.getElem_mem kl
        wtm_at "rd"
        refine rd_ixT (SqT.of gn.gr.top) (v := .ref nA) rfl ?_
        wtm_at "rd"
        refine rd_lenD hd ?_
        wtm_at "rd"
        rw [tlen]
        refine rd_ixT (SqT.of gn.gr.nodes) (v := .str ns[tr.length]) (atI_nat (by rw [List.getElem?_map, List.getElem?_eq_getElem kl]; rfl)) ?_
        clear pre2
        generalize ns[tr.length] = x at *
        rw [eF] at q
        clear eF
        wtm_at "rd"
        refine rd_forT (sV _) ?_
        refine turnsT (K := K) (xs := [0, 1, 2].map V.int) (fun i σ H' => ∃ (u3 u4 : Option V), σ = [some (.ref g), some (.ref d), some (.str x), u3, u4] ∧ Same H H' ∧ ∀ j : Nat, j < i → extF ns (es.map (·.2)) m (putS tr x j) = none) ⟨_, _, rfl, (fun _ _ h => h), fun j h => absurd h (Nat.not_lt_zero _)⟩ ?_ ?_ ?_
        · rintro i σ H' hi ⟨u3, u4, rfl, sb, no⟩
          exact sV _
        · rintro i y σ H1 hy ⟨u3, u4, rfl, sb, no⟩
          obtain ⟨hi, rfl⟩ := map_at hy
          have hi3 : i < 3 := hi
          have e1 : ([0, 1, 2] : List Int)[i] = (i : Int) := by
            have : i = 0 ∨ i = 1 ∨ i = 2 := by omega
            rcases this with rfl | rfl | rfl <;> rfl
          rw [e1]
          clear e1
          wtm_at "rd"
          refine rd_dispT fun d1 f1 => ?_
          wtm_at "rd"
          refine ⟨upd_same, [(.inr x, .int (i : Int))], rfl, by show (1 : Nat) ≤ 15; decide, ?_⟩
          have k1 : Same H1 (upd (upd H1 d1 (.dK [])) d1 (.dK (mergeK [] [((.inr x : Key), V.int (i : Int))]))) := fun b o hb => at_upd (ne_of_none hb f1) (at_upd (ne_of_none hb f1) hb)
          have hd1 := @upd_same (upd H1 d1 (.dK [])) d1 (.dK (mergeK [] [((.inr x : Key), V.int (i : Int))]))
          generalize upd (upd H1 d1 (.dK [])) d1 (.dK (mergeK [] [((.inr x : Key), V.int (i : Int))])) = H2 at k1 hd1
          have s2 := sb.trans k1
          wtm_at "rd"
          refine rd_borF (kvs := trK tr) (k := .inr x) (v := .int (i : Int)) (.inl (s2 _ _ hd)) (.inl hd1) (by rw [tlen]; exact Nat.lt_of_le_of_lt (by omega : tr.length ≤ 100) (by decide)) ?_
          intro d2 f2
          rw [putS_K]
          have k2 := Same.new (o := .dK (trK (putS tr x (i : Int)))) f2
          have hd2 := @upd_same H2 d2 (.dK (trK (putS tr x (i : Int))))
          have s3 := s2.trans k2
          generalize upd H2 d2 (.dK (trK (putS tr x (i : Int)))) = H3 at k2 hd2 s3
          wtm_at "rd"
          obtain ⟨pe, pp⟩ := put (i : Int)
          refine ⟨m, Nat.lt_succ_self m, g, nA, e, d2, ns, es, putS tr x (i : Int), rfl, gn.same s3, hd2, by rw [pe]; exact pp, by rw [pe, List.length_append, List.length_singleton]; omega, fun H4 s4 => ⟨fun c => ?_, fun tr' c d' hd' => ?_⟩⟩
          · wtm_at "rd"
            refine rd_nno rfl ?_
            wtm_at "rd"
            refine ⟨_, _, rfl, s3.trans s4, fun j hj => ?_⟩
            by_cases z : j = i
            · rw [z]; exact c
            · exact no j (by omega)
          · wtm_at "rd"
            refine rd_nyes (fun z => by cases z) ?_
            wtm_at "rd"
            refine (q H4 (s3.trans s4)).2 tr' ?_ d' hd'
            have : i = 0 ∨ i = 1 ∨ i = 2 := by omega
            rcases this with rfl | rfl | rfl
            · rw [show ((0 : Nat) : Int) = 0 from rfl] at c
              rw [c]
              rfl
            · have n0 := no 0 (by decide)
              rw [show ((0 : Nat) : Int) = 0 from rfl] at n0
              rw [show ((1 : Nat) : Int) = 1 from rfl] at c
              rw [n0, c]
              rfl
            · have n0 := no 0 (by decide)
              have n1 := no 1 (by decide)
              rw [show ((0 : Nat) : Int) = 0 from rfl] at n0
              rw [show ((1 : Nat) : Int) = 1 from rfl] at n1
              rw [show ((2 : Nat) : Int) = 2 from rfl] at c
              rw [n0, n1, c]
              rfl
        · rintro σ H1 ⟨u3, u4, rfl, sb, no⟩
          wtm_at "rd"
          refine (q H1 sb).1 ?_
          have n0 := no 0 (by decide)
          have n1 := no 1 (by decide)
          have n2 := no 2 (by decide)
          rw [show ((0 : Nat) : Int) = 0 from rfl] at n0
          rw [show ((1 : Nat) : Int) = 1 from rfl] at n1
          rw [show ((2 : Nat) : Int) = 2 from rfl] at n2
          rw [n0, n1, n2]
          rfl
    · wtm_at "rd"
      refine rd_nyes (fun z => by cases z) ?_
      wtm_at "rd"
      refine (q _ (Same.new ft)).1 ?_
      cases n with
      | zero => unfold extF; rw [c1]; rfl
      | succ n => unfold extF; rw [c1]; rfl
end
end Law

/-! k62, k60: tree_below -/
namespace U
open PySem PySem.Spec PyProof.Rows L2
/-- the tree below; n nodes are left -/
def treeF (ns : List Str) (es : List (Str × Str)) : Nat → List (Str × Int) → Tr
  | 0, tr => match confF es tr with
    | some e => .leaf "conflict" e.1 e.2
    | none => .no
  | n + 1, tr => match confF es tr with
    | some e => .leaf "conflict" e.1 e.2
    | none => .node "branch" (ns.getD tr.length "") ([0, 1, 2].map fun v : Int => treeF ns es n (putS tr (ns.getD tr.length "") v))
end U
namespace Law
open PySem PySem.Spec PyProof.Rows L2 U
local macro_rules | `(tactic| wtm_at "rd1") => `(tactic| first
  | with_reducible refine rd_seq ?_
  | ((with_reducible refine rd_var (v := ?vv) ?hv ?_); (case hv => exact rfl))
  | with_reducible refine rd_c ?_
  | with_reducible refine rd_cons ?_
  | with_reducible refine rd_nil ?_
  | with_reducible refine rd_op ?_
  | with_reducible refine rd_asg ?_
  | with_reducible refine rd_name ?_
  | with_reducible refine rd_c1 ?_
  | with_reducible refine rd_cb ?_
  | with_reducible refine rd_test ?_
  | with_reducible refine rd_B ?_
  | with_reducible refine rd_bl ?_
  | with_reducible refine rd_if ?_
  | with_reducible refine rd_ret ?_
  | with_reducible refine rd_drop ?_
  | with_reducible refine rd_next ?_
  | with_reducible refine rd_addI ?_
  | with_reducible refine rd_ltI ?_
  | with_reducible refine rd_eqI ?_
  | with_reducible refine rd_neI ?_
  | with_reducible refine rd_eqS ?_
  | with_reducible refine rd_neS ?_
  | with_reducible refine rd_gtI ?_
  | with_reducible refine rd_geI ?_
  | with_reducible refine rd_leI ?_
  | with_reducible refine rd_ltS ?_
  | with_reducible refine rd_subI ?_
  | ((with_reducible refine rd_modI ?hc ?_); (case hc => first | decide | omega))
  | ((with_reducible refine rd_mulI ?hc ?_); (case hc => first | exact mul_bI | exact .inl (.inr (by decide)) | exact .inl (.inl (by decide)) | exact .inl (.inr (by omega)) | exact .inl (.inl (by omega))))
  | ((with_reducible refine rd_divI ?hc ?_); (case hc => first | decide | omega))
  | ((with_reducible refine rd_powI ?hc ?_); (case hc => exact ⟨by decide, by decide, by decide⟩))
  | with_reducible refine rd_lst ?_
  | with_reducible refine rd_tup ?_
  | ((with_reducible refine rd_sz ?hv ?_); (case hv => exact rfl))
  | with_reducible refine rd_and ?_
  | with_reducible refine rd_or ?_
  | with_reducible refine rd_not ?_
  | with_reducible refine rd_andV ?_
  | with_reducible refine rd_orV ?_
  | with_reducible refine rd_notV ?_
  | with_reducible refine rd_ifE ?_
  | with_reducible refine rd_T ?_
  | with_reducible refine rd_F ?_
  | with_reducible refine rd_chain ?_
  | with_reducible refine rd_is ?_
  | with_reducible refine rd_isNot ?_
  | with_reducible refine rd_absI ?_
  | with_reducible refine rd_maxI ?_
  | with_reducible refine rd_minI ?_
  | with_reducible refine rd_intI ?_
  | with_reducible refine rd_intB ?_
  | with_reducible refine rd_sub ?_
  | with_reducible refine rd_sl ?_
  | with_reducible refine rd_noPart ?_
  | with_reducible refine rd_part ?_
  | with_reducible refine rd_exI ?_
  | with_reducible refine rd_bm ?_
  | with_reducible refine rd_bm0 ?_
  | with_reducible refine rd_un ?_
  | with_reducible refine rd_neg ?_
  | with_reducible refine rd_c2 ?_
  | with_reducible refine rd_retN ?_
  | with_reducible refine rd_break ?_
  | with_reducible refine rd_cont ?_
  | with_reducible refine rd_for ?_
  | with_reducible refine rd_rng1 ?_
  | with_reducible refine rd_rng2 ?_
  | with_reducible refine rd_iList ?_
  | with_reducible refine rd_iTup ?_
  | with_reducible refine rd_iEnum ?_
  | ((with_reducible refine rd_forR ?h0 ?h1 ?_); (case h0 => omega); (case h1 => omega))
  | with_reducible refine rd_lc ?_
  | with_reducible refine rd_gcons ?_
  | with_reducible refine rd_gnil ?_
  | with_reducible refine rd_dget ?_
  | with_reducible refine rd_dput ?_
  | with_reducible refine rd_dnew ?_
  | with_reducible refine rd_dc ?_
  | with_reducible refine rd_iItems ?_
  | with_reducible refine rd_iKeys ?_
  | with_reducible refine rd_din ?_
  | with_reducible refine rd_lc2 ?_
  | with_reducible refine rd_cd ?_
  | with_reducible refine rd_par ?_
  | with_reducible refine rd_two ?_
  | with_reducible refine rd_reprB ?_
  | with_reducible refine rd_ck ?_
  | ((with_reducible refine rd_len ?hl ?_); (case hl => exact rfl))
  | with_reducible refine rd_nT ?_
  | with_reducible refine rd_nF ?_
  | with_reducible refine rd_dnin ?_
  | with_reducible refine rd_isB ?_
  | with_reducible refine rd_isNotB ?_
  | with_reducible refine rd_daug ?_
  | with_reducible refine rd_yesT ?_
  | ((with_reducible refine rd_wp ?hw ?_); (case hw => exact rfl)))
local macro_rules | `(tactic| wtm_at "rd") => `(tactic| repeat wtm_at "rd1")

def spBelow (n : Nat) : Sp := fun vs H Q _ => ∃ (g nA e d : Addr) (ns : List Str) (es : List (Addr × Str × Str)) (tr : List (Str × Int)), vs = [.ref g, .ref d] ∧ GrN H g nA e ns es ∧ H d = some (.dK (trK tr)) ∧ PreN ns tr ∧ tr.length + n = ns.length ∧ extF ns (es.map (·.2)) n tr = none ∧
  ∀ v H', Same H H' → RtAt n (fun a => H a ≠ none) H' v (treeF ns (es.map (·.2)) n tr) → Q v H'
section
variable {P : Program} {w : World} {K : PySem.W.Frag} {mg : Str → Option Value} {base : Heap}
theorem ok_below {f : Addr} {fd : FuncData} {va : Addr} (F : Fun K "tree_below" "tree_below" s_tree_below f fd) (B : Bt mg) (C : DBa P w K mg base) (S : SelfR K mg "tree_below" f fd ["graph", "values"]) (hV : mg "VALUES" = some (.ref va)) (sV : ∀ H, SqT K H va ([0, 1, 2].map V.int)) : ∀ n : Nat, FnG P w K mg base CX0 (n + 2) f fd ["graph", "values"] (spBelow n) := by
  intro n
  induction n using Nat.strongRecOn with
  | ind n ih =>
  have cal : Cal P w K mg base CX0 (n + 1) "tree_below" (fun vs H Q E => ∃ m, m < n ∧ spBelow m vs H Q E) := ⟨f, fd, _, ⟨fun vs H Q E h => by
    obtain ⟨m, hm, h⟩ := h
    exact (ih m hm).len vs H Q E h, fun A outer s H args us vs Q E hr he hb hv h => by
    obtain ⟨m, hm, h⟩ := h
    exact (ih m hm).go A outer s H args us vs Q E (hr.mono (by omega)) he hb hv h⟩, S.mg, S.kp, S.bd⟩
  refine fnG0 F sc_tree_below (fun vs H Q E h => ?_) (fun cdv A outer s H vs Q E hr h => ?_)
  · obtain ⟨g, nA, e, d, ns, es, tr, rfl, _⟩ := h
    rfl
  · obtain ⟨g, nA, e, d, ns, es, tr, rfl, gn, hd, pre, ln, ex, q⟩ := h
    have nd := sc_tree_below.nd
    have hu := hr.u1
    refine ⟨_, (pss_cons (ps_set (i := 2) nd rfl (by first | exact Or.inl rfl | exact Or.inr rfl) (pe_c C.first_conflict hr (by omega) rfl (pa_cons (pv 0) (pa_cons (pv 1) pa_nil))))
  (pss_cons (ps_if (pt_cmpR uIsNot (pv 2) pe_non (nomark _)) (pss_one (ps_ret (pe_tup (pa_cons pe_str (pa_cons (pe_ix (kIx K rfl) (pv 2) pe_int (fun _ _ => rfl)) (pa_cons (pe_ix (kIx K rfl) (pv 2) pe_int (fun _ _ => rfl)) pa_nil)))))) pss_nil)
  (pss_cons (ps_set (i := 3) nd rfl (by first | exact Or.inl rfl | exact Or.inr rfl) (pe_ix (kIx K rfl) (pe_ix (kIx K rfl) (pv 0) pe_int (fun _ _ => rfl)) (pe_callB (kLen K rfl) (by rfl) B.len bb_len (pa_cons (pv 1) pa_nil)) (fun _ _ => rfl)))
  (pss_one (ps_ret (pe_tup (pa_cons pe_str (pa_cons (pv 3) (pa_cons (pe_lc (own := [("value", 4)]) rfl nd (ki_tup K rfl (pe_gl (v := .ref va) rfl ⟨_, hV, rfl⟩)) (blkOk_by (own := [("value", 4)]) (N := nN_tree_below) (sc := defScope s_tree_below) (by decide +kernel)) (fun _ _ _ _ _ => (pg_name (i := 4) nd rfl (by first | exact Or.inl rfl | exact Or.inr rfl))) (fun _ _ _ _ _ => pts_nil) (fun _ _ _ _ _ => (pe_c cal hr (by omega) rfl (pa_cons (pv 0) (pa_cons (pe_op uBor (pv 1) (pe_disp (pps_cons (pv 3) (pv 4) pps_nil) (by rfl) (by rfl) (fun z => by cases z) (by decide))) pa_nil))))) pa_nil))))))))), ?_⟩
    have l1 := gn.l1
    wtm_at "rd"
    refine ⟨g, nA, e, d, ns, es, tr, rfl, gn, hd, fun c0 => ?_, fun x c1 t ft => ?_⟩
    · wtm_at "rd"
      refine rd_nno rfl ?_
      cases n with
      | zero =>
        unfold extF at ex
        rw [c0] at ex
        cases ex
      | succ m =>
        have kl : tr.length < ns.length := by omega
        have put : ∀ v : Int, putS tr ns[tr.length] v = tr ++ [(ns[tr.length], v)] ∧ PreN ns (tr ++ [(ns[tr.length], v)]) := fun v => PreN.put gn.nd pre kl
        have gd : ns.getD tr.length "" = ns[tr.length] := getDU kl
        unfold extF at ex
        rw [c0, if_neg (by decide), gd] at ex
        have exs : ∀ i : Nat, i < 3 → extF ns (es.map (·.2)) m (putS tr ns[tr.length] i) = none := by
          obtain ⟨x0, x12⟩ := Option.or_eq_none_iff.mp ex
          obtain ⟨x1, x2⟩ := Option.or_eq_none_iff.mp x12
          intro i hi
          have : i = 0 ∨ i = 1 ∨ i = 2 := by omega
          rcases this with rfl | rfl | rfl
          · exact x0
          · exact x1
          · exact x2
        have tF : treeF ns (es.map (·.2)) (m + 1) tr = .node "branch" ns[tr.length] ([0, 1, 2].map fun v : Int => treeF ns (es.map (·.2)) m (putS tr ns[tr.length] v)) := by
          conv => lhs; unfold treeF
          rw [c0, gd]
        rw [tF] at q
        clear tF ex gd
        have tlen : (trK tr).length = tr.length := by
          unfold trK
          rw [List.length_map]
        wtm_at "rd"
        refine rd_ixT (SqT.of gn.gr.top) (v := .ref nA) rfl ?_
        wtm_at "rd"
        refine rd_lenD hd ?_
        wtm_at "rd"
        rw [tlen]
        refine rd_ixT (SqT.of gn.gr.nodes) (v := .str ns[tr.length]) (atI_nat (by rw [List.getElem?_map, List.getElem?_eq_getElem kl]; rfl)) ?_
        generalize ns[tr.length] = x at *
        wtm_at "rd"
        refine rd_forT (sV _) ?_
        intro D fD
        refine lcT (K := K) (xs := [0, 1, 2].map V.int) (fun i H' => Same H H' ∧ ∃ vs : List V, H' D = some (.lst vs) ∧ vs.length = i ∧ Paired (RtAt m (fun a => a = D ∨ H a ≠ none) H') vs ((([0, 1, 2] : List Int).map fun v => treeF ns (es.map (·.2)) m (putS tr x v)).take i)) ⟨Same.new fD, [], upd_same, rfl, .nil⟩ ?_ ?_ ?_
        · rintro i H' hi ⟨sb, _⟩
          exact sV _
        · rintro i y H1 hy ⟨sb, vs, hD, vl, pr⟩
          obtain ⟨hi, rfl⟩ := map_at hy
          have hi3 : i < 3 := hi
          have e1 : ([0, 1, 2] : List Int)[i] = (i : Int) := by
            have : i = 0 ∨ i = 1 ∨ i = 2 := by omega
            rcases this with rfl | rfl | rfl <;> rfl
          have tk : (([0, 1, 2] : List Int).map fun v => treeF ns (es.map (·.2)) m (putS tr x v)).take (i + 1) = (([0, 1, 2] : List Int).map fun v => treeF ns (es.map (·.2)) m (putS tr x v)).take i ++ [treeF ns (es.map (·.2)) m (putS tr x (i : Int))] := by
            rw [tk_snoc2 (by simpa using hi3), List.getElem_map, e1]
          rw [tk, e1]
          clear tk e1
          wtm_at "rd"
          refine rd_dispT fun d1 f1 => ?_
          wtm_at "rd"
          refine ⟨upd_same, [(.inr x, .int (i : Int))], rfl, by show (1 : Nat) ≤ 15; decide, ?_⟩
          have k1 : Same H1 (upd (upd H1 d1 (.dK [])) d1 (.dK (mergeK [] [((.inr x : Key), V.int (i : Int))]))) := fun b o hb => at_upd (ne_of_none hb f1) (at_upd (ne_of_none hb f1) hb)
          have hd1 := @upd_same (upd H1 d1 (.dK [])) d1 (.dK (mergeK [] [((.inr x : Key), V.int (i : Int))]))
          generalize upd (upd H1 d1 (.dK [])) d1 (.dK (mergeK [] [((.inr x : Key), V.int (i : Int))])) = H2 at k1 hd1
          have s2 := sb.trans k1
          wtm_at "rd"
          refine rd_borF (kvs := trK tr) (k := .inr x) (v := .int (i : Int)) (.inl (s2 _ _ hd)) (.inl hd1) (by rw [tlen]; exact Nat.lt_of_le_of_lt (by omega : tr.length ≤ 100) (by decide)) ?_
          intro d2 f2
          rw [putS_K]
          have k2 := Same.new (o := .dK (trK (putS tr x (i : Int)))) f2
          have hd2 := @upd_same H2 d2 (.dK (trK (putS tr x (i : Int))))
          have s3 := s2.trans k2
          have k12 := k1.trans k2
          generalize upd H2 d2 (.dK (trK (putS tr x (i : Int)))) = H3 at k2 hd2 s3 k12
          wtm_at "rd"
          obtain ⟨pe, pp⟩ := put (i : Int)
          have hD3 := k12 _ _ hD
          refine ⟨m, Nat.lt_succ_self m, g, nA, e, d2, ns, es, putS tr x (i : Int), rfl, gn.same s3, hd2, by rw [pe]; exact pp, by rw [pe, List.length_append, List.length_singleton]; omega, exs i hi3, fun v H4 s4 rt => ?_⟩
          have hD4 := s4 _ _ hD3
          refine rd_acc hD4 (by omega) ?_
          have pr4 := Paired.snoc (Paired.mapR (fun a b z => RtAt.same (RtAt.same z k12) s4) pr) (RtAt.mono (W' := fun a => a = D ∨ H a ≠ none) (fun a z => by
            rcases z with rfl | z
            · intro c
              rw [hD3] at c
              cases c
            · intro c
              cases hh : H a with
              | none => exact z hh
              | some o =>
                rw [s3 _ _ hh] at c
                cases c) rt)
          exact ⟨same_put (s3.trans s4) fD, vs ++ [v], upd_same, by rw [List.length_append, vl]; rfl, Paired.mapR (fun a b z => RtAt.keep (fun c o h => at_upd (ne_of h hD4 (by intro z; cases z)) h) (fun c o h h2 => at_upd (fun e => h (.inl e)) h2) z) pr4⟩
        · rintro H1 ⟨sb, vs, hD, vl, pr⟩
          wtm_at "rd"
          intro t ft
          have k := Same.new (o := .tup [.str "branch", .str x, .ref D]) ft
          refine q (.ref t) _ (sb.trans k) ?_
          unfold RtAt
          exact ⟨t, D, vs, rfl, upd_same, k _ _ hD, fun z => z fD, Paired.mapR (fun a b z => RtAt.same (RtAt.mono (fun _ z => .inr z) z) k) pr⟩
    · have k := Same.new (o := .tup [.str x.1, .str x.2]) ft
      have ht := @upd_same H t (.tup [.str x.1, .str x.2])
      generalize upd H t (.tup [.str x.1, .str x.2]) = H1 at k ht
      wtm_at "rd"
      refine rd_nyes (fun z => by cases z) ?_
      wtm_at "rd"
      refine rd_ixT (SqT.of ht) (v := .str x.1) rfl ?_
      wtm_at "rd"
      refine rd_ixT (SqT.of ht) (v := .str x.2) rfl ?_
      wtm_at "rd"
      intro t2 ft2
      have k2 := Same.new (o := .tup [.str "conflict", .str x.1, .str x.2]) ft2
      refine q (.ref t2) _ (k.trans k2) ?_
      have tF : treeF ns (es.map (·.2)) n tr = .leaf "conflict" x.1 x.2 := by
        cases n with
        | zero => unfold treeF; rw [c1]
        | succ n => unfold treeF; rw [c1]
      rw [tF]
      unfold RtAt
      exact ⟨t2, rfl, upd_same⟩
end
end Law

/-! k62, k60: first_state, case_tree -/
namespace U
open PySem PySem.Spec PyProof.Rows L2
/-- where no extension is, the tree below is right -/
theorem treeF_ok {ns : List Str} {es : List (Str × Str)} (nd : ns.Nodup) (so : ∀ e ∈ es, eOf e.1 e.2 = e) (mem : ∀ e ∈ es, e.1 ∈ ns ∧ e.2 ∈ ns) : ∀ {n : Nat} {tr : List (Str × Int)}, PreN ns tr → tr.length + n = ns.length → extF ns es n tr = none → okT ns es n (treeF ns es n tr) tr = true := by
  intro n
  have leaf : ∀ {n : Nat} {tr : List (Str × Int)} {e : Str × Str}, confF es tr = some e → okT ns es n (.leaf "conflict" e.1 e.2) tr = true := fun {n tr e} h => by
    have c : isConf tr e = true := List.find?_some h
    have m := List.mem_of_find?_eq_some h
    unfold isConf at c
    rw [okT_leaf, so e m, decide_eq_true rfl, decide_eq_true (mem e m).1, decide_eq_true m]
    simpa using c
  induction n with
  | zero =>
    intro tr pre ln ex
    cases c : confF es tr with
    | none =>
      unfold extF at ex
      rw [c] at ex
      cases ex
    | some e =>
      unfold treeF
      rw [c]
      exact leaf c
  | succ n ih =>
    intro tr pre ln ex
    cases c : confF es tr with
    | some e =>
      unfold treeF
      rw [c]
      exact leaf c
    | none =>
      have kl : tr.length < ns.length := by omega
      have gd : ns.getD tr.length "" = ns[tr.length] := getDU kl
      have put : ∀ v : Int, putS tr ns[tr.length] v = tr ++ [(ns[tr.length], v)] ∧ PreN ns (tr ++ [(ns[tr.length], v)]) := fun v => PreN.put nd pre kl
      unfold extF at ex
      rw [c, if_neg (by decide), gd] at ex
      obtain ⟨x0, x12⟩ := Option.or_eq_none_iff.mp ex
      obtain ⟨x1, x2⟩ := Option.or_eq_none_iff.mp x12
      have sub : ∀ v : Int, extF ns es n (putS tr ns[tr.length] v) = none → okT ns es n (treeF ns es n (putS tr ns[tr.length] v)) (putS tr ns[tr.length] v) = true := fun v z => by
        obtain ⟨pe, pp⟩ := put v
        exact ih (by rw [pe]; exact pp) (by rw [pe, List.length_append, List.length_singleton]; omega) z
      have no : valS tr ns[tr.length] = none := by
        unfold valS
        rw [List.find?_eq_none.mpr fun y hy z => ?_]
        · rfl
        · have m : ns[tr.length] ∈ ns.take tr.length := by
            rw [← pre.1, ← of_decide_eq_true z]
            exact List.mem_map_of_mem hy
          obtain ⟨j, hj, e2⟩ := List.mem_iff_getElem.mp m
          rw [List.getElem_take] at e2
          rw [List.length_take] at hj
          exact (List.pairwise_iff_getElem.mp (List.nodup_iff_pairwise_ne.mp nd)) j tr.length (by omega) kl (by omega) e2
      unfold treeF
      rw [c]
      dsimp only
      rw [gd, okT_node, no, decide_eq_true rfl, decide_eq_true (List.getElem_mem kl)]
      have s0 := sub 0 x0
      have s1 := sub 1 x1
      have s2 := sub 2 x2
      show (true && (true && (true && (true && ([okT ns es n (treeF ns es n (putS tr ns[tr.length] 0)) (putS tr ns[tr.length] 0), okT ns es n (treeF ns es n (putS tr ns[tr.length] 1)) (putS tr ns[tr.length] 1), okT ns es n (treeF ns es n (putS tr ns[tr.length] 2)) (putS tr ns[tr.length] 2)]).all id)))) = true
      rw [s0, s1, s2]
      rfl
end U
namespace Law
open PySem PySem.Spec PyProof.Rows L2 U
local macro_rules | `(tactic| wtm_at "rd1") => `(tactic| first
  | with_reducible refine rd_seq ?_
  | ((with_reducible refine rd_var (v := ?vv) ?hv ?_); (case hv => exact rfl))
  | with_reducible refine rd_c ?_
  | with_reducible refine rd_cons ?_
  | with_reducible refine rd_nil ?_
  | with_reducible refine rd_op ?_
  | with_reducible refine rd_asg ?_
  | with_reducible refine rd_name ?_
  | with_reducible refine rd_c1 ?_
  | with_reducible refine rd_cb ?_
  | with_reducible refine rd_test ?_
  | with_reducible refine rd_B ?_
  | with_reducible refine rd_bl ?_
  | with_reducible refine rd_if ?_
  | with_reducible refine rd_ret ?_
  | with_reducible refine rd_drop ?_
  | with_reducible refine rd_next ?_
  | with_reducible refine rd_addI ?_
  | with_reducible refine rd_ltI ?_
  | with_reducible refine rd_eqI ?_
  | with_reducible refine rd_neI ?_
  | with_reducible refine rd_eqS ?_
  | with_reducible refine rd_neS ?_
  | with_reducible refine rd_gtI ?_
  | with_reducible refine rd_geI ?_
  | with_reducible refine rd_leI ?_
  | with_reducible refine rd_ltS ?_
  | with_reducible refine rd_subI ?_
  | ((with_reducible refine rd_modI ?hc ?_); (case hc => first | decide | omega))
  | ((with_reducible refine rd_mulI ?hc ?_); (case hc => first | exact mul_bI | exact .inl (.inr (by decide)) | exact .inl (.inl (by decide)) | exact .inl (.inr (by omega)) | exact .inl (.inl (by omega))))
  | ((with_reducible refine rd_divI ?hc ?_); (case hc => first | decide | omega))
  | ((with_reducible refine rd_powI ?hc ?_); (case hc => exact ⟨by decide, by decide, by decide⟩))
  | with_reducible refine rd_lst ?_
  | with_reducible refine rd_tup ?_
  | ((with_reducible refine rd_sz ?hv ?_); (case hv => exact rfl))
  | with_reducible refine rd_and ?_
  | with_reducible refine rd_or ?_
  | with_reducible refine rd_not ?_
  | with_reducible refine rd_andV ?_
  | with_reducible refine rd_orV ?_
  | with_reducible refine rd_notV ?_
  | with_reducible refine rd_ifE ?_
  | with_reducible refine rd_T ?_
  | with_reducible refine rd_F ?_
  | with_reducible refine rd_chain ?_
  | with_reducible refine rd_is ?_
  | with_reducible refine rd_isNot ?_
  | with_reducible refine rd_absI ?_
  | with_reducible refine rd_maxI ?_
  | with_reducible refine rd_minI ?_
  | with_reducible refine rd_intI ?_
  | with_reducible refine rd_intB ?_
  | with_reducible refine rd_sub ?_
  | with_reducible refine rd_sl ?_
  | with_reducible refine rd_noPart ?_
  | with_reducible refine rd_part ?_
  | with_reducible refine rd_exI ?_
  | with_reducible refine rd_bm ?_
  | with_reducible refine rd_bm0 ?_
  | with_reducible refine rd_un ?_
  | with_reducible refine rd_neg ?_
  | with_reducible refine rd_c2 ?_
  | with_reducible refine rd_retN ?_
  | with_reducible refine rd_break ?_
  | with_reducible refine rd_cont ?_
  | with_reducible refine rd_for ?_
  | with_reducible refine rd_rng1 ?_
  | with_reducible refine rd_rng2 ?_
  | with_reducible refine rd_iList ?_
  | with_reducible refine rd_iTup ?_
  | with_reducible refine rd_iEnum ?_
  | ((with_reducible refine rd_forR ?h0 ?h1 ?_); (case h0 => omega); (case h1 => omega))
  | with_reducible refine rd_lc ?_
  | with_reducible refine rd_gcons ?_
  | with_reducible refine rd_gnil ?_
  | with_reducible refine rd_dget ?_
  | with_reducible refine rd_dput ?_
  | with_reducible refine rd_dnew ?_
  | with_reducible refine rd_dc ?_
  | with_reducible refine rd_iItems ?_
  | with_reducible refine rd_iKeys ?_
  | with_reducible refine rd_din ?_
  | with_reducible refine rd_lc2 ?_
  | with_reducible refine rd_cd ?_
  | with_reducible refine rd_par ?_
  | with_reducible refine rd_two ?_
  | with_reducible refine rd_reprB ?_
  | with_reducible refine rd_ck ?_
  | ((with_reducible refine rd_len ?hl ?_); (case hl => exact rfl))
  | with_reducible refine rd_nT ?_
  | with_reducible refine rd_nF ?_
  | with_reducible refine rd_dnin ?_
  | with_reducible refine rd_isB ?_
  | with_reducible refine rd_isNotB ?_
  | with_reducible refine rd_daug ?_
  | with_reducible refine rd_yesT ?_
  | ((with_reducible refine rd_wp ?hw ?_); (case hw => exact rfl)))
local macro_rules | `(tactic| wtm_at "rd") => `(tactic| repeat wtm_at "rd1")

def spExtU : Sp := fun vs H Q E => ∃ n, n ≤ 8 ∧ spExt n vs H Q E
def spBelowU : Sp := fun vs H Q E => ∃ n, n ≤ 8 ∧ spBelow n vs H Q E
def spFst : Sp := fun vs H Q _ => ∃ (g nA e : Addr) (ns : List Str) (es : List (Addr × Str × Str)), vs = [.ref g] ∧ GrN H g nA e ns es ∧ ns.length ≤ 8 ∧
  ∀ H', Same H H' → (extF ns (es.map (·.2)) ns.length [] = none → Q .non H') ∧ ∀ tr', extF ns (es.map (·.2)) ns.length [] = some tr' → ∀ d', H' d' = some (.dK (trK tr')) → Q (.ref d') H'
def spCaseT : Sp := fun vs H Q _ => ∃ (g nA e : Addr) (ns : List Str) (es : List (Addr × Str × Str)), vs = [.ref g] ∧ GrN H g nA e ns es ∧ ns.length ≤ 8 ∧
  (∀ H', Same H H' → ∀ tr', extF ns (es.map (·.2)) ns.length [] = some tr' → Q .non H') ∧ ∀ v H', Same H H' → extF ns (es.map (·.2)) ns.length [] = none → RtAt ns.length (fun a => H a ≠ none) H' v (treeF ns (es.map (·.2)) ns.length []) → Q v H'
section
variable {P : Program} {w : World} {K : PySem.W.Frag} {mg : Str → Option Value} {base : Heap}
theorem ok_extU {f : Addr} {fd : FuncData} {va : Addr} (F : Fun K "first_extension" "first_extension" s_first_extension f fd) (B : Bt mg) (C : DBa P w K mg base) (S : SelfR K mg "first_extension" f fd ["graph", "values"]) (hV : mg "VALUES" = some (.ref va)) (sV : ∀ H, SqT K H va ([0, 1, 2].map V.int)) : FnG P w K mg base CX0 10 f fd ["graph", "values"] spExtU := by
  exact ⟨fun vs H Q E h => by
    obtain ⟨m, hm, h⟩ := h
    exact (ok_ext (P := P) (w := w) (base := base) F B C S hV sV m).len vs H Q E h, fun A outer s H args us vs Q E hr he hb hv h => by
    obtain ⟨m, hm, h⟩ := h
    exact (ok_ext (P := P) (w := w) (base := base) F B C S hV sV m).go A outer s H args us vs Q E (hr.mono (by omega)) he hb hv h⟩
theorem ok_belowU {f : Addr} {fd : FuncData} {va : Addr} (F : Fun K "tree_below" "tree_below" s_tree_below f fd) (B : Bt mg) (C : DBa P w K mg base) (S : SelfR K mg "tree_below" f fd ["graph", "values"]) (hV : mg "VALUES" = some (.ref va)) (sV : ∀ H, SqT K H va ([0, 1, 2].map V.int)) : FnG P w K mg base CX0 10 f fd ["graph", "values"] spBelowU := by
  exact ⟨fun vs H Q E h => by
    obtain ⟨m, hm, h⟩ := h
    exact (ok_below (P := P) (w := w) (base := base) F B C S hV sV m).len vs H Q E h, fun A outer s H args us vs Q E hr he hb hv h => by
    obtain ⟨m, hm, h⟩ := h
    exact (ok_below (P := P) (w := w) (base := base) F B C S hV sV m).go A outer s H args us vs Q E (hr.mono (by omega)) he hb hv h⟩
structure DDa (P : Program) (w : World) (K : PySem.W.Frag) (mg : Str → Option Value) (base : Heap) : Prop where
  MAX_CASE_NODES : ∃ u, mg "MAX_CASE_NODES" = some u ∧ RelV (.int 8) u
  first_extension : Cal P w K mg base CX0 10 "first_extension" spExtU
theorem ok_fst {f : Addr} {fd : FuncData} (F : Fun K "first_state" "first_state" s_first_state f fd) (B : Bt mg) (C : DDa P w K mg base) : FnG P w K mg base CX0 11 f fd ["graph"] spFst := by
  refine fnG0 F sc_first_state (fun vs H Q E h => ?_) (fun cdv A outer s H vs Q E hr h => ?_)
  · obtain ⟨g, nA, e, ns, es, rfl, _⟩ := h
    rfl
  · obtain ⟨g, nA, e, ns, es, rfl, gn, n8, q⟩ := h
    have nd := sc_first_state.nd
    have hu := hr.u1
    refine ⟨_, (pss_cons (ps_if (pt_cmpR uGt (pe_callB (kLen K rfl) (by rfl) B.len bb_len (pa_cons (pe_ix (kIx K rfl) (pv 0) pe_int (fun _ _ => rfl)) pa_nil)) (pe_gl rfl C.MAX_CASE_NODES) (nomark _)) (pss_one ps_dead) pss_nil)
  (pss_one (ps_ret (pe_c C.first_extension hr (by decide) rfl (pa_cons (pv 0) (pa_cons pe_dnewK pa_nil)))))), ?_⟩
    wtm_at "rd"
    refine rd_ixT (SqT.of gn.gr.top) (v := .ref nA) rfl ?_
    wtm_at "rd"
    refine rd_lenT (SqT.of gn.gr.nodes) ?_
    rw [List.length_map]
    wtm_at "rd"
    refine rd_no (by omega) ?_
    wtm_at "rd"
    intro d fd
    have k := Same.new (o := .dK []) fd
    refine ⟨ns.length, n8, g, nA, e, d, ns, es, [], rfl, gn.same k, upd_same, ⟨rfl, Nat.zero_le _⟩, by simp, fun H' s => q H' (k.trans s)⟩
structure DDb (P : Program) (w : World) (K : PySem.W.Frag) (mg : Str → Option Value) (base : Heap) : Prop where
  first_state : Cal P w K mg base CX0 11 "first_state" spFst
  tree_below : Cal P w K mg base CX0 10 "tree_below" spBelowU
theorem ok_caseT {f : Addr} {fd : FuncData} (F : Fun K "case_tree" "case_tree" s_case_tree f fd) (B : Bt mg) (C : DDb P w K mg base) : FnG P w K mg base CX0 12 f fd ["graph"] spCaseT := by
  refine fnG0 F sc_case_tree (fun vs H Q E h => ?_) (fun cdv A outer s H vs Q E hr h => ?_)
  · obtain ⟨g, nA, e, ns, es, rfl, _⟩ := h
    rfl
  · obtain ⟨g, nA, e, ns, es, rfl, gn, n8, q0, q1⟩ := h
    have nd := sc_case_tree.nd
    have hu := hr.u1
    refine ⟨_, (pss_one (ps_ret (pe_ifExp (pt_cmpR uIs (pe_c C.first_state hr (by decide) rfl (pa_cons (pv 0) pa_nil)) pe_non (nomark _)) (pe_c C.tree_below hr (by decide) rfl (pa_cons (pv 0) (pa_cons pe_dnewK pa_nil))) pe_non))), ?_⟩
    wtm_at "rd"
    refine ⟨g, nA, e, ns, es, rfl, gn, n8, fun H1 s1 => ⟨fun ex => ?_, fun tr' ex d' hd' => ?_⟩⟩
    · wtm_at "rd"
      refine rd_yes rfl ?_
      wtm_at "rd"
      intro d fd
      have k := Same.new (o := .dK []) fd
      refine ⟨ns.length, n8, g, nA, e, d, ns, es, [], rfl, (gn.same s1).same k, upd_same, ⟨rfl, Nat.zero_le _⟩, by simp, ex, fun v H' s rt => ?_⟩
      refine q1 v H' ((s1.trans k).trans s) ex (RtAt.mono (fun a z c => ?_) rt)
      cases hh : H a with
      | none => exact z hh
      | some o =>
        rw [k _ _ (s1 _ _ hh)] at c
        cases c
    · wtm_at "rd"
      refine rd_no (fun z => by cases z) ?_
      wtm_at "rd"
      exact q0 H1 s1 tr' ex
end
end Law

/-! k62, k60: is_case_tree of trees of any depth up to 8; right trees stay right in bigger graphs -/
namespace U
open PySem PySem.Spec PyProof.Rows L2
theorem okT_more {ns ns2 : List Str} {es es2 : List (Str × Str)} (hn : ∀ x ∈ ns, x ∈ ns2) (he : ∀ e ∈ es, e ∈ es2) : ∀ {n : Nat} {t : Tr} {tr : List (Str × Int)}, okT ns es n t tr = true → okT ns2 es2 n t tr = true
  | n, .no, tr, h => by
    unfold okT at h
    cases h
  | n, .leaf l x y, tr, h => by
    rw [okT_leaf] at h ⊢
    simp only [Bool.and_eq_true, decide_eq_true_eq] at h ⊢
    exact ⟨h.1, hn _ h.2.1, he _ h.2.2.1, h.2.2.2⟩
  | 0, .node l x ts, tr, h => by
    unfold okT at h
    cases h
  | n + 1, .node l x ts, tr, h => by
    rw [okT_node] at h ⊢
    simp only [Bool.and_eq_true, decide_eq_true_eq] at h ⊢
    refine ⟨h.1, hn _ h.2.1, h.2.2.1, h.2.2.2.1, ?_⟩
    have a := h.2.2.2.2
    rw [List.all_eq_true] at a ⊢
    intro b hb
    obtain ⟨i, hi, rfl⟩ := List.mem_map.mp hb
    exact okT_more hn he (a _ (List.mem_map.mpr ⟨i, hi, rfl⟩))
/-- a right tree has a leaf, and its edge is one of the graph -/
theorem okT_none {ns : List Str} : ∀ {n : Nat} {t : Tr} {tr : List (Str × Int)} {es es2 : List (Str × Str)}, okT ns es n t tr = true → (∀ e ∈ es, e ∉ es2) → ∀ {ns2 : List Str}, okT ns2 es2 n t tr = false
  | n, .no, tr, es, es2, h, _, ns2 => by unfold okT; rfl
  | n, .leaf l x y, tr, es, es2, h, no, ns2 => by
    rw [okT_leaf] at h ⊢
    simp only [Bool.and_eq_true, decide_eq_true_eq] at h
    rw [decide_eq_false (no _ h.2.2.1)]
    simp
  | 0, .node l x ts, tr, es, es2, h, _, ns2 => by unfold okT; rfl
  | n + 1, .node l x ts, tr, es, es2, h, no, ns2 => by
    rw [okT_node] at h ⊢
    simp only [Bool.and_eq_true, decide_eq_true_eq] at h
    have a := h.2.2.2.2
    rw [List.all_eq_true] at a
    have z := okT_none (a _ (List.mem_map.mpr ⟨0, by decide, rfl⟩)) no (ns2 := ns2)
    have bad : ((List.range 3).map fun i : Nat => okT ns2 es2 n (ts.getD i .no) (putS tr x i)).all id = false := by
      rw [List.all_eq_false]
      exact ⟨_, List.mem_map.mpr ⟨0, by decide, rfl⟩, by rw [z]; exact Bool.false_ne_true⟩
    rw [bad]
    simp
end U
namespace Law
open PySem PySem.Spec PyProof.Rows L2 U
local macro_rules | `(tactic| wtm_at "rd1") => `(tactic| first
  | with_reducible refine rd_seq ?_
  | ((with_reducible refine rd_var (v := ?vv) ?hv ?_); (case hv => exact rfl))
  | with_reducible refine rd_c ?_
  | with_reducible refine rd_cons ?_
  | with_reducible refine rd_nil ?_
  | with_reducible refine rd_op ?_
  | with_reducible refine rd_asg ?_
  | with_reducible refine rd_name ?_
  | with_reducible refine rd_c1 ?_
  | with_reducible refine rd_cb ?_
  | with_reducible refine rd_test ?_
  | with_reducible refine rd_B ?_
  | with_reducible refine rd_bl ?_
  | with_reducible refine rd_if ?_
  | with_reducible refine rd_ret ?_
  | with_reducible refine rd_drop ?_
  | with_reducible refine rd_next ?_
  | with_reducible refine rd_addI ?_
  | with_reducible refine rd_ltI ?_
  | with_reducible refine rd_eqI ?_
  | with_reducible refine rd_neI ?_
  | with_reducible refine rd_eqS ?_
  | with_reducible refine rd_neS ?_
  | with_reducible refine rd_gtI ?_
  | with_reducible refine rd_geI ?_
  | with_reducible refine rd_leI ?_
  | with_reducible refine rd_ltS ?_
  | with_reducible refine rd_subI ?_
  | ((with_reducible refine rd_modI ?hc ?_); (case hc => first | decide | omega))
  | ((with_reducible refine rd_mulI ?hc ?_); (case hc => first | exact mul_bI | exact .inl (.inr (by decide)) | exact .inl (.inl (by decide)) | exact .inl (.inr (by omega)) | exact .inl (.inl (by omega))))
  | ((with_reducible refine rd_divI ?hc ?_); (case hc => first | decide | omega))
  | ((with_reducible refine rd_powI ?hc ?_); (case hc => exact ⟨by decide, by decide, by decide⟩))
  | with_reducible refine rd_lst ?_
  | with_reducible refine rd_tup ?_
  | ((with_reducible refine rd_sz ?hv ?_); (case hv => exact rfl))
  | with_reducible refine rd_and ?_
  | with_reducible refine rd_or ?_
  | with_reducible refine rd_not ?_
  | with_reducible refine rd_andV ?_
  | with_reducible refine rd_orV ?_
  | with_reducible refine rd_notV ?_
  | with_reducible refine rd_ifE ?_
  | with_reducible refine rd_T ?_
  | with_reducible refine rd_F ?_
  | with_reducible refine rd_chain ?_
  | with_reducible refine rd_is ?_
  | with_reducible refine rd_isNot ?_
  | with_reducible refine rd_absI ?_
  | with_reducible refine rd_maxI ?_
  | with_reducible refine rd_minI ?_
  | with_reducible refine rd_intI ?_
  | with_reducible refine rd_intB ?_
  | with_reducible refine rd_sub ?_
  | with_reducible refine rd_sl ?_
  | with_reducible refine rd_noPart ?_
  | with_reducible refine rd_part ?_
  | with_reducible refine rd_exI ?_
  | with_reducible refine rd_bm ?_
  | with_reducible refine rd_bm0 ?_
  | with_reducible refine rd_un ?_
  | with_reducible refine rd_neg ?_
  | with_reducible refine rd_c2 ?_
  | with_reducible refine rd_retN ?_
  | with_reducible refine rd_break ?_
  | with_reducible refine rd_cont ?_
  | with_reducible refine rd_for ?_
  | with_reducible refine rd_rng1 ?_
  | with_reducible refine rd_rng2 ?_
  | with_reducible refine rd_iList ?_
  | with_reducible refine rd_iTup ?_
  | with_reducible refine rd_iEnum ?_
  | ((with_reducible refine rd_forR ?h0 ?h1 ?_); (case h0 => omega); (case h1 => omega))
  | with_reducible refine rd_lc ?_
  | with_reducible refine rd_gcons ?_
  | with_reducible refine rd_gnil ?_
  | with_reducible refine rd_dget ?_
  | with_reducible refine rd_dput ?_
  | with_reducible refine rd_dnew ?_
  | with_reducible refine rd_dc ?_
  | with_reducible refine rd_iItems ?_
  | with_reducible refine rd_iKeys ?_
  | with_reducible refine rd_din ?_
  | with_reducible refine rd_lc2 ?_
  | with_reducible refine rd_cd ?_
  | with_reducible refine rd_par ?_
  | with_reducible refine rd_two ?_
  | with_reducible refine rd_reprB ?_
  | with_reducible refine rd_ck ?_
  | ((with_reducible refine rd_len ?hl ?_); (case hl => exact rfl))
  | with_reducible refine rd_nT ?_
  | with_reducible refine rd_nF ?_
  | with_reducible refine rd_dnin ?_
  | with_reducible refine rd_isB ?_
  | with_reducible refine rd_isNotB ?_
  | with_reducible refine rd_daug ?_
  | with_reducible refine rd_yesT ?_
  | ((with_reducible refine rd_wp ?hw ?_); (case hw => exact rfl)))
local macro_rules | `(tactic| wtm_at "rd") => `(tactic| repeat wtm_at "rd1")

def spTreeW (K : PySem.W.Frag) : Sp := fun vs H Q E => ∃ n, n ≤ 8 ∧ spTree K n vs H Q E
def spCaseU (K : PySem.W.Frag) : Sp := fun vs H Q _ => ∃ (g nA e : Addr) (p : Addr → Prop) (v : V) (ns : List Str) (es : List (Addr × Str × Str)) (n : Nat) (t : Tr), vs = [.ref g, v] ∧ GrN H g nA e ns es ∧ n ≤ 8 ∧ RtAt n p H v t ∧
  ∀ H', Same H H' → Q (.bl (okT ns (es.map (·.2)) n t [])) H'
section
variable {P : Program} {w : World} {K : PySem.W.Frag} {mg : Str → Option Value} {base : Heap}
theorem ok_treeW {f : Addr} {fd : FuncData} {va : Addr} (F : Fun K "is_tree_below" "is_tree_below" s_is_tree_below f fd) (B : Bt mg) (C : CUa P w K mg base) (S : SelfR K mg "is_tree_below" f fd ["graph", "candidate", "values"]) (hV : mg "VALUES" = some (.ref va)) (sV : ∀ H, SqT K H va ([0, 1, 2].map V.int)) : FnG P w K mg base CX0 10 f fd ["graph", "candidate", "values"] (spTreeW K) := by
  exact ⟨fun vs H Q E h => by
    obtain ⟨m, hm, h⟩ := h
    exact (ok_tree (P := P) (w := w) (base := base) F B C S hV sV m).len vs H Q E h, fun A outer s H args us vs Q E hr he hb hv h => by
    obtain ⟨m, hm, h⟩ := h
    exact (ok_tree (P := P) (w := w) (base := base) F B C S hV sV m).go A outer s H args us vs Q E (hr.mono (by omega)) he hb hv h⟩
structure DFa (P : Program) (w : World) (K : PySem.W.Frag) (mg : Str → Option Value) (base : Heap) : Prop where
  is_tree_below : Cal P w K mg base CX0 10 "is_tree_below" (spTreeW K)
theorem ok_caseU {f : Addr} {fd : FuncData} (F : Fun K "is_case_tree" "is_case_tree" s_is_case_tree f fd) (B : Bt mg) (C : DFa P w K mg base) : FnG P w K mg base CX0 11 f fd ["graph", "candidate"] (spCaseU K) := by
  refine fnG0 F sc_is_case_tree (fun vs H Q E h => ?_) (fun cdv A outer s H vs Q E hr h => ?_)
  · obtain ⟨g, nA, e, p, v, ns, es, n, t, rfl, _⟩ := h
    rfl
  · obtain ⟨g, nA, e, p, v, ns, es, n, t, rfl, gn, n8, rt, q⟩ := h
    have nd := sc_is_case_tree.nd
    have hu := hr.u1
    refine ⟨_, (pss_one (ps_ret (pe_c C.is_tree_below hr (by decide) rfl (pa_cons (pv 0) (pa_cons (pv 1) (pa_cons pe_dnewK pa_nil)))))), ?_⟩
    wtm_at "rd"
    intro d fd
    have k := Same.new (o := .dK []) fd
    refine ⟨n, n8, g, nA, e, d, p, v, ns, es, [], _, rfl, gn.same k, upd_same, (by show 0 + n ≤ 100; omega), .inr ⟨t, rt.same k, rfl⟩, fun H' s => q H' (k.trans s)⟩
end
end Law

/-! k62: _law_changed -/
namespace U
open PySem PySem.Spec PyProof.Rows L2
theorem RtAt.up {W : Addr → Prop} {H : Hp} : ∀ {n : Nat} {v : V} {t : Tr}, RtAt n W H v t → RtAt (n + 1) W H v t
  | n, v, .no, h => by
    unfold RtAt at h ⊢
    exact h
  | n, v, .leaf l x y, h => by
    unfold RtAt at h ⊢
    exact h
  | 0, v, .node l x ts, h => by
    unfold RtAt at h
    exact h.elim
  | n + 1, v, .node l x ts, h => by
    unfold RtAt at h ⊢
    obtain ⟨a, q, vs, e, h1, h2, h3, h4⟩ := h
    exact ⟨a, q, vs, e, h1, h2, h3, Paired.mapR (fun a b z => RtAt.up z) h4⟩
/-- a place that is free is no list of the tree -/
theorem RtAt.grow {W : Addr → Prop} {H : Hp} {b : Addr} (fb : H b = none) : ∀ {n : Nat} {v : V} {t : Tr}, RtAt n W H v t → RtAt n (fun a => a = b ∨ W a) H v t
  | n, v, .no, h => by
    unfold RtAt at h ⊢
    exact h
  | n, v, .leaf l x y, h => by
    unfold RtAt at h ⊢
    exact h
  | 0, v, .node l x ts, h => by
    unfold RtAt at h
    exact h.elim
  | n + 1, v, .node l x ts, h => by
    unfold RtAt at h ⊢
    obtain ⟨a, q, vs, e, h1, h2, h3, h4⟩ := h
    refine ⟨a, q, vs, e, h1, h2, fun z => ?_, Paired.mapR (fun a b z => RtAt.grow fb z) h4⟩
    rcases z with rfl | z
    · rw [fb] at h2
      cases h2
    · exact h3 z
/-- trees whose branches have three parts -/
def Tri : Nat → Tr → Prop
  | _, .no => False
  | _, .leaf l _ _ => l ≠ "branch"
  | 0, .node _ _ _ => False
  | n + 1, .node l _ ts => l = "branch" ∧ ts.length = 3 ∧ ∀ t ∈ ts, Tri n t
theorem treeF_tri {ns : List Str} {es : List (Str × Str)} : ∀ {n : Nat} {tr : List (Str × Int)}, extF ns es n tr = none → Tri n (treeF ns es n tr)
  | 0, tr, ex => by
    unfold extF at ex
    unfold treeF
    cases c : confF es tr with
    | none =>
      rw [c] at ex
      cases ex
    | some e =>
      unfold Tri
      exact conf_ne
  | n + 1, tr, ex => by
    unfold extF at ex
    unfold treeF
    cases c : confF es tr with
    | some e =>
      unfold Tri
      exact conf_ne
    | none =>
      rw [c, if_neg (by decide)] at ex
      obtain ⟨x0, x12⟩ := Option.or_eq_none_iff.mp ex
      obtain ⟨x1, x2⟩ := Option.or_eq_none_iff.mp x12
      unfold Tri
      refine ⟨rfl, rfl, fun t ht => ?_⟩
      simp only [List.map_cons, List.map_nil, List.mem_cons, List.not_mem_nil, or_false] at ht
      rcases ht with rfl | rfl | rfl
      · exact treeF_tri x0
      · exact treeF_tri x1
      · exact treeF_tri x2
end U
namespace Law
open PySem PySem.Spec PyProof.Rows L2 U
local macro_rules | `(tactic| wtm_at "rd1") => `(tactic| first
  | with_reducible refine rd_seq ?_
  | ((with_reducible refine rd_var (v := ?vv) ?hv ?_); (case hv => exact rfl))
  | with_reducible refine rd_c ?_
  | with_reducible refine rd_cons ?_
  | with_reducible refine rd_nil ?_
  | with_reducible refine rd_op ?_
  | with_reducible refine rd_asg ?_
  | with_reducible refine rd_name ?_
  | with_reducible refine rd_c1 ?_
  | with_reducible refine rd_cb ?_
  | with_reducible refine rd_test ?_
  | with_reducible refine rd_B ?_
  | with_reducible refine rd_bl ?_
  | with_reducible refine rd_if ?_
  | with_reducible refine rd_ret ?_
  | with_reducible refine rd_drop ?_
  | with_reducible refine rd_next ?_
  | with_reducible refine rd_addI ?_
  | with_reducible refine rd_ltI ?_
  | with_reducible refine rd_eqI ?_
  | with_reducible refine rd_neI ?_
  | with_reducible refine rd_eqS ?_
  | with_reducible refine rd_neS ?_
  | with_reducible refine rd_gtI ?_
  | with_reducible refine rd_geI ?_
  | with_reducible refine rd_leI ?_
  | with_reducible refine rd_ltS ?_
  | with_reducible refine rd_subI ?_
  | ((with_reducible refine rd_modI ?hc ?_); (case hc => first | decide | omega))
  | ((with_reducible refine rd_mulI ?hc ?_); (case hc => first | exact mul_bI | exact .inl (.inr (by decide)) | exact .inl (.inl (by decide)) | exact .inl (.inr (by omega)) | exact .inl (.inl (by omega))))
  | ((with_reducible refine rd_divI ?hc ?_); (case hc => first | decide | omega))
  | ((with_reducible refine rd_powI ?hc ?_); (case hc => exact ⟨by decide, by decide, by decide⟩))
  | with_reducible refine rd_lst ?_
  | with_reducible refine rd_tup ?_
  | ((with_reducible refine rd_sz ?hv ?_); (case hv => exact rfl))
  | with_reducible refine rd_and ?_
  | with_reducible refine rd_or ?_
  | with_reducible refine rd_not ?_
  | with_reducible refine rd_andV ?_
  | with_reducible refine rd_orV ?_
  | with_reducible refine rd_notV ?_
  | with_reducible refine rd_ifE ?_
  | with_reducible refine rd_T ?_
  | with_reducible refine rd_F ?_
  | with_reducible refine rd_chain ?_
  | with_reducible refine rd_is ?_
  | with_reducible refine rd_isNot ?_
  | with_reducible refine rd_absI ?_
  | with_reducible refine rd_maxI ?_
  | with_reducible refine rd_minI ?_
  | with_reducible refine rd_intI ?_
  | with_reducible refine rd_intB ?_
  | with_reducible refine rd_sub ?_
  | with_reducible refine rd_sl ?_
  | with_reducible refine rd_noPart ?_
  | with_reducible refine rd_part ?_
  | with_reducible refine rd_exI ?_
  | with_reducible refine rd_bm ?_
  | with_reducible refine rd_bm0 ?_
  | with_reducible refine rd_un ?_
  | with_reducible refine rd_neg ?_
  | with_reducible refine rd_c2 ?_
  | with_reducible refine rd_retN ?_
  | with_reducible refine rd_break ?_
  | with_reducible refine rd_cont ?_
  | with_reducible refine rd_for ?_
  | with_reducible refine rd_rng1 ?_
  | with_reducible refine rd_rng2 ?_
  | with_reducible refine rd_iList ?_
  | with_reducible refine rd_iTup ?_
  | with_reducible refine rd_iEnum ?_
  | ((with_reducible refine rd_forR ?h0 ?h1 ?_); (case h0 => omega); (case h1 => omega))
  | with_reducible refine rd_lc ?_
  | with_reducible refine rd_gcons ?_
  | with_reducible refine rd_gnil ?_
  | with_reducible refine rd_dget ?_
  | with_reducible refine rd_dput ?_
  | with_reducible refine rd_dnew ?_
  | with_reducible refine rd_dc ?_
  | with_reducible refine rd_iItems ?_
  | with_reducible refine rd_iKeys ?_
  | with_reducible refine rd_din ?_
  | with_reducible refine rd_lc2 ?_
  | with_reducible refine rd_cd ?_
  | with_reducible refine rd_par ?_
  | with_reducible refine rd_two ?_
  | with_reducible refine rd_reprB ?_
  | with_reducible refine rd_ck ?_
  | ((with_reducible refine rd_len ?hl ?_); (case hl => exact rfl))
  | with_reducible refine rd_nT ?_
  | with_reducible refine rd_nF ?_
  | with_reducible refine rd_dnin ?_
  | with_reducible refine rd_isB ?_
  | with_reducible refine rd_isNotB ?_
  | with_reducible refine rd_daug ?_
  | with_reducible refine rd_yesT ?_
  | ((with_reducible refine rd_wp ?hw ?_); (case hw => exact rfl)))
local macro_rules | `(tactic| wtm_at "rd") => `(tactic| repeat wtm_at "rd1")

def spChd (n : Nat) : Sp := fun vs H Q _ => ∃ (p : Addr) (v : V) (t : Tr) (W : Addr → Prop), vs = [.ref p, v] ∧ PoolAt H p ∧ W p ∧ (∀ a, W a → H a ≠ none) ∧ RtAt n W H v t ∧ Tri n t ∧
  ∀ v' t' H', Go p H H' → RtAt n W H' v' t' → Q v' H'
section
variable {P : Program} {w : World} {K : PySem.W.Frag} {mg : Str → Option Value} {base : Heap}
structure DGa (P : Program) (w : World) (K : PySem.W.Frag) (mg : Str → Option Value) (base : Heap) : Prop where
  _law_draw : Cal P w K mg base CX0 1 "_law_draw" spDraw
theorem ok_chd {f : Addr} {fd : FuncData} (F : Fun K "_law_changed" "_law_changed" s__law_changed f fd) (B : Bt mg) (C : DGa P w K mg base) (S : SelfR K mg "_law_changed" f fd ["_law_source", "_law_tree"]) : ∀ n : Nat, FnG P w K mg base CX0 (n + 2) f fd ["_law_source", "_law_tree"] (spChd n) := by
  intro n
  induction n using Nat.strongRecOn with
  | ind n ih =>
  have cal : Cal P w K mg base CX0 (n + 1) "_law_changed" (fun vs H Q E => ∃ m, m < n ∧ spChd m vs H Q E) := ⟨f, fd, _, ⟨fun vs H Q E h => by
    obtain ⟨m, hm, h⟩ := h
    exact (ih m hm).len vs H Q E h, fun A outer s H args us vs Q E hr he hb hv h => by
    obtain ⟨m, hm, h⟩ := h
    exact (ih m hm).go A outer s H args us vs Q E (hr.mono (by omega)) he hb hv h⟩, S.mg, S.kp, S.bd⟩
  refine fnG0 F sc__law_changed (fun vs H Q E h => ?_) (fun cdv A outer s H vs Q E hr h => ?_)
  · obtain ⟨p, v, t, W, rfl, _⟩ := h
    rfl
  · obtain ⟨p, v, t, W, rfl, hp, wp, wo, rt, tri, q⟩ := h
    have nd := sc__law_changed.nd
    have hu := hr.u1
    refine ⟨_, (pss_cons (ps_if (pt_cmpR (kNe K rfl hr.u64) (pe_ix (kIx K rfl) (pv 1) pe_int (fun _ _ => rfl)) pe_str (nomark _)) (pss_one (ps_ret (pv 1))) pss_nil)
  (pss_cons (ps_set (i := 2) nd rfl (by first | exact Or.inl rfl | exact Or.inr rfl) (pe_callTy (kList K rfl rfl) (by rfl) B.list bb_list (pa_cons (pe_ix (kIx K rfl) (pv 1) pe_int (fun _ _ => rfl)) pa_nil)))
  (pss_cons (ps_set (i := 3) nd rfl (by first | exact Or.inl rfl | exact Or.inr rfl) (pe_c C._law_draw hr (by omega) rfl (pa_cons (pv 0) (pa_cons pe_int pa_nil))))
  (pss_cons (ps_set (i := 4) nd rfl (by first | exact Or.inl rfl | exact Or.inr rfl) (pe_c C._law_draw hr (by omega) rfl (pa_cons (pv 0) (pa_cons pe_int pa_nil))))
  (pss_cons (ps_if (pt_cmpR uLt (pv 3) pe_int (nomark _)) (pss_cons (ps_asg (pe_c cal hr (by omega) rfl (pa_cons (pv 0) (pa_cons (pe_ix (kIx K rfl) (pv 2) (pv 4) (fun _ _ => rfl)) pa_nil))) (pg_sub (pv 2) (pv 4) set_list))
  (pss_one (ps_ret (pe_tup (pa_cons (pe_ix (kIx K rfl) (pv 1) pe_int (fun _ _ => rfl)) (pa_cons (pe_ix (kIx K rfl) (pv 1) pe_int (fun _ _ => rfl)) (pa_cons (pv 2) pa_nil))))))) pss_nil)
  (pss_cons (ps_if (pt_cmpR (kEq K rfl hr.u64) (pv 3) pe_int (nomark _)) (pss_one (ps_ret (pe_tup (pa_cons (pe_ix (kIx K rfl) (pv 1) pe_int (fun _ _ => rfl)) (pa_cons (pe_ix (kIx K rfl) (pv 1) pe_int (fun _ _ => rfl)) (pa_cons (pe_lst (pa_cons (pe_ix (kIx K rfl) (pv 2) pe_int (fun _ _ => rfl)) (pa_cons (pe_ix (kIx K rfl) (pv 2) pe_int (fun _ _ => rfl)) (pa_cons (pe_ix (kIx K rfl) (pv 2) pe_int (fun _ _ => rfl)) pa_nil)))) pa_nil)))))) pss_nil)
  (pss_cons (ps_if (pt_cmpR (kEq K rfl hr.u64) (pv 3) pe_int (nomark _)) (pss_one (ps_ret (pe_tup (pa_cons (pe_ix (kIx K rfl) (pv 1) pe_int (fun _ _ => rfl)) (pa_cons (pe_ix (kIx K rfl) (pv 1) pe_int (fun _ _ => rfl)) (pa_cons (pe_lst (pa_cons (pe_ix (kIx K rfl) (pv 2) (pv 4) (fun _ _ => rfl)) (pa_cons (pe_ix (kIx K rfl) (pv 2) (pv 4) (fun _ _ => rfl)) (pa_cons (pe_ix (kIx K rfl) (pv 2) (pv 4) (fun _ _ => rfl)) pa_nil)))) pa_nil)))))) pss_nil)
  (pss_one (ps_ret (pe_ix (kIx K rfl) (pv 2) (pv 4) (fun _ _ => rfl))))))))))), ?_⟩
    wtm_at "rd"
    match n, t, rt, tri with
    | n, .no, rt, tri =>
      unfold Tri at tri
      exact tri.elim
    | n, .leaf l x y, rt, tri =>
      have rt0 := rt
      unfold Tri at tri
      unfold RtAt at rt
      obtain ⟨a, rfl, ha⟩ := rt
      refine rd_ixT (SqT.of ha) (v := .str l) rfl ?_
      wtm_at "rd"
      refine rd_nyes tri ?_
      wtm_at "rd"
      exact q _ _ H (Go.refl hp) rt0
    | 0, .node l x ts, rt, tri =>
      unfold Tri at tri
      exact tri.elim
    | m + 1, .node l x ts, rt, tri =>
      have rt0 := rt
      unfold Tri at tri
      unfold RtAt at rt
      obtain ⟨a, q9, vs, rfl, ha, hq, nq, pr⟩ := rt
      obtain ⟨rfl, tl, tt⟩ := tri
      refine rd_ixT (SqT.of ha) (v := .str "branch") rfl ?_
      wtm_at "rd"
      refine rd_nno rfl ?_
      wtm_at "rd"
      refine rd_ixT (SqT.of ha) (v := .ref q9) rfl ?_
      wtm_at "rd"
      refine rd_listL (SqL.of hq) ?_
      intro l9 fl9
      have k := Same.new (o := .lst vs) fl9
      have hl9 := @upd_same H l9 (.lst vs)
      have n9 := Ne.symm (hp.ne fl9)
      have g1 := Go.of_same hp k
      have pr1 : Paired (RtAt m (fun a => a = l9 ∨ W a) (upd H l9 (.lst vs))) vs ts := Paired.mapR (fun a b z => RtAt.same (RtAt.grow fl9 z) k) pr
      have ha1 := k _ _ ha
      have w9 : ¬ W l9 := fun z => wo _ z fl9
      generalize upd H l9 (.lst vs) = H1 at k hl9 g1 pr1 ha1
      have vl := (Paired.lenR pr).trans tl
      wtm_at "rd"
      refine use_draw g1.pool (by decide) (by decide) fun dir H2 _ _ g2 => ?_
      have hl9 := g2.at hl9 n9
      have ha2 := g2.at ha1 (g1.pool.offTB ha1)
      have pr2 : Paired (RtAt m (fun a => a = l9 ∨ W a) H2) vs ts := Paired.mapR (fun a b z => RtAt.go z (.inr wp) g1.pool g2) pr1
      have g2 := g1.trans g2
      wtm_at "rd"
      refine use_draw g2.pool (by decide) (by decide) fun r H3 r0 r1 g3 => ?_
      have hl9 := g3.at hl9 n9
      have ha3 := g3.at ha2 (g2.pool.offTB ha2)
      have pr3 : Paired (RtAt m (fun a => a = l9 ∨ W a) H3) vs ts := Paired.mapR (fun a b z => RtAt.go z (.inr wp) g2.pool g3) pr2
      have g3 := g2.trans g3
      clear pr1 pr2 ha1 ha2
      obtain ⟨v0, v1, v2, rfl⟩ : ∃ a b c, vs = [a, b, c] := by
        match vs, vl with
        | [a, b, c], _ => exact ⟨a, b, c, rfl⟩
      obtain ⟨t0, t1, t2, rfl⟩ : ∃ a b c, ts = [a, b, c] := by
        match ts, tl with
        | [a, b, c], _ => exact ⟨a, b, c, rfl⟩
      obtain ⟨p0, p1, p2⟩ : RtAt m (fun a => a = l9 ∨ W a) H3 v0 t0 ∧ RtAt m (fun a => a = l9 ∨ W a) H3 v1 t1 ∧ RtAt m (fun a => a = l9 ∨ W a) H3 v2 t2 := by
        cases pr3 with
        | cons p0 r1 =>
          cases r1 with
          | cons p1 r2 =>
            cases r2 with
            | cons p2 _ => exact ⟨p0, p1, p2⟩
      have alloc : ∀ a, (a = l9 ∨ W a) → H3 a ≠ none := fun a z c => by
        rcases z with rfl | z
        · rw [hl9] at c
          cases c
        · exact wo a z (g3.free _ c)
      have nodeQ : ∀ {H' : Hp} {t q' : Addr} {vs' : List V} {ts' : List Tr}, Go p H H' → H' t = some (.tup [.str "branch", .str x, .ref q']) → H' q' = some (.lst vs') → ¬ W q' → Paired (RtAt m (fun a => a = l9 ∨ W a) H') vs' ts' → Q (.ref t) H' := fun {H' t q' vs' ts'} g h h2 nw pr =>
        q _ (.node "branch" x ts') H' g (by unfold RtAt; exact ⟨t, q', vs', rfl, h, h2, nw, Paired.mapR (fun a b z => RtAt.mono (fun _ z => .inr z) z) pr⟩)
      have r3 : r = 0 ∨ r = 1 ∨ r = 2 := by omega
      rcases r3 with rfl | rfl | rfl
      · wtm_at "rd"
        refine rd_split (fun _ => ?_) (fun _ => ?_)
        · wtm_at "rd"
          refine rd_ixL (SqL.of hl9) (v := v0) rfl ?_
          wtm_at "rd"
          refine ⟨m, Nat.lt_succ_self m, p, v0, t0, (fun a => a = l9 ∨ W a), rfl, g3.pool, .inr wp, alloc, p0, tt _ (by simp), fun v' t' H4 g4 rt' => ?_⟩
          have hl4 := g4.at hl9 n9
          have ha4 := g4.at ha3 (g3.pool.offTB ha3)
          wtm_at "rd"
          refine rd_setL hl4 (n := 0) rfl ?_
          have ha5 := at_upd (o := .lst ([v0, v1, v2].set 0 v')) (ne_of ha4 hl4 (by intro z; cases z)) ha4
          have hl5 := @upd_same H4 l9 (.lst ([v0, v1, v2].set 0 v'))
          have keepN : ∀ {v t}, RtAt m (fun a => a = l9 ∨ W a) H4 v t → RtAt m (fun a => a = l9 ∨ W a) (upd H4 l9 (.lst ([v0, v1, v2].set 0 v'))) v t := fun z => RtAt.keep (fun c o h => at_upd (ne_of h hl4 (by intro z; cases z)) h) (fun c o h h2 => at_upd (fun e => h (.inl e)) h2) z
          have keep4 : ∀ {v t}, RtAt m (fun a => a = l9 ∨ W a) H3 v t → RtAt m (fun a => a = l9 ∨ W a) (upd H4 l9 (.lst ([v0, v1, v2].set 0 v'))) v t := fun z => keepN (RtAt.go z (.inr wp) g3.pool g4)
          have g5 := (g3.trans g4).put fl9 (Ne.symm n9) (o := .lst ([v0, v1, v2].set 0 v'))
          have pr5 : Paired (RtAt m (fun a => a = l9 ∨ W a) (upd H4 l9 (.lst ([v0, v1, v2].set 0 v')))) [v', v1, v2] [t', t1, t2] := .cons (keepN rt') (.cons (keep4 p1) (.cons (keep4 p2) .nil))
          generalize upd H4 l9 (.lst ([v0, v1, v2].set 0 v')) = H5 at ha5 hl5 g5 pr5
          wtm_at "rd"
          refine rd_ixT (SqT.of ha5) (v := .str "branch") rfl ?_
          wtm_at "rd"
          refine rd_ixT (SqT.of ha5) (v := .str x) rfl ?_
          wtm_at "rd"
          intro t9 ft9
          have k9 := Same.new (o := .tup [.str "branch", .str x, .ref l9]) ft9
          exact nodeQ (g5.same k9) upd_same (k9 _ _ hl5) w9 (Paired.mapR (fun a b z => RtAt.same z k9) pr5)
        · wtm_at "rd"
          refine rd_split (fun _ => ?_) (fun _ => ?_)
          · wtm_at "rd"
            refine rd_ixT (SqT.of ha3) (v := .str "branch") rfl ?_
            wtm_at "rd"
            refine rd_ixT (SqT.of ha3) (v := .str x) rfl ?_
            wtm_at "rd"
            refine rd_ixL (SqL.of hl9) (v := v1) rfl ?_
            wtm_at "rd"
            refine rd_ixL (SqL.of hl9) (v := v2) rfl ?_
            wtm_at "rd"
            refine rd_ixL (SqL.of hl9) (v := v0) rfl ?_
            wtm_at "rd"
            intro q8 fq8
            have k8 := Same.new (o := .lst [v1, v2, v0]) fq8
            have hq8 := @upd_same H3 q8 (.lst [v1, v2, v0])
            have fq0 := g3.free _ fq8
            generalize upd H3 q8 (.lst [v1, v2, v0]) = H4 at k8 hq8
            wtm_at "rd"
            intro t9 ft9
            have k9 := Same.new (o := .tup [.str "branch", .str x, .ref q8]) ft9
            exact nodeQ ((g3.same k8).same k9) upd_same (k9 _ _ hq8) (fun z => wo _ z fq0) (.cons (RtAt.same (RtAt.same p1 k8) k9) (.cons (RtAt.same (RtAt.same p2 k8) k9) (.cons (RtAt.same (RtAt.same p0 k8) k9) .nil)))
          · wtm_at "rd"
            refine rd_split (fun _ => ?_) (fun _ => ?_)
            · wtm_at "rd"
              refine rd_ixT (SqT.of ha3) (v := .str "branch") rfl ?_
              wtm_at "rd"
              refine rd_ixT (SqT.of ha3) (v := .str x) rfl ?_
              wtm_at "rd"
              refine rd_ixL (SqL.of hl9) (v := v0) rfl ?_
              wtm_at "rd"
              refine rd_ixL (SqL.of hl9) (v := v0) rfl ?_
              wtm_at "rd"
              refine rd_ixL (SqL.of hl9) (v := v0) rfl ?_
              wtm_at "rd"
              intro q8 fq8
              have k8 := Same.new (o := .lst [v0, v0, v0]) fq8
              have hq8 := @upd_same H3 q8 (.lst [v0, v0, v0])
              have fq0 := g3.free _ fq8
              generalize upd H3 q8 (.lst [v0, v0, v0]) = H4 at k8 hq8
              wtm_at "rd"
              intro t9 ft9
              have k9 := Same.new (o := .tup [.str "branch", .str x, .ref q8]) ft9
              exact nodeQ ((g3.same k8).same k9) upd_same (k9 _ _ hq8) (fun z => wo _ z fq0) (.cons (RtAt.same (RtAt.same p0 k8) k9) (.cons (RtAt.same (RtAt.same p0 k8) k9) (.cons (RtAt.same (RtAt.same p0 k8) k9) .nil)))
            · wtm_at "rd"
              refine rd_ixL (SqL.of hl9) (v := v0) rfl ?_
              exact q _ _ H3 g3 (RtAt.up (RtAt.mono (fun _ z => .inr z) p0))
      · wtm_at "rd"
        refine rd_split (fun _ => ?_) (fun _ => ?_)
        · wtm_at "rd"
          refine rd_ixL (SqL.of hl9) (v := v1) rfl ?_
          wtm_at "rd"
          refine ⟨m, Nat.lt_succ_self m, p, v1, t1, (fun a => a = l9 ∨ W a), rfl, g3.pool, .inr wp, alloc, p1, tt _ (by simp), fun v' t' H4 g4 rt' => ?_⟩
          have hl4 := g4.at hl9 n9
          have ha4 := g4.at ha3 (g3.pool.offTB ha3)
          wtm_at "rd"
          refine rd_setL hl4 (n := 1) rfl ?_
          have ha5 := at_upd (o := .lst ([v0, v1, v2].set 1 v')) (ne_of ha4 hl4 (by intro z; cases z)) ha4
          have hl5 := @upd_same H4 l9 (.lst ([v0, v1, v2].set 1 v'))
          have keepN : ∀ {v t}, RtAt m (fun a => a = l9 ∨ W a) H4 v t → RtAt m (fun a => a = l9 ∨ W a) (upd H4 l9 (.lst ([v0, v1, v2].set 1 v'))) v t := fun z => RtAt.keep (fun c o h => at_upd (ne_of h hl4 (by intro z; cases z)) h) (fun c o h h2 => at_upd (fun e => h (.inl e)) h2) z
          have keep4 : ∀ {v t}, RtAt m (fun a => a = l9 ∨ W a) H3 v t → RtAt m (fun a => a = l9 ∨ W a) (upd H4 l9 (.lst ([v0, v1, v2].set 1 v'))) v t := fun z => keepN (RtAt.go z (.inr wp) g3.pool g4)
          have g5 := (g3.trans g4).put fl9 (Ne.symm n9) (o := .lst ([v0, v1, v2].set 1 v'))
          have pr5 : Paired (RtAt m (fun a => a = l9 ∨ W a) (upd H4 l9 (.lst ([v0, v1, v2].set 1 v')))) [v0, v', v2] [t0, t', t2] := .cons (keep4 p0) (.cons (keepN rt') (.cons (keep4 p2) .nil))
          generalize upd H4 l9 (.lst ([v0, v1, v2].set 1 v')) = H5 at ha5 hl5 g5 pr5
          wtm_at "rd"
          refine rd_ixT (SqT.of ha5) (v := .str "branch") rfl ?_
          wtm_at "rd"
          refine rd_ixT (SqT.of ha5) (v := .str x) rfl ?_
          wtm_at "rd"
          intro t9 ft9
          have k9 := Same.new (o := .tup [.str "branch", .str x, .ref l9]) ft9
          exact nodeQ (g5.same k9) upd_same (k9 _ _ hl5) w9 (Paired.mapR (fun a b z => RtAt.same z k9) pr5)
        · wtm_at "rd"
          refine rd_split (fun _ => ?_) (fun _ => ?_)
          · wtm_at "rd"
            refine rd_ixT (SqT.of ha3) (v := .str "branch") rfl ?_
            wtm_at "rd"
            refine rd_ixT (SqT.of ha3) (v := .str x) rfl ?_
            wtm_at "rd"
            refine rd_ixL (SqL.of hl9) (v := v1) rfl ?_
            wtm_at "rd"
            refine rd_ixL (SqL.of hl9) (v := v2) rfl ?_
            wtm_at "rd"
            refine rd_ixL (SqL.of hl9) (v := v0) rfl ?_
            wtm_at "rd"
            intro q8 fq8
            have k8 := Same.new (o := .lst [v1, v2, v0]) fq8
            have hq8 := @upd_same H3 q8 (.lst [v1, v2, v0])
            have fq0 := g3.free _ fq8
            generalize upd H3 q8 (.lst [v1, v2, v0]) = H4 at k8 hq8
            wtm_at "rd"
            intro t9 ft9
            have k9 := Same.new (o := .tup [.str "branch", .str x, .ref q8]) ft9
            exact nodeQ ((g3.same k8).same k9) upd_same (k9 _ _ hq8) (fun z => wo _ z fq0) (.cons (RtAt.same (RtAt.same p1 k8) k9) (.cons (RtAt.same (RtAt.same p2 k8) k9) (.cons (RtAt.same (RtAt.same p0 k8) k9) .nil)))
          · wtm_at "rd"
            refine rd_split (fun _ => ?_) (fun _ => ?_)
            · wtm_at "rd"
              refine rd_ixT (SqT.of ha3) (v := .str "branch") rfl ?_
              wtm_at "rd"
              refine rd_ixT (SqT.of ha3) (v := .str x) rfl ?_
              wtm_at "rd"
              refine rd_ixL (SqL.of hl9) (v := v1) rfl ?_
              wtm_at "rd"
              refine rd_ixL (SqL.of hl9) (v := v1) rfl ?_
              wtm_at "rd"
              refine rd_ixL (SqL.of hl9) (v := v1) rfl ?_
              wtm_at "rd"
              intro q8 fq8
              have k8 := Same.new (o := .lst [v1, v1, v1]) fq8
              have hq8 := @upd_same H3 q8 (.lst [v1, v1, v1])
              have fq0 := g3.free _ fq8
              generalize upd H3 q8 (.lst [v1, v1, v1]) = H4 at k8 hq8
              wtm_at "rd"
              intro t9 ft9
              have k9 := Same.new (o := .tup [.str "branch", .str x, .ref q8]) ft9
              exact nodeQ ((g3.same k8).same k9) upd_same (k9 _ _ hq8) (fun z => wo _ z fq0) (.cons (RtAt.same (RtAt.same p1 k8) k9) (.cons (RtAt.same (RtAt.same p1 k8) k9) (.cons (RtAt.same (RtAt.same p1 k8) k9) .nil)))
            · wtm_at "rd"
              refine rd_ixL (SqL.of hl9) (v := v1) rfl ?_
              exact q _ _ H3 g3 (RtAt.up (RtAt.mono (fun _ z => .inr z) p1))
      · wtm_at "rd"
        refine rd_split (fun _ => ?_) (fun _ => ?_)
        · wtm_at "rd"
          refine rd_ixL (SqL.of hl9) (v := v2) rfl ?_
          wtm_at "rd"
          refine ⟨m, Nat.lt_succ_self m, p, v2, t2, (fun a => a = l9 ∨ W a), rfl, g3.pool, .inr wp, alloc, p2, tt _ (by simp), fun v' t' H4 g4 rt' => ?_⟩
          have hl4 := g4.at hl9 n9
          have ha4 := g4.at ha3 (g3.pool.offTB ha3)
          wtm_at "rd"
          refine rd_setL hl4 (n := 2) rfl ?_
          have ha5 := at_upd (o := .lst ([v0, v1, v2].set 2 v')) (ne_of ha4 hl4 (by intro z; cases z)) ha4
          have hl5 := @upd_same H4 l9 (.lst ([v0, v1, v2].set 2 v'))
          have keepN : ∀ {v t}, RtAt m (fun a => a = l9 ∨ W a) H4 v t → RtAt m (fun a => a = l9 ∨ W a) (upd H4 l9 (.lst ([v0, v1, v2].set 2 v'))) v t := fun z => RtAt.keep (fun c o h => at_upd (ne_of h hl4 (by intro z; cases z)) h) (fun c o h h2 => at_upd (fun e => h (.inl e)) h2) z
          have keep4 : ∀ {v t}, RtAt m (fun a => a = l9 ∨ W a) H3 v t → RtAt m (fun a => a = l9 ∨ W a) (upd H4 l9 (.lst ([v0, v1, v2].set 2 v'))) v t := fun z => keepN (RtAt.go z (.inr wp) g3.pool g4)
          have g5 := (g3.trans g4).put fl9 (Ne.symm n9) (o := .lst ([v0, v1, v2].set 2 v'))
          have pr5 : Paired (RtAt m (fun a => a = l9 ∨ W a) (upd H4 l9 (.lst ([v0, v1, v2].set 2 v')))) [v0, v1, v'] [t0, t1, t'] := .cons (keep4 p0) (.cons (keep4 p1) (.cons (keepN rt') .nil))
          generalize upd H4 l9 (.lst ([v0, v1, v2].set 2 v')) = H5 at ha5 hl5 g5 pr5
          wtm_at "rd"
          refine rd_ixT (SqT.of ha5) (v := .str "branch") rfl ?_
          wtm_at "rd"
          refine rd_ixT (SqT.of ha5) (v := .str x) rfl ?_
          wtm_at "rd"
          intro t9 ft9
          have k9 := Same.new (o := .tup [.str "branch", .str x, .ref l9]) ft9
          exact nodeQ (g5.same k9) upd_same (k9 _ _ hl5) w9 (Paired.mapR (fun a b z => RtAt.same z k9) pr5)
        · wtm_at "rd"
          refine rd_split (fun _ => ?_) (fun _ => ?_)
          · wtm_at "rd"
            refine rd_ixT (SqT.of ha3) (v := .str "branch") rfl ?_
            wtm_at "rd"
            refine rd_ixT (SqT.of ha3) (v := .str x) rfl ?_
            wtm_at "rd"
            refine rd_ixL (SqL.of hl9) (v := v1) rfl ?_
            wtm_at "rd"
            refine rd_ixL (SqL.of hl9) (v := v2) rfl ?_
            wtm_at "rd"
            refine rd_ixL (SqL.of hl9) (v := v0) rfl ?_
            wtm_at "rd"
            intro q8 fq8
            have k8 := Same.new (o := .lst [v1, v2, v0]) fq8
            have hq8 := @upd_same H3 q8 (.lst [v1, v2, v0])
            have fq0 := g3.free _ fq8
            generalize upd H3 q8 (.lst [v1, v2, v0]) = H4 at k8 hq8
            wtm_at "rd"
            intro t9 ft9
            have k9 := Same.new (o := .tup [.str "branch", .str x, .ref q8]) ft9
            exact nodeQ ((g3.same k8).same k9) upd_same (k9 _ _ hq8) (fun z => wo _ z fq0) (.cons (RtAt.same (RtAt.same p1 k8) k9) (.cons (RtAt.same (RtAt.same p2 k8) k9) (.cons (RtAt.same (RtAt.same p0 k8) k9) .nil)))
          · wtm_at "rd"
            refine rd_split (fun _ => ?_) (fun _ => ?_)
            · wtm_at "rd"
              refine rd_ixT (SqT.of ha3) (v := .str "branch") rfl ?_
              wtm_at "rd"
              refine rd_ixT (SqT.of ha3) (v := .str x) rfl ?_
              wtm_at "rd"
              refine rd_ixL (SqL.of hl9) (v := v2) rfl ?_
              wtm_at "rd"
              refine rd_ixL (SqL.of hl9) (v := v2) rfl ?_
              wtm_at "rd"
              refine rd_ixL (SqL.of hl9) (v := v2) rfl ?_
              wtm_at "rd"
              intro q8 fq8
              have k8 := Same.new (o := .lst [v2, v2, v2]) fq8
              have hq8 := @upd_same H3 q8 (.lst [v2, v2, v2])
              have fq0 := g3.free _ fq8
              generalize upd H3 q8 (.lst [v2, v2, v2]) = H4 at k8 hq8
              wtm_at "rd"
              intro t9 ft9
              have k9 := Same.new (o := .tup [.str "branch", .str x, .ref q8]) ft9
              exact nodeQ ((g3.same k8).same k9) upd_same (k9 _ _ hq8) (fun z => wo _ z fq0) (.cons (RtAt.same (RtAt.same p2 k8) k9) (.cons (RtAt.same (RtAt.same p2 k8) k9) (.cons (RtAt.same (RtAt.same p2 k8) k9) .nil)))
            · wtm_at "rd"
              refine rd_ixL (SqL.of hl9) (v := v2) rfl ?_
              exact q _ _ H3 g3 (RtAt.up (RtAt.mono (fun _ z => .inr z) p2))
end
end Law

/-! k62, k60: a search with a stack finds the first extension (plain law) -/
namespace U
open PySem PySem.Spec PyProof.Rows L2
def nearF (ns : List Str) (es : List (Str × Str)) (p : List Int) (i : Nat) : List Nat := (List.range i).filter fun k => decide (eOf (ns.getD k "") (ns.getD p.length "") ∈ es)
def excF (ns : List Str) (es : List (Str × Str)) (p : List Int) : List Int := (nearF ns es p p.length).map fun k => p.getD k 0
def extP (ns : List Str) (es : List (Str × Str)) (p : List Int) : Option (List (Str × Int)) := extF ns es (ns.length - p.length) (ns.zip p)
def resF (ns : List Str) (es : List (Str × Str)) (ps : List (List Int)) : Option (List (Str × Int)) := ps.reverse.findSome? (extP ns es)
def kidsF (ns : List Str) (es : List (Str × Str)) (p : List Int) (i : Nat) : List (List Int) := ((List.range i).filter fun j : Nat => !decide ((2 - (j : Int)) ∈ excF ns es p)).map fun j : Nat => p ++ [2 - (j : Int)]
structure GdP (ns : List Str) (es : List (Str × Str)) (p : List Int) : Prop where
  len : p.length ≤ ns.length
  conf : confF es (ns.zip p) = none
theorem valS_zip {ns : List Str} {p : List Int} {y : Str} {v : Int} (h : valS (ns.zip p) y = some v) : ∃ k, ∃ h1 : k < ns.length, ∃ h2 : k < p.length, ns[k] = y ∧ p[k] = v := by
  unfold valS at h
  cases hf : (ns.zip p).find? fun z => decide (z.1 = y) with
  | none => rw [hf] at h; cases h
  | some z =>
    rw [hf] at h
    have e1 : z.1 = y := by
      have := List.find?_some hf
      simpa using this
    have m := List.mem_of_find?_eq_some hf
    obtain ⟨k, hk, e2⟩ := List.mem_iff_getElem.mp m
    rw [List.length_zip] at hk
    rw [List.getElem_zip] at e2
    refine ⟨k, by omega, by omega, ?_, ?_⟩
    · rw [← e1, ← e2]
    · have := Option.some.inj h
      rw [← this, ← e2]
theorem valS_mm : ∀ {tr : List (Str × Int)} {k : Str × Int}, k ∈ tr → ∃ v, valS tr k.1 = some v
  | y :: r, k, h => by
    unfold valS
    by_cases c : y.1 = k.1
    · rw [List.find?_cons_of_pos (by simp [c])]
      exact ⟨_, rfl⟩
    · rw [List.find?_cons_of_neg (by simp [c])]
      rcases List.mem_cons.mp h with rfl | h
      · exact absurd rfl c
      · exact valS_mm h
theorem valS_zipI {ns : List Str} {p : List Int} (nd : ns.Nodup) {k : Nat} (h1 : k < ns.length) (h2 : k < p.length) : valS (ns.zip p) ns[k] = some p[k] := by
  have m : (ns[k], p[k]) ∈ ns.zip p := by
    rw [List.mem_iff_getElem]
    exact ⟨k, by rw [List.length_zip]; omega, by rw [List.getElem_zip]⟩
  obtain ⟨v, hv⟩ := valS_mm m
  obtain ⟨j, j1, j2, e1, e2⟩ := valS_zip hv
  have : j = k := by
    have inj := List.pairwise_iff_getElem.mp (List.nodup_iff_pairwise_ne.mp nd)
    rcases Nat.lt_trichotomy j k with c | c | c
    · exact absurd e1 (inj j k j1 h1 c)
    · exact c
    · exact absurd e1.symm (inj k j h1 j1 c)
  subst this
  rw [hv, e2]
theorem isConf_zip {ns : List Str} {p : List Int} {e : Str × Str} : isConf (ns.zip p) e = true → ∃ i j, ∃ i1 : i < ns.length, ∃ i2 : i < p.length, ∃ j1 : j < ns.length, ∃ j2 : j < p.length, ns[i] = e.1 ∧ ns[j] = e.2 ∧ p[i] = p[j] := fun h => by
  unfold isConf at h
  cases h1 : valS (ns.zip p) e.1 with
  | none => rw [h1] at h; cases h
  | some v =>
    cases h2 : valS (ns.zip p) e.2 with
    | none => rw [h1, h2] at h; cases h
    | some w =>
      rw [h1, h2] at h
      have vw : v = w := by simpa using h
      obtain ⟨i, i1, i2, e1, e2⟩ := valS_zip h1
      obtain ⟨j, j1, j2, e3, e4⟩ := valS_zip h2
      exact ⟨i, j, i1, i2, j1, j2, e1, e3, by rw [e2, e4, vw]⟩
theorem isConf_zipI {ns : List Str} {p : List Int} (nd : ns.Nodup) {e : Str × Str} {i j : Nat} (i1 : i < ns.length) (i2 : i < p.length) (j1 : j < ns.length) (j2 : j < p.length) (e1 : ns[i] = e.1) (e2 : ns[j] = e.2) (e3 : p[i] = p[j]) : isConf (ns.zip p) e = true := by
  unfold isConf
  rw [← e1, ← e2, valS_zipI nd i1 i2, valS_zipI nd j1 j2, e3]
  simp
theorem zip_snoc {ns : List Str} {p : List Int} {v : Int} (h : p.length < ns.length) : ns.zip (p ++ [v]) = ns.zip p ++ [(ns[p.length], v)] := by
  induction p generalizing ns with
  | nil =>
    cases ns with
    | nil => exact absurd h (Nat.not_lt_zero _)
    | cons x r => simp
  | cons a p ih =>
    cases ns with
    | nil => exact absurd h (Nat.not_lt_zero _)
    | cons x r =>
      have := ih (ns := r) (by simpa using h)
      simp [this]
theorem zip_pre {ns : List Str} {p : List Int} (h : p.length ≤ ns.length) : PreN ns (ns.zip p) ∧ (ns.zip p).length = p.length := by
  have l : (ns.zip p).length = p.length := by rw [List.length_zip]; omega
  refine ⟨⟨?_, by omega⟩, l⟩
  rw [l]
  induction p generalizing ns with
  | nil => simp
  | cons a p ih =>
    cases ns with
    | nil => exact absurd h (by simp)
    | cons x r =>
      have := ih (ns := r) (by simpa using h) (by rw [List.length_zip]; simp at h; omega)
      simp [this]
theorem eOf_sw {a b : Str} (n : a ≠ b) : eOf a b = eOf b a := by
  unfold eOf
  rcases sLt_tri a b with c | c | c
  · rw [if_pos c, if_neg (sLt_asymm c)]
  · exact absurd c n
  · rw [if_pos c, if_neg (sLt_asymm c)]
theorem mem_exc {ns : List Str} {es : List (Str × Str)} {p : List Int} (l : p.length < ns.length) {v : Int} : v ∈ excF ns es p ↔ ∃ k, ∃ h1 : k < p.length, eOf (ns[k]'(Nat.lt_trans h1 l)) ns[p.length] ∈ es ∧ p[k] = v := by
  unfold excF nearF
  rw [List.mem_map]
  have e2 : ns.getD p.length "" = ns[p.length] := getDU l
  constructor
  · rintro ⟨k, hk, e⟩
    rw [List.mem_filter, List.mem_range] at hk
    obtain ⟨k1, k2⟩ := hk
    have e1 : ns.getD k "" = ns[k]'(Nat.lt_trans k1 l) := getDU (Nat.lt_trans k1 l)
    have e3 : p.getD k 0 = p[k] := getDU k1
    refine ⟨k, k1, ?_, e3.symm.trans e⟩
    have := of_decide_eq_true k2
    rw [e2, e1] at this
    exact this
  · rintro ⟨k, h1, h2, e⟩
    have e1 : ns.getD k "" = ns[k]'(Nat.lt_trans h1 l) := getDU (Nat.lt_trans h1 l)
    have e3 : p.getD k 0 = p[k] := getDU h1
    refine ⟨k, ?_, e3.trans e⟩
    rw [List.mem_filter, List.mem_range]
    refine ⟨h1, decide_eq_true ?_⟩
    rw [e2, e1]
    exact h2
section
variable {ns : List Str} {es : List (Str × Str)} (nd : ns.Nodup) (so : ∀ e ∈ es, eOf e.1 e.2 = e) (ne : ∀ e ∈ es, e.1 ≠ e.2)
include nd so ne
theorem conf_kid {p : List Int} (g : GdP ns es p) (l : p.length < ns.length) {v : Int} : confF es (ns.zip (p ++ [v])) = none ↔ v ∉ excF ns es p := by
  have l2 : (p ++ [v]).length = p.length + 1 := by rw [List.length_append]; rfl
  have atp : ∀ k (h : k < p.length) (h2 : k < (p ++ [v]).length), (p ++ [v])[k] = p[k] := fun k h h2 => List.getElem_append_left h
  have atv : ∀ (h2 : p.length < (p ++ [v]).length), (p ++ [v])[p.length] = v := fun h2 => by
    rw [List.getElem_append_right (Nat.le_refl _)]
    simp
  constructor
  · intro h hv
    obtain ⟨k, h1, h2, e⟩ := (mem_exc l).mp hv
    unfold confF at h
    have no := List.find?_eq_none.mp h _ h2
    have kn := Nat.lt_trans h1 l
    apply no
    rcases eOf_cases ns[k] ns[p.length] with z | z
    · exact isConf_zipI nd (i := k) (j := p.length) kn (by omega) l (by omega) (by rw [z]) (by rw [z]) (by rw [atp k h1, atv, e])
    · exact isConf_zipI nd (i := p.length) (j := k) l (by omega) kn (by omega) (by rw [z]) (by rw [z]) (by rw [atp k h1, atv, e])
  · intro hv
    unfold confF
    refine List.find?_eq_none.mpr fun e he c => ?_
    obtain ⟨i, j, i1, i2, j1, j2, e1, e2, e3⟩ := isConf_zip c
    have gc := g.conf
    unfold confF at gc
    by_cases ci : i < p.length
    · by_cases cj : j < p.length
      · rw [atp i ci, atp j cj] at e3
        exact List.find?_eq_none.mp gc e he (isConf_zipI nd i1 ci j1 cj e1 e2 e3)
      · obtain rfl : j = p.length := by omega
        rw [atp i ci, atv] at e3
        refine hv ((mem_exc l).mpr ⟨i, ci, ?_, e3⟩)
        rw [e1, e2, so e he]
        exact he
    · obtain rfl : i = p.length := by omega
      by_cases cj : j < p.length
      · rw [atv, atp j cj] at e3
        refine hv ((mem_exc l).mpr ⟨j, cj, ?_, e3.symm⟩)
        rw [e1, e2, eOf_sw (fun z => ne e he z.symm), so e he]
        exact he
      · obtain rfl : j = p.length := by omega
        exact ne e he (e1.symm.trans e2)
theorem ext_kid {p : List Int} (g : GdP ns es p) (l : p.length < ns.length) {v : Int} (h : v ∈ excF ns es p) : extP ns es (p ++ [v]) = none := by
  unfold extP
  cases c : confF es (ns.zip (p ++ [v])) with
  | none => exact absurd h ((conf_kid nd so ne g l).mp c)
  | some e =>
    cases ns.length - (p ++ [v]).length with
    | zero => unfold extF; rw [c]; rfl
    | succ m => unfold extF; rw [c]; rfl
theorem ext_step {p : List Int} (g : GdP ns es p) (l : p.length < ns.length) : extP ns es p = (extP ns es (p ++ [0])).or ((extP ns es (p ++ [1])).or (extP ns es (p ++ [2]))) := by
  obtain ⟨pr, pl⟩ := zip_pre g.len
  obtain ⟨m, hm⟩ : ∃ m, ns.length - p.length = m + 1 := ⟨ns.length - p.length - 1, by omega⟩
  have e : ∀ v : Int, extP ns es (p ++ [v]) = extF ns es m (putS (ns.zip p) (ns.getD (ns.zip p).length "") v) := fun v => by
    unfold extP
    rw [zip_snoc l, List.length_append, List.length_singleton, show ns.length - (p.length + 1) = m by omega]
    have := (PreN.put (v := v) nd pr (by rw [pl]; exact l)).1
    rw [getDU (by rw [pl]; exact l), this]
    simp only [pl]
  rw [e, e, e]
  unfold extP
  rw [hm]
  conv => lhs; unfold extF
  rw [g.conf]
  rfl
theorem fs_filter {α : Type} {f : α → Bool} {F : α → Option (List (Str × Int))} : ∀ {xs : List α}, (∀ x ∈ xs, f x = false → F x = none) → (xs.filter f).findSome? F = xs.findSome? F
  | [], _ => rfl
  | x :: r, h => by
    have ih := fs_filter (xs := r) fun y hy => h y (List.mem_cons_of_mem _ hy)
    by_cases c : f x = true
    · rw [List.filter_cons, if_pos c, List.findSome?_cons, List.findSome?_cons, ih]
    · rw [List.filter_cons, if_neg c, ih, List.findSome?_cons, h x List.mem_cons_self (by simpa using c)]
theorem res_step {ps : List (List Int)} {p : List Int} (g : GdP ns es p) (l : p.length < ns.length) : resF ns es (ps ++ kidsF ns es p 3) = resF ns es (ps ++ [p]) := by
  unfold resF
  rw [List.reverse_append, List.reverse_append, List.findSome?_append, List.findSome?_append]
  congr 1
  rw [show [p].reverse.findSome? (extP ns es) = extP ns es p from by simp [List.findSome?_cons]; cases extP ns es p <;> rfl, ext_step nd so ne g l]
  unfold kidsF
  rw [← List.map_reverse, List.findSome?_map, ← List.filter_reverse]
  rw [fs_filter nd so ne]
  · rw [show (List.range 3).reverse = [2, 1, 0] from rfl, List.findSome?_cons, List.findSome?_cons, List.findSome?_cons]
    simp only [Function.comp]
    rw [show (2 : Int) - ((2 : Nat) : Int) = 0 from rfl, show (2 : Int) - ((1 : Nat) : Int) = 1 from rfl, show (2 : Int) - ((0 : Nat) : Int) = 2 from rfl]
    cases extP ns es (p ++ [0]) with
    | some _ => rfl
    | none =>
      cases extP ns es (p ++ [1]) with
      | some _ => rfl
      | none =>
        cases extP ns es (p ++ [2]) with
        | some _ => rfl
        | none => rfl
  · intro j hj c
    refine ext_kid nd so ne g l (of_decide_eq_true ?_)
    simpa using c
theorem kids_good {p : List Int} (g : GdP ns es p) (l : p.length < ns.length) : ∀ q ∈ kidsF ns es p 3, GdP ns es q ∧ q.length = p.length + 1 := by
  intro q hq
  unfold kidsF at hq
  obtain ⟨j, hj, rfl⟩ := List.mem_map.mp hq
  have ll : (p ++ [2 - (j : Int)]).length = p.length + 1 := by rw [List.length_append]; rfl
  refine ⟨⟨by omega, (conf_kid nd so ne g l).mpr ?_⟩, ll⟩
  have := (List.mem_filter.mp hj).2
  simpa using this
theorem res_done {ps : List (List Int)} {p : List Int} (g : GdP ns es p) (l : p.length = ns.length) : resF ns es (ps ++ [p]) = some (ns.zip p) := by
  unfold resF
  rw [List.reverse_append, List.findSome?_append]
  have : extP ns es p = some (ns.zip p) := by
    unfold extP
    rw [l, Nat.sub_self]
    unfold extF
    rw [g.conf]
    rfl
  simp [List.findSome?_cons, this]
end
/-- nodes that are still to be looked at -/
def meaF (n : Nat) (ps : List (List Int)) : Nat := (ps.map fun p => 4 ^ (n - p.length)).sum
theorem mea_len {n : Nat} : ∀ ps : List (List Int), ps.length ≤ meaF n ps
  | [] => Nat.zero_le _
  | p :: r => by
    have := mea_len (n := n) r
    have := Nat.pow_pos (n := n - p.length) (show 0 < 4 by decide)
    unfold meaF at *
    rw [List.map_cons, List.sum_cons, List.length_cons]
    omega
theorem mea_app {n : Nat} {ps qs : List (List Int)} : meaF n (ps ++ qs) = meaF n ps + meaF n qs := by
  unfold meaF
  rw [List.map_append, List.sum_append]
theorem mea_all {n m : Nat} : ∀ {qs : List (List Int)}, (∀ q ∈ qs, q.length = m) → meaF n qs = qs.length * 4 ^ (n - m)
  | [], _ => by simp [meaF]
  | q :: r, h => by
    have := mea_all (n := n) (m := m) (qs := r) fun x hx => h x (List.mem_cons_of_mem _ hx)
    unfold meaF at *
    rw [List.map_cons, List.sum_cons, this, h q List.mem_cons_self, List.length_cons, Nat.add_mul, Nat.one_mul, Nat.add_comm]
theorem mea_kids {ns : List Str} {es : List (Str × Str)} {p : List Int} {ps : List (List Int)} (l : p.length < ns.length) : meaF ns.length (ps ++ kidsF ns es p 3) < meaF ns.length (ps ++ [p]) := by
  rw [mea_app, mea_app]
  have a : meaF ns.length (kidsF ns es p 3) = (kidsF ns es p 3).length * 4 ^ (ns.length - (p.length + 1)) := mea_all fun q hq => by
    unfold kidsF at hq
    obtain ⟨j, hj, rfl⟩ := List.mem_map.mp hq
    rw [List.length_append]; rfl
  have b : (kidsF ns es p 3).length ≤ 3 := by
    unfold kidsF
    rw [List.length_map]
    exact Nat.le_trans (List.length_filter_le _ _) (by rw [List.length_range]; exact Nat.le_refl _)
  have c : meaF ns.length [p] = 4 * 4 ^ (ns.length - (p.length + 1)) := by
    unfold meaF
    rw [List.map_cons, List.map_nil, List.sum_cons, List.sum_nil, Nat.add_zero, show ns.length - p.length = (ns.length - (p.length + 1)) + 1 by omega, Nat.pow_succ, Nat.mul_comm]
  have d := Nat.pow_pos (n := ns.length - (p.length + 1)) (show 0 < 4 by decide)
  have e : (kidsF ns es p 3).length * 4 ^ (ns.length - (p.length + 1)) ≤ 3 * 4 ^ (ns.length - (p.length + 1)) := Nat.mul_le_mul_right _ b
  rw [a, c]
  omega
/-- what is found is a colouring -/
theorem ext_sound {ns : List Str} {es : List (Str × Str)} : ∀ {n : Nat} {tr tr' : List (Str × Int)}, extF ns es n tr = some tr' → confF es tr' = none
  | 0, tr, tr', h => by
    unfold extF at h
    split at h
    · cases h
    · rename_i c
      cases h
      cases z : confF es tr with
      | none => rfl
      | some _ => rw [z] at c; exact absurd rfl c
  | n + 1, tr, tr', h => by
    unfold extF at h
    split at h
    · cases h
    · rcases Option.or_eq_some_iff.mp h with h | ⟨_, h⟩
      · exact ext_sound h
      · rcases Option.or_eq_some_iff.mp h with h | ⟨_, h⟩
        · exact ext_sound h
        · exact ext_sound h
end U

/-! k62, k60: _law_first -/
namespace Law
open PySem PySem.Spec PyProof.Rows L2 U
local macro_rules | `(tactic| wtm_at "rd1") => `(tactic| first
  | with_reducible refine rd_seq ?_
  | ((with_reducible refine rd_var (v := ?vv) ?hv ?_); (case hv => exact rfl))
  | with_reducible refine rd_c ?_
  | with_reducible refine rd_cons ?_
  | with_reducible refine rd_nil ?_
  | with_reducible refine rd_op ?_
  | with_reducible refine rd_asg ?_
  | with_reducible refine rd_name ?_
  | with_reducible refine rd_c1 ?_
  | with_reducible refine rd_cb ?_
  | with_reducible refine rd_test ?_
  | with_reducible refine rd_B ?_
  | with_reducible refine rd_bl ?_
  | with_reducible refine rd_if ?_
  | with_reducible refine rd_ret ?_
  | with_reducible refine rd_drop ?_
  | with_reducible refine rd_next ?_
  | with_reducible refine rd_addI ?_
  | with_reducible refine rd_ltI ?_
  | with_reducible refine rd_eqI ?_
  | with_reducible refine rd_neI ?_
  | with_reducible refine rd_eqS ?_
  | with_reducible refine rd_neS ?_
  | with_reducible refine rd_gtI ?_
  | with_reducible refine rd_geI ?_
  | with_reducible refine rd_leI ?_
  | with_reducible refine rd_ltS ?_
  | with_reducible refine rd_subI ?_
  | ((with_reducible refine rd_modI ?hc ?_); (case hc => first | decide | omega))
  | ((with_reducible refine rd_mulI ?hc ?_); (case hc => first | exact mul_bI | exact .inl (.inr (by decide)) | exact .inl (.inl (by decide)) | exact .inl (.inr (by omega)) | exact .inl (.inl (by omega))))
  | ((with_reducible refine rd_divI ?hc ?_); (case hc => first | decide | omega))
  | ((with_reducible refine rd_powI ?hc ?_); (case hc => exact ⟨by decide, by decide, by decide⟩))
  | with_reducible refine rd_lst ?_
  | with_reducible refine rd_tup ?_
  | ((with_reducible refine rd_sz ?hv ?_); (case hv => exact rfl))
  | with_reducible refine rd_and ?_
  | with_reducible refine rd_or ?_
  | with_reducible refine rd_not ?_
  | with_reducible refine rd_andV ?_
  | with_reducible refine rd_orV ?_
  | with_reducible refine rd_notV ?_
  | with_reducible refine rd_ifE ?_
  | with_reducible refine rd_T ?_
  | with_reducible refine rd_F ?_
  | with_reducible refine rd_chain ?_
  | with_reducible refine rd_is ?_
  | with_reducible refine rd_isNot ?_
  | with_reducible refine rd_absI ?_
  | with_reducible refine rd_maxI ?_
  | with_reducible refine rd_minI ?_
  | with_reducible refine rd_intI ?_
  | with_reducible refine rd_intB ?_
  | with_reducible refine rd_sub ?_
  | with_reducible refine rd_sl ?_
  | with_reducible refine rd_noPart ?_
  | with_reducible refine rd_part ?_
  | with_reducible refine rd_exI ?_
  | with_reducible refine rd_bm ?_
  | with_reducible refine rd_bm0 ?_
  | with_reducible refine rd_un ?_
  | with_reducible refine rd_neg ?_
  | with_reducible refine rd_c2 ?_
  | with_reducible refine rd_retN ?_
  | with_reducible refine rd_break ?_
  | with_reducible refine rd_cont ?_
  | with_reducible refine rd_for ?_
  | with_reducible refine rd_rng1 ?_
  | with_reducible refine rd_rng2 ?_
  | with_reducible refine rd_iList ?_
  | with_reducible refine rd_iTup ?_
  | with_reducible refine rd_iEnum ?_
  | ((with_reducible refine rd_forR ?h0 ?h1 ?_); (case h0 => omega); (case h1 => omega))
  | with_reducible refine rd_lc ?_
  | with_reducible refine rd_gcons ?_
  | with_reducible refine rd_gnil ?_
  | with_reducible refine rd_dget ?_
  | with_reducible refine rd_dput ?_
  | with_reducible refine rd_dnew ?_
  | with_reducible refine rd_dc ?_
  | with_reducible refine rd_iItems ?_
  | with_reducible refine rd_iKeys ?_
  | with_reducible refine rd_din ?_
  | with_reducible refine rd_lc2 ?_
  | with_reducible refine rd_cd ?_
  | with_reducible refine rd_par ?_
  | with_reducible refine rd_two ?_
  | with_reducible refine rd_reprB ?_
  | with_reducible refine rd_ck ?_
  | ((with_reducible refine rd_len ?hl ?_); (case hl => exact rfl))
  | with_reducible refine rd_nT ?_
  | with_reducible refine rd_nF ?_
  | with_reducible refine rd_dnin ?_
  | with_reducible refine rd_isB ?_
  | with_reducible refine rd_isNotB ?_
  | with_reducible refine rd_daug ?_
  | with_reducible refine rd_yesT ?_
  | ((with_reducible refine rd_wp ?hw ?_); (case hw => exact rfl)))
local macro_rules | `(tactic| wtm_at "rd") => `(tactic| repeat wtm_at "rd1")

theorem rd_popE {v : V} {H : Hp} {Q : VK} {p : Addr} {xs : List V} (hs : H p = some (.lst (xs ++ [v]))) (h : Q v (upd H p (.lst xs))) : rPop (.ref p) [] H Q := by
  refine ⟨p, xs ++ [v], v, rfl, rfl, hs, ?_, by rw [List.dropLast_concat]; exact h⟩
  rw [List.length_append, List.length_singleton, Nat.add_sub_cancel, List.getElem?_append_right (Nat.le_refl _), Nat.sub_self]
  rfl
theorem lay_int : ∀ xs : List Int, PyData.canLayAll0 (xs.map PyData.int) = true ∧ PyData.depthAll (xs.map PyData.int) = 0
  | [] => by simp [PyData.canLayAll0, PyData.depthAll]
  | x :: r => by
    have := lay_int r
    simp [PyData.canLayAll0, PyData.depthAll, PyData.canLay0, PyData.depth, this.1, this.2]
theorem dp_ints2 {K : PySem.W.Frag} {H : Hp} : ∀ xs : List Int, DpAll K H (xs.map V.int) (xs.map PyData.int)
  | [] => .nil
  | x :: r => .cons (.int x) (dp_ints2 r)
theorem lay_ints : ∀ cs : List (Addr × List Int), PyData.canLayAll0 (cs.map fun c => PyData.list (c.2.map PyData.int)) = true ∧ PyData.depthAll (cs.map fun c => PyData.list (c.2.map PyData.int)) ≤ 1
  | [] => by simp [PyData.canLayAll0, PyData.depthAll]
  | c :: r => by
    have := lay_ints r
    have e := lay_int c.2
    simp only [List.map_cons, PyData.canLayAll0, PyData.depthAll, PyData.canLay0, PyData.depth, e.1, e.2, this.1]
    exact ⟨rfl, by omega⟩
theorem dp_lints {K : PySem.W.Frag} {H : Hp} : ∀ {cs : List (Addr × List Int)}, (∀ c ∈ cs, H c.1 = some (.lst (c.2.map V.int))) → DpAll K H (cs.map fun c => V.ref c.1) (cs.map fun c => PyData.list (c.2.map PyData.int))
  | [], _ => .nil
  | c :: cs, h => .cons (.lst (SqL.of (h c List.mem_cons_self)) (dp_ints2 c.2)) (dp_lints fun x hx => h x (List.mem_cons_of_mem _ hx))
def spFirstL (K : PySem.W.Frag) : Sp := fun vs H Q _ => ∃ (g nA e : Addr) (ns : List Str) (es : List (Addr × Str × Str)), vs = [.ref g] ∧ GrN H g nA e ns es ∧ ns.length ≤ 7 ∧
  (∀ H', Same H H' → extF ns (es.map (·.2)) ns.length [] = none → Q .non H') ∧ ∀ H' l p, Same H H' → extF ns (es.map (·.2)) ns.length [] = some (ns.zip p) → p.length = ns.length → H l = none → H' l = some (.lst (p.map V.int)) → Q (.ref l) H'
section
variable {P : Program} {w : World} {K : PySem.W.Frag} {mg : Str → Option Value} {base : Heap}
theorem ok_first {f : Addr} {fd : FuncData} (F : Fun K "_law_first" "_law_first" s__law_first f fd) (B : Bt mg) : FnG P w K mg base CX0 1 f fd ["_law_graph"] (spFirstL K) := by
  refine fnG0 F sc__law_first (fun vs H Q E h => ?_) (fun cdv A outer s H vs Q E hr h => ?_)
  · obtain ⟨g, nA, e, ns, es, rfl, _⟩ := h
    rfl
  · have hu65 : (A.deeper (envOfC "_law_first" (defScope s__law_first) s.heap.objs.size f cdv)).units + 65 < cLine := by
      have := hr.u100
      omega
    obtain ⟨g, nA, e, ns, es, rfl, gn, n7, q0, q1⟩ := h
    have nd := sc__law_first.nd
    have hu := hr.u1
    refine ⟨_, (pss_cons (ps_set (i := 1) nd rfl (by first | exact Or.inl rfl | exact Or.inr rfl) (pe_lst (pa_cons (pe_lst pa_nil) pa_nil)))
  (pss_cons (ps_while PassesOwn.never (pt_cmpR (kNe K rfl hr.u64) (pv 1) (pe_lst pa_nil) (nomark _)) (pss_cons (ps_set (i := 2) nd rfl (by first | exact Or.inl rfl | exact Or.inr rfl) (pe_bm0 PySem.F.plainAttrs_list PySem.F.slot_list_pop PySem.F.type_list_pop mt_pop (pv 1)))
  (pss_cons (ps_if (pt_cmpR (kEq K rfl hr.u64) (pe_callB (kLen K rfl) (by rfl) B.len bb_len (pa_cons (pv 2) pa_nil)) (pe_callB (kLen K rfl) (by rfl) B.len bb_len (pa_cons (pe_ix (kIx K rfl) (pv 0) pe_int (fun _ _ => rfl)) pa_nil)) (nomark _)) (pss_one (ps_ret (pv 2))) pss_nil)
  (pss_cons (ps_setLc (i := 3) (own := [("_law_k", 4)]) rfl nd rfl rfl (sw_true rfl rfl rfl (by decide +kernel)) (pi_range1 rfl B.range (pa_cons (pe_callB (kLen K rfl) (by rfl) B.len bb_len (pa_cons (pv 2) pa_nil)) pa_nil)) (blkOk_by (own := [("_law_k", 4)]) (N := nN__law_first) (sc := defScope s__law_first) (by decide +kernel)) (fun _ _ _ _ _ => (pg_name (i := 4) nd rfl (by first | exact Or.inl rfl | exact Or.inr rfl))) (fun _ _ _ _ _ => (pts_one (pt_cmpR (kInT K rfl hu65) (pe_callTy (kTuple K rfl) (by rfl) B.tuple bb_tuple (pa_cons (pe_callB (kSorted K rfl hr.u64) (by rfl) B.sorted bb_sorted (pa_cons (pe_lst (pa_cons (pe_ix (kIx K rfl) (pe_ix (kIx K rfl) (pv 0) pe_int (fun _ _ => rfl)) (pv 4) (fun _ _ => rfl)) (pa_cons (pe_ix (kIx K rfl) (pe_ix (kIx K rfl) (pv 0) pe_int (fun _ _ => rfl)) (pe_callB (kLen K rfl) (by rfl) B.len bb_len (pa_cons (pv 2) pa_nil)) (fun _ _ => rfl)) pa_nil))) pa_nil)) pa_nil)) (pe_ix (kIx K rfl) (pv 0) pe_int (fun _ _ => rfl)) rfl))) (fun _ _ _ _ _ => (pv 4)))
  (pss_cons (ps_set (i := 5) nd rfl (by first | exact Or.inl rfl | exact Or.inr rfl) (pe_lc (own := [("_law_k", 4)]) rfl nd (ki_list K rfl (pv 3)) (blkOk_by (own := [("_law_k", 4)]) (N := nN__law_first) (sc := defScope s__law_first) (by decide +kernel)) (fun _ _ _ _ _ => (pg_name (i := 4) nd rfl (by first | exact Or.inl rfl | exact Or.inr rfl))) (fun _ _ _ _ _ => pts_nil) (fun _ _ _ _ _ => (pe_ix (kIx K rfl) (pv 2) (pv 4) (fun _ _ => rfl)))))
  (pss_one (ps_set (i := 1) nd rfl (by first | exact Or.inl rfl | exact Or.inr rfl) (pe_op (kAdd K rfl) (pv 1) (pe_lc (own := [("_law_value", 6)]) rfl nd (pi_range1 rfl B.range (pa_cons pe_int pa_nil)) (blkOk_by (own := [("_law_value", 6)]) (N := nN__law_first) (sc := defScope s__law_first) (by decide +kernel)) (fun _ _ _ _ _ => (pg_name (i := 6) nd rfl (by first | exact Or.inl rfl | exact Or.inr rfl))) (fun _ _ _ _ _ => (pts_one (pt_cmpR (kNotIn K rfl) (pe_op uSub pe_int (pv 6)) (pv 5) rfl))) (fun _ _ _ _ _ => (pe_op (kAdd K rfl) (pv 2) (pe_lst (pa_cons (pe_op uSub pe_int (pv 6)) pa_nil)))))))))))))
  (pss_one (ps_ret pe_non)))), ?_⟩
    wtm_at "rd"
    intro l0 fl0
    have k0 := Same.new (o := .lst []) fl0
    have h0 := @upd_same H l0 (.lst [])
    generalize upd H l0 (.lst []) = H1 at k0 h0
    wtm_at "rd"
    intro pa fpa
    have fpa0 := new_of_same k0 fpa
    have s1 := same_add (o := .lst [.ref l0]) k0 fpa
    have n0 := ne_of_none h0 fpa
    have h0 := at_upd (o := .lst [.ref l0]) n0 h0
    have hpa := @upd_same H1 pa (.lst [.ref l0])
    generalize upd H1 pa (.lst [.ref l0]) = H2 at s1 h0 hpa
    have gd0 : GdP ns (es.map (·.2)) [] := ⟨Nat.zero_le _, by
      rw [List.zip_nil_right]
      unfold confF
      exact List.find?_eq_none.mpr fun x hx => by unfold isConf valS; exact Bool.false_ne_true⟩
    wtm_at "rd"
    refine ⟨fun m σ H' => ∃ (pa : Addr) (cs : List (Addr × List Int)) (u2 u3 u4 u5 u6 : Option V), m = meaF ns.length (cs.map (·.2)) ∧ σ = [some (.ref g), some (.ref pa), u2, u3, u4, u5, u6] ∧ Same H H' ∧ H pa = none ∧ H' pa = some (.lst (cs.map fun c => V.ref c.1)) ∧ (∀ c ∈ cs, H' c.1 = some (.lst (c.2.map V.int)) ∧ c.1 ≠ pa ∧ H c.1 = none) ∧ (∀ c ∈ cs, GdP ns (es.map (·.2)) c.2) ∧ resF ns (es.map (·.2)) (cs.map (·.2)) = extF ns (es.map (·.2)) ns.length [] ∧ meaF ns.length (cs.map (·.2)) ≤ 16384, ⟨_, pa, [(l0, [])], _, _, _, _, _, rfl, rfl, s1, fpa0, hpa, (fun c hc => by rw [List.mem_singleton.mp hc]; exact ⟨h0, n0, fl0⟩), (fun c hc => by rw [List.mem_singleton.mp hc]; exact gd0), ?_, ?_⟩, ?_⟩
    · unfold resF extP
      simp [List.findSome?_cons]
      cases extF ns (es.map (·.2)) ns.length [] <;> rfl
    · unfold meaF
      simp
      exact Nat.le_trans (Nat.pow_le_pow_right (by decide) n7) (by decide)
    clear hpa h0 n0 s1 fpa0 k0 fl0 fpa gd0
    rintro m σ H' ⟨pa, cs, u2, u3, u4, u5, u6, rfl, rfl, sb, fpa, hpa, hcs, gcs, res, mea⟩
    wtm_at "rd"
    intro t0 ft0
    have k := Same.new (o := .lst []) ft0
    refine rd_neNilD (SqL.of (k _ _ hpa)) (dp_lints fun c hc => k _ _ (hcs c hc).1) (SqL.of upd_same) (lay_ints cs).1 (Nat.le_trans (lay_ints cs).2 (by decide)) ?_
    rw [show (cs.map fun c => V.ref c.1).isEmpty = cs.isEmpty from by cases cs <;> rfl]
    have hpa := k _ _ hpa
    have hcs : ∀ c ∈ cs, (upd H' t0 (.lst [])) c.1 = some (.lst (c.2.map V.int)) ∧ c.1 ≠ pa ∧ H c.1 = none := fun c hc => ⟨k _ _ (hcs c hc).1, (hcs c hc).2⟩
    have sb := sb.trans k
    generalize upd H' t0 (.lst []) = H1 at hpa hcs sb
    clear k ft0
    have len0 := mea_len (n := ns.length) (cs.map (·.2))
    rw [List.length_map] at len0
    wtm_at "rd"
    rcases List.eq_nil_or_concat cs with rfl | ⟨cr, c, rfl⟩
    · refine rd_b (fun z => by cases z) (fun _ => ?_)
      wtm_at "rd"
      exact q0 _ sb res.symm
    · rw [List.concat_eq_append] at *
      rw [show (cr ++ [c]).isEmpty = false from by cases cr <;> rfl]
      refine rd_b (fun _ => ?_) (fun z => by cases z)
      have cin : c ∈ cr ++ [c] := List.mem_append_right _ (List.mem_singleton.mpr rfl)
      obtain ⟨hc, ncp, fc⟩ := hcs c cin
      have gc := gcs c cin
      have hcr : ∀ x ∈ cr, H1 x.1 = some (.lst (x.2.map V.int)) ∧ x.1 ≠ pa ∧ H x.1 = none := fun x hx => hcs x (List.mem_append_left _ hx)
      have gcr : ∀ x ∈ cr, GdP ns (es.map (·.2)) x.2 := fun x hx => gcs x (List.mem_append_left _ hx)
      clear hcs gcs
      rw [List.map_append, List.map_singleton] at res mea hpa len0
      obtain ⟨ca, p⟩ := c
      dsimp only at hc ncp fc gc res mea hpa len0
      refine ⟨fun σ' H' => ∃ (pa : Addr) (cs : List (Addr × List Int)) (u2 u3 u4 u5 u6 : Option V), meaF ns.length (cs.map (·.2)) < meaF ns.length (cr.map (·.2) ++ [p]) ∧ σ' = [some (.ref g), some (.ref pa), u2, u3, u4, u5, u6] ∧ Same H H' ∧ H pa = none ∧ H' pa = some (.lst (cs.map fun c => V.ref c.1)) ∧ (∀ c ∈ cs, H' c.1 = some (.lst (c.2.map V.int)) ∧ c.1 ≠ pa ∧ H c.1 = none) ∧ (∀ c ∈ cs, GdP ns (es.map (·.2)) c.2) ∧ resF ns (es.map (·.2)) (cs.map (·.2)) = extF ns (es.map (·.2)) ns.length [] ∧ meaF ns.length (cs.map (·.2)) ≤ 16384, fun σ' H' ⟨pa, cs, u2, u3, u4, u5, u6, lt, a⟩ => ⟨_, by rw [List.map_append]; exact lt, pa, cs, u2, u3, u4, u5, u6, rfl, a⟩, ?_⟩
      wtm_at "rd"
      refine rd_tyL hpa ?_
      refine rd_popE hpa ?_
      have sb2 := same_put (o := .lst (cr.map fun c => V.ref c.1)) sb fpa
      have hpa2 := @upd_same H1 pa (.lst (cr.map fun c => V.ref c.1))
      have hc := at_upd (o := .lst (cr.map fun c => V.ref c.1)) ncp hc
      have hcr : ∀ x ∈ cr, (upd H1 pa (.lst (cr.map fun c => V.ref c.1))) x.1 = some (.lst (x.2.map V.int)) ∧ x.1 ≠ pa ∧ H x.1 = none := fun x hx => ⟨at_upd (hcr x hx).2.1 (hcr x hx).1, (hcr x hx).2⟩
      generalize upd H1 pa (.lst (cr.map fun c => V.ref c.1)) = H2 at sb2 hpa2 hc hcr
      clear sb hpa
      have gn2 := gn.same sb2
      wtm_at "rd"
      refine rd_lenL (SqL.of hc) ?_
      rw [List.length_map]
      wtm_at "rd"
      refine rd_ixT (SqT.of gn2.gr.top) (v := .ref nA) rfl ?_
      wtm_at "rd"
      refine rd_lenT (SqT.of gn2.gr.nodes) ?_
      rw [List.length_map]
      wtm_at "rd"
      refine rd_split (fun c1 => ?_) (fun c1 => ?_)
      · have pl : p.length = ns.length := by omega
        wtm_at "rd"
        rw [res_done gn.nd gn.so gn.ne gc pl] at res
        exact q1 _ ca p sb2 res.symm pl fc hc
      · have pl : p.length < ns.length := by
          have := gc.len
          omega
        wtm_at "rd"
        refine rd_lenL (SqL.of hc) ?_
        rw [List.length_map]
        wtm_at "rd"
        intro D fD
        refine lcR (fun i H' => Same H2 H' ∧ H' D = some (.lst ((nearF ns (es.map (·.2)) p i).map fun k : Nat => V.int k))) ⟨Same.new fD, upd_same⟩ ?_ ?_
        · rintro i H3 hi ⟨s3, hD⟩
          have hi : i < p.length := by omega
          have e0 : (0 + (i : Int)) = (i : Int) := Int.zero_add _
          rw [e0]
          have gn3 := gn2.same s3
          have il := Nat.lt_trans hi pl
          have nl : (nearF ns (es.map (·.2)) p i).length ≤ i := by
            unfold nearF
            exact Nat.le_trans (List.length_filter_le _ _) (by rw [List.length_range]; exact Nat.le_refl _)
          have nx : nearF ns (es.map (·.2)) p (i + 1) = nearF ns (es.map (·.2)) p i ++ if eOf ns[i] ns[p.length] ∈ es.map (·.2) then [i] else [] := by
            unfold nearF
            rw [List.range_succ, List.filter_append, List.filter_cons, List.filter_nil]
            congr 1
            have e1 : ns.getD i "" = ns[i] := getDU il
            have e2 : ns.getD p.length "" = ns[p.length] := getDU pl
            rw [e1, e2]
            by_cases c : eOf ns[i] ns[p.length] ∈ es.map (·.2)
            · rw [if_pos c, decide_eq_true c]
              rfl
            · rw [if_neg c, decide_eq_false c]
              rfl
          have xi := gn.nm _ (List.getElem_mem il)
          have yi := gn.nm _ (List.getElem_mem pl)
          wtm_at "rd"
          refine rd_ixT (SqT.of gn3.gr.top) (v := .ref nA) rfl ?_
          wtm_at "rd"
          refine rd_ixT (SqT.of gn3.gr.nodes) (v := .str ns[i]) (atI_nat (by rw [List.getElem?_map, List.getElem?_eq_getElem il]; rfl)) ?_
          wtm_at "rd"
          refine rd_ixT (SqT.of gn3.gr.top) (v := .ref nA) rfl ?_
          wtm_at "rd"
          refine rd_lenL (SqL.of (s3 _ _ hc)) ?_
          rw [List.length_map]
          wtm_at "rd"
          refine rd_ixT (SqT.of gn3.gr.nodes) (v := .str ns[p.length]) (atI_nat (by rw [List.getElem?_map, List.getElem?_eq_getElem pl]; rfl)) ?_
          generalize ns[i] = x at *
          generalize ns[p.length] = y at *
          wtm_at "rd"
          intro t1 ft1
          have k1 := Same.new (o := .lst [.str x, .str y]) ft1
          wtm_at "rd"
          refine rd_sortS (xs := [x, y]) (SqL.of upd_same) (by show 2 ≤ 100000; decide) ?_
          intro ys py sy t2 ft2
          have k2 := Same.new (o := .lst (ys.map V.str)) ft2
          wtm_at "rd"
          refine rd_tupleL (SqL.of upd_same) ?_
          intro t3 ft3
          have k3 := Same.new (o := .tup (ys.map V.str)) ft3
          have sA := (k1.trans k2).trans k3
          have h3 := @upd_same (upd (upd H3 t1 (.lst [.str x, .str y])) t2 (.lst (ys.map V.str))) t3 (.tup (ys.map V.str))
          generalize upd (upd (upd H3 t1 (.lst [.str x, .str y])) t2 (.lst (ys.map V.str))) t3 (.tup (ys.map V.str)) = Ha at sA h3
          rw [sort2h py sy] at h3
          have gnA := gn3.same sA
          have s4 := s3.trans sA
          have hD := sA _ _ hD
          wtm_at "rd"
          refine rd_ixT (SqT.of gnA.gr.top) (v := .ref e) rfl ?_
          refine rd_inTE (e := eOf x y) (SqT.of h3) (SqT.of gnA.gr.edges) (fun x hx => SqT.of (gnA.gr.pairs x hx)) (by
            rcases eOf_cases x y with z | z <;> rw [z]
            · exact ⟨xi.sok, yi.sok⟩
            · exact ⟨yi.sok, xi.sok⟩) gn.sok ?_
          rw [nx]
          wtm_at "rd"
          refine rd_split (fun c2 => ?_) (fun c2 => ?_)
          · rw [if_pos c2]
            wtm_at "rd"
            refine rd_acc hD (by rw [List.length_map]; omega) ?_
            exact ⟨same_put s4 fD, by rw [upd_same, List.map_append]; rfl⟩
          · rw [if_neg c2, List.append_nil]
            wtm_at "rd"
            exact ⟨s4, hD⟩
        rintro H3 ⟨s3, hD⟩
        wtm_at "rd"
        refine rd_forL (SqL.of hD) ?_
        intro D2 fD2
        have jin : ∀ j ∈ nearF ns (es.map (·.2)) p p.length, j < p.length := fun j hj => List.mem_range.mp (List.mem_filter.mp hj).1
        have nl : (nearF ns (es.map (·.2)) p p.length).length ≤ 7 := by
          unfold nearF
          exact Nat.le_trans (List.length_filter_le _ _) (by rw [List.length_range]; omega)
        refine lcL (K := K) (xs := (nearF ns (es.map (·.2)) p p.length).map fun k : Nat => V.int k) (fun j H' => Same H3 H' ∧ H' D2 = some (.lst ((((nearF ns (es.map (·.2)) p p.length).take j).map fun k => p.getD k 0).map V.int))) ⟨Same.new fD2, upd_same⟩ ?_ ?_ ?_
        · rintro j H4 hj ⟨s4, _⟩
          exact SqL.of (s4 _ _ hD)
        · rintro j y H4 hy ⟨s4, hD2⟩
          obtain ⟨hj, rfl⟩ := map_at hy
          have ol := jin _ (List.getElem_mem hj)
          have tkj := tk_snoc2 hj
          rw [tkj]
          generalize (nearF ns (es.map (·.2)) p p.length)[j] = o at *
          wtm_at "rd"
          refine rd_ixL (SqL.of (s4 _ _ (s3 _ _ hc))) (v := .int (p.getD o 0)) (atI_nat (by rw [List.getElem?_map, List.getElem?_eq_getElem ol]; exact congrArg (fun z => some (V.int z)) (getDU ol).symm)) ?_
          have hj : j < (nearF ns (es.map (·.2)) p p.length).length := hj
          refine rd_acc hD2 (by rw [List.length_map, List.length_map, List.length_take]; omega) ?_
          exact ⟨same_put s4 fD2, by rw [upd_same, List.map_append, List.map_append]; rfl⟩
        rintro H4 ⟨s4, hD2⟩
        rw [List.length_map, List.take_length] at hD2
        have hx : H4 D2 = some (.lst ((excF ns (es.map (·.2)) p).map V.int)) := hD2
        have s24 := s3.trans s4
        have hpa := s24 _ _ hpa2
        have hc := s24 _ _ hc
        have hcr : ∀ x ∈ cr, H4 x.1 = some (.lst (x.2.map V.int)) ∧ x.1 ≠ pa ∧ H x.1 = none := fun x hx => ⟨s24 _ _ (hcr x hx).1, (hcr x hx).2⟩
        have s5 := sb2.trans s24
        clear hD2 nl jin s3 s4 s24 hD fD fD2 hpa2 gn2 sb2
        wtm_at "rd"
        intro D fD
        have hpD := ne_of_none hpa fD
        have sD := Same.new (o := .lst []) fD
        have crl : cr.length ≤ 16384 := by
          rw [List.length_append, List.length_singleton] at len0
          omega
        refine lcR (fun i H' => Same H4 H' ∧ ∃ ks : List (Addr × List Int), H' D = some (.lst (ks.map fun c => V.ref c.1)) ∧ ks.map (·.2) = kidsF ns (es.map (·.2)) p i ∧ ks.length ≤ i ∧ ∀ c ∈ ks, H' c.1 = some (.lst (c.2.map V.int)) ∧ H4 c.1 = none ∧ c.1 ≠ D) ⟨sD, [], upd_same, rfl, Nat.le_refl _, fun c hc => nomatch hc⟩ ?_ ?_
        · rintro i H5 hi ⟨s5, ks, hD, ek, kl, hks⟩
          have hi : i < 3 := hi
          have e0 : (0 + (i : Int)) = (i : Int) := Int.zero_add _
          rw [e0]
          have nx : kidsF ns (es.map (·.2)) p (i + 1) = kidsF ns (es.map (·.2)) p i ++ if (2 - (i : Int)) ∈ excF ns (es.map (·.2)) p then [] else [p ++ [2 - (i : Int)]] := by
            unfold kidsF
            rw [List.range_succ, List.filter_append, List.map_append, List.filter_cons, List.filter_nil]
            congr 1
            by_cases c : (2 - (i : Int)) ∈ excF ns (es.map (·.2)) p
            · rw [if_pos c, decide_eq_true c]
              rfl
            · rw [if_neg c, decide_eq_false c]
              rfl
          rw [nx]
          wtm_at "rd"
          refine rd_ninIL (SqL.of (s5 _ _ hx)) ?_
          wtm_at "rd"
          refine rd_nsplit (fun c2 => ?_) (fun c2 => ?_)
          · rw [if_neg c2]
            wtm_at "rd"
            intro t1 ft1
            have k1 := Same.new (o := .lst [.int (2 - (i : Int))]) ft1
            have h1 := @upd_same H5 t1 (.lst [.int (2 - (i : Int))])
            have s6 := s5.trans k1
            have hD := k1 _ _ hD
            have hks : ∀ c ∈ ks, (upd H5 t1 (.lst [.int (2 - (i : Int))])) c.1 = some (.lst (c.2.map V.int)) ∧ H4 c.1 = none ∧ c.1 ≠ D := fun c hc => ⟨k1 _ _ (hks c hc).1, (hks c hc).2⟩
            generalize upd H5 t1 (.lst [.int (2 - (i : Int))]) = H6 at h1 s6 hD hks
            refine rd_catL (s6 _ _ hc) h1 (by rw [List.length_map]; show _ + 1 ≤ 100000; omega) ?_
            intro t2 ft2
            have k2 := Same.new (o := .lst (p.map V.int ++ [.int (2 - (i : Int))])) ft2
            have h2 := @upd_same H6 t2 (.lst (p.map V.int ++ [.int (2 - (i : Int))]))
            have f4 := new_of_same s6 ft2
            have s7 := s6.trans k2
            have nD := ne_of_none hD ft2
            have hD := k2 _ _ hD
            have hks : ∀ c ∈ ks, (upd H6 t2 (.lst (p.map V.int ++ [.int (2 - (i : Int))]))) c.1 = some (.lst (c.2.map V.int)) ∧ H4 c.1 = none ∧ c.1 ≠ D := fun c hc => ⟨k2 _ _ (hks c hc).1, (hks c hc).2⟩
            generalize upd H6 t2 (.lst (p.map V.int ++ [.int (2 - (i : Int))])) = H7 at h2 s7 hD hks
            wtm_at "rd"
            refine rd_acc hD (by rw [List.length_map]; omega) ?_
            refine ⟨same_put s7 fD, ks ++ [(t2, p ++ [2 - (i : Int)])], by rw [upd_same, List.map_append]; rfl, by rw [List.map_append, ek]; rfl, by rw [List.length_append, List.length_singleton]; omega, fun c hc => ?_⟩
            rcases List.mem_append.mp hc with hc | hc
            · exact ⟨at_upd (hks c hc).2.2 (hks c hc).1, (hks c hc).2⟩
            · rw [List.mem_singleton.mp hc]
              exact ⟨at_upd (Ne.symm nD) (by rw [h2, List.map_append]; rfl), f4, Ne.symm nD⟩
          · rw [if_pos c2, List.append_nil]
            wtm_at "rd"
            exact ⟨s5, ks, hD, ek, by omega, hks⟩
        rintro H5 ⟨s6, ks, hD, ek, kl, hks⟩
        have ek : ks.map (·.2) = kidsF ns (es.map (·.2)) p 3 := ek
        have kl : ks.length ≤ 3 := kl
        refine rd_catL (s6 _ _ hpa) hD (by rw [List.length_map, List.length_map]; omega) ?_
        intro pb fpb
        have k := Same.new (o := .lst ((cr.map fun c => V.ref c.1) ++ ks.map fun c => V.ref c.1)) fpb
        have hpb := @upd_same H5 pb (.lst ((cr.map fun c => V.ref c.1) ++ ks.map fun c => V.ref c.1))
        have f4 := new_of_same s6 fpb
        have ncr : ∀ c ∈ cr, c.1 ≠ pb := fun c hc => ne_of_none (hcr c hc).1 f4
        have nks : ∀ c ∈ ks, c.1 ≠ pb := fun c hc => ne_of_none (hks c hc).1 fpb
        have f4H := new_of_same s5 f4
        have kg := kids_good gn.nd gn.so gn.ne gc pl
        have mk := mea_kids (es := es.map (·.2)) (ps := cr.map (·.2)) pl
        have emap : (cr ++ ks).map (·.2) = cr.map (·.2) ++ kidsF ns (es.map (·.2)) p 3 := by rw [List.map_append, ek]
        wtm_at "rd"
        refine ⟨pb, cr ++ ks, _, _, _, _, _, by rw [emap]; exact mk, rfl, s5.trans (s6.trans k), f4H, by rw [hpb, List.map_append], fun c hc => ?_, fun c hc => ?_, by rw [emap, res_step gn.nd gn.so gn.ne gc pl]; exact res, by rw [emap]; omega⟩
        · rcases List.mem_append.mp hc with hc | hc
          · exact ⟨k _ _ (s6 _ _ (hcr c hc).1), ncr c hc, (hcr c hc).2.2⟩
          · exact ⟨k _ _ (hks c hc).1, nks c hc, new_of_same s5 (hks c hc).2.1⟩
        · rcases List.mem_append.mp hc with hc | hc
          · exact gcr c hc
          · exact (kg c.2 (by rw [← ek]; exact List.mem_map_of_mem (f := (·.2)) hc)).1
end
end Law

/-! k62: _law_with_more_nodes -/
namespace U
open PySem PySem.Spec PyProof.Rows L2
def ltS (c : Nat) : Str := ⟨#[c]⟩
def twS (a b : Nat) : Str := ltS (97 + a) ++ ltS (97 + b)
def rowW (i : Nat) : List Str := (List.range 5).map (twS i)
def allW (i : Nat) : List Str := (List.range i).flatMap rowW
def freeW (ns : List Str) (ws : List Str) : List Str := ws.filter fun x => !decide (x ∈ ns)
theorem allW_asc : (allW 8).Pairwise sLt := by decide +kernel
theorem allW_len : ∀ i, i ≤ 8 → (allW i).length = 5 * i := by decide +kernel
theorem allW_name : ∀ x ∈ allW 8, IsName x := by
  intro x hx
  unfold allW rowW at hx
  obtain ⟨i, hi, hx⟩ := List.mem_flatMap.mp hx
  obtain ⟨j, hj, rfl⟩ := List.mem_map.mp hx
  have hi := List.mem_range.mp hi
  have hj := List.mem_range.mp hj
  refine ⟨by show 1 ≤ 2; decide, by show 2 ≤ 8; decide, fun z hz => ?_⟩
  have e : (twS i j).cps = #[97 + i, 97 + j] := rfl
  rw [e] at hz
  simp at hz
  omega
theorem cutV_sub {α : Type} {f : α → V} {xs : List α} {lo hi : Option Int} : ∃ ys : List α, cutV (xs.map f) lo hi = ys.map f ∧ ys.Sublist xs := by
  refine ⟨(xs.drop (HT.sIx xs.length 0 lo)).take (HT.sIx xs.length xs.length hi - HT.sIx xs.length 0 lo), ?_, (List.take_sublist _ _).trans (List.drop_sublist _ _)⟩
  unfold cutV
  rw [List.length_map, List.map_take, List.map_drop]
theorem eOf_up {a b : Str} (h : sLt a b) : eOf a b = (a, b) := by
  unfold eOf
  rw [if_pos h]
end U
namespace Law
open PySem PySem.Spec PyProof.Rows L2 U
local macro_rules | `(tactic| wtm_at "rd1") => `(tactic| first
  | with_reducible refine rd_seq ?_
  | ((with_reducible refine rd_var (v := ?vv) ?hv ?_); (case hv => exact rfl))
  | with_reducible refine rd_c ?_
  | with_reducible refine rd_cons ?_
  | with_reducible refine rd_nil ?_
  | with_reducible refine rd_op ?_
  | with_reducible refine rd_asg ?_
  | with_reducible refine rd_name ?_
  | with_reducible refine rd_c1 ?_
  | with_reducible refine rd_cb ?_
  | with_reducible refine rd_test ?_
  | with_reducible refine rd_B ?_
  | with_reducible refine rd_bl ?_
  | with_reducible refine rd_if ?_
  | with_reducible refine rd_ret ?_
  | with_reducible refine rd_drop ?_
  | with_reducible refine rd_next ?_
  | with_reducible refine rd_addI ?_
  | with_reducible refine rd_ltI ?_
  | with_reducible refine rd_eqI ?_
  | with_reducible refine rd_neI ?_
  | with_reducible refine rd_eqS ?_
  | with_reducible refine rd_neS ?_
  | with_reducible refine rd_gtI ?_
  | with_reducible refine rd_geI ?_
  | with_reducible refine rd_leI ?_
  | with_reducible refine rd_ltS ?_
  | with_reducible refine rd_subI ?_
  | ((with_reducible refine rd_modI ?hc ?_); (case hc => first | decide | omega))
  | ((with_reducible refine rd_mulI ?hc ?_); (case hc => first | exact mul_bI | exact .inl (.inr (by decide)) | exact .inl (.inl (by decide)) | exact .inl (.inr (by omega)) | exact .inl (.inl (by omega))))
  | ((with_reducible refine rd_divI ?hc ?_); (case hc => first | decide | omega))
  | ((with_reducible refine rd_powI ?hc ?_); (case hc => exact ⟨by decide, by decide, by decide⟩))
  | with_reducible refine rd_lst ?_
  | with_reducible refine rd_tup ?_
  | ((with_reducible refine rd_sz ?hv ?_); (case hv => exact rfl))
  | with_reducible refine rd_and ?_
  | with_reducible refine rd_or ?_
  | with_reducible refine rd_not ?_
  | with_reducible refine rd_andV ?_
  | with_reducible refine rd_orV ?_
  | with_reducible refine rd_notV ?_
  | with_reducible refine rd_ifE ?_
  | with_reducible refine rd_T ?_
  | with_reducible refine rd_F ?_
  | with_reducible refine rd_chain ?_
  | with_reducible refine rd_is ?_
  | with_reducible refine rd_isNot ?_
  | with_reducible refine rd_absI ?_
  | with_reducible refine rd_maxI ?_
  | with_reducible refine rd_minI ?_
  | with_reducible refine rd_intI ?_
  | with_reducible refine rd_intB ?_
  | with_reducible refine rd_sub ?_
  | with_reducible refine rd_sl ?_
  | with_reducible refine rd_noPart ?_
  | with_reducible refine rd_part ?_
  | with_reducible refine rd_exI ?_
  | with_reducible refine rd_bm ?_
  | with_reducible refine rd_bm0 ?_
  | with_reducible refine rd_un ?_
  | with_reducible refine rd_neg ?_
  | with_reducible refine rd_c2 ?_
  | with_reducible refine rd_retN ?_
  | with_reducible refine rd_break ?_
  | with_reducible refine rd_cont ?_
  | with_reducible refine rd_for ?_
  | with_reducible refine rd_rng1 ?_
  | with_reducible refine rd_rng2 ?_
  | with_reducible refine rd_iList ?_
  | with_reducible refine rd_iTup ?_
  | with_reducible refine rd_iEnum ?_
  | ((with_reducible refine rd_forR ?h0 ?h1 ?_); (case h0 => omega); (case h1 => omega))
  | with_reducible refine rd_lc ?_
  | with_reducible refine rd_gcons ?_
  | with_reducible refine rd_gnil ?_
  | with_reducible refine rd_dget ?_
  | with_reducible refine rd_dput ?_
  | with_reducible refine rd_dnew ?_
  | with_reducible refine rd_dc ?_
  | with_reducible refine rd_iItems ?_
  | with_reducible refine rd_iKeys ?_
  | with_reducible refine rd_din ?_
  | with_reducible refine rd_lc2 ?_
  | with_reducible refine rd_cd ?_
  | with_reducible refine rd_par ?_
  | with_reducible refine rd_two ?_
  | with_reducible refine rd_reprB ?_
  | with_reducible refine rd_ck ?_
  | ((with_reducible refine rd_len ?hl ?_); (case hl => exact rfl))
  | with_reducible refine rd_nT ?_
  | with_reducible refine rd_nF ?_
  | with_reducible refine rd_dnin ?_
  | with_reducible refine rd_isB ?_
  | with_reducible refine rd_isNotB ?_
  | with_reducible refine rd_daug ?_
  | with_reducible refine rd_yesT ?_
  | ((with_reducible refine rd_wp ?hw ?_); (case hw => exact rfl)))
local macro_rules | `(tactic| wtm_at "rd") => `(tactic| repeat wtm_at "rd1")

theorem GrN.goM {p : Addr} {H H' : Hp} {g n e : Addr} {ns : List Str} {es : List (Addr × Str × Str)} (h : GrN H g n e ns es) (hp : PoolAt H p) (b : Go p H H') : GrN H' g n e ns es :=
  ⟨⟨b.at h.gr.top (hp.offTB h.gr.top), b.at h.gr.nodes (hp.offTB h.gr.nodes), b.at h.gr.edges (hp.offTB h.gr.edges), fun x hx => b.at (h.gr.pairs x hx) (hp.offTB (h.gr.pairs x hx))⟩, h.nm, h.nd, h.mem, h.so, h.ne, h.l1, h.l2⟩
def spMore : Sp := fun vs H Q _ => ∃ (p g nA e : Addr) (ns : List Str) (es : List (Addr × Str × Str)), vs = [.ref p, .ref g] ∧ PoolAt H p ∧ GrN H g nA e ns es ∧ ns.length ≤ 20 ∧ es.length ≤ 700 ∧
  ∀ (g2 nA2 e2 : Addr) (ns2 : List Str) (es2 : List (Addr × Str × Str)) (H' : Hp), Go p H H' → GrN H' g2 nA2 e2 ns2 es2 → (∀ x ∈ ns, x ∈ ns2) → (∀ x ∈ es.map (·.2), x ∈ es2.map (·.2)) → Q (.ref g2) H'
section
variable {P : Program} {w : World} {K : PySem.W.Frag} {mg : Str → Option Value} {base : Heap}
structure DIa (P : Program) (w : World) (K : PySem.W.Frag) (mg : Str → Option Value) (base : Heap) : Prop where
  _law_draw : Cal P w K mg base CX0 1 "_law_draw" spDraw
theorem ok_more {f : Addr} {fd : FuncData} (F : Fun K "_law_with_more_nodes" "_law_with_more_nodes" s__law_with_more_nodes f fd) (B : Bt mg) (C : DIa P w K mg base) : FnG P w K mg base CX0 2 f fd ["_law_source", "_law_graph"] spMore := by
  refine fnG0 F sc__law_with_more_nodes (fun vs H Q E h => ?_) (fun cdv A outer s H vs Q E hr h => ?_)
  · obtain ⟨p, g, nA, e, ns, es, rfl, _⟩ := h
    rfl
  · obtain ⟨p, g, nA, e, ns, es, rfl, hp, gn, n20, e700, q⟩ := h
    have nd := sc__law_with_more_nodes.nd
    have hu := hr.u1
    refine ⟨_, (pss_cons (ps_set (i := 2) nd rfl (by first | exact Or.inl rfl | exact Or.inr rfl) (pe_lst pa_nil))
  (pss_cons (ps_for PassesOwn.never rfl (pi_str pe_str) (pg_name (i := 3) nd rfl (by first | exact Or.inl rfl | exact Or.inr rfl)) (pss_one (ps_set (i := 2) nd rfl (by first | exact Or.inl rfl | exact Or.inr rfl) (pe_op (kAdd K rfl) (pv 2) (pe_lc (own := [("_law_other", 4)]) rfl nd (pi_str pe_str) (blkOk_by (own := [("_law_other", 4)]) (N := nN__law_with_more_nodes) (sc := defScope s__law_with_more_nodes) (by decide +kernel)) (fun _ _ _ _ _ => (pg_name (i := 4) nd rfl (by first | exact Or.inl rfl | exact Or.inr rfl))) (fun _ _ _ _ _ => (pts_one (pt_cmpR (kNotIn K rfl) (pe_op (kAdd K rfl) (pv 3) (pv 4)) (pe_ix (kIx K rfl) (pv 1) pe_int (fun _ _ => rfl)) rfl))) (fun _ _ _ _ _ => (pe_op (kAdd K rfl) (pv 3) (pv 4))))))))
  (pss_cons (ps_set (i := 2) nd rfl (by first | exact Or.inl rfl | exact Or.inr rfl) (pe_slice (kSl K rfl) (pv 2) (po_some (pe_c C._law_draw hr (by decide) rfl (pa_cons (pv 0) (pa_cons pe_int pa_nil)))) (po_some (pe_op (kAdd K rfl) pe_int (pe_c C._law_draw hr (by decide) rfl (pa_cons (pv 0) (pa_cons pe_int pa_nil)))))))
  (pss_cons (ps_set (i := 5) nd rfl (by first | exact Or.inl rfl | exact Or.inr rfl) (pe_callTy (kList K rfl rfl) (by rfl) B.list bb_list (pa_cons (pe_ix (kIx K rfl) (pv 1) pe_int (fun _ _ => rfl)) pa_nil)))
  (C8.pss_cut (ps_if (pt_cmpR (kEq K rfl hr.u64) (pe_c C._law_draw hr (by decide) rfl (pa_cons (pv 0) (pa_cons pe_int pa_nil))) pe_int (nomark _)) (pss_one (ps_set (i := 5) nd rfl (by first | exact Or.inl rfl | exact Or.inr rfl) (pe_op (kAdd K rfl) (pv 5) (pe_lc (own := [("_law_k", 6)]) rfl nd (pi_range1 rfl B.range (pa_cons (pe_op uSub (pe_callB (kLen K rfl) (by rfl) B.len bb_len (pa_cons (pv 2) pa_nil)) pe_int) pa_nil)) (blkOk_by (own := [("_law_k", 6)]) (N := nN__law_with_more_nodes) (sc := defScope s__law_with_more_nodes) (by decide +kernel)) (fun _ _ _ _ _ => (pg_name (i := 6) nd rfl (by first | exact Or.inl rfl | exact Or.inr rfl))) (fun _ _ _ _ _ => pts_nil) (fun _ _ _ _ _ => (pe_tup (pa_cons (pe_ix (kIx K rfl) (pv 2) (pv 6) (fun _ _ => rfl)) (pa_cons (pe_ix (kIx K rfl) (pv 2) (pe_op (kAdd K rfl) (pv 6) pe_int) (fun _ _ => rfl)) pa_nil)))))))) pss_nil)
  (pss_one (ps_ret (pe_tup (pa_cons (pe_callTy (kTuple K rfl) (by rfl) B.tuple bb_tuple (pa_cons (pe_callB (kSorted K rfl hr.u64) (by rfl) B.sorted bb_sorted (pa_cons (pe_op (kAdd K rfl) (pe_callTy (kList K rfl rfl) (by rfl) B.list bb_list (pa_cons (pe_ix (kIx K rfl) (pv 1) pe_int (fun _ _ => rfl)) pa_nil)) (pv 2)) pa_nil)) pa_nil)) (pa_cons (pe_callTy (kTuple K rfl) (by rfl) B.tuple bb_tuple (pa_cons (pe_callB (kSorted K rfl hr.u64) (by rfl) B.sorted bb_sorted (pa_cons (pv 5) pa_nil)) pa_nil)) pa_nil)))))))))), ?_⟩
    wtm_at "rd"
    intro l0 fl0
    have s0 := Same.new (o := .lst []) fl0
    have h0 := @upd_same H l0 (.lst [])
    generalize upd H l0 (.lst []) = H0 at s0 h0
    wtm_at "rd"
    refine ⟨"abcdefgh", rfl, ?_⟩
    refine turnsW walk_str (fun i σ H' => ∃ (l : Addr) (u3 u4 : Option V), σ = [some (.ref p), some (.ref g), some (.ref l), u3, u4, none, none] ∧ Same H H' ∧ H' l = some (.lst ((freeW ns (allW i)).map V.str)) ∧ l ≠ p) ⟨l0, _, _, rfl, s0, h0, Ne.symm (hp.ne fl0)⟩ (fun _ _ _ _ _ => trivial) ?_ ?_
    · rintro i y σ H1 H1' hi ⟨l, u3, u4, rfl, s1, hl, nlp⟩ ⟨rfl, c, hc, rfl⟩
      have hi : i < 8 := hi
      have ec : c = 97 + i := by
        have : ∀ j, j < 8 → ("abcdefgh" : Str).cps[j]? = some (97 + j) := by decide +kernel
        rw [this i hi] at hc
        exact (Option.some.inj hc).symm
      subst ec
      show gName _ (V.str (ltS (97 + i))) _ _ _
      wtm_at "rd"
      refine ⟨"abcde", rfl, ?_⟩
      intro D fD
      refine lc_it walk_str (fun j H2 => Same H1' H2 ∧ H2 D = some (.lst ((freeW ns ((List.range j).map (twS i))).map V.str))) ⟨Same.new fD, upd_same⟩ (fun _ _ _ _ => trivial) ?_ ?_
      · rintro j y H2 H3 hj ⟨s2, hD⟩ ⟨rfl, c, hc, rfl⟩
        have hj : j < 5 := hj
        have ec : c = 97 + j := by
          have : ∀ j, j < 5 → ("abcde" : Str).cps[j]? = some (97 + j) := by decide +kernel
          rw [this j hj] at hc
          exact (Option.some.inj hc).symm
        subst ec
        have tk : freeW ns ((List.range (j + 1)).map (twS i)) = freeW ns ((List.range j).map (twS i)) ++ if twS i j ∈ ns then [] else [twS i j] := by
          unfold freeW
          rw [List.range_succ, List.map_append, List.filter_append, List.map_cons, List.map_nil, List.filter_cons, List.filter_nil]
          congr 1
          by_cases c : twS i j ∈ ns
          · rw [if_pos c, decide_eq_true c]
            rfl
          · rw [if_neg c, decide_eq_false c]
            rfl
        have nl : (freeW ns ((List.range j).map (twS i))).length ≤ j := by
          unfold freeW
          exact Nat.le_trans (List.length_filter_le _ _) (by rw [List.length_map, List.length_range]; exact Nat.le_refl _)
        have sH := s1.trans s2
        show gName _ (V.str (ltS (97 + j))) _ _ _
        wtm_at "rd"
        refine rd_addS (by show 2 ≤ _; decide) ?_
        wtm_at "rd"
        refine rd_ixT (SqT.of (sH _ _ gn.gr.top)) (v := .ref nA) rfl ?_
        wtm_at "rd"
        refine rd_ninST (SqT.of (sH _ _ gn.gr.nodes)) ?_
        rw [show ltS (97 + i) ++ ltS (97 + j) = twS i j from rfl]
        wtm_at "rd"
        rw [tk]
        refine rd_nsplit (fun c2 => ?_) (fun c2 => ?_)
        · rw [if_neg c2]
          wtm_at "rd"
          refine rd_addS (by show 2 ≤ _; decide) ?_
          refine rd_acc hD (by rw [List.length_map]; omega) ?_
          exact ⟨same_put s2 fD, by rw [upd_same, List.map_append]; rfl⟩
        · rw [if_pos c2, List.append_nil]
          wtm_at "rd"
          exact ⟨s2, hD⟩
      rintro H2 ⟨s2, hD⟩
      have tl : ∀ ws : List Str, (freeW ns ws).length ≤ ws.length := fun ws => List.length_filter_le _ _
      have l1 := tl (allW i)
      rw [allW_len i (by omega)] at l1
      have l2 := tl (rowW i)
      rw [show (rowW i).length = 5 from by unfold rowW; rw [List.length_map, List.length_range]] at l2
      have hD : H2 D = some (.lst ((freeW ns (rowW i)).map V.str)) := hD
      refine rd_catL (s2 _ _ hl) hD (by rw [List.length_map, List.length_map]; omega) ?_
      intro l2 fl2
      have e1 : freeW ns (allW (i + 1)) = freeW ns (allW i) ++ freeW ns (rowW i) := by
        unfold freeW allW
        rw [List.range_succ, List.flatMap_append, List.filter_append]
        simp
      wtm_at "rd"
      exact ⟨l2, _, _, rfl, (s1.trans s2).trans (Same.new fl2), by rw [upd_same, e1, List.map_append], Ne.symm (hp.ne (new_of_same (s1.trans s2) fl2))⟩
    · rintro σ H1 ⟨l, u3, u4, rfl, s1, hl, nlp⟩
      have hl : H1 l = some (.lst ((freeW ns (allW 8)).map V.str)) := hl
      have g1 := Go.of_same hp s1
      clear s0 h0 fl0 l0
      wtm_at "rd"
      refine use_draw g1.pool (by decide) (by decide) fun lo H2 _ _ g => ?_
      have hl := g.at hl nlp
      have g2 := g1.trans g
      clear g g1 s1
      wtm_at "rd"
      refine use_draw g2.pool (by decide) (by decide) fun hi H3 _ _ g => ?_
      have hl := g.at hl nlp
      have g3 := g2.trans g
      clear g g2
      wtm_at "rd"
      refine rd_slL (SqL.of hl) ?_
      obtain ⟨ws, ew, sub⟩ := cutV_sub (f := V.str) (xs := freeW ns (allW 8)) (lo := some lo) (hi := some (4 + hi))
      rw [ew]
      have asc : ws.Pairwise sLt := (allW_asc.sublist List.filter_sublist).sublist sub
      have win : ∀ x ∈ ws, IsName x ∧ x ∉ ns := fun x hx => by
        obtain ⟨m1, m2⟩ := List.mem_filter.mp (sub.subset hx)
        exact ⟨allW_name x m1, by simpa using m2⟩
      have wl : ws.length ≤ 40 := by
        have a1 := sub.length_le
        have a2 := List.length_filter_le (fun x => !decide (x ∈ ns)) (allW 8)
        rw [allW_len 8 (by decide)] at a2
        unfold freeW at a1
        omega
      clear ew sub hl nlp
      intro lw flw
      have nwp := Ne.symm (g3.pool.ne flw)
      have k := Same.new (o := .lst (ws.map V.str)) flw
      have hw := @upd_same H3 lw (.lst (ws.map V.str))
      have g3 := g3.same k
      generalize upd H3 lw (.lst (ws.map V.str)) = H4 at k hw g3
      clear k flw
      have gn4 := gn.goM hp g3
      wtm_at "rd"
      refine rd_ixT (SqT.of gn4.gr.top) (v := .ref e) rfl ?_
      wtm_at "rd"
      refine rd_listT (SqT.of gn4.gr.edges) ?_
      intro le fle
      have nep := Ne.symm (g3.pool.ne fle)
      have k := Same.new (o := .lst (es.map fun x => V.ref x.1)) fle
      have he := @upd_same H4 le (.lst (es.map fun x => V.ref x.1))
      have hw := k _ _ hw
      have g4 := g3.same k
      generalize upd H4 le (.lst (es.map fun x => V.ref x.1)) = H5 at k he hw g4
      clear k fle gn4
      wtm_at "rd"
      refine ⟨fun σ' H7 => ∃ (u6 : Option V) (le : Addr) (es2 : List (Addr × Str × Str)), σ' = [some (.ref p), some (.ref g), some (.ref lw), u3, u4, some (.ref le), u6] ∧ Go p H H7 ∧ H7 lw = some (.lst (ws.map V.str)) ∧ H7 le = some (.lst (es2.map fun x => V.ref x.1)) ∧ PrsAt H7 es2 ∧ (∀ x ∈ es2.map (·.2), (x.1 ∈ ns ++ ws ∧ x.2 ∈ ns ++ ws) ∧ eOf x.1 x.2 = x ∧ x.1 ≠ x.2) ∧ (∀ x ∈ es.map (·.2), x ∈ es2.map (·.2)) ∧ es2.length ≤ 800, ?_, ?_⟩
      rotate_left
      · rintro σ H7 ⟨u6, le, es2, rfl, g7, hw, he, tp, em, emo, el⟩
        have gn7 := gn.goM hp g7
        wtm_at "rd"
        refine rd_ixT (SqT.of gn7.gr.top) (v := .ref nA) rfl ?_
        wtm_at "rd"
        refine rd_listT (SqT.of gn7.gr.nodes) ?_
        intro l1 fl1
        have kl1 := Same.new (o := .lst (ns.map V.str)) fl1
        have hl1 := @upd_same H7 l1 (.lst (ns.map V.str))
        have hw := kl1 _ _ hw
        have he := kl1 _ _ he
        have tp := tp.same kl1
        have gn7 := gn7.same kl1
        have g7 := g7.same kl1
        generalize upd H7 l1 (.lst (ns.map V.str)) = H8 at hl1 hw he tp gn7 g7
        clear kl1 fl1
        wtm_at "rd"
        refine rd_catL hl1 hw (by rw [List.length_map, List.length_map]; omega) ?_
        intro l2 fl2
        have kl2 := Same.new (o := .lst (ns.map V.str ++ ws.map V.str)) fl2
        have hl2 := @upd_same H8 l2 (.lst (ns.map V.str ++ ws.map V.str))
        have hw := kl2 _ _ hw
        have he := kl2 _ _ he
        have tp := tp.same kl2
        have gn7 := gn7.same kl2
        have g7 := g7.same kl2
        generalize upd H8 l2 (.lst (ns.map V.str ++ ws.map V.str)) = H9 at hl2 hw he tp gn7 g7
        clear kl2 fl2
        rw [← List.map_append] at hl2
        wtm_at "rd"
        refine rd_sortS (SqL.of hl2) (by rw [List.length_append]; omega) ?_
        intro ns2 pn sn
        intro l3 fl3
        have kl3 := Same.new (o := .lst (ns2.map V.str)) fl3
        have hl3 := @upd_same H9 l3 (.lst (ns2.map V.str))
        have hw := kl3 _ _ hw
        have he := kl3 _ _ he
        have tp := tp.same kl3
        have gn7 := gn7.same kl3
        have g7 := g7.same kl3
        generalize upd H9 l3 (.lst (ns2.map V.str)) = Ha at hl3 hw he tp gn7 g7
        clear kl3 fl3
        wtm_at "rd"
        refine rd_tupleL (SqL.of hl3) ?_
        intro nA2 fnA2
        have knA2 := Same.new (o := .tup (ns2.map V.str)) fnA2
        have hnA2 := @upd_same Ha nA2 (.tup (ns2.map V.str))
        have hw := knA2 _ _ hw
        have he := knA2 _ _ he
        have tp := tp.same knA2
        have gn7 := gn7.same knA2
        have g7 := g7.same knA2
        generalize upd Ha nA2 (.tup (ns2.map V.str)) = Hb at hnA2 hw he tp gn7 g7
        clear knA2 fnA2
        wtm_at "rd"
        refine rd_sortE (SqL.of he) (fun x hx => SqT.of (tp x hx)) (by omega) ?_
        intro es3 pe se
        have tp : PrsAt Hb es3 := fun x hx => tp x (pe.mem_iff.mp hx)
        intro l4 fl4
        have kl4 := Same.new (o := .lst (es3.map fun x => V.ref x.1)) fl4
        have hl4 := @upd_same Hb l4 (.lst (es3.map fun x => V.ref x.1))
        have hnA2 := kl4 _ _ hnA2
        have tp := tp.same kl4
        have gn7 := gn7.same kl4
        have g7 := g7.same kl4
        generalize upd Hb l4 (.lst (es3.map fun x => V.ref x.1)) = Hc at hl4 hnA2 tp gn7 g7
        clear kl4 fl4
        wtm_at "rd"
        refine rd_tupleL (SqL.of hl4) ?_
        intro eA2 feA2
        have keA2 := Same.new (o := .tup (es3.map fun x => V.ref x.1)) feA2
        have heA2 := @upd_same Hc eA2 (.tup (es3.map fun x => V.ref x.1))
        have hnA2 := keA2 _ _ hnA2
        have tp := tp.same keA2
        have gn7 := gn7.same keA2
        have g7 := g7.same keA2
        generalize upd Hc eA2 (.tup (es3.map fun x => V.ref x.1)) = Hd at heA2 hnA2 tp gn7 g7
        clear keA2 feA2
        wtm_at "rd"
        intro g2 fg2
        have kg2 := Same.new (o := .tup [.ref nA2, .ref eA2]) fg2
        have hg2 := @upd_same Hd g2 (.tup [.ref nA2, .ref eA2])
        have hnA2 := kg2 _ _ hnA2
        have heA2 := kg2 _ _ heA2
        have tp := tp.same kg2
        have gn7 := gn7.same kg2
        have g7 := g7.same kg2
        generalize upd Hd g2 (.tup [.ref nA2, .ref eA2]) = He at hg2 hnA2 heA2 tp gn7 g7
        clear kg2 fg2
        have pem := fun x => (pe.map (·.2)).mem_iff (a := x)
        have l2 := List.length_append (as := ns) (bs := ws)
        refine q g2 nA2 eA2 ns2 es3 He g7 ⟨⟨hg2, hnA2, heA2, tp⟩, fun x hx => ?_, pn.nodup_iff.mpr ?_, fun x hx => ?_, fun x hx => (em x ((pem x).mp hx)).2.1, fun x hx => (em x ((pem x).mp hx)).2.2, by rw [pn.length_eq]; omega, by rw [pe.length_eq]; omega⟩ (fun x hx => pn.mem_iff.mpr (List.mem_append_left _ hx)) fun x hx => (pem x).mpr (emo x hx)
        · rcases List.mem_append.mp (pn.mem_iff.mp hx) with h | h
          · exact gn.nm x h
          · exact (win x h).1
        · refine List.nodup_append.mpr ⟨gn.nd, (asc.imp fun {a b} (h : sLt a b) (e : a = b) => by subst e; exact sLt_irrefl _ h), fun a ha b hb e => ?_⟩
          exact (win b hb).2 (e ▸ ha)
        · have := (em x ((pem x).mp hx)).1
          exact ⟨pn.mem_iff.mpr this.1, pn.mem_iff.mpr this.2⟩
      wtm_at "rd"
      refine use_draw g4.pool (by decide) (by decide) fun dir H6 _ _ g => ?_
      have he := g.at he nep
      have hw := g.at hw nwp
      have g6 := g4.trans g
      clear g g4 g3
      have gn6 := gn.goM hp g6
      have old : ∀ x ∈ es.map (·.2), (x.1 ∈ ns ++ ws ∧ x.2 ∈ ns ++ ws) ∧ eOf x.1 x.2 = x ∧ x.1 ≠ x.2 := fun x hx => ⟨⟨List.mem_append_left _ (gn.mem x hx).1, List.mem_append_left _ (gn.mem x hx).2⟩, gn.so x hx, gn.ne x hx⟩
      wtm_at "rd"
      refine rd_split (fun _ => ?_) (fun _ => ?_)
      · wtm_at "rd"
        refine rd_lenL (SqL.of hw) ?_
        rw [List.length_map]
        wtm_at "rd"
        intro D fD
        refine lcR (fun i H' => ∃ ed : List (Addr × Str × Str), Same H6 H' ∧ H' D = some (.lst (ed.map fun x => V.ref x.1)) ∧ PrsAt H' ed ∧ (∀ x ∈ ed.map (·.2), x.1 ∈ ws ∧ x.2 ∈ ws ∧ sLt x.1 x.2) ∧ ed.length ≤ i) ⟨[], Same.new fD, upd_same, (fun x h => nomatch h), (fun x h => nomatch h), Nat.le_refl _⟩ ?_ ?_
        · rintro i H7 hi ⟨ed, s7, hD, tp, em, el⟩
          have hi : i + 1 < ws.length := by omega
          have e0 : (0 + (i : Int)) = (i : Int) := Int.zero_add _
          rw [e0]
          have hi0 : i < ws.length := by omega
          have lt := List.pairwise_iff_getElem.mp asc i (i + 1) hi0 hi (Nat.lt_succ_self i)
          have ma := List.getElem_mem hi0
          have mb := List.getElem_mem hi
          wtm_at "rd"
          refine rd_ixL (SqL.of (s7 _ _ hw)) (v := .str ws[i]) (atI_nat (by rw [List.getElem?_map, List.getElem?_eq_getElem hi0]; rfl)) ?_
          wtm_at "rd"
          refine rd_ixL (SqL.of (s7 _ _ hw)) (v := .str ws[i + 1]) (atI_nat (j := i + 1) (by rw [List.getElem?_map, List.getElem?_eq_getElem hi]; rfl)) ?_
          generalize ws[i] = x at *
          generalize ws[i + 1] = y at *
          wtm_at "rd"
          intro t ft
          have k := Same.new (o := .tup [.str x, .str y]) ft
          have ht := @upd_same H7 t (.tup [.str x, .str y])
          refine rd_acc (k _ _ hD) (by rw [List.length_map]; omega) ?_
          have hDk := k _ _ hD
          refine ⟨ed ++ [(t, x, y)], same_put (s7.trans k) fD, by rw [upd_same, List.map_append]; rfl, fun z hz => ?_, fun z hz => ?_, by rw [List.length_append, List.length_singleton]; omega⟩
          · rcases List.mem_append.mp hz with hz | hz
            · exact at_upd (ne_of (k _ _ (tp z hz)) hDk (by intro z; cases z)) (k _ _ (tp z hz))
            · rw [List.mem_singleton] at hz
              subst hz
              exact at_upd (ne_of ht hDk (by intro z; cases z)) ht
          · rw [List.map_append] at hz
            rcases List.mem_append.mp hz with hz | hz
            · exact em z hz
            · rw [List.mem_singleton.mp hz]
              exact ⟨ma, mb, lt⟩
        rintro H7 ⟨ed, s7, hD, tp, em, el⟩
        refine rd_catL (s7 _ _ he) hD (by rw [List.length_map, List.length_map]; omega) ?_
        intro l5 fl5
        have k := Same.new (o := .lst ((es.map fun x => V.ref x.1) ++ ed.map fun x => V.ref x.1)) fl5
        have hl5 : upd H7 l5 (.lst ((es.map fun x => V.ref x.1) ++ ed.map fun x => V.ref x.1)) l5 = some (.lst ((es ++ ed).map fun x => V.ref x.1)) := by rw [upd_same, List.map_append]
        wtm_at "rd"
        refine ⟨_, l5, es ++ ed, rfl, g6.same (s7.trans k), (s7.trans k) _ _ hw, hl5, fun x hx => ?_, fun x hx => ?_, (fun x hx => by rw [List.map_append]; exact List.mem_append_left _ hx), by rw [List.length_append]; omega⟩
        · rcases List.mem_append.mp hx with hx | hx
          · exact k _ _ (s7 _ _ (gn6.gr.pairs x hx))
          · exact k _ _ (tp x hx)
        · rw [List.map_append] at hx
          rcases List.mem_append.mp hx with hx | hx
          · exact old x hx
          · obtain ⟨m1, m2, lt⟩ := em x hx
            exact ⟨⟨List.mem_append_right _ m1, List.mem_append_right _ m2⟩, eOf_up lt, fun z => sLt_irrefl _ (z ▸ lt)⟩
      · wtm_at "rd"
        exact ⟨_, le, es, rfl, g6, hw, he, gn6.gr.pairs, old, (fun x hx => hx), by omega⟩
end
end Law

/-! k62's law -/
namespace U
open PySem PySem.Spec PyProof.Rows L2
theorem put_vals {x : Str} {v : Int} {tr : List (Str × Int)} (hv : v = 0 ∨ v = 1 ∨ v = 2) (h : ∀ k ∈ tr, k.2 = 0 ∨ k.2 = 1 ∨ k.2 = 2) : ∀ k ∈ putS tr x v, k.2 = 0 ∨ k.2 = 1 ∨ k.2 = 2 := by
  intro k hk
  unfold putS at hk
  split at hk
  · obtain ⟨y, hy, rfl⟩ := List.mem_map.mp hk
    split
    · exact hv
    · exact h y hy
  · rcases List.mem_append.mp hk with hk | hk
    · exact h k hk
    · rw [List.mem_singleton.mp hk]
      exact hv
theorem ext_vals {ns : List Str} {es : List (Str × Str)} : ∀ {n : Nat} {tr tr' : List (Str × Int)}, extF ns es n tr = some tr' → (∀ k ∈ tr, k.2 = 0 ∨ k.2 = 1 ∨ k.2 = 2) → ∀ k ∈ tr', k.2 = 0 ∨ k.2 = 1 ∨ k.2 = 2
  | 0, tr, tr', h, a => by
    unfold extF at h
    split at h
    · cases h
    · cases h
      exact a
  | n + 1, tr, tr', h, a => by
    unfold extF at h
    split at h
    · cases h
    · rcases Option.or_eq_some_iff.mp h with h | ⟨_, h⟩
      · exact ext_vals h (put_vals (.inl rfl) a)
      · rcases Option.or_eq_some_iff.mp h with h | ⟨_, h⟩
        · exact ext_vals h (put_vals (.inr (.inl rfl)) a)
        · exact ext_vals h (put_vals (.inr (.inr rfl)) a)
/-- no tree is right where a colouring is found -/
theorem none_right {ns : List Str} {es : List (Str × Str)} {p : List Int} (nd : ns.Nodup) (mem : ∀ e ∈ es, e.1 ∈ ns ∧ e.2 ∈ ns) (h : extF ns es ns.length [] = some (ns.zip p)) (l : p.length = ns.length) (n : Nat) (t : Tr) : okT ns es n t [] = false := by
  have at_ : ∀ x ∈ ns, ∃ v, valS (ns.zip p) x = some v ∧ (v = 0 ∨ v = 1 ∨ v = 2) := fun x hx => by
    obtain ⟨i, hi, rfl⟩ := List.mem_iff_getElem.mp hx
    refine ⟨_, valS_zipI nd hi (by omega), ?_⟩
    have m : (ns[i], p[i]'(by omega)) ∈ ns.zip p := by
      rw [List.mem_iff_getElem]
      exact ⟨i, by rw [List.length_zip]; omega, by rw [List.getElem_zip]⟩
    exact ext_vals h (fun k hk => nomatch hk) _ m
  refine okT_sound (f := fun x => (valS (ns.zip p) x).getD 0) (fun x hx => ?_) (fun e he => ?_) n t [] (fun x v hv => nomatch hv)
  · obtain ⟨v, hv, h3⟩ := at_ x hx
    rw [hv]
    exact h3
  · have c := ext_sound h
    unfold confF at c
    have no := List.find?_eq_none.mp c e he
    obtain ⟨v, hv, _⟩ := at_ e.1 (mem e he).1
    obtain ⟨w, hw, _⟩ := at_ e.2 (mem e he).2
    show (valS (ns.zip p) e.1).getD 0 ≠ (valS (ns.zip p) e.2).getD 0
    intro z
    apply no
    unfold isConf
    rw [hv, hw] at z ⊢
    simpa using z
theorem treeF_ref {ns : List Str} {es : List (Str × Str)} {n : Nat} {tr : List (Str × Int)} {W : Addr → Prop} {H : Hp} {v : V} (ex : extF ns es n tr = none) (h : RtAt n W H v (treeF ns es n tr)) : ∃ a, v = .ref a := by
  have t3 := treeF_tri ex
  generalize treeF ns es n tr = t at *
  match n, t, h, t3 with
  | n, .no, h, t3 => unfold Tri at t3; exact t3.elim
  | n, .leaf l x y, h, t3 =>
    unfold RtAt at h
    exact ⟨_, h.choose_spec.1⟩
  | 0, .node _ _ _, h, t3 => unfold Tri at t3; exact t3.elim
  | m + 1, .node l x ts, h, t3 =>
    unfold RtAt at h
    obtain ⟨a, _, _, e, _⟩ := h
    exact ⟨a, e⟩
theorem rd_neNoE2 {K : PySem.W.Frag} {H : Hp} {Q : VK} {p q : Addr} {es : List (Addr × Str × Str)} (hp : SqT K H p (es.map fun x => V.ref x.1)) (pr : ∀ x ∈ es, SqT K H x.1 [.str x.2.1, .str x.2.2]) (hq : SqT K H q []) (ok : ∀ x ∈ es.map (·.2), PyData.strOk x.1 = true ∧ PyData.strOk x.2 = true) (h : Q (.bl (!es.isEmpty)) H) : rNeU K (.ref p) (.ref q) H Q := by
  refine ⟨_, _, .tup hp (dp_edges pr), .tup hq .nil, shaped_edgesT ok, by decide, ?_⟩
  have : PyData.eqv (.tuple ((es.map (·.2)).map dE)) (.tuple []) = es.isEmpty := by
    cases es with
    | nil => simp [PyData.eqv, PyData.eqvAll]
    | cons _ _ => simp [PyData.eqv, PyData.eqvAll]
  rw [this]
  exact h
theorem cutV_fromN {xs : List V} {i : Nat} (h : i ≤ xs.length) : cutV xs (some (i : Int)) none = xs.drop i := by
  unfold cutV
  rw [HT.sIx_nat, Nat.min_eq_left h]
  simp [HT.sIx]
  exact List.take_of_length_le (by rw [List.length_drop]; exact Nat.le_refl _)
end U
namespace Law
open PySem PySem.Spec PyProof.Rows L2 U
local macro_rules | `(tactic| wtm_at "rd1") => `(tactic| first
  | with_reducible refine rd_seq ?_
  | ((with_reducible refine rd_var (v := ?vv) ?hv ?_); (case hv => exact rfl))
  | with_reducible refine rd_c ?_
  | with_reducible refine rd_cons ?_
  | with_reducible refine rd_nil ?_
  | with_reducible refine rd_op ?_
  | with_reducible refine rd_asg ?_
  | with_reducible refine rd_name ?_
  | with_reducible refine rd_c1 ?_
  | with_reducible refine rd_cb ?_
  | with_reducible refine rd_test ?_
  | with_reducible refine rd_B ?_
  | with_reducible refine rd_bl ?_
  | with_reducible refine rd_if ?_
  | with_reducible refine rd_ret ?_
  | with_reducible refine rd_drop ?_
  | with_reducible refine rd_next ?_
  | with_reducible refine rd_addI ?_
  | with_reducible refine rd_ltI ?_
  | with_reducible refine rd_eqI ?_
  | with_reducible refine rd_neI ?_
  | with_reducible refine rd_eqS ?_
  | with_reducible refine rd_neS ?_
  | with_reducible refine rd_gtI ?_
  | with_reducible refine rd_geI ?_
  | with_reducible refine rd_leI ?_
  | with_reducible refine rd_ltS ?_
  | with_reducible refine rd_subI ?_
  | ((with_reducible refine rd_modI ?hc ?_); (case hc => first | decide | omega))
  | ((with_reducible refine rd_mulI ?hc ?_); (case hc => first | exact mul_bI | exact .inl (.inr (by decide)) | exact .inl (.inl (by decide)) | exact .inl (.inr (by omega)) | exact .inl (.inl (by omega))))
  | ((with_reducible refine rd_divI ?hc ?_); (case hc => first | decide | omega))
  | ((with_reducible refine rd_powI ?hc ?_); (case hc => exact ⟨by decide, by decide, by decide⟩))
  | with_reducible refine rd_lst ?_
  | with_reducible refine rd_tup ?_
  | ((with_reducible refine rd_sz ?hv ?_); (case hv => exact rfl))
  | with_reducible refine rd_and ?_
  | with_reducible refine rd_or ?_
  | with_reducible refine rd_not ?_
  | with_reducible refine rd_andV ?_
  | with_reducible refine rd_orV ?_
  | with_reducible refine rd_notV ?_
  | with_reducible refine rd_ifE ?_
  | with_reducible refine rd_T ?_
  | with_reducible refine rd_F ?_
  | with_reducible refine rd_chain ?_
  | with_reducible refine rd_is ?_
  | with_reducible refine rd_isNot ?_
  | with_reducible refine rd_absI ?_
  | with_reducible refine rd_maxI ?_
  | with_reducible refine rd_minI ?_
  | with_reducible refine rd_intI ?_
  | with_reducible refine rd_intB ?_
  | with_reducible refine rd_sub ?_
  | with_reducible refine rd_sl ?_
  | with_reducible refine rd_noPart ?_
  | with_reducible refine rd_part ?_
  | with_reducible refine rd_exI ?_
  | with_reducible refine rd_bm ?_
  | with_reducible refine rd_bm0 ?_
  | with_reducible refine rd_un ?_
  | with_reducible refine rd_neg ?_
  | with_reducible refine rd_c2 ?_
  | with_reducible refine rd_retN ?_
  | with_reducible refine rd_break ?_
  | with_reducible refine rd_cont ?_
  | with_reducible refine rd_for ?_
  | with_reducible refine rd_rng1 ?_
  | with_reducible refine rd_rng2 ?_
  | with_reducible refine rd_iList ?_
  | with_reducible refine rd_iTup ?_
  | with_reducible refine rd_iEnum ?_
  | ((with_reducible refine rd_forR ?h0 ?h1 ?_); (case h0 => omega); (case h1 => omega))
  | with_reducible refine rd_lc ?_
  | with_reducible refine rd_gcons ?_
  | with_reducible refine rd_gnil ?_
  | with_reducible refine rd_dget ?_
  | with_reducible refine rd_dput ?_
  | with_reducible refine rd_dnew ?_
  | with_reducible refine rd_dc ?_
  | with_reducible refine rd_iItems ?_
  | with_reducible refine rd_iKeys ?_
  | with_reducible refine rd_din ?_
  | with_reducible refine rd_lc2 ?_
  | with_reducible refine rd_cd ?_
  | with_reducible refine rd_par ?_
  | with_reducible refine rd_two ?_
  | with_reducible refine rd_reprB ?_
  | with_reducible refine rd_ck ?_
  | ((with_reducible refine rd_len ?hl ?_); (case hl => exact rfl))
  | with_reducible refine rd_nT ?_
  | with_reducible refine rd_nF ?_
  | with_reducible refine rd_dnin ?_
  | with_reducible refine rd_isB ?_
  | with_reducible refine rd_isNotB ?_
  | with_reducible refine rd_daug ?_
  | with_reducible refine rd_yesT ?_
  | ((with_reducible refine rd_wp ?hw ?_); (case hw => exact rfl)))
local macro_rules | `(tactic| wtm_at "rd") => `(tactic| repeat wtm_at "rd1")

theorem rd_slTH {K : PySem.W.Frag} {H : Hp} {Q : VK} {p : Addr} {xs : List V} {lo hi : Option Int} (hs : H p = some (.tup xs)) (h : ∀ (a : Addr) (H' : Hp), Same H H' → H' a = some (.tup (cutV xs lo hi)) → Q (.ref a) H') : rSlU K (.ref p) lo hi H Q := by
  refine .inr ⟨p, xs, rfl, SqT.of hs, fun hw => ?_, fun _ a fa => h a _ (Same.new fa) upd_same⟩
  refine h p H (fun b o h => h) ?_
  have e : cutV xs lo hi = xs := by
    unfold cutV
    rw [hw.1, hw.2]
    simp
  rw [e]
  exact hs
theorem rd_catTH {K : PySem.W.Frag} {H : Hp} {Q : VK} {p q : Addr} {xs ys : List V} (hp : H p = some (.tup xs)) (hq : H q = some (.tup ys)) (hz : xs.length + ys.length ≤ 100000) (h : ∀ (a : Addr) (H' : Hp), Same H H' → H' a = some (.tup (xs ++ ys)) → Q (.ref a) H') : rAddU K (.ref p) (.ref q) H Q := by
  refine .inr ⟨p, q, xs, ys, rfl, rfl, SqT.of hp, SqT.of hq, Nat.le_trans hz (by decide), fun e => ?_, fun _ e => ?_, fun _ _ a fa => h a _ (Same.new fa) upd_same⟩
  · refine h q H (fun b o h => h) ?_
    rw [e]
    exact hq
  · refine h p H (fun b o h => h) ?_
    rw [e, List.append_nil]
    exact hp
def spLaw (K : PySem.W.Frag) : Sp := fun vs H Q _ => ∃ (a : Addr) (nums : List Int), vs = [.ref a] ∧ SqL K H a (nums.map V.int) ∧ nums.length ≤ 63 ∧ ∀ H' : Hp, Q (.bl true) H'
/-- the known tree, if there is one -/
def KnAt (p : Addr) (H : Hp) (ns : List Str) (es : List (Str × Str)) (v : V) : Prop := v = .non ∨ ∃ (W : Addr → Prop), W p ∧ (∀ a, W a → H a ≠ none) ∧ (∃ a, v = .ref a) ∧ extF ns es ns.length [] = none ∧ RtAt ns.length W H v (treeF ns es ns.length [])
theorem KnAt.same {p : Addr} {H H' : Hp} {ns : List Str} {es : List (Str × Str)} {v : V} (h : KnAt p H ns es v) (s : Same H H') : KnAt p H' ns es v := by
  rcases h with h | ⟨W, h1, h2, h3, h4, h5⟩
  · exact .inl h
  · refine .inr ⟨W, h1, fun a wa z => ?_, h3, h4, h5.same s⟩
    cases c : H a with
    | none => exact h2 a wa c
    | some o => rw [s _ _ c] at z; cases z
section
variable {P : Program} {w : World} {K : PySem.W.Frag} {mg : Str → Option Value} {base : Heap}
theorem RtAt.updD {W : Addr → Prop} {H : Hp} {n : Nat} {v : V} {t : Tr} {D : Addr} {xs : List V} {o : HO} (h : RtAt n W H v t) (wd : W D) (hD : H D = some (.lst xs)) : RtAt n W (upd H D o) v t :=
  h.keep (fun a ys z => at_upd (ne_of z hD (by intro z; cases z)) z) fun a ys nw z => at_upd (fun e => nw (e ▸ wd)) z
/-- the trees that are asked -/
def TrsAt (p : Addr) (H : Hp) (n : Nat) (vs : List V) : Prop := ∃ W : Addr → Prop, W p ∧ ∀ y ∈ vs, ∃ t, RtAt n W H y t
theorem TrsAt.same {p : Addr} {H H' : Hp} {n : Nat} {vs : List V} (h : TrsAt p H n vs) (s : Same H H') : TrsAt p H' n vs := by
  obtain ⟨W, wp, h⟩ := h
  exact ⟨W, wp, fun y hy => by
    obtain ⟨t, ht⟩ := h y hy
    exact ⟨t, ht.same s⟩⟩
theorem TrsAt.go {p : Addr} {H H' : Hp} {n : Nat} {vs : List V} (h : TrsAt p H n vs) (hp : PoolAt H p) (g : Go p H H') : TrsAt p H' n vs := by
  obtain ⟨W, wp, h⟩ := h
  exact ⟨W, wp, fun y hy => by
    obtain ⟨t, ht⟩ := h y hy
    exact ⟨t, Law.RtAt.go ht wp hp g⟩⟩
theorem leaf_at {n : Nat} {W : Addr → Prop} {H : Hp} {a : Addr} {l x y : Str} (h : H a = some (.tup [.str l, .str x, .str y])) : RtAt n W H (.ref a) (.leaf l x y) := by
  unfold RtAt
  exact ⟨a, rfl, h⟩
def spChdU : Sp := fun vs H Q E => ∃ n, n ≤ 8 ∧ spChd n vs H Q E
theorem ok_chdU {f : Addr} {fd : FuncData} (F : Fun K "_law_changed" "_law_changed" s__law_changed f fd) (B : Bt mg) (C : DGa P w K mg base) (S : SelfR K mg "_law_changed" f fd ["_law_source", "_law_tree"]) : FnG P w K mg base CX0 10 f fd ["_law_source", "_law_tree"] spChdU := by
  exact ⟨fun vs H Q E h => by
    obtain ⟨m, hm, h⟩ := h
    exact (ok_chd (P := P) (w := w) (base := base) F B C S m).len vs H Q E h, fun A outer s H args us vs Q E hr he hb hv h => by
    obtain ⟨m, hm, h⟩ := h
    exact (ok_chd (P := P) (w := w) (base := base) F B C S m).go A outer s H args us vs Q E (hr.mono (by omega)) he hb hv h⟩
structure N62c (P : Program) (w : World) (K : PySem.W.Frag) (mg : Str → Option Value) (base : Heap) : Prop where
  _law_box : Cal P w K mg base CX0 1 "_law_box" (spBox K)
  _law_draw : Cal P w K mg base CX0 1 "_law_draw" spDraw
  _law_random_graph : Cal P w K mg base CX0 3 "_law_random_graph" spGraphN
  case_tree : Cal P w K mg base CX0 12 "case_tree" spCaseT
  _law_changed : Cal P w K mg base CX0 10 "_law_changed" spChdU
  _law_with_more_nodes : Cal P w K mg base CX0 2 "_law_with_more_nodes" spMore
  is_case_tree : Cal P w K mg base CX0 11 "is_case_tree" (spCaseU K)
  _law_first : Cal P w K mg base CX0 1 "_law_first" (spFirstL K)
  bool : mg "bool" = none
theorem ok_law {f : Addr} {fd : FuncData} (F : Fun K "law" "law" s_law f fd) (B : Bt mg) (C : N62c P w K mg base) : FnG P w K mg base CX0 13 f fd ["_law_script"] (spLaw K) := by
  refine fnG0 F sc_law (fun vs H Q E h => ?_) (fun cdv A outer s H vs Q E hr h => ?_)
  · obtain ⟨a, nums, rfl, _⟩ := h
    rfl
  · have hu65 : (A.deeper (envOfC "law" (defScope s_law) s.heap.objs.size f cdv)).units + 65 < cLine := by
      have := hr.u100
      omega
    obtain ⟨a, nums, rfl, hs, hl, q⟩ := h
    have nd := sc_law.nd
    have hu := hr.u1
    refine ⟨_, (pss_cons (ps_set (i := 1) nd rfl (by first | exact Or.inl rfl | exact Or.inr rfl) (pe_c C._law_box hr (by decide) rfl (pa_cons (pv 0) pa_nil)))
  (pss_cons (ps_set (i := 2) nd rfl (by first | exact Or.inl rfl | exact Or.inr rfl) (pe_c C._law_random_graph hr (by decide) rfl (pa_cons (pv 1) (pa_cons pe_int pa_nil))))
  (pss_cons (ps_set (i := 3) nd rfl (by first | exact Or.inl rfl | exact Or.inr rfl) (pv 2))
  (C8.pss_cut (ps_if (pt_cmpR (kNe K rfl hr.u64) (pe_ix (kIx K rfl) (pv 2) pe_int (fun _ _ => rfl)) (pe_tup pa_nil) (nomark _)) (pss_cons (ps_set (i := 4) nd rfl (by first | exact Or.inl rfl | exact Or.inr rfl) (pe_c C._law_draw hr (by decide) rfl (pa_cons (pv 1) (pa_cons (pe_callB (kLen K rfl) (by rfl) B.len bb_len (pa_cons (pe_ix (kIx K rfl) (pv 2) pe_int (fun _ _ => rfl)) pa_nil)) pa_nil))))
  (pss_one (ps_set (i := 3) nd rfl (by first | exact Or.inl rfl | exact Or.inr rfl) (pe_tup (pa_cons (pe_ix (kIx K rfl) (pv 2) pe_int (fun _ _ => rfl)) (pa_cons (pe_op (kAdd K rfl) (pe_slice (kSl K rfl) (pe_ix (kIx K rfl) (pv 2) pe_int (fun _ _ => rfl)) po_none (po_some (pv 4))) (pe_slice (kSl K rfl) (pe_ix (kIx K rfl) (pv 2) pe_int (fun _ _ => rfl)) (po_some (pe_op (kAdd K rfl) (pv 4) pe_int)) po_none)) pa_nil)))))) pss_nil)
  (C8.pss_cut (ps_set (i := 5) nd rfl (by first | exact Or.inl rfl | exact Or.inr rfl) (pe_c C.case_tree hr (by decide) rfl (pa_cons (pv 2) pa_nil)))
  (pss_cons (ps_setLc (i := 6) (own := [("_law_edge", 7)]) rfl nd rfl rfl (sw_true rfl rfl rfl (by decide +kernel)) (ki_tup K rfl (pe_ix (kIx K rfl) (pv 2) pe_int (fun _ _ => rfl))) (blkOk_by (own := [("_law_edge", 7)]) (N := nN_law) (sc := defScope s_law) (by decide +kernel)) (fun _ _ _ _ _ => (pg_name (i := 7) nd rfl (by first | exact Or.inl rfl | exact Or.inr rfl))) (fun _ _ _ _ _ => pts_nil) (fun _ _ _ _ _ => (pe_tup (pa_cons pe_str (pa_cons (pe_ix (kIx K rfl) (pv 7) pe_int (fun _ _ => rfl)) (pa_cons (pe_ix (kIx K rfl) (pv 7) pe_int (fun _ _ => rfl)) pa_nil))))))
  (C8.pss_cut (ps_if (pt_cmpR uIsNot (pv 5) pe_non (nomark _)) (pss_one (ps_set (i := 6) nd rfl (by first | exact Or.inl rfl | exact Or.inr rfl) (pe_op (kAdd K rfl) (pe_lst (pa_cons (pv 5) pa_nil)) (pe_lc (own := [("_law_k", 8)]) rfl nd (pi_range1 rfl B.range (pa_cons pe_int pa_nil)) (blkOk_by (own := [("_law_k", 8)]) (N := nN_law) (sc := defScope s_law) (by decide +kernel)) (fun _ _ _ _ _ => (pg_name (i := 8) nd rfl (by first | exact Or.inl rfl | exact Or.inr rfl))) (fun _ _ _ _ _ => pts_nil) (fun _ _ _ _ _ => (pe_c C._law_changed hr (by decide) rfl (pa_cons (pv 1) (pa_cons (pv 5) pa_nil)))))))) pss_nil)
  (C8.pss_cut (ps_if (pt_cmpR uIsNot (pv 5) pe_non (nomark _)) (pss_cons (ps_set (i := 9) nd rfl (by first | exact Or.inl rfl | exact Or.inr rfl) (pe_c C._law_with_more_nodes hr (by decide) rfl (pa_cons (pv 1) (pa_cons (pv 2) pa_nil))))
  (pss_cons (ps_if (pt_cmpR uIsNot (pe_c C.is_case_tree hr (by decide) rfl (pa_cons (pv 9) (pa_cons (pv 5) pa_nil))) pe_bl (nomark _)) (pss_one (ps_ret pe_bl)) pss_nil)
  (pss_cons (ps_set (i := 10) nd rfl (by first | exact Or.inl rfl | exact Or.inr rfl) (pe_tup (pa_cons (pe_ix (kIx K rfl) (pv 9) pe_int (fun _ _ => rfl)) (pa_cons (pe_callTy (kTuple K rfl) (by rfl) B.tuple bb_tuple (pa_cons (pe_lc (own := [("_law_edge", 7)]) rfl nd (ki_tup K rfl (pe_ix (kIx K rfl) (pv 9) pe_int (fun _ _ => rfl))) (blkOk_by (own := [("_law_edge", 7)]) (N := nN_law) (sc := defScope s_law) (by decide +kernel)) (fun _ _ _ _ _ => (pg_name (i := 7) nd rfl (by first | exact Or.inl rfl | exact Or.inr rfl))) (fun _ _ _ _ _ => (pts_one (pt_cmpR (kNinT K rfl hu65) (pv 7) (pe_ix (kIx K rfl) (pv 2) pe_int (fun _ _ => rfl)) rfl))) (fun _ _ _ _ _ => (pv 7))) pa_nil)) pa_nil))))
  (pss_one (ps_if (pt_cmpR uIsNot (pe_c C.is_case_tree hr (by decide) rfl (pa_cons (pv 10) (pa_cons (pv 5) pa_nil))) pe_bl (nomark _)) (pss_one (ps_ret pe_bl)) pss_nil))))) pss_nil)
  (pss_cons (ps_for PassesOwn.never rfl (ki_list K rfl (pe_lst (pa_cons (pv 2) (pa_cons (pv 3) pa_nil)))) (pg_name (i := 11) nd rfl (by first | exact Or.inl rfl | exact Or.inr rfl)) (C8.pss_cut (ps_set (i := 12) nd rfl (by first | exact Or.inl rfl | exact Or.inr rfl) (pe_c C._law_first hr (by decide) rfl (pa_cons (pv 11) pa_nil)))
  (pss_one (ps_for PassesOwn.never rfl (ki_list K rfl (pv 6)) (pg_name (i := 13) nd rfl (by first | exact Or.inl rfl | exact Or.inr rfl)) (pss_cons (ps_set (i := 14) nd rfl (by first | exact Or.inl rfl | exact Or.inr rfl) (pe_c C.is_case_tree hr (by decide) rfl (pa_cons (pv 11) (pa_cons (pv 13) pa_nil))))
  (pss_one (ps_if (PW.pt (pw_or (pt_not (pt_val (pe_callB (kIsi K rfl) (by rfl) B.isinstance bb_isinstance (pa_cons (pv 14) (pa_cons (pe_ty rfl C.bool bb_bool) pa_nil))))) (pw_or1 (PW.pt (pw_and (pt_val (pv 14)) (pw_and1 (pt_cmpR uIsNot (pv 12) pe_non (nomark _)))))))) (pss_one (ps_ret pe_bl)) pss_nil)))))))
  (pss_one (ps_ret pe_bl))))))))))), ?_⟩
    wtm_at "rd"
    refine ⟨a, nums, rfl, hs, hl, fun p H1 s1 fp hp => ?_⟩
    wtm_at "rd"
    refine ⟨p, 6, rfl, hp, by decide, by decide, fun g nA e ns es H2 g2 gn ⟨nl, el⟩ => ?_⟩
    have hp2 := g2.pool
    have n6 : ns.length ≤ 6 := by omega
    clear g2 hp s1 fp hs nl
    wtm_at "rd"
    refine ⟨fun σ' H' => ∃ (u4 : Option V) (g2 e2 : Addr) (es2 : List (Addr × Str × Str)), σ' = [some (.ref a), some (.ref p), some (.ref g), some (.ref g2), u4, none, none, none, none, none, none, none, none, none, none] ∧ PoolAt H' p ∧ GrN H' g nA e ns es ∧ GrN H' g2 nA e2 ns es2, ?_, ?_⟩
    · wtm_at "rd"
      refine rd_ixT (SqT.of gn.gr.top) (v := .ref e) rfl ?_
      wtm_at "rd"
      intro t0 ft0
      have k := Same.new (o := .tup []) ft0
      have gn3 := gn.same k
      refine rd_neNoE2 (SqT.of gn3.gr.edges) (fun x hx => SqT.of (gn3.gr.pairs x hx)) (SqT.of upd_same) gn3.sok ?_
      have hp3 := (Go.of_same hp2 k).pool
      generalize upd H2 t0 (.tup []) = H3 at gn3 hp3
      clear k ft0
      wtm_at "rd"
      refine rd_b (fun c => ?_) (fun c => ?_)
      · have e1 : 0 < es.length := by
          cases es with
          | nil => cases c
          | cons _ _ => exact Nat.succ_pos _
        wtm_at "rd"
        refine rd_ixT (SqT.of gn3.gr.top) (v := .ref e) rfl ?_
        wtm_at "rd"
        refine rd_lenT (SqT.of gn3.gr.edges) ?_
        rw [List.length_map]
        wtm_at "rd"
        refine use_draw hp3 (by omega) (by omega) fun at_ H4 a0 a1 g => ?_
        have gn4 := gn3.goM hp3 g
        have hp4 := g.pool
        clear g
        obtain ⟨i, rfl⟩ : ∃ i : Nat, at_ = (i : Int) := ⟨at_.toNat, by omega⟩
        have hi : i < es.length := by omega
        wtm_at "rd"
        refine rd_ixT (SqT.of gn4.gr.top) (v := .ref nA) rfl ?_
        wtm_at "rd"
        refine rd_ixT (SqT.of gn4.gr.top) (v := .ref e) rfl ?_
        wtm_at "rd"
        refine rd_slTH gn4.gr.edges fun ea H5 s5 hea => ?_
        rw [cutV_to (by rw [List.length_map]; omega)] at hea
        wtm_at "rd"
        refine rd_ixT (SqT.of (s5 _ _ gn4.gr.top)) (v := .ref e) rfl ?_
        wtm_at "rd"
        rw [show (i : Int) + 1 = ((i + 1 : Nat) : Int) from rfl]
        refine rd_slTH (s5 _ _ gn4.gr.edges) fun eb H6 s6 heb => ?_
        rw [cutV_fromN (by rw [List.length_map]; omega)] at heb
        wtm_at "rd"
        refine rd_catTH (s6 _ _ hea) heb (by rw [List.length_take, List.length_drop, List.length_map]; omega) fun e2 H7 s7 he2 => ?_
        have s47 := (s5.trans s6).trans s7
        rw [← List.map_take, ← List.map_drop, ← List.map_append] at he2
        wtm_at "rd"
        intro g2 fg2
        have k := Same.new (o := .tup [.ref nA, .ref e2]) fg2
        have hg2 := @upd_same H7 g2 (.tup [.ref nA, .ref e2])
        have gn8 := gn4.same (s47.trans k)
        have sub : ∀ x ∈ es.take i ++ es.drop (i + 1), x ∈ es := fun x hx => by
          rcases List.mem_append.mp hx with hx | hx
          · exact List.mem_of_mem_take hx
          · exact List.mem_of_mem_drop hx
        have subm : ∀ x ∈ (es.take i ++ es.drop (i + 1)).map (·.2), x ∈ es.map (·.2) := fun x hx => by
          obtain ⟨y, hy, rfl⟩ := List.mem_map.mp hx
          exact List.mem_map_of_mem (sub y hy)
        refine ⟨_, g2, e2, es.take i ++ es.drop (i + 1), rfl, (Go.of_same hp4 (s47.trans k)).pool, gn8, ⟨⟨hg2, gn8.gr.nodes, k _ _ he2, fun x hx => gn8.gr.pairs x (sub x hx)⟩, gn.nm, gn.nd, fun x hx => gn.mem x (subm x hx), fun x hx => gn.so x (subm x hx), fun x hx => gn.ne x (subm x hx), gn.l1, ?_⟩⟩
        rw [List.length_append, List.length_take, List.length_drop]
        omega
      · wtm_at "rd"
        exact ⟨_, g, e, es, rfl, hp3, gn3, gn3⟩
    rintro σ H3 ⟨u4, g2, e2, es2, rfl, hp3, gn3, gm3⟩
    clear hp2 gn
    wtm_at "rd"
    refine ⟨fun σ' H' => ∃ v : V, σ' = [some (.ref a), some (.ref p), some (.ref g), some (.ref g2), u4, some v, none, none, none, none, none, none, none, none, none] ∧ PoolAt H' p ∧ GrN H' g nA e ns es ∧ GrN H' g2 nA e2 ns es2 ∧ KnAt p H' ns (es.map (·.2)) v, ?_, ?_⟩
    · wtm_at "rd"
      refine ⟨g, nA, e, ns, es, rfl, gn3, by omega, fun H4 s4 tr' ex => ?_, fun v H4 s4 ex rt => ?_⟩
      · wtm_at "rd"
        exact ⟨_, rfl, (Go.of_same hp3 s4).pool, gn3.same s4, gm3.same s4, .inl rfl⟩
      · wtm_at "rd"
        refine ⟨_, rfl, (Go.of_same hp3 s4).pool, gn3.same s4, gm3.same s4, .inr ⟨_, fun z => ?_, fun a wa z => ?_, treeF_ref ex rt, ex, rt⟩⟩
        · exact hp3.ne z rfl
        · cases c : H3 a with
          | none => exact wa c
          | some o => rw [s4 _ _ c] at z; cases z
    rintro σ H4 ⟨v, rfl, hp4, gn4, gm4, kn4⟩
    clear hp3 gn3 gm3
    wtm_at "rd"
    refine rd_ixT (SqT.of gn4.gr.top) (v := .ref e) rfl ?_
    refine rd_forT (SqT.of gn4.gr.edges) ?_
    intro D fD
    refine lcT (K := K) (xs := es.map fun x => V.ref x.1) (fun i H' => Same H4 H' ∧ ∃ cs : List (Addr × Str × Str), H' D = some (.lst (cs.map fun c => V.ref c.1)) ∧ cs.length = i ∧ ∀ c ∈ cs, H' c.1 = some (.tup [.str "conflict", .str c.2.1, .str c.2.2])) ⟨Same.new fD, [], upd_same, rfl, fun c hc => nomatch hc⟩ ?_ ?_ ?_
    · rintro i H' hi ⟨sb, _⟩
      exact SqT.of (sb _ _ gn4.gr.edges)
    · rintro i y H' hy ⟨sb, cs, hD, cl, hcs⟩
      obtain ⟨hi, rfl⟩ := map_at hy
      have pr := sb _ _ (gn4.gr.pairs _ (List.getElem_mem hi))
      generalize es[i] = x at *
      wtm_at "rd"
      refine rd_ixT (SqT.of pr) (v := .str x.2.1) rfl ?_
      wtm_at "rd"
      refine rd_ixT (SqT.of pr) (v := .str x.2.2) rfl ?_
      wtm_at "rd"
      intro t ft
      have k := Same.new (o := .tup [.str "conflict", .str x.2.1, .str x.2.2]) ft
      have ht := @upd_same H' t (.tup [.str "conflict", .str x.2.1, .str x.2.2])
      refine rd_acc (k _ _ hD) (by rw [List.length_map]; omega) ?_
      have hDk := k _ _ hD
      refine ⟨same_put (sb.trans k) fD, cs ++ [(t, x.2.1, x.2.2)], by rw [upd_same, List.map_append]; rfl, by rw [List.length_append, cl]; rfl, fun c hc => ?_⟩
      rcases List.mem_append.mp hc with hc | hc
      · exact at_upd (ne_of (k _ _ (hcs c hc)) hDk (by intro z; cases z)) (k _ _ (hcs c hc))
      · rw [List.mem_singleton] at hc
        subst hc
        exact at_upd (ne_of ht hDk (by intro z; cases z)) ht
    rintro H5 ⟨s5, cs, hD, cl, hcs⟩
    rw [List.length_map] at cl
    have hp5 := (Go.of_same hp4 s5).pool
    have gn5 := gn4.same s5
    have gm5 := gm4.same s5
    have kn5 := kn4.same s5
    have nDp : D ≠ p := Ne.symm (hp4.ne fD)
    clear hp4 gn4 gm4 kn4 s5 fD
    wtm_at "rd"
    refine ⟨fun σ' H' => ∃ (lt : Addr) (vs : List V) (u7 u8 : Option V), σ' = [some (.ref a), some (.ref p), some (.ref g), some (.ref g2), u4, some v, some (.ref lt), u7, u8, none, none, none, none, none, none] ∧ PoolAt H' p ∧ GrN H' g nA e ns es ∧ GrN H' g2 nA e2 ns es2 ∧ KnAt p H' ns (es.map (·.2)) v ∧ H' lt = some (.lst vs) ∧ lt ≠ p ∧ TrsAt p H' ns.length vs, ?_, ?_⟩
    · wtm_at "rd"
      rcases kn5 with rfl | ⟨W, wp, wo, ⟨ka, rfl⟩, ex, rt⟩
      · refine rd_nno rfl ?_
        wtm_at "rd"
        refine ⟨D, cs.map fun c => V.ref c.1, _, _, rfl, hp5, gn5, gm5, .inl rfl, hD, nDp, fun _ => True, trivial, fun y hy => ?_⟩
        obtain ⟨c, hc, rfl⟩ := List.mem_map.mp hy
        exact ⟨_, leaf_at (hcs c hc)⟩
      · refine rd_nyes (fun z => by cases z) ?_
        wtm_at "rd"
        intro l1 fl1
        have k := Same.new (o := .lst [.ref ka]) fl1
        have hl1 := @upd_same H5 l1 (.lst [.ref ka])
        have n1p : l1 ≠ p := Ne.symm (hp5.ne fl1)
        have wo : ∀ b, W b → upd H5 l1 (.lst [.ref ka]) b ≠ none := fun b wb z => wo b wb (new_old z)
        have rt := rt.same k
        have gn6 := gn5.same k
        have gm6 := gm5.same k
        have hp6 := (Go.of_same hp5 k).pool
        generalize upd H5 l1 (.lst [.ref ka]) = H6 at k hl1 rt gn6 gm6 hp6 wo
        clear gn5 gm5 hp5 hcs hD k fl1
        wtm_at "rd"
        intro D2 fD2
        have n2p : D2 ≠ p := Ne.symm (hp6.ne fD2)
        have n12 : l1 ≠ D2 := ne_of_none hl1 fD2
        have rt1 := RtAt.grow fD2 rt
        have k := Same.new (o := .lst []) fD2
        have W1p : (fun b => b = D2 ∨ W b) p := .inr wp
        refine lcR (fun i H' => ∃ vs : List V, Go p H6 H' ∧ H' D2 = some (.lst vs) ∧ vs.length = i ∧ (∀ y ∈ vs, ∃ t, RtAt ns.length (fun b => b = D2 ∨ W b) H' y t) ∧ RtAt ns.length (fun b => b = D2 ∨ W b) H' (.ref ka) (treeF ns (es.map (·.2)) ns.length [])) ⟨[], Go.of_same hp6 k, upd_same, rfl, (fun y hy => nomatch hy), rt1.same k⟩ ?_ ?_
        · rintro i H7 hi ⟨vs, g7, hD2, vl, hvs, rt7⟩
          wtm_at "rd"
          refine ⟨ns.length, by omega, p, .ref ka, _, fun b => b = D2 ∨ W b, rfl, g7.pool, .inr wp, fun b wb z => ?_, rt7, treeF_tri ex, fun v' t' H8 g8 rt8 => ?_⟩
          · rcases wb with rfl | wb
            · rw [hD2] at z
              cases z
            · exact wo b wb (g7.free b z)
          · have hD2 := g8.at hD2 n2p
            have hvs : ∀ y ∈ vs ++ [v'], ∃ t, RtAt ns.length (fun b => b = D2 ∨ W b) H8 y t := fun y hy => by
              rcases List.mem_append.mp hy with hy | hy
              · obtain ⟨t, ht⟩ := hvs y hy
                exact ⟨t, Law.RtAt.go ht (.inr wp) g7.pool g8⟩
              · rw [List.mem_singleton.mp hy]
                exact ⟨t', rt8⟩
            have rt8 := Law.RtAt.go rt7 (.inr wp) g7.pool g8
            refine rd_acc hD2 (by omega) ?_
            refine ⟨vs ++ [v'], (g7.trans g8).put fD2 (Ne.symm n2p), upd_same, by rw [List.length_append, vl]; rfl, fun y hy => ?_, Law.RtAt.updD rt8 (.inl rfl) hD2⟩
            obtain ⟨t, ht⟩ := hvs y hy
            exact ⟨t, Law.RtAt.updD ht (.inl rfl) hD2⟩
        rintro H7 ⟨vs, g7, hD2, vl, hvs, rt7⟩
        have vl : vs.length = 4 := vl
        refine rd_catL (g7.at hl1 n1p) hD2 (by rw [vl]; show 1 + 4 ≤ 100000; decide) ?_
        intro lt flt
        have k := Same.new (o := .lst ([.ref ka] ++ vs)) flt
        have hlt := @upd_same H7 lt (.lst ([.ref ka] ++ vs))
        have nlp : lt ≠ p := Ne.symm (g7.pool.ne flt)
        wtm_at "rd"
        refine ⟨lt, _, _, _, rfl, (Go.of_same g7.pool k).pool, (gn6.goM hp6 g7).same k, (gm6.goM hp6 g7).same k, .inr ⟨fun b => b = D2 ∨ W b, .inr wp, fun b wb z => ?_, ⟨ka, rfl⟩, ex, rt7.same k⟩, hlt, nlp, fun b => b = D2 ∨ W b, .inr wp, fun y hy => ?_⟩
        · have z := new_old z
          rcases wb with rfl | wb
          · rw [hD2] at z
            cases z
          · exact wo b wb (g7.free b z)
        · rcases List.mem_cons.mp hy with rfl | hy
          · exact ⟨_, rt7.same k⟩
          · obtain ⟨t, ht⟩ := hvs y hy
            exact ⟨t, ht.same k⟩
    rintro σ H6 ⟨lt, vs, u7, u8, rfl, hp6, gn6, gm6, kn6, hlt, nlp, trs⟩
    clear hp5 gn5 gm5 kn5 hD hcs nDp
    wtm_at "rd"
    refine ⟨fun σ' H' => ∃ u7 u9 u10 : Option V, σ' = [some (.ref a), some (.ref p), some (.ref g), some (.ref g2), u4, some v, some (.ref lt), u7, u8, u9, u10, none, none, none, none] ∧ GrN H' g nA e ns es ∧ GrN H' g2 nA e2 ns es2 ∧ H' lt = some (.lst vs) ∧ TrsAt p H' ns.length vs, ?_, ?_⟩
    · wtm_at "rd"
      rcases kn6 with rfl | ⟨W, wp, wo, ⟨ka, rfl⟩, ex, rt⟩
      · refine rd_nno rfl ?_
        wtm_at "rd"
        exact ⟨_, _, _, rfl, gn6, gm6, hlt, trs⟩
      · refine rd_nyes (fun z => by cases z) ?_
        have ok := treeF_ok gn6.nd gn6.so gn6.mem (n := ns.length) (tr := []) ⟨rfl, Nat.zero_le _⟩ (by simp) ex
        generalize treeF ns (es.map (·.2)) ns.length [] = tk at *
        wtm_at "rd"
        refine ⟨p, g, nA, e, ns, es, rfl, hp6, gn6, by omega, el, fun g3 nA3 e3 ns3 es3 H7 g7 gk ni ei => ?_⟩
        have rt := Law.RtAt.go rt wp hp6 g7
        have gn7 := gn6.goM hp6 g7
        have gm7 := gm6.goM hp6 g7
        have hlt := g7.at hlt nlp
        have trs := trs.go hp6 g7
        clear g7 hp6 gn6 gm6 wo
        have okM := okT_more ni ei ok
        wtm_at "rd"
        refine ⟨g3, nA3, e3, W, .ref ka, ns3, es3, ns.length, tk, rfl, gk, by omega, rt, fun H8 s8 => ?_⟩
        rw [okM]
        wtm_at "rd"
        refine rd_nno rfl ?_
        have rt := rt.same s8
        have gn8 := gn7.same s8
        have gm8 := gm7.same s8
        have gk8 := gk.same s8
        have hlt := s8 _ _ hlt
        have trs := trs.same s8
        clear s8 gn7 gm7 gk
        wtm_at "rd"
        refine rd_ixT (SqT.of gk8.gr.top) (v := .ref nA3) rfl ?_
        wtm_at "rd"
        refine rd_ixT (SqT.of gk8.gr.top) (v := .ref e3) rfl ?_
        refine rd_forT (SqT.of gk8.gr.edges) ?_
        intro D fD
        refine lcT (K := K) (xs := es3.map fun x => V.ref x.1) (fun i H' => Same H8 H' ∧ H' D = some (.lst (((es3.take i).filter fun x => !decide (x.2 ∈ es.map (·.2))).map fun x => V.ref x.1))) ⟨Same.new fD, upd_same⟩ ?_ ?_ ?_
        · rintro i H' hi ⟨sb, _⟩
          exact SqT.of (sb _ _ gk8.gr.edges)
        · rintro i y H' hy ⟨sb, hD⟩
          obtain ⟨hi, rfl⟩ := map_at hy
          have xm := List.getElem_mem hi
          have pr := sb _ _ (gk8.gr.pairs _ xm)
          have tk := tk_snoc2 hi
          have sok := gk8.sok _ (List.mem_map_of_mem (f := (·.2)) xm)
          have fl : ((es3.take i).filter fun x => !decide (x.2 ∈ es.map (·.2))).length ≤ 2000 := Nat.le_trans (List.length_filter_le _ _) (Nat.le_trans (List.length_take_le' _ _) gk8.l2)
          rw [tk, List.filter_append, List.filter_cons, List.filter_nil]
          generalize es3[i] = x at *
          have gnb := gn8.same sb
          wtm_at "rd"
          refine rd_ixT (SqT.of gnb.gr.top) (v := .ref e) rfl ?_
          refine rd_ninTE (e := x.2) (SqT.of pr) (SqT.of gnb.gr.edges) (fun x hx => SqT.of (gnb.gr.pairs x hx)) sok gnb.sok ?_
          wtm_at "rd"
          refine rd_b (fun c => ?_) (fun c => ?_)
          · rw [if_pos c]
            wtm_at "rd"
            refine rd_acc hD (by rw [List.length_map]; omega) ?_
            exact ⟨same_put sb fD, by rw [upd_same, List.map_append]; rfl⟩
          · rw [if_neg (by rw [c]; exact Bool.false_ne_true), List.append_nil]
            wtm_at "rd"
            exact ⟨sb, hD⟩
        rintro H9 ⟨s9, hD⟩
        rw [List.length_map, List.take_length] at hD
        have sub : ∀ x ∈ es3.filter (fun x => !decide (x.2 ∈ es.map (·.2))), x ∈ es3 ∧ x.2 ∉ es.map (·.2) := fun x hx => by
          obtain ⟨m1, m2⟩ := List.mem_filter.mp hx
          exact ⟨m1, by simpa using m2⟩
        have fl := List.length_filter_le (fun x : Addr × Str × Str => !decide (x.2 ∈ es.map (·.2))) es3
        generalize es3.filter (fun x => !decide (x.2 ∈ es.map (·.2))) = es4 at *
        refine rd_tupleL (SqL.of hD) ?_
        intro e4 fe4
        have k := Same.new (o := .tup (es4.map fun x => V.ref x.1)) fe4
        have he4 := @upd_same H9 e4 (.tup (es4.map fun x => V.ref x.1))
        have s10 := s9.trans k
        generalize upd H9 e4 (.tup (es4.map fun x => V.ref x.1)) = Ha at k he4 s10
        wtm_at "rd"
        intro g4 fg4
        have k2 := Same.new (o := .tup [.ref nA3, .ref e4]) fg4
        have hg4 := @upd_same Ha g4 (.tup [.ref nA3, .ref e4])
        have sb := s10.trans k2
        have gk9 := gk8.same sb
        have mm : ∀ x ∈ es4.map (·.2), x ∈ es3.map (·.2) ∧ x ∉ es.map (·.2) := fun x hx => by
          obtain ⟨y, hy, rfl⟩ := List.mem_map.mp hx
          exact ⟨List.mem_map_of_mem (sub y hy).1, (sub y hy).2⟩
        have g4n : GrN (upd Ha g4 (.tup [.ref nA3, .ref e4])) g4 nA3 e4 ns3 es4 := ⟨⟨hg4, gk9.gr.nodes, k2 _ _ he4, fun x hx => gk9.gr.pairs x (sub x hx).1⟩, gk9.nm, gk9.nd, fun x hx => gk9.mem x (mm x hx).1, fun x hx => gk9.so x (mm x hx).1, fun x hx => gk9.ne x (mm x hx).1, gk9.l1, Nat.le_trans fl gk9.l2⟩
        generalize upd Ha g4 (.tup [.ref nA3, .ref e4]) = Hb at g4n sb
        have bad := okT_none ok (es2 := es4.map (·.2)) (fun x hx hz => (mm x hz).2 hx) (ns2 := ns3)
        wtm_at "rd"
        refine ⟨g4, nA3, e4, W, .ref ka, ns3, es4, ns.length, tk, rfl, g4n, by omega, rt.same sb, fun Hc sc => ?_⟩
        rw [bad]
        wtm_at "rd"
        refine rd_nno rfl ?_
        have sz := sb.trans sc
        wtm_at "rd"
        exact ⟨_, _, _, rfl, gn8.same sz, gm8.same sz, sz _ _ hlt, trs.same sz⟩
    rintro σ H7 ⟨u7, u9, u10, rfl, gn7, gm7, hlt, ⟨W, wp, trs⟩⟩
    clear hp6 gn6 gm6 kn6 nlp
    wtm_at "rd"
    intro l2 fl2
    have k := Same.new (o := .lst [.ref g, .ref g2]) fl2
    have hl2 := @upd_same H7 l2 (.lst [.ref g, .ref g2])
    have gn8 := gn7.same k
    have gm8 := gm7.same k
    have hlt := k _ _ hlt
    have trs : ∀ y ∈ vs, ∃ t, RtAt ns.length W (upd H7 l2 (.lst [.ref g, .ref g2])) y t := fun y hy => by
      obtain ⟨t, ht⟩ := trs y hy
      exact ⟨t, ht.same k⟩
    generalize upd H7 l2 (.lst [.ref g, .ref g2]) = H8 at hl2 gn8 gm8 hlt trs
    clear k fl2 gn7 gm7
    refine rd_forL (SqL.of hl2) ?_
    refine turnsL (K := K) (xs := [.ref g, .ref g2]) (fun i σ H' => ∃ u11 u12 u13 u14 : Option V, σ = [some (.ref a), some (.ref p), some (.ref g), some (.ref g2), u4, some v, some (.ref lt), u7, u8, u9, u10, u11, u12, u13, u14] ∧ Same H8 H') ⟨_, _, _, _, rfl, fun _ _ h => h⟩ ?_ ?_ ?_
    · rintro i σ H' hi ⟨u11, u12, u13, u14, rfl, sb⟩
      exact SqL.of (sb _ _ hl2)
    · rintro i y σ H' hy ⟨u11, u12, u13, u14, rfl, sb⟩
      have ym := List.mem_of_getElem? hy
      obtain ⟨gx, ex, esx, rfl, gx8⟩ : ∃ gx ex esx, y = .ref gx ∧ GrN H8 gx nA ex ns esx := by
        simp only [List.mem_cons, List.not_mem_nil, or_false] at ym
        rcases ym with rfl | rfl
        · exact ⟨g, e, es, rfl, gn8⟩
        · exact ⟨g2, e2, es2, rfl, gm8⟩
      have gx9 := gx8.same sb
      wtm_at "rd"
      refine ⟨fun σ' H2 => ∃ v12 : V, σ' = [some (.ref a), some (.ref p), some (.ref g), some (.ref g2), u4, some v, some (.ref lt), u7, u8, u9, u10, some (.ref gx), some v12, u13, u14] ∧ Same H8 H2 ∧ (v12 = .non ∨ ∀ n t, okT ns (esx.map (·.2)) n t [] = false), ?_, ?_⟩
      · wtm_at "rd"
        refine ⟨gx, nA, ex, ns, esx, rfl, gx9, by omega, fun H2 s2 _ => ?_, fun H2 l p2 s2 fx pl _ _ => ?_⟩
        · wtm_at "rd"
          exact ⟨_, rfl, sb.trans s2, .inl rfl⟩
        · wtm_at "rd"
          exact ⟨_, rfl, sb.trans s2, .inr (none_right gx9.nd gx9.mem fx pl)⟩
      rintro σ H2 ⟨v12, rfl, s2, no⟩
      clear sb gx9
      wtm_at "rd"
      refine rd_forL (SqL.of (s2 _ _ hlt)) ?_
      refine turnsL (K := K) (xs := vs) (fun i σ H' => ∃ u13 u14 : Option V, σ = [some (.ref a), some (.ref p), some (.ref g), some (.ref g2), u4, some v, some (.ref lt), u7, u8, u9, u10, some (.ref gx), some v12, u13, u14] ∧ Same H8 H') ⟨_, _, rfl, s2⟩ ?_ ?_ ?_
      · rintro i σ H' hi ⟨u13, u14, rfl, sb⟩
        exact SqL.of (sb _ _ hlt)
      · rintro i y σ H' hy ⟨u13, u14, rfl, sb⟩
        obtain ⟨t, ht⟩ := trs y (List.mem_of_getElem? hy)
        wtm_at "rd"
        refine ⟨gx, nA, ex, W, y, ns, esx, ns.length, t, rfl, gx8.same sb, by omega, ht.same sb, fun H3 s3 => ?_⟩
        have nb : okT ns (esx.map (·.2)) ns.length t [] = true → v12 = .non := fun z => by
          rcases no with h | h
          · exact h
          · rw [h] at z
            cases z
        generalize okT ns (esx.map (·.2)) ns.length t [] = b at nb
        wtm_at "rd"
        refine rd_isi (a := .bl) (.base (.bl _)) rfl ?_
        rw [show isT Ty.bl Ty.bl = true from rfl]
        wtm_at "rd"
        refine rd_b (fun c => ?_) (fun c => ?_)
        · rw [nb c]
          wtm_at "rd"
          exact ⟨_, _, rfl, sb.trans s3⟩
        · wtm_at "rd"
          exact ⟨_, _, rfl, sb.trans s3⟩
      · rintro σ H3 ⟨u13, u14, rfl, sb⟩
        exact ⟨_, _, _, _, rfl, sb⟩
    · rintro σ H9 ⟨u11, u12, u13, u14, rfl, sb⟩
      wtm_at "rd"
      exact q _
end
end Law

/-! a lambda with parameters and without captured names: entered -/
namespace U
open PySem PySem.Spec PyProof.Rows L2
abbrev lamFn (q : Str) (params : Arguments) (body : Expr) (scope : Scope) (pm : Value) (c' : Addr) (ctv : Value) : FuncData := PySem.W.kla_fn "<lambda>" q params body scope [] pm (.ref c') ctv
theorem run_lam {CX : CXT} {P : Program} {w : World} {K : PySem.W.Frag} {mg : Str → Option Value} {base : Heap} {k : Nat} {f c' : Addr} {q : Str} {params : Arguments} {body : Expr} {scope : Scope} {pm ctv : Value} {N ps : List Str} (S : FnScope N ps scope)
    {A : Around} {outer : List Env} {s : Shared} {H : Hp} {args : Args} {us : List Value} {vs : List V} {Q : VK} {E : XK} (ho : s.heap.get? f = some (PySem.W.kla_obj "<lambda>" q params body scope [] pm c' ctv)) (hc : s.heap.CodeRec (.ref c') q)
    (hr : Room (k + 1) A) (e0 : Env0 P w K mg base A outer s H) (hb : BindsTo s (lamFn q params body scope pm c' ctv) args (ps.zip us)) (r : Vals vs us) (hl : vs.length = ps.length)
    (hbody : Room k (A.deeper (envOfC q scope s.heap.objs.size f (.ref c'))) → ∃ t, PE (cxOf CX P w K mg base N q scope f (.ref c') A outer s H E) body t ∧ t (L2.start N vs) H Q) :
    codeAny (model P w) A (.call (.ref f) args) (CR CX outer P w H s Q E) s := by
  have lim : s.heap.NoLimit := e0.mod.nolimit.keeps fun b o e => (e0.bs b o e).1
  have kinds : ∀ y ∈ ps.zip us, scope.names.lookup y.1 = some .local ∨ (scope.names.lookup y.1 = some .cell ∧ ((cellsFrom (s.heap.objs.size + 1) scope.names []).lookup y.1).isSome = true) := fun y hy => by
    rcases S.par y.1 (List.of_mem_zip (show (y.1, y.2) ∈ ps.zip us from hy)).1 with z | z
    · exact .inl z
    · exact .inr ⟨z, PySem.W.cellsFrom_some _ _ _ (.inl z)⟩
  refine PySem.W.kla_callFunE hr.depth ho rfl S.co S.gen rfl hc (hb _ _ _ _ ?_)
  refine wpAny_newFunctionEnv_cells S.kind kinds fun env he s1 x => ?_
  subst he
  obtain ⟨t, ht, hq⟩ := hbody (hr.deeper _)
  have I : Inv (cxOf CX P w K mg base N q scope f (.ref c') A outer s H E) [] (L2.start N vs) H s1 := inv_start S hr.hd e0 hl r x
  refine ⟨lim.keeps x.toInCall.keep, PySem.W.kla_codeExpr (wpAny_mono (ht.run [] s1 _ H Q I hq) (fun u s' hs => ?_) fun e s' hs => hs)⟩
  obtain ⟨v, H', J, rv, hQ⟩ := hs
  exact ⟨v, H', J.os, J.bare, J.base, J.hok, rv, hQ⟩
end U
namespace U
open PySem PySem.Spec PyProof.Rows L2 PySem.W
def dKey (names : List Str) : PyData := .tuple [.int (names.length : Int), .list (names.map PyData.str)]
theorem alike_strs : ∀ xs ys : List Str, alikeAll (xs.map PyData.str) (ys.map PyData.str) = true
  | [], ys => by cases ys <;> simp [alikeAll]
  | x :: xs, [] => by simp [alikeAll]
  | x :: xs, y :: ys => by
    rw [List.map_cons, List.map_cons, alikeAll, alike_strs xs ys]
    simp [alike]
theorem alike_key (xs ys : List Str) : alike (dKey xs) (dKey ys) = true := by
  unfold dKey
  simp [alike, alikeAll, alike_strs]
theorem depth_key (xs : List Str) : (dKey xs).depth ≤ 3 := by
  have e : ∀ xs : List Str, PyData.depthAll (xs.map PyData.str) = 0 := fun xs => by
    induction xs with
    | nil => simp [PyData.depthAll]
    | cons x r ih => rw [List.map_cons, PyData.depthAll, PyData.depth, ih]; rfl
  unfold dKey
  simp [PyData.depth, PyData.depthAll, e]
theorem reads_strs {h : Heap} : ∀ {xs : List Str} {us : List Value}, Vals (xs.map V.str) us → ∃ as, ReadsAll h us (xs.map PyData.str) as
  | [], _, r => by
    cases r
    exact ⟨_, .nil⟩
  | x :: xs, _, r => by
    cases r with
    | cons r rr =>
      obtain ⟨tk, rfl⟩ := r
      obtain ⟨as, ra⟩ := reads_strs rr
      exact ⟨_, .cons (.str x tk) ra⟩
end U
namespace U
open PySem PySem.Spec PyProof.Rows L2 PySem.W
/-- no more than new things, the callers' frames but for their slots -/
def Jm (X : Cx) (s0 s' : Shared) : Prop := s'.os = s0.os ∧ AllBare s'.gens ∧ Un (frs X.stack) [] (fun _ => none) (fun _ => none) s0.heap s'.heap
def Vm (X : Cx) (av : List Addr) (items : List (Addr × List Str)) (i : Nat) (k : Value) (s' : Shared) : Prop :=
  ∃ (t a : Addr) (names : List Str) (tk : Tok), items[i]? = some (a, names) ∧ k = .ref t ∧ t ∉ av ∧ t ∉ frs X.stack ∧ IsTup s'.heap t #[.int (names.length : Int) tk, .ref a]
/-- the paths stand, known to the object -/
def Hc (H : Hp) (s0 : Shared) (items : List (Addr × List Str)) : Hp := fun b => match H b, s0.heap.get? b with
  | some (.lst xs), some o => if b ∈ items.map (·.1) then some (.frz o (.lst xs)) else none
  | _, _ => none
theorem hc_some {H : Hp} {s0 : Shared} {items : List (Addr × List Str)} {b : Addr} {u : HO} (h : Hc H s0 items b = some u) : ∃ xs o, H b = some (.lst xs) ∧ s0.heap.get? b = some o ∧ u = .frz o (.lst xs) := by
  unfold Hc at h
  split at h
  · rename_i xs o e1 e2
    split at h
    · exact ⟨xs, o, e1, e2, (Option.some.inj h).symm⟩
    · cases h
  · cases h
theorem hc_none {H : Hp} {s0 : Shared} {items : List (Addr × List Str)} {b : Addr} (h : H b = none) : Hc H s0 items b = none := by
  cases e : Hc H s0 items b with
  | none => rfl
  | some u =>
    obtain ⟨xs, o, e1, _⟩ := hc_some e
    rw [h] at e1
    cases e1
theorem hc_new {H : Hp} {s0 : Shared} {items : List (Addr × List Str)} {b : Addr} (h : s0.heap.get? b = none) : Hc H s0 items b = none := by
  cases e : Hc H s0 items b with
  | none => rfl
  | some u =>
    obtain ⟨xs, o, _, e1, _⟩ := hc_some e
    rw [h] at e1
    cases e1
section
variable {X : Cx} {pins : List (Addr × Obj)} {σ : L2.St} {H : Hp} {s0 s : Shared}
theorem Jm.refl (I : Inv X pins σ H s0) : Jm X s0 s0 := ⟨rfl, I.bare, Un.refl⟩
theorem Jm.inv (I : Inv X pins σ H s0) (j : Jm X s0 s) : Inv X pins σ H s := by
  obtain ⟨os, bare, un⟩ := j
  have e0 := I.env0
  have raw : ∀ b u, H b = some u → ∀ o, s0.heap.get? b = some o → s.heap.get? b = some o := fun b u hb o ho => un.keep b o ho rfl (fun z => by rw [e0.frf b z] at hb; cases hb) (by simp)
  refine I.call' (ch := []) os ⟨fun b o e _ h1 h2 => un.keep b o e rfl h1 h2, fun b o e _ h1 h2 => un.slot b o e rfl h1 h2, fun _ _ _ n _ => n, un.there, fun _ _ q => q, fun _ _ _ q => q, fun _ ps q => ⟨#[], by rw [q]; simp⟩⟩ (fun a u e => ?_) bare (fun b hb => absurd hb (by simp))
  refine (I.hok a u e).stay (fun b o hb ho => ?_) (fun _ q => q) fun _ _ q => q
  rcases hb with rfl | hb
  · exact raw _ _ e o ho
  · exact raw _ _ hb o ho
variable {A : Around} {q : Str} {params : Arguments} {body : Expr} {scope : Scope} {pm ctv : Value} {f c' l : Addr} {items : List (Addr × List Str)} {its : List Value} {N : List Str} {p : Str} {tb : TE} {k : Nat}
theorem in1_room (h : Room (k + 2) A) : Room (k + 1) A.in1 := by
  have a := h.dp
  have b := h.un
  refine ⟨h.hd, ?_, ?_⟩
  · have : A.in1.depth = A.depth := rfl
    omega
  · have : A.in1.units = A.units + 1 := rfl
    omega
theorem fr_old (I : Inv X pins σ H s0) {b : Addr} (hb : b ∈ frs X.stack) : ∃ o, s0.heap.get? b = some o := by
  obtain ⟨_, o, ho, _⟩ := I.env0.funs.mem hb
  exact ⟨o, ho⟩
theorem env_c (I : Inv X pins σ H s0) (j : Jm X s0 s) : Env0 X.prog X.w X.K X.mg X.base X.A.in1 X.stack s (Hc H s0 items) := by
  have e := (j.inv I).env0
  refine ⟨e.frames, e.mod, fun b o h => ⟨(e.bs b o h).1, hc_none (e.bs b o h).2⟩, e.bsz, e.funs, fun b hb => hc_none (e.frf b hb), fun a u h => ?_, e.bare⟩
  obtain ⟨xs, o, h1, h2, rfl⟩ := hc_some h
  have k := e.hok a _ h1
  exact ⟨j.2.2.keep a o h2 rfl (fun z => by rw [e.frf a z] at h1; cases h1) (by simp), k⟩
/-- what the call of the lambda keeps -/
theorem lam_kept (I : Inv X pins σ H s0) (j : Jm X s0 s) {s' : Shared} {H' : Hp} (un : Un (frs X.stack) [] (Hc H s0 items) H' s.heap s'.heap) (hok : HOk X.prog X.w H' s'.heap) {b : Addr} {o : Obj} (ho : s.heap.get? b = some o) (hb : b ∉ frs X.stack) : s'.heap.get? b = some o := by
  cases e : Hc H s0 items b with
  | none => exact un.keep b o ho e hb (by simp)
  | some u =>
    obtain ⟨xs, o2, h1, h2, rfl⟩ := hc_some e
    have k1 := (show s.heap.get? b = some o2 ∧ _ from (env_c (items := items) I j).hok b _ e).1
    rw [ho] at k1
    obtain rfl := Option.some.inj k1
    exact (show s'.heap.get? b = some o ∧ _ from hok b _ (un.frzs b _ _ e)).1
def nmAt (items : List (Addr × List Str)) (i : Nat) : List Str := (items[i]?.map (·.2)).getD []
theorem nm_at {items : List (Addr × List Str)} {i : Nat} {a : Addr} {names : List Str} (h : items[i]? = some (a, names)) : nmAt items i = names := by
  unfold nmAt
  rw [h]
  rfl
theorem vals_at {items : List (Addr × List Str)} {its : List Value} (r : Vals (items.map fun i => V.ref i.1) its) {i : Nat} {v : Value} (h : its.toArray[i]? = some v) : ∃ a names, items[i]? = some (a, names) ∧ v = .ref a := by
  have h2 : its[i]? = some v := by simpa using h
  have hi : i < its.length := (List.getElem?_eq_some_iff.mp h2).1
  have hi2 : i < items.length := by
    have := r.length
    rw [List.length_map] at this
    omega
  obtain ⟨u, e1, e2⟩ := r.get (i := i) (x := .ref items[i].1) (by rw [List.getElem?_map, List.getElem?_eq_getElem hi2]; rfl)
  rw [h2] at e1
  exact ⟨items[i].1, items[i].2, List.getElem?_eq_getElem hi2, (Option.some.inj e1).trans e2⟩
theorem reads_key (I : Inv X pins σ H s0) (j : Jm X s0 s) {t a : Addr} {names : List Str} {tk : Tok} (ha : H a = some (.lst (names.map V.str))) (ht : IsTup s.heap t #[.int (names.length : Int) tk, .ref a]) : ∃ as, Reads s.heap (.ref t) (dKey names) as := by
  obtain ⟨_, us, n, r, e⟩ := (j.inv I).hok a _ ha
  obtain ⟨as, ra⟩ := reads_strs r
  obtain ⟨o, h1, h2, m, h3⟩ := ht
  have ra2 : ReadsAll s.heap us.toArray.toList (names.map PyData.str) as := by simpa using ra
  exact ⟨_, Reads.tuple h1 h2 h3 (.cons (.int _ tk) (.cons (Reads.list e rfl rfl ra2) .nil))⟩
theorem key_run (I : Inv X pins σ H s0) (hr : Room (k + 2) X.A) (S : FnScope N [p] scope) (hitem : ∀ i ∈ items, H i.1 = some (.lst (i.2.map V.str))) (hlv : Vals (items.map fun i => V.ref i.1) its) (hl : s0.heap.IsList l its.toArray) (hlf : l ∉ frs X.stack)
    (hf : s0.heap.get? f = some (PySem.W.kla_obj "<lambda>" q params body scope [] pm c' ctv)) (hff : f ∉ frs X.stack) (hcd : s0.heap.CodeRec (.ref c') q) (hcf : c' ∉ frs X.stack)
    (hbind : ∀ (s : Shared) (u : Value), BindsTo s (lamFn q params body scope pm c' ctv) ⟨[u], []⟩ [(p, u)])
    (hbody : ∀ (A : Around) (outer : List Env) (s : Shared) (H : Hp) (E : XK), Room k (A.deeper (envOfC q scope s.heap.objs.size f (.ref c'))) → PE (cxOf (fun _ _ _ _ _ _ => False) X.prog X.w X.K X.mg X.base N q scope f (.ref c') A outer s H E) body tb)
    (htb : ∀ (a : Addr) (names : List Str) (o : Obj) (H : Hp) (Q : VK), H a = some (.frz o (.lst (names.map V.str))) → (∀ t H', H t = none → H' t = some (.tup [.int (names.length : Int), .ref a]) → Q (.ref t) H') → tb (L2.start N [.ref a]) H Q)
    {s2 : Shared} (es : s2.heap.objs.size = s0.heap.objs.size + 1) :
    KeyRun X.prog X.w X.A.in1 (.ref f) .Lt s2.heap.objs.size [s0.heap.objs.size] (fun a b => b = a) its.toArray.size (fun i v => its.toArray[i]? = some v) (fun i s' => s'.heap.IsListIter s0.heap.objs.size l i ∧ s'.heap.IsList l its.toArray)
      (Jm X s0) (Vm X [s2.heap.objs.size, s0.heap.objs.size] items) (fun i j => dataLt (dKey (nmAt items i)) (dKey (nmAt items j))) := by
  have old : ∀ b o, s0.heap.get? b = some o → b ∉ s2.heap.objs.size :: [s0.heap.objs.size] := fun b o h z => by
    have lt := Heap.lt_size h
    rcases List.mem_cons.mp z with z | z
    · rw [z, es] at lt
      exact Nat.lt_irrefl _ (Nat.lt_of_succ_lt lt)
    · rw [List.mem_singleton] at z
      rw [z] at lt
      exact Nat.lt_irrefl _ lt
  have frl : ∀ b, b ∈ frs X.stack → b < s0.heap.objs.size := fun b hb => by
    obtain ⟨o, ho⟩ := fr_old I hb
    exact Heap.lt_size ho
  have nI : s0.heap.objs.size ∉ frs X.stack := fun z => Nat.lt_irrefl _ (frl _ z)
  have nS : s2.heap.objs.size ∉ frs X.stack := fun z => by
    have := frl _ z
    rw [es] at this
    exact Nat.lt_irrefl _ (Nat.lt_of_succ_lt this)
  have new : ∀ b, s0.heap.objs.size ≤ b → s0.heap.get? b = none := fun b hb => Heap.get?_none_of_le hb
  refine ⟨fun s s' j m => ?_, fun i v s s' hv m => ?_, ?_, ?_⟩
  · obtain ⟨j1, j2, un⟩ := j
    refine ⟨m.os.trans j1, by rw [show s'.gens = s.gens from m.gens]; exact j2, ⟨fun b o h _ hb hx => m.heap b o (old b o h) (un.keep b o h rfl hb hx), fun b o h _ hb hx => ?_, fun _ _ _ _ _ => rfl, fun b o h hx => ?_, (fun _ _ z => nomatch z), (fun _ _ _ z => nomatch z), (fun _ _ z => nomatch z)⟩⟩
    · obtain ⟨sl, h2⟩ := un.slot b o h rfl hb hx
      exact ⟨sl, m.heap b _ (old b o h) h2⟩
    · obtain ⟨o2, h2⟩ := un.there b o h hx
      exact ⟨o2, m.heap b _ (old b o h) h2⟩
  · obtain ⟨t, a, names, tk, h1, h2, h3, h4, o, h5, h6⟩ := hv
    exact ⟨t, a, names, tk, h1, h2, h3, h4, o, m.heap t o h3 h5, h6⟩
  · intro i v s o Q E hi hP j st hS hk
    obtain ⟨a, names, hit, rfl⟩ := vals_at hlv hP
    have ha := hitem _ (List.mem_of_getElem? hit)
    have jI := j.inv I
    obtain ⟨oa, hoa⟩ : ∃ o, s0.heap.get? a = some o := by
      obtain ⟨_, _, _, _, e⟩ := I.hok a _ ha
      exact ⟨_, e⟩
    have hca : Hc H s0 items a = some (.frz oa (.lst (names.map V.str))) := by
      unfold Hc
      rw [ha, hoa]
      exact if_pos (List.mem_map_of_mem (f := (·.1)) (List.mem_of_getElem? hit))
    have hf' := j.2.2.keep f _ hf rfl hff (by simp)
    have hcd' : s.heap.CodeRec (.ref c') q := by
      obtain ⟨c2, oc, vs, t, e1, e2, e3, e4⟩ := hcd
      obtain rfl := Value.ref.inj e1
      exact ⟨c', oc, vs, t, rfl, j.2.2.keep c' _ e2 rfl hcf (by simp), e3, e4⟩
    have rc : codeAny (model X.prog X.w) X.A.in1 (.call (.ref f) ⟨[.ref a], []⟩) (CR (fun _ _ _ _ _ _ => False) X.stack X.prog X.w (Hc H s0 items) s (fun v H' => ∃ t, v = .ref t ∧ Hc H s0 items t = none ∧ H' t = some (.tup [.int (names.length : Int), .ref a])) (fun _ _ _ => False)) s := by
      refine run_lam (N := N) (ps := [p]) (us := [.ref a]) (vs := [.ref a]) S hf' hcd' (in1_room hr) (env_c I j) (hbind s _) (.cons rfl .nil) rfl fun hr' => ⟨tb, hbody _ _ _ _ _ hr', ?_⟩
      exact htb a names oa _ _ hca fun t H' h1 h2 => ⟨t, rfl, h1, h2⟩
    refine wpAny_call (codeAny_mono rc fun r s' hq => ?_)
    cases r with
    | error e => exact False.elim hq
    | ok fl =>
      cases fl with
      | next => exact False.elim hq
      | brk => exact False.elim hq
      | cont => exact False.elim hq
      | ret u =>
        obtain ⟨v, H', os, bare, un, hok, rv, t, rfl, hn, ht⟩ := hq
        obtain rfl : u = Value.ref t := rv
        have kp : ∀ {b o}, s.heap.get? b = some o → b ∉ frs X.stack → s'.heap.get? b = some o := fun {b o} h1 h2 => lam_kept I j un hok h1 h2
        have free : ∀ b o, s.heap.get? b = some o → Hc H s0 items b = none → b ≠ t := fun b o h1 h2 z => by
          have := un.free b o h1 h2 (by simp)
          rw [z, ht] at this
          cases this
        have hI : ∃ oi, s.heap.get? s0.heap.objs.size = some oi := by
          obtain ⟨oi, e, _⟩ := st.1
          exact ⟨oi, e⟩
        obtain ⟨oi, hoi⟩ := hI
        refine hk (.ref t) s' ⟨os.trans j.1, bare, ⟨fun b o h _ hb hx => kp (j.2.2.keep b o h rfl hb hx) hb, fun b o h _ hb hx => ?_, fun _ _ _ _ _ => rfl, fun b o h hx => ?_, (fun _ _ z => nomatch z), (fun _ _ _ z => nomatch z), (fun _ _ z => nomatch z)⟩⟩ ⟨?_, ?_⟩ (kp hS nS) ⟨t, a, names, ?_⟩ fun j2 k2 hv => ?_
        · obtain ⟨sl, h2⟩ := j.2.2.slot b o h rfl hb hx
          obtain ⟨sl2, h3⟩ := un.slot b _ h2 ((env_c (items := items) I j).frf b hb) hb hx
          exact ⟨sl2, h3⟩
        · obtain ⟨o2, h2⟩ := j.2.2.there b o h hx
          exact un.there b o2 h2 hx
        · obtain ⟨o2, e1, e2⟩ := st.1
          exact ⟨o2, kp e1 nI, e2⟩
        · obtain ⟨o2, e1, e2⟩ := st.2
          exact ⟨o2, kp e1 hlf, e2⟩
        · obtain ⟨_, us, r, o2, e1, e2⟩ := hok t _ ht
          cases r with
          | cons r1 rr =>
            cases rr with
            | cons r2 rr =>
              cases rr
              obtain ⟨tk, rfl⟩ := r1
              obtain rfl := r2
              refine ⟨tk, hit, rfl, fun z => ?_, fun z => ?_, o2, e1, e2⟩
              · rcases List.mem_cons.mp z with z | z
                · exact free _ _ hS (hc_new (new _ (by rw [es]; exact Nat.le_succ _))) z.symm
                · exact free _ _ hoi (hc_new (new _ (Nat.le_refl _))) (List.mem_singleton.mp z).symm
              · obtain ⟨o3, h3⟩ := fr_old jI z
                exact free t _ h3 ((env_c (items := items) I j).frf t z) rfl
        · obtain ⟨t2, a2, n2, tk2, h1, h2, h3, h4, o2, h5, h6⟩ := hv
          exact ⟨t2, a2, n2, tk2, h1, h2, h3, h4, o2, kp h5 h4, h6⟩
  · intro i j ki kj s Q E hj h1 h2 hq
    obtain ⟨t, a, n1, tk, e1, rfl, _, _, e2⟩ := h1
    obtain ⟨t2, a2, n2, tk2, f1, rfl, _, _, f2⟩ := h2
    obtain ⟨as, r1⟩ := reads_key I hj (hitem _ (List.mem_of_getElem? e1)) e2
    obtain ⟨bs, r2⟩ := reads_key I hj (hitem _ (List.mem_of_getElem? f1)) f2
    have hq : Q (.bool (dataLt (dKey (nmAt items i)) (dKey (nmAt items j)))) s := hq
    rw [nm_at e1, nm_at f1] at hq
    refine rcLt_alike (dKey n1) (dKey n2) X.A.in1 s (.ref t) (.ref t2) as bs r1 r2 (alike_key _ _) (fun z => by unfold dKey at z; cases z) ?_ X.prog X.w E Q hq
    have d := depth_key n1
    have u := hr.un
    have : X.A.in1.units = X.A.units + 1 := rfl
    have := Nat.min_le_left (dKey n1).depth (dKey n2).depth
    omega
end
end U
namespace U
open PySem PySem.Spec PyProof.Rows L2 PySem.W LamX
def tMinK (T : List (Addr × Str)) (te : TA) : TE := fun σ H Q => te σ H fun vs H1 => Tabs T H1 ∧ ∃ (l : Addr) (items : List (Addr × List Str)), vs = [.ref l] ∧ H1 l = some (.lst (items.map fun i => V.ref i.1)) ∧ (∀ i ∈ items, H1 i.1 = some (.lst (i.2.map V.str))) ∧
  ∀ H2, ExtN H1 H2 → Tabs T H2 → (items = [] → Q .non H2) ∧ ∀ i ∈ items, Q (.ref i.1) H2
theorem pe_minK {X : Cx} {T : List (Addr × Str)} {c P : Addr} {params : Arguments} {body : Expr} {scope : Scope} {N : List Str} {p : Str} {tb : TE} {k j : Nat} {e : Expr} {te : TA} {pm lpos kp1 kp2 cpos pos : Pos}
    (hc : X.calm = true) (hg : Gl X "min") (hm : X.mg "min" = none) (ha : PA X [e] te) (TB : TabB X.base X.mg c P) (hcode : X.env.code = .ref c) (hmT : (P, X.env.qual ++ "<lambda>") ∈ T) (huT : ∀ y ∈ T, y.1 = P → y.2 = X.env.qual ++ "<lambda>")
    (hdef : defaultsOf params X.env = ([], [])) (hfree : ∀ y ∈ scope.names, y.2 = .free → ∃ c, X.env.cells.lookup y.1 = some c) (hcl : cloFrom X.env.cells scope.names [] = [])
    (hr : Room (k + 2) X.A) (S : FnScope N [p] scope)
    (hbind : ∀ (s : Shared) (u pm ctv : Value) (c' : Addr), BindsTo s (lamFn (X.env.qual ++ "<lambda>") params body scope pm c' ctv) ⟨[u], []⟩ [(p, u)])
    (hbody : ∀ (A : Around) (outer : List Env) (s : Shared) (H : Hp) (E : XK) (f c' : Addr), Room k (A.deeper (envOfC (X.env.qual ++ "<lambda>") scope s.heap.objs.size f (.ref c'))) → PE (cxOf (fun _ _ _ _ _ _ => False) X.prog X.w X.K X.mg X.base N (X.env.qual ++ "<lambda>") scope f (.ref c') A outer s H E) body tb)
    (htb : ∀ (a : Addr) (names : List Str) (o : Obj) (H : Hp) (Q : VK), H a = some (.frz o (.lst (names.map V.str))) → (∀ t H', H t = none → H' t = some (.tup [.int (names.length : Int), .ref a]) → Q (.ref t) H') → tb (L2.start N [.ref a]) H Q)
    (hst : starEach [e] X.env = (false, eval e X.env) :: starEach [] X.env := by rfl) :
    PE X (.Call (.Name "min" pm) [e] [⟨some "key", .Lambda params body scope lpos, kp1⟩, ⟨some "default", .Constant .none j cpos, kp2⟩] pos) (tMinK T te) := by
  refine ⟨fun pins s σ H Q I h => ?_⟩
  refine wpAny_Call_Name_kw (ld_blt (u := .builtin "min") I hg hm (by decide +kernel) ?_)
  refine PyProof.Rows.callWith_kw (thn (ha.run pos pins s σ H _ I h) fun us s1 ⟨vs, H1, I1, r1, hT, l, items, ev, hl, hit, q⟩ => ?_) (by rw [hst]; rfl) (by rw [hst]; rfl)
  subst ev
  obtain ⟨u, rfl, ru⟩ := r1.one
  obtain rfl : u = Value.ref l := ru
  show wpAny _ _ (evalAll [(do let v ← eval (.Lambda params body scope lpos) X.env; standAt pos; pure v), (do let v ← eval (.Constant .none j cpos) X.env; standAt pos; pure v)]) _ _ s1
  refine wpAny_evalAll_cons (wpAny_bind (lam_make2 I1 TB hcode hmT huT hT hdef hfree fun f c' pm' ctv H2 s2 I2 eN T2 hf hfn hfr hco => wpAny_bind (wpAny_standAt (wpAny_pure ?_))))
  refine wpAny_evalAll_cons (wpAny_bind (show wpAny _ _ (eval (.Constant .none j cpos) X.env) _ _ s2 from wpAny_pure (wpAny_bind (wpAny_standAt (wpAny_pure (wpAny_evalAll_nil ?_))))))
  show wpAny _ _ (call (.builtin "min") [.ref l] [(Str.ofString "key", .ref f), (Str.ofString "default", .none)]) _ _ s2
  have nt : ∀ (xs : List V) (ps : Array Value), HO.lst xs ≠ .tbl ps := fun _ _ z => nomatch z
  have hl2 := eN _ _ hl (nt _)
  have hit2 : ∀ i ∈ items, H2 i.1 = some (.lst (i.2.map V.str)) := fun i hi => eN _ _ (hit i hi) (nt _)
  have frf := I2.env0.frf
  obtain ⟨_, its, n, rv, el⟩ := I2.hok l _ hl2
  obtain ⟨⟨oc, cvs, ct, d1, d2, d3⟩, _, _⟩ := I2.hok c' _ hco
  rw [hcl] at hf
  obtain ⟨q0, q1⟩ := q H2 eN T2
  have hlen : items.length = its.length := by
    have := rv.length
    rw [List.length_map] at this
    exact this
  refine PySem.call_min_walkKD (iter_listW (A := X.A.in1) (I2.ok.hd hc) ⟨_, el, rfl, n, rfl⟩ fun s3 e3 W st hfp hw hk => ?_)
  have es : s3.heap.objs.size = s2.heap.objs.size + 1 := by
    rw [e3]
    exact Heap.size_push _ _
  refine ⟨_, _, _, _, _, _, _, _, _, _, rfl, W, st, hfp, key_run I2 hr S hit2 rv ⟨_, el, rfl, n, rfl⟩ (fun z => by rw [frf _ z] at hl2; cases hl2) hf hfr ⟨c', oc, cvs, ct, rfl, d1, d2, d3⟩ (fun z => by rw [frf _ z] at hco; cases hco) (fun s u => hbind s u _ _ _) (fun A outer s H E hr => hbody A outer s H E f c' hr) htb es, ?_, ?_, ?_⟩
  · refine ⟨by rw [e3], by rw [e3]; exact I2.bare, ?_⟩
    exact Un.kept hk
  · intro hn s' hj
    refine ⟨.non, H2, hj.inv I2, rfl, q0 ?_⟩
    have : its.length = 0 := by simpa using hn
    exact List.eq_nil_of_length_eq_zero (by omega)
  · intro hn v s' hP hj
    obtain ⟨a, names, e1, rfl⟩ := vals_at rv hP
    exact ⟨.ref a, H2, hj.inv I2, rfl, q1 _ (List.mem_of_getElem? e1)⟩
end U

/-! a def whose code object is known (its table of lambdas is tracked) -/
namespace U
open PySem PySem.Spec PyProof.Rows L2 LamX
structure FunC (K : PySem.W.Frag) (x qual : Str) (st : Stmt) (f : Addr) (fd : FuncData) (c : Addr) : Prop where
  ex : ∃ (oc : Value) (od : Option Addr) (kV doc pm : Value) (an : Option Addr) (ct : Value) (osl : Array (Option Value)),
    fd = PySem.W.fnOf x qual (defArgs st) (defBody st) (defScope st) .none kV doc pm an (.ref c) ct ∧ K.lookup f = some ⟨oc, od, .func fd, osl⟩ ∧ PySem.W.codeIn K (.ref c) qual = true
section
variable {P : Program} {w : World} {K : PySem.W.Frag} {mg : Str → Option Value} {base : Heap}
theorem fnG0C {x qual : Str} {st : Stmt} {f c : Addr} {fd : FuncData} {N ps : List Str} {k : Nat} {sp : Sp} (F : FunC K x qual st f fd c) (S : FnScope N ps (defScope st)) (len : ∀ vs H Q E, sp vs H Q E → vs.length = ps.length)
    (body : ∀ (A : Around) (outer : List Env) (s : Shared) (H : Hp) (vs : List V) (Q : VK) (E : XK), Rm k (A.deeper (envOfC qual (defScope st) s.heap.objs.size f (.ref c))) → sp vs H Q E →
      ∃ t, PSs (cxOf CX0 P w K mg base N qual (defScope st) f (.ref c) A outer s H E).nox (defBody st) t ∧ t { nx := fun _ H' => Q .non H', rt := Q } (start N vs) H) :
    FnG P w K mg base CX0 (k + 1) f fd ps sp := by
  obtain ⟨oc, od, kV, doc, pm, an, ct, osl, rfl, lk, hcd⟩ := F.ex
  refine ⟨len, fun A outer s H args us vs Q E room e0 bd rel want => ?_⟩
  have count := len _ _ _ _ want
  have kin : K.In s.heap := e0.mod.kin.keeps fun b o e => (e0.bs b o e).1
  have kinds : ∀ y ∈ ps.zip us, (defScope st).names.lookup y.1 = some .local ∨ ((defScope st).names.lookup y.1 = some .cell ∧ ((cellsFrom (s.heap.objs.size + 1) (defScope st).names []).lookup y.1).isSome = true) := by
    rintro ⟨n, v⟩ hy
    cases S.par n (List.of_mem_zip hy).1 with
    | inl q => exact .inl q
    | inr q => exact .inr ⟨q, PySem.W.cellsFrom_some _ _ _ (.inl q)⟩
  apply codeAny_call_function room.r.depth (kin _ _ lk) rfl S.co S.gen rfl (PySem.W.codeRec_of kin hcd) (bd _ _ _ _ _)
  apply wpAny_newFunctionEnv_cells S.kind kinds
  intro env he s1 x
  subst he
  have lim : s.heap.NoLimit := e0.mod.nolimit.keeps fun b o e => (e0.bs b o e).1
  refine ⟨lim.keeps x.toInCall.keep, codeAny_func ?_⟩
  obtain ⟨t, ht0, want'⟩ := body A outer s H vs Q E (room.deeper _) want
  have ht := ht0.nox
  have I := inv_start (CX := CX0) (P := P) (w := w) (K := K) (mg := mg) (base := base) (E := E) S room.r.hd e0 count rel x
  refine wpAny_mono (ht.run [] s1 (start N vs) H _ I want') ?_ fun e s' hs => hs
  intro fl s' hs
  cases fl with
  | ret u =>
    obtain ⟨v, σ', H', J, rv, q⟩ := hs
    exact ⟨v, H', J.os, J.bare, J.base, J.hok, rv, q⟩
  | next =>
    obtain ⟨σ', H', J, q⟩ := hs
    exact ⟨V.non, H', J.os, J.bare, J.base, J.hok, rfl, q⟩
  | brk => exact hs.elim fun _ z => z.elim fun _ z => z.2.elim
  | cont => exact hs.elim fun _ z => z.elim fun _ z => z.2.elim
end
end U

/-! the law's own head, one table of code objects tracked -/
namespace U
open PySem PySem.Spec PyProof.Rows L2 LamX
theorem law_GT {P : Program} {w : World} {K : PySem.W.Frag} {mg mb : Str → Option Value} {k : Nat} {fa a c T : Addr} {fd : FuncData} {x : Str} {sp : Sp} {s₁ : Shared} {vs : List Value} {ns : List Int}
    (KX : K.In s₁.heap) (hns : s₁.heap.Ns mainGlobals mg) (hb : s₁.heap.Ns builtinsNs mb) (hbb : ∀ x : Str, x ≠ "__name__" → mb x = bootBuiltins x) (hlim : s₁.heap.NoLimit) (hg : s₁.gens = #[])
    (hT : s₁.heap.get? T = some { cls := .none, data := .fields #[] }) (nT : K.lookup T = none) (CH : PySem.W.CodeHd s₁.heap c T)
    (hbm : ∃ (bm : Addr) (ob : Obj), mg "__builtins__" = some (.ref bm) ∧ bm ≠ builtinsNs ∧ s₁.heap.get? bm = some ob ∧ ob.cls = .type "module" ∧ ob.dict = some builtinsNs ∧ ob.data = .plain)
    (ha : s₁.heap.get? a = some { cls := .type "list", data := .seq vs.toArray }) (hi : IntsAre vs ns) (hl : ns.length ≤ sizeLine) (hr : Room k callerA)
    (F : ∀ base : Heap, K.In base → base.Ns mainGlobals mg → TabB base mg c T → FnG P w K mg base CX0 k fa fd [x] sp) (hbind : ∀ (s : Shared) (u : Value), BindsTo s fd ⟨[u], []⟩ [(x, u)])
    (hsp : ∀ H : Hp, H T = some (.tbl #[]) → SqL K H a (ns.map V.int) → sp [.ref a] H (fun v _ => v = .bl true) fun _ _ _ => False) :
    codeAny (model P w) callerA (.call (.ref fa) ⟨[.ref a], []⟩) (fun r s' => r = .ok (.ret (.bool true)) ∧ OldK s₁.heap s'.heap ∧ s'.os = s₁.os ∧ AllBare s'.gens) s₁ := by
  have rv := vals_ints hi
  have lenV := hi.length
  have aT : a ≠ T := fun z => by
    rw [z, hT] at ha
    have := congrArg Obj.data (Option.some.inj ha)
    cases this
  have main : ∀ H : Hp, H T = some (.tbl #[]) → (∀ b, H b = none ∨ b = T ∨ ∃ o xs, H b = some (.frz o (.lst xs))) → SqL K H a (ns.map V.int) → HOk P w H s₁.heap → (∀ b, H b ≠ none → b = a ∨ b = T) → (H a ≠ none → K.lookup a = none) →
      codeAny (model P w) callerA (.call (.ref fa) ⟨[.ref a], []⟩) (fun r s' => r = .ok (.ret (.bool true)) ∧ OldK s₁.heap s'.heap ∧ s'.os = s₁.os ∧ AllBare s'.gens) s₁ := by
    intro H hH only seq ok two own
    have unseen : ∀ {b : Addr} {o : Obj}, s₁.heap.get? b = some o → (∀ vs n, o.data ≠ .seq vs n) → o.data ≠ .fields #[] → H b = none := by
      intro b o e d1 d2
      cases q : H b with
      | none => rfl
      | some u =>
        rcases two b (by rw [q]; simp) with rfl | rfl
        · obtain rfl := Option.some.inj (ha.symm.trans e)
          exact (d1 _ _ rfl).elim
        · obtain rfl := Option.some.inj (hT.symm.trans e)
          exact (d2 rfl).elim
    have stays : ∀ {b : Addr} {m : Str → Option Value}, s₁.heap.Ns b m → (hidT s₁.heap H).Ns b m := by
      rintro b m ⟨o, es, ep, e, d, r⟩
      exact ⟨o, es, ep, hidT_get e (unseen e (fun _ _ z => by rw [d] at z; cases z) fun z => by rw [d] at z; cases z), d, r⟩
    have kin : K.In (hidT s₁.heap H) := by
      intro b o e
      refine hidT_get (KX b o e) ?_
      cases q : H b with
      | none => rfl
      | some u =>
        rcases two b (by rw [q]; simp) with rfl | rfl
        · rw [own (by rw [q]; simp)] at e
          cases e
        · rw [nT] at e
          cases e
    have md : Mod K mg (hidT s₁.heap H) := ⟨kin, stays hns, ⟨mb, stays hb, hbb⟩, by
      obtain ⟨mc, h1, h2⟩ := hlim
      exact ⟨mc, stays h1, h2⟩⟩
    have tab : TabB (hidT s₁.heap H) mg c T := by
      refine ⟨?_, ?_, fun z => ?_⟩
      · obtain ⟨o, us, file, tf, flags, tg, inF, text, tt, e1, r1, r2, r3, r4, r5, r6, r7, r8, r9⟩ := CH
        refine ⟨o, us, file, tf, flags, tg, inF, text, tt, hidT_get e1 (unseen e1 (fun _ _ z => by rw [r2] at z; cases z) fun z => ?_), r1, r2, r3, r4, r5, r6, r7, r8, r9⟩
        rw [r2] at z
        obtain rfl := Data.fields.inj z
        simp at r3
      · obtain ⟨bm, ob, b1, b2, b3, b4, b5, b6⟩ := hbm
        refine ⟨bm, ob, b1, b2, fun z => ?_, fun z => ?_, hidT_get b3 (unseen b3 (fun _ _ z => by rw [b6] at z; cases z) fun z => by rw [b6] at z; cases z), b4, b5, b6⟩
        · obtain ⟨o, es, ep, e, hd, _⟩ := hns
          rw [z, e] at b3
          obtain rfl := Option.some.inj b3
          rw [hd] at b6
          cases b6
        · rw [z, hT] at b3
          obtain rfl := Option.some.inj b3
          cases b6
      · obtain ⟨o, es, ep, e, hd, _⟩ := hns
        rw [z, hT] at e
        obtain rfl := Option.some.inj e
        cases hd
    have e0 : Env0 P w K mg (hidT s₁.heap H) callerA [] s₁ H := ⟨rfl, md, fun b o e => of_hidT e, Nat.le_of_eq (hidT_size _ _), trivial, fun b z => (List.not_mem_nil z).elim, ok, .of_eq hg⟩
    refine codeAny_mono ((F _ kin (stays hns) tab).go callerA [] s₁ H ⟨[.ref a], []⟩ [.ref a] [.ref a] _ _ ⟨hr, rfl⟩ e0 (hbind s₁ (.ref a)) (.cons rfl .nil) (hsp H hH seq)) ?_
    intro r s' h
    cases r with
    | error e => exact h.elim
    | ok fl =>
      cases fl with
      | next => exact h.elim
      | brk => exact h.elim
      | cont => exact h.elim
      | ret u =>
        obtain ⟨v, H', os, bare, un, ok', r', q⟩ := h
        have q' : v = .bl true := q
        subst q'
        obtain rfl : u = Value.bool true := r'
        have key : ∀ b o, b ≠ T → s₁.heap.get? b = some o → s'.heap.get? b = some o := by
          intro b o nb e
          cases q : H b with
          | none => exact un.keep b o e q (fun z => (List.not_mem_nil z).elim) (fun z => (List.not_mem_nil z).elim)
          | some u =>
            rcases only b with z | z | ⟨ob, xs, z⟩
            · rw [q] at z; cases z
            · exact (nb z).elim
            · obtain ⟨e1, _⟩ := ok b _ z
              obtain ⟨e2, _⟩ := ok' b _ (un.frzs b ob _ z)
              exact (Option.some.inj (e1.symm.trans e)) ▸ e2
        obtain ⟨more, z⟩ := un.tbls T #[] hH
        have grown := ok' T _ z
        refine ⟨rfl, ⟨fun b o e => ?_, fun b o e => ?_⟩, os, bare⟩
        · by_cases hb : b = T
          · subst hb
            obtain rfl := Option.some.inj (hT.symm.trans e)
            exact .inr (.inl ⟨(CH.tab hT).isCodeTable, rfl, #[], _, rfl, grown⟩)
          · exact .inl (key b o hb e)
        · by_cases hb : b = T
          · subst hb
            exact ⟨_, grown⟩
          · exact ⟨o, key b o hb e⟩
  cases hk : K.lookup a with
  | some o =>
    obtain rfl := Option.some.inj (ha.symm.trans (KX a o hk))
    refine main (fun b => if b = T then some (.tbl #[]) else none) (if_pos rfl) (fun b => ?_) (.inr ⟨_, vs.toArray, _, hk, rfl, rfl, rfl, ?_, by simpa using rv⟩) (fun b u z => ?_) (fun b z => ?_) fun z => (z (if_neg aT)).elim
    · by_cases e : b = T
      · exact .inr (.inl e)
      · exact .inl (if_neg e)
    · rw [List.size_toArray, lenV]
      exact hl
    · by_cases e : b = T
      · subst e
        obtain rfl := Option.some.inj ((if_pos rfl).symm.trans z)
        exact hT
      · exact nomatch (if_neg e).symm.trans z
    · by_cases e : b = T
      · exact .inr e
      · exact absurd (if_neg e) z
  | none =>
    refine main (fun b => if b = a then some (.frz { cls := .type "list", data := .seq vs.toArray } (.lst (ns.map V.int))) else if b = T then some (.tbl #[]) else none) ((if_neg aT.symm).trans (if_pos rfl)) (fun b => ?_) (.inl (.inr ⟨_, if_pos rfl⟩)) (fun b u z => ?_) (fun b z => ?_) fun _ => hk
    · by_cases hb : b = a
      · exact .inr (.inr ⟨_, _, if_pos hb⟩)
      · by_cases e : b = T
        · exact .inr (.inl e)
        · exact .inl ((if_neg hb).trans (if_neg e))
    · by_cases hb : b = a
      · subst hb
        obtain rfl := Option.some.inj ((if_pos rfl).symm.trans z)
        exact ⟨ha, by rw [List.length_map]; exact hl, vs, _, rv, ha⟩
      · by_cases e : b = T
        · subst e
          obtain rfl := Option.some.inj (((if_neg hb).trans (if_pos rfl)).symm.trans z)
          exact hT
        · exact nomatch ((if_neg hb).trans (if_neg e)).symm.trans z
    · by_cases hb : b = a
      · exact .inl hb
      · by_cases e : b = T
        · exact .inr e
        · exact absurd ((if_neg hb).trans (if_neg e)) z
theorem walk_GT {l : PySem.W.OpenLaw} {n k : Nat} {q : Program} {loose : List Str} {XP : (Str → Option Value) → Heap → Prop} {YP : World → Heap → Prop} {d : DefRec} {K : Params → PySem.W.Frag} {sp : PySem.W.Frag → Addr → Sp} {x : Str}
    (hn : l.most = some n) (hn2 : n ≤ sizeLine) (hdf : d.params.defaults = []) (hr : Room k callerA)
    (hY : ∀ (w : World) (h : Heap), YP w h → (K w.params).In h)
    (F : ∀ (w : World) (mg : Str → Option Value) (fa : Addr) (h : Heap), YP w h → (K w.params).In h → h.Ns mainGlobals mg → mg d.name = some (.ref fa) →
      ∃ (fd : FuncData) (c T : Addr), h.get? T = some { cls := .none, data := .fields #[] } ∧ (K w.params).lookup T = none ∧ PySem.W.CodeHd h c T ∧ (∀ (s : Shared) (u : Value), BindsTo s fd ⟨[u], []⟩ [(x, u)]) ∧
        ∀ base : Heap, (K w.params).In base → base.Ns mainGlobals mg → TabB base mg c T → FnG l.prog w (K w.params) mg base CX0 k fa fd [x] (sp (K w.params) T))
    (hsp : ∀ (K : PySem.W.Frag) (T : Addr) (H : Hp) (a : Addr) (ns : List Int), ns.length ≤ n → H T = some (.tbl #[]) → SqL K H a (ns.map V.int) → sp K T [.ref a] H (fun v _ => v = .bl true) fun _ _ _ => False) :
    PySem.W.WalkO q loose XP YP l.row.toRowW d [] (fun f vs => PySem.call f vs) := by
  refine Att.attach_callB hn hdf ?_
  intro w s₀ s₁ mg mb fa o pm cd doc a vs ns G Y ho hd hcd hmg hobj hints hlen bits hg
  obtain ⟨fd, c, T, hT, nT, CH, hb, hF⟩ := F w mg fa _ Y (hY w _ Y) G.T.g hmg
  exact law_GT (hY w _ Y) G.T.g G.T.b G.T.builtins G.T.nolimit hg hT nT CH G.T.bmain hobj hints (Nat.le_trans hlen hn2) hr hF hb fun H h1 seq => hsp _ T H a ns hlen h1 seq
/-- the same, the table told by the fragment -/
theorem walk_GY {l : PySem.W.OpenLaw} {n k : Nat} {q : Program} {loose : List Str} {XP : (Str → Option Value) → Heap → Prop} {YP : World → Heap → Prop} {d dy : DefRec} {K : Params → PySem.W.Frag} {sp : PySem.W.Frag → Addr → Sp} {x y : Str}
    (hn : l.most = some n) (hn2 : n ≤ sizeLine) (hdf : d.params.defaults = []) (hr : Room k callerA) (hrec : (recsOf q).find? (fun e => e.name == y) = some dy)
    (hY : ∀ (w : World) (h : Heap), YP w h → (K w.params).In h)
    (F : ∀ (w : World) (mg : Str → Option Value) (fa : Addr) (h : Heap), (K w.params).In h → h.Ns mainGlobals mg → mg d.name = some (.ref fa) →
      ∃ (fd : FuncData) (c T : Addr), PySem.W.tabIn (K w.params) y = some (c, T) ∧ (K w.params).lookup T = none ∧ (∀ (s : Shared) (u : Value), BindsTo s fd ⟨[u], []⟩ [(x, u)]) ∧
        ∀ base : Heap, (K w.params).In base → base.Ns mainGlobals mg → TabB base mg c T → FnG l.prog w (K w.params) mg base CX0 k fa fd [x] (sp (K w.params) T))
    (hsp : ∀ (K : PySem.W.Frag) (T : Addr) (H : Hp) (a : Addr) (ns : List Int), ns.length ≤ n → H T = some (.tbl #[]) → SqL K H a (ns.map V.int) → sp K T [.ref a] H (fun v _ => v = .bl true) fun _ _ _ => False) :
    PySem.W.WalkO q loose XP YP l.row.toRowW d [] (fun f vs => PySem.call f vs) := by
  refine Att.attach_callB hn hdf ?_
  intro w s₀ s₁ mg mb fa o pm cd doc a vs ns G Y ho hd hcd hmg hobj hints hlen bits hg
  obtain ⟨fd, c, T, hin, nT, hb, hF⟩ := F w mg fa _ (hY w _ Y) G.T.g hmg
  obtain ⟨CH, hT⟩ := PySem.W.tab_of G.T (hY w _ Y) hrec hin
  exact law_GT (hY w _ Y) G.T.g G.T.b G.T.builtins G.T.nolimit hg hT nT CH G.T.bmain hobj hints (Nat.le_trans hlen hn2) hr hF hb fun H h1 seq => hsp _ T H a ns hlen h1 seq
end U
namespace U
open PySem PySem.Spec PyProof.Rows L2
theorem tab_mk {K : PySem.W.Frag} {x : Str} {f c T : Addr} {oc oc2 : Value} {od od2 : Option Addr} {fd : FuncData} {sl sl2 : Array (Option Value)} {vs : Array Value} (h1 : PySem.W.nsIn K mainGlobals x = some (some (.ref f))) (h2 : K.lookup f = some ⟨oc, od, .func fd, sl⟩) (h3 : fd.code = .ref c)
    (h4 : K.lookup c = some ⟨oc2, od2, .fields vs, sl2⟩) (h5 : (vs[11]? : Option Value) = some (.ref T)) : PySem.W.tabIn K x = some (c, T) := by
  unfold PySem.W.tabIn
  rw [h1]
  simp only
  rw [h2]
  simp only
  rw [h3]
  simp only
  rw [h4]
  simp only
  rw [h5]
end U

namespace Law
open PySem PySem.Spec PyProof.Rows L2 U
theorem all_mk {l : PySem.W.OpenLaw} {w : World} {K : PySem.W.Frag} {h : Heap} {mg : Str → Option Value} {fa : Addr} (X : K.In h) (G : h.Ns mainGlobals mg) (hfa : mg "law" = some (.ref fa))
    {od0 an0 : Option Addr} {sl0 : Array (Option Value)} {f0 : Addr} {oc0 kV0 dc0 pm0 cd0 ct0 : Value}
    {od1 an1 : Option Addr} {sl1 : Array (Option Value)} {f1 : Addr} {oc1 kV1 dc1 pm1 cd1 ct1 : Value}
    {od2 an2 : Option Addr} {sl2 : Array (Option Value)} {f2 : Addr} {oc2 kV2 dc2 pm2 cd2 ct2 : Value}
    {od3 an3 : Option Addr} {sl3 : Array (Option Value)} {f3 : Addr} {oc3 kV3 dc3 pm3 cd3 ct3 : Value}
    {od4 an4 : Option Addr} {sl4 : Array (Option Value)} {f4 : Addr} {oc4 kV4 dc4 pm4 cd4 ct4 : Value}
    {od5 an5 : Option Addr} {sl5 : Array (Option Value)} {f5 : Addr} {oc5 kV5 dc5 pm5 cd5 ct5 : Value}
    {od6 an6 : Option Addr} {sl6 : Array (Option Value)} {f6 : Addr} {oc6 kV6 dc6 pm6 cd6 ct6 : Value}
    {od7 an7 : Option Addr} {sl7 : Array (Option Value)} {f7 : Addr} {oc7 kV7 dc7 pm7 cd7 ct7 : Value}
    {od8 an8 : Option Addr} {sl8 : Array (Option Value)} {f8 : Addr} {oc8 kV8 dc8 pm8 cd8 ct8 : Value}
    {od9 an9 : Option Addr} {sl9 : Array (Option Value)} {f9 : Addr} {oc9 kV9 dc9 pm9 cd9 ct9 : Value}
    {od10 an10 : Option Addr} {sl10 : Array (Option Value)} {f10 : Addr} {oc10 kV10 dc10 pm10 cd10 ct10 : Value}
    {od11 an11 : Option Addr} {sl11 : Array (Option Value)} {f11 : Addr} {oc11 kV11 dc11 pm11 cd11 ct11 : Value}
    {od12 an12 : Option Addr} {sl12 : Array (Option Value)} {f12 : Addr} {oc12 kV12 dc12 pm12 cd12 ct12 : Value}
    {od13 an13 : Option Addr} {sl13 : Array (Option Value)} {f13 : Addr} {oc13 kV13 dc13 pm13 cd13 ct13 : Value}
    {od14 an14 : Option Addr} {sl14 : Array (Option Value)} {f14 : Addr} {oc14 kV14 dc14 pm14 cd14 ct14 : Value}
    {od15 an15 : Option Addr} {sl15 : Array (Option Value)} {f15 : Addr} {oc15 kV15 dc15 pm15 cd15 ct15 : Value}
    {od16 an16 : Option Addr} {sl16 : Array (Option Value)} {f16 : Addr} {oc16 kV16 dc16 pm16 cd16 ct16 : Value}
    {tk0 : Tok}
    {va : Addr} {odV : Option Addr} {nV : Nat} {slV : Array (Option Value)} {q0 q1 q2 : Tok}
    (a0 : PySem.W.nsIn K mainGlobals "has_node" = some (some (.ref f0))) (l0 : K.lookup f0 = some ⟨oc0, od0, .func (PySem.W.fnOf "has_node" "has_node" (defArgs s_has_node) (defBody s_has_node) (defScope s_has_node) .none kV0 dc0 pm0 an0 cd0 ct0), sl0⟩) (c0 : PySem.W.codeIn K cd0 "has_node" = true) (k0 : PySem.W.keepIn K (.ref f0) = true)
    (a1 : PySem.W.nsIn K mainGlobals "edge_of" = some (some (.ref f1))) (l1 : K.lookup f1 = some ⟨oc1, od1, .func (PySem.W.fnOf "edge_of" "edge_of" (defArgs s_edge_of) (defBody s_edge_of) (defScope s_edge_of) .none kV1 dc1 pm1 an1 cd1 ct1), sl1⟩) (c1 : PySem.W.codeIn K cd1 "edge_of" = true) (k1 : PySem.W.keepIn K (.ref f1) = true)
    (a2 : PySem.W.nsIn K mainGlobals "first_conflict" = some (some (.ref f2))) (l2 : K.lookup f2 = some ⟨oc2, od2, .func (PySem.W.fnOf "first_conflict" "first_conflict" (defArgs s_first_conflict) (defBody s_first_conflict) (defScope s_first_conflict) .none kV2 dc2 pm2 an2 cd2 ct2), sl2⟩) (c2 : PySem.W.codeIn K cd2 "first_conflict" = true) (k2 : PySem.W.keepIn K (.ref f2) = true)
    (a3 : PySem.W.nsIn K mainGlobals "first_extension" = some (some (.ref f3))) (l3 : K.lookup f3 = some ⟨oc3, od3, .func (PySem.W.fnOf "first_extension" "first_extension" (defArgs s_first_extension) (defBody s_first_extension) (defScope s_first_extension) .none kV3 dc3 pm3 an3 cd3 ct3), sl3⟩) (c3 : PySem.W.codeIn K cd3 "first_extension" = true) (k3 : PySem.W.keepIn K (.ref f3) = true)
    (a4 : PySem.W.nsIn K mainGlobals "first_state" = some (some (.ref f4))) (l4 : K.lookup f4 = some ⟨oc4, od4, .func (PySem.W.fnOf "first_state" "first_state" (defArgs s_first_state) (defBody s_first_state) (defScope s_first_state) .none kV4 dc4 pm4 an4 cd4 ct4), sl4⟩) (c4 : PySem.W.codeIn K cd4 "first_state" = true) (k4 : PySem.W.keepIn K (.ref f4) = true)
    (a5 : PySem.W.nsIn K mainGlobals "tree_below" = some (some (.ref f5))) (l5 : K.lookup f5 = some ⟨oc5, od5, .func (PySem.W.fnOf "tree_below" "tree_below" (defArgs s_tree_below) (defBody s_tree_below) (defScope s_tree_below) .none kV5 dc5 pm5 an5 cd5 ct5), sl5⟩) (c5 : PySem.W.codeIn K cd5 "tree_below" = true) (k5 : PySem.W.keepIn K (.ref f5) = true)
    (a6 : PySem.W.nsIn K mainGlobals "case_tree" = some (some (.ref f6))) (l6 : K.lookup f6 = some ⟨oc6, od6, .func (PySem.W.fnOf "case_tree" "case_tree" (defArgs s_case_tree) (defBody s_case_tree) (defScope s_case_tree) .none kV6 dc6 pm6 an6 cd6 ct6), sl6⟩) (c6 : PySem.W.codeIn K cd6 "case_tree" = true) (k6 : PySem.W.keepIn K (.ref f6) = true)
    (a7 : PySem.W.nsIn K mainGlobals "is_tree_below" = some (some (.ref f7))) (l7 : K.lookup f7 = some ⟨oc7, od7, .func (PySem.W.fnOf "is_tree_below" "is_tree_below" (defArgs s_is_tree_below) (defBody s_is_tree_below) (defScope s_is_tree_below) .none kV7 dc7 pm7 an7 cd7 ct7), sl7⟩) (c7 : PySem.W.codeIn K cd7 "is_tree_below" = true) (k7 : PySem.W.keepIn K (.ref f7) = true)
    (a8 : PySem.W.nsIn K mainGlobals "is_case_tree" = some (some (.ref f8))) (l8 : K.lookup f8 = some ⟨oc8, od8, .func (PySem.W.fnOf "is_case_tree" "is_case_tree" (defArgs s_is_case_tree) (defBody s_is_case_tree) (defScope s_is_case_tree) .none kV8 dc8 pm8 an8 cd8 ct8), sl8⟩) (c8 : PySem.W.codeIn K cd8 "is_case_tree" = true) (k8 : PySem.W.keepIn K (.ref f8) = true)
    (a9 : PySem.W.nsIn K mainGlobals "_law_box" = some (some (.ref f9))) (l9 : K.lookup f9 = some ⟨oc9, od9, .func (PySem.W.fnOf "_law_box" "_law_box" (defArgs s__law_box) (defBody s__law_box) (defScope s__law_box) .none kV9 dc9 pm9 an9 cd9 ct9), sl9⟩) (c9 : PySem.W.codeIn K cd9 "_law_box" = true) (k9 : PySem.W.keepIn K (.ref f9) = true)
    (a10 : PySem.W.nsIn K mainGlobals "_law_draw" = some (some (.ref f10))) (l10 : K.lookup f10 = some ⟨oc10, od10, .func (PySem.W.fnOf "_law_draw" "_law_draw" (defArgs s__law_draw) (defBody s__law_draw) (defScope s__law_draw) .none kV10 dc10 pm10 an10 cd10 ct10), sl10⟩) (c10 : PySem.W.codeIn K cd10 "_law_draw" = true) (k10 : PySem.W.keepIn K (.ref f10) = true)
    (a11 : PySem.W.nsIn K mainGlobals "_law_stem" = some (some (.ref f11))) (l11 : K.lookup f11 = some ⟨oc11, od11, .func (PySem.W.fnOf "_law_stem" "_law_stem" (defArgs s__law_stem) (defBody s__law_stem) (defScope s__law_stem) .none kV11 dc11 pm11 an11 cd11 ct11), sl11⟩) (c11 : PySem.W.codeIn K cd11 "_law_stem" = true) (k11 : PySem.W.keepIn K (.ref f11) = true)
    (a12 : PySem.W.nsIn K mainGlobals "_law_random_graph" = some (some (.ref f12))) (l12 : K.lookup f12 = some ⟨oc12, od12, .func (PySem.W.fnOf "_law_random_graph" "_law_random_graph" (defArgs s__law_random_graph) (defBody s__law_random_graph) (defScope s__law_random_graph) .none kV12 dc12 pm12 an12 cd12 ct12), sl12⟩) (c12 : PySem.W.codeIn K cd12 "_law_random_graph" = true) (k12 : PySem.W.keepIn K (.ref f12) = true)
    (a13 : PySem.W.nsIn K mainGlobals "_law_first" = some (some (.ref f13))) (l13 : K.lookup f13 = some ⟨oc13, od13, .func (PySem.W.fnOf "_law_first" "_law_first" (defArgs s__law_first) (defBody s__law_first) (defScope s__law_first) .none kV13 dc13 pm13 an13 cd13 ct13), sl13⟩) (c13 : PySem.W.codeIn K cd13 "_law_first" = true) (k13 : PySem.W.keepIn K (.ref f13) = true)
    (a14 : PySem.W.nsIn K mainGlobals "_law_changed" = some (some (.ref f14))) (l14 : K.lookup f14 = some ⟨oc14, od14, .func (PySem.W.fnOf "_law_changed" "_law_changed" (defArgs s__law_changed) (defBody s__law_changed) (defScope s__law_changed) .none kV14 dc14 pm14 an14 cd14 ct14), sl14⟩) (c14 : PySem.W.codeIn K cd14 "_law_changed" = true) (k14 : PySem.W.keepIn K (.ref f14) = true)
    (a15 : PySem.W.nsIn K mainGlobals "_law_with_more_nodes" = some (some (.ref f15))) (l15 : K.lookup f15 = some ⟨oc15, od15, .func (PySem.W.fnOf "_law_with_more_nodes" "_law_with_more_nodes" (defArgs s__law_with_more_nodes) (defBody s__law_with_more_nodes) (defScope s__law_with_more_nodes) .none kV15 dc15 pm15 an15 cd15 ct15), sl15⟩) (c15 : PySem.W.codeIn K cd15 "_law_with_more_nodes" = true) (k15 : PySem.W.keepIn K (.ref f15) = true)
    (a16 : PySem.W.nsIn K mainGlobals "law" = some (some (.ref f16))) (l16 : K.lookup f16 = some ⟨oc16, od16, .func (PySem.W.fnOf "law" "law" (defArgs s_law) (defBody s_law) (defScope s_law) .none kV16 dc16 pm16 an16 cd16 ct16), sl16⟩) (c16 : PySem.W.codeIn K cd16 "law" = true) (k16 : PySem.W.keepIn K (.ref f16) = true)
    (z0 : PySem.W.nsIn K mainGlobals "len" = some none)
    (z1 : PySem.W.nsIn K mainGlobals "abs" = some none)
    (z2 : PySem.W.nsIn K mainGlobals "max" = some none)
    (z3 : PySem.W.nsIn K mainGlobals "min" = some none)
    (z4 : PySem.W.nsIn K mainGlobals "sorted" = some none)
    (z5 : PySem.W.nsIn K mainGlobals "isinstance" = some none)
    (z6 : PySem.W.nsIn K mainGlobals "int" = some none)
    (z7 : PySem.W.nsIn K mainGlobals "list" = some none)
    (z8 : PySem.W.nsIn K mainGlobals "tuple" = some none)
    (z9 : PySem.W.nsIn K mainGlobals "str" = some none)
    (z10 : PySem.W.nsIn K mainGlobals "range" = some none)
    (z11 : PySem.W.nsIn K mainGlobals "enumerate" = some none)
    (z12 : PySem.W.nsIn K mainGlobals "dict" = some none)
    (z13 : PySem.W.nsIn K mainGlobals "sum" = some none)
    (z14 : PySem.W.nsIn K mainGlobals "all" = some none)
    (z15 : PySem.W.nsIn K mainGlobals "any" = some none)
    (z16 : PySem.W.nsIn K mainGlobals "repr" = some none)
    (z17 : PySem.W.nsIn K mainGlobals "set" = some none)
    (z18 : PySem.W.nsIn K mainGlobals "zip" = some none)
    (z19 : PySem.W.nsIn K mainGlobals "reversed" = some none)
    (z20 : PySem.W.nsIn K mainGlobals "bool" = some none)
    (w0 : PySem.W.nsIn K mainGlobals "MAX_CASE_NODES" = some (some (.int 8 tk0)))
    (v0 : PySem.W.nsIn K mainGlobals "VALUES" = some (some (.ref va))) (v1 : K.lookup va = some ⟨.type "tuple", odV, .seq #[.int 0 q0, .int 1 q1, .int 2 q2] nV, slV⟩) :
    ∃ fd : FuncData, (∀ (s : Shared) (u : Value), BindsTo s fd ⟨[u], []⟩ [("_law_script", u)]) ∧ ∀ base : Heap, K.In base → base.Ns mainGlobals mg → FnG l.prog w K mg base CX0 13 fa fd ["_law_script"] (spLaw K) := by
  have e := hfa.symm.trans (PySem.W.mg_of X G a16)
  cases e
  have n_len := PySem.W.mg_none_of X G z0
  have n_abs := PySem.W.mg_none_of X G z1
  have n_max := PySem.W.mg_none_of X G z2
  have n_min := PySem.W.mg_none_of X G z3
  have n_sorted := PySem.W.mg_none_of X G z4
  have n_isinstance := PySem.W.mg_none_of X G z5
  have n_int := PySem.W.mg_none_of X G z6
  have n_list := PySem.W.mg_none_of X G z7
  have n_tuple := PySem.W.mg_none_of X G z8
  have n_str := PySem.W.mg_none_of X G z9
  have n_range := PySem.W.mg_none_of X G z10
  have n_enumerate := PySem.W.mg_none_of X G z11
  have n_dict := PySem.W.mg_none_of X G z12
  have n_sum := PySem.W.mg_none_of X G z13
  have n_all := PySem.W.mg_none_of X G z14
  have n_any := PySem.W.mg_none_of X G z15
  have n_repr := PySem.W.mg_none_of X G z16
  have n_set := PySem.W.mg_none_of X G z17
  have n_zip := PySem.W.mg_none_of X G z18
  have n_reversed := PySem.W.mg_none_of X G z19
  have n_bool := PySem.W.mg_none_of X G z20
  have B : Bt mg := { len := n_len, abs := n_abs, max := n_max, min := n_min, sorted := n_sorted, isinstance := n_isinstance, int := n_int, list := n_list, tuple := n_tuple, str := n_str, range := n_range, enumerate := n_enumerate, dict := n_dict, sum := n_sum, all := n_all, any := n_any, repr := n_repr, set := n_set, zip := n_zip, reversed := n_reversed }
  have g_MAX_CASE_NODES : ∃ u, mg "MAX_CASE_NODES" = some u ∧ RelV (.int 8) u := ⟨_, PySem.W.mg_of X G w0, ⟨_, rfl⟩⟩
  have hV := PySem.W.mg_of X G v0
  have sV : ∀ H, SqT K H va ([0, 1, 2].map V.int) := fun H => .inr ⟨_, _, _, v1, rfl, rfl, (by show 3 ≤ sizeLine; decide), .cons ⟨_, rfl⟩ (.cons ⟨_, rfl⟩ (.cons ⟨_, rfl⟩ .nil))⟩
  have F0 := fun_mk (st := s_has_node) l0 c0 k0
  have b0 := F0.binds (ps := ["graph", "candidate"]) fun _ _ _ _ _ _ us hl => match us, hl with | [_, _], _ => rfl
  have F1 := fun_mk (st := s_edge_of) l1 c1 k1
  have b1 := F1.binds (ps := ["first", "second"]) fun _ _ _ _ _ _ us hl => match us, hl with | [_, _], _ => rfl
  have F2 := fun_mk (st := s_first_conflict) l2 c2 k2
  have b2 := F2.binds (ps := ["graph", "values"]) fun _ _ _ _ _ _ us hl => match us, hl with | [_, _], _ => rfl
  have F3 := fun_mk (st := s_first_extension) l3 c3 k3
  have b3 := F3.binds (ps := ["graph", "values"]) fun _ _ _ _ _ _ us hl => match us, hl with | [_, _], _ => rfl
  have F4 := fun_mk (st := s_first_state) l4 c4 k4
  have b4 := F4.binds (ps := ["graph"]) fun _ _ _ _ _ _ us hl => match us, hl with | [_], _ => rfl
  have F5 := fun_mk (st := s_tree_below) l5 c5 k5
  have b5 := F5.binds (ps := ["graph", "values"]) fun _ _ _ _ _ _ us hl => match us, hl with | [_, _], _ => rfl
  have F6 := fun_mk (st := s_case_tree) l6 c6 k6
  have b6 := F6.binds (ps := ["graph"]) fun _ _ _ _ _ _ us hl => match us, hl with | [_], _ => rfl
  have F7 := fun_mk (st := s_is_tree_below) l7 c7 k7
  have b7 := F7.binds (ps := ["graph", "candidate", "values"]) fun _ _ _ _ _ _ us hl => match us, hl with | [_, _, _], _ => rfl
  have F8 := fun_mk (st := s_is_case_tree) l8 c8 k8
  have b8 := F8.binds (ps := ["graph", "candidate"]) fun _ _ _ _ _ _ us hl => match us, hl with | [_, _], _ => rfl
  have F9 := fun_mk (st := s__law_box) l9 c9 k9
  have b9 := F9.binds (ps := ["_law_script"]) fun _ _ _ _ _ _ us hl => match us, hl with | [_], _ => rfl
  have F10 := fun_mk (st := s__law_draw) l10 c10 k10
  have b10 := F10.binds (ps := ["_law_source", "_law_count"]) fun _ _ _ _ _ _ us hl => match us, hl with | [_, _], _ => rfl
  have F11 := fun_mk (st := s__law_stem) l11 c11 k11
  have b11 := F11.binds (ps := ["_law_source"]) fun _ _ _ _ _ _ us hl => match us, hl with | [_], _ => rfl
  have F12 := fun_mk (st := s__law_random_graph) l12 c12 k12
  have b12 := F12.binds (ps := ["_law_source", "_law_most"]) fun _ _ _ _ _ _ us hl => match us, hl with | [_, _], _ => rfl
  have F13 := fun_mk (st := s__law_first) l13 c13 k13
  have b13 := F13.binds (ps := ["_law_graph"]) fun _ _ _ _ _ _ us hl => match us, hl with | [_], _ => rfl
  have F14 := fun_mk (st := s__law_changed) l14 c14 k14
  have b14 := F14.binds (ps := ["_law_source", "_law_tree"]) fun _ _ _ _ _ _ us hl => match us, hl with | [_, _], _ => rfl
  have F15 := fun_mk (st := s__law_with_more_nodes) l15 c15 k15
  have b15 := F15.binds (ps := ["_law_source", "_law_graph"]) fun _ _ _ _ _ _ us hl => match us, hl with | [_, _], _ => rfl
  have F16 := fun_mk (st := s_law) l16 c16 k16
  have b16 := F16.binds (ps := ["_law_script"]) fun _ _ _ _ _ _ us hl => match us, hl with | [_], _ => rfl
  refine ⟨PySem.W.fnOf "law" "law" (defArgs s_law) (defBody s_law) (defScope s_law) .none kV16 dc16 pm16 an16 cd16 ct16, fun s v => .of_eq rfl, fun base _ _ => ?_⟩
  have c_has_node : Cal l.prog w K mg base (CX0) 1 "has_node" (spHasT K) := ⟨⟨_, _, _, ok_hasT F0 B, PySem.W.mg_of X G a0, k0, b0⟩⟩
  have c_edge_of : Cal l.prog w K mg base (CX0) 1 "edge_of" (spEdgeT) := ⟨⟨_, _, _, ok_edgeT F1 B, PySem.W.mg_of X G a1, k1, b1⟩⟩
  have c_first_conflict : Cal l.prog w K mg base (CX0) 1 "first_conflict" (spConf) := ⟨⟨_, _, _, ok_conf F2 B, PySem.W.mg_of X G a2, k2, b2⟩⟩
  have c_first_extension : Cal l.prog w K mg base (CX0) 10 "first_extension" (spExtU) := ⟨⟨_, _, _, ok_extU F3 B ⟨c_first_conflict⟩ ⟨PySem.W.mg_of X G a3, k3, b3⟩ hV sV, PySem.W.mg_of X G a3, k3, b3⟩⟩
  have c_first_state : Cal l.prog w K mg base (CX0) 11 "first_state" (spFst) := ⟨⟨_, _, _, ok_fst F4 B ⟨g_MAX_CASE_NODES, c_first_extension⟩, PySem.W.mg_of X G a4, k4, b4⟩⟩
  have c_tree_below : Cal l.prog w K mg base (CX0) 10 "tree_below" (spBelowU) := ⟨⟨_, _, _, ok_belowU F5 B ⟨c_first_conflict⟩ ⟨PySem.W.mg_of X G a5, k5, b5⟩ hV sV, PySem.W.mg_of X G a5, k5, b5⟩⟩
  have c_case_tree : Cal l.prog w K mg base (CX0) 12 "case_tree" (spCaseT) := ⟨⟨_, _, _, ok_caseT F6 B ⟨c_first_state, c_tree_below⟩, PySem.W.mg_of X G a6, k6, b6⟩⟩
  have c_is_tree_below : Cal l.prog w K mg base (CX0) 10 "is_tree_below" (spTreeW K) := ⟨⟨_, _, _, ok_treeW F7 B ⟨c_has_node, c_edge_of⟩ ⟨PySem.W.mg_of X G a7, k7, b7⟩ hV sV, PySem.W.mg_of X G a7, k7, b7⟩⟩
  have c_is_case_tree : Cal l.prog w K mg base (CX0) 11 "is_case_tree" (spCaseU K) := ⟨⟨_, _, _, ok_caseU F8 B ⟨c_is_tree_below⟩, PySem.W.mg_of X G a8, k8, b8⟩⟩
  have c__law_box : Cal l.prog w K mg base (CX0) 1 "_law_box" (spBox K) := ⟨⟨_, _, _, ok_box F9 B, PySem.W.mg_of X G a9, k9, b9⟩⟩
  have c__law_draw : Cal l.prog w K mg base (CX0) 1 "_law_draw" (spDraw) := ⟨⟨_, _, _, ok_draw F10 B, PySem.W.mg_of X G a10, k10, b10⟩⟩
  have c__law_stem : Cal l.prog w K mg base (CX0) 2 "_law_stem" (spStem) := ⟨⟨_, _, _, ok_stem F11 B ⟨c__law_draw⟩, PySem.W.mg_of X G a11, k11, b11⟩⟩
  have c__law_random_graph : Cal l.prog w K mg base (CX0) 3 "_law_random_graph" (spGraphN) := ⟨⟨_, _, _, ok_graphN F12 B ⟨c__law_draw, c__law_stem⟩, PySem.W.mg_of X G a12, k12, b12⟩⟩
  have c__law_first : Cal l.prog w K mg base (CX0) 1 "_law_first" (spFirstL K) := ⟨⟨_, _, _, ok_first F13 B, PySem.W.mg_of X G a13, k13, b13⟩⟩
  have c__law_changed : Cal l.prog w K mg base (CX0) 10 "_law_changed" (spChdU) := ⟨⟨_, _, _, ok_chdU F14 B ⟨c__law_draw⟩ ⟨PySem.W.mg_of X G a14, k14, b14⟩, PySem.W.mg_of X G a14, k14, b14⟩⟩
  have c__law_with_more_nodes : Cal l.prog w K mg base (CX0) 2 "_law_with_more_nodes" (spMore) := ⟨⟨_, _, _, ok_more F15 B ⟨c__law_draw⟩, PySem.W.mg_of X G a15, k15, b15⟩⟩
  exact ok_law F16 B ⟨c__law_box, c__law_draw, c__law_random_graph, c_case_tree, c__law_changed, c__law_with_more_nodes, c_is_case_tree, c__law_first, n_bool⟩
theorem walk {l : PySem.W.OpenLaw} {q : Program} {loose : List Str} {XP : (Str → Option Value) → Heap → Prop} {YP : World → Heap → Prop} {d : DefRec} {K : Params → PySem.W.Frag} (hn : l.most = some 63) (hdf : d.params.defaults = [])
    (hY : ∀ (w : World) (h : Heap), YP w h → (K w.params).In h)
    (F : ∀ (w : World) (mg : Str → Option Value) (fa : Addr) (h : Heap), (K w.params).In h → h.Ns mainGlobals mg → mg d.name = some (.ref fa) →
      ∃ fd : FuncData, (∀ (s : Shared) (u : Value), BindsTo s fd ⟨[u], []⟩ [("_law_script", u)]) ∧ ∀ base : Heap, (K w.params).In base → base.Ns mainGlobals mg → FnG l.prog w (K w.params) mg base CX0 13 fa fd ["_law_script"] (spLaw (K w.params))) :
    PySem.W.WalkO q loose XP YP l.row.toRowW d [] (fun f vs => PySem.call f vs) :=
  walk_G (n := 63) (k := 13) (x := "_law_script") (sp := spLaw) hn (by decide) hdf ⟨rfl, by decide, by decide⟩ hY F fun K H a ns hl _ _ hS => ⟨a, ns, rfl, hS, hl, fun _ => rfl⟩
end Law
open PySem PySem.W PyProof.Rows
set_option maxRecDepth 100000 in
set_option maxHeartbeats 0 in
theorem PySem.Challenge.cw_threeturned_k62_whole_case_trees_are_sou_holds : PySem.Challenge.rw_threeturned_k62_whole_case_trees_are_sou.Holds := by
  w_on; o_law; k_head; (case hw => w_witness2)
  k_fill
  refine Law.walk (l := PySem.Challenge.rw_threeturned_k62_whole_case_trees_are_sou) rfl rfl (fun w h Y => PySem.W.kIn_of Y) ?F
  case F =>
    intro w mg fa h KX G hmg
    refine' Law.all_mk KX G hmg ?a0 ?l0 ?c0 ?k0 ?a1 ?l1 ?c1 ?k1 ?a2 ?l2 ?c2 ?k2 ?a3 ?l3 ?c3 ?k3 ?a4 ?l4 ?c4 ?k4 ?a5 ?l5 ?c5 ?k5 ?a6 ?l6 ?c6 ?k6 ?a7 ?l7 ?c7 ?k7 ?a8 ?l8 ?c8 ?k8 ?a9 ?l9 ?c9 ?k9 ?a10 ?l10 ?c10 ?k10 ?a11 ?l11 ?c11 ?k11 ?a12 ?l12 ?c12 ?k12 ?a13 ?l13 ?c13 ?k13 ?a14 ?l14 ?c14 ?k14 ?a15 ?l15 ?c15 ?k15 ?a16 ?l16 ?c16 ?k16 ?z0 ?z1 ?z2 ?z3 ?z4 ?z5 ?z6 ?z7 ?z8 ?z9 ?z10 ?z11 ?z12 ?z13 ?z14 ?z15 ?z16 ?z17 ?z18 ?z19 ?z20 ?w0 ?v0 ?v1
    (case a0 => k_is); (case l0 => k_is); (case c0 => k_is); (case k0 => k_is)
    (case a1 => k_is); (case l1 => k_is); (case c1 => k_is); (case k1 => k_is)
    (case a2 => k_is); (case l2 => k_is); (case c2 => k_is); (case k2 => k_is)
    (case a3 => k_is); (case l3 => k_is); (case c3 => k_is); (case k3 => k_is)
    (case a4 => k_is); (case l4 => k_is); (case c4 => k_is); (case k4 => k_is)
    (case a5 => k_is); (case l5 => k_is); (case c5 => k_is); (case k5 => k_is)
    (case a6 => k_is); (case l6 => k_is); (case c6 => k_is); (case k6 => k_is)
    (case a7 => k_is); (case l7 => k_is); (case c7 => k_is); (case k7 => k_is)
    (case a8 => k_is); (case l8 => k_is); (case c8 => k_is); (case k8 => k_is)
    (case a9 => k_is); (case l9 => k_is); (case c9 => k_is); (case k9 => k_is)
    (case a10 => k_is); (case l10 => k_is); (case c10 => k_is); (case k10 => k_is)
    (case a11 => k_is); (case l11 => k_is); (case c11 => k_is); (case k11 => k_is)
    (case a12 => k_is); (case l12 => k_is); (case c12 => k_is); (case k12 => k_is)
    (case a13 => k_is); (case l13 => k_is); (case c13 => k_is); (case k13 => k_is)
    (case a14 => k_is); (case l14 => k_is); (case c14 => k_is); (case k14 => k_is)
    (case a15 => k_is); (case l15 => k_is); (case c15 => k_is); (case k15 => k_is)
    (case a16 => k_is); (case l16 => k_is); (case c16 => k_is); (case k16 => k_is)
    (case z0 => k_is); (case z1 => k_is); (case z2 => k_is); (case z3 => k_is)
    (case z4 => k_is); (case z5 => k_is); (case z6 => k_is); (case z7 => k_is)
    (case z8 => k_is); (case z9 => k_is); (case z10 => k_is); (case z11 => k_is)
    (case z12 => k_is); (case z13 => k_is); (case z14 => k_is); (case z15 => k_is)
    (case z16 => k_is); (case z17 => k_is); (case z18 => k_is); (case z19 => k_is)
    (case z20 => k_is); (case w0 => k_is); (case v0 => k_is); (case v1 => k_is)

