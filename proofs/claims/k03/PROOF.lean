import PyProof.Rows.All
import Wide.All
import OpenK.AllK
import Wide.FinOn
import HandS.ForMost
import HandS.Exc
import HandS.EndBits
import HandS.Wide
import HandS.Codes
import HandS.TupAny
import HandS.IsInst
import HandS.Walk
import HandS.Flow
import HandS.SetKeys
import HandS.SortKw
import HandS.Style
import KE.SortData
import HandS.More
import HandS.DictComp
import HandS.ExcInit
import HandS.ExcIs
import HandS.ExcField
import HandS.Nested
import KE.GoesEnum
import KE.GoesMore
import HandS.Defaults
import HandS.Deep
import PyProof.RowDictHeap
import PyProof.ReprRoads
import PyProof.ReprBulk
import PySem.Challenge.RW_threeturned_k03_shortest_paths
import KE.KExcInit
import HandS.WordsExc
import HandS.Finally
import PyProof.DictUpdate
import PyProof.P3In
import HandS.RaiseMore
import HandS.Conv
import KE.KDictSum
import HandS.Lambda
import KE.DataMinKey
import PyProof.TupleOfSeq
import KE.DataCmp
import HandS.EndTab
set_option Elab.async false
set_option linter.all false
set_option maxRecDepth 100000
set_option maxHeartbeats 4000000
/-! calls with room and with nothing being shown (guards known) -/
namespace U
open PySem PySem.Spec PyProof.Rows L2

/-- room for k calls, and no repr is under way -/
structure Rm (k : Nat) (A : Around) : Prop where
  r : Room k A
  g : A.guards = some []
theorem Rm.mono {j k : Nat} {A : Around} (h : Rm k A) (hj : j ≤ k) : Rm j A := ⟨h.r.mono hj, h.g⟩
theorem Rm.deeper {k : Nat} {A : Around} (h : Rm (k + 1) A) (env : Env) : Rm k (A.deeper env) := ⟨h.r.deeper env, h.g⟩
theorem Rm.u1 {k : Nat} {A : Around} (h : Rm k A) : A.units + 1 < cLine := by
  have z := h.r.un
  omega
theorem Rm.u64 {k : Nat} {A : Around} (h : Rm k A) : A.units + 64 < cLine := h.r.units
theorem Rm.u0 {k : Nat} {A : Around} (h : Rm k A) : A.units < cLine := by
  have z := h.r.un
  omega
theorem Rm.u100 {k : Nat} {A : Around} (h : Rm k A) : A.units + 150 < cLine := by
  have z := h.r.un
  omega

/-- the def at f keeps the promise sp -/
structure FnG (P : Program) (w : World) (K : PySem.W.Frag) (mg : Str → Option Value) (base : Heap) (CX : CXT) (k : Nat) (f : Addr) (fd : FuncData) (ps : List Str) (sp : Sp) : Prop where
  len : ∀ vs H Q E, sp vs H Q E → vs.length = ps.length
  go : ∀ (A : Around) (outer : List Env) (s : Shared) (H : Hp) (args : Args) (us : List Value) (vs : List V) (Q : VK) (E : XK), Rm k A →
    Env0 P w K mg base A outer s H → BindsTo s fd args (ps.zip us) → Vals vs us → sp vs H Q E → codeAny (model P w) A (.call (.ref f) args) (CR CX outer P w H s Q E) s
/-- room ran out of is no way: L2's own promise serves -/
theorem FnG.of {P : Program} {w : World} {K : PySem.W.Frag} {mg : Str → Option Value} {base : Heap} {CX : CXT} {k : Nat} {f : Addr} {fd : FuncData} {ps : List Str} {sp : Sp} (F : FnOk P w K mg base CX k f fd ps sp) : FnG P w K mg base CX k f fd ps sp :=
  ⟨F.len, fun A outer s H args us vs Q E hr => F.run A outer s H args us vs Q E hr.r⟩

section
variable {P : Program} {w : World} {K : PySem.W.Frag} {mg : Str → Option Value} {base : Heap} {CX : CXT}
/-- a def by its body -/
theorem fnG {x qual : Str} {st : Stmt} {f : Addr} {fd : FuncData} {N ps : List Str} {k : Nat} {sp : Sp} (F : Fun K x qual st f fd) (S : FnScope N ps (defScope st)) (len : ∀ vs H Q E, sp vs H Q E → vs.length = ps.length)
    (body : ∀ (cdv : Value) (A : Around) (outer : List Env) (s : Shared) (H : Hp) (vs : List V) (Q : VK) (E : XK), Rm k (A.deeper (envOfC qual (defScope st) s.heap.objs.size f cdv)) → sp vs H Q E →
      ∃ t, PSs (cxOf CX P w K mg base N qual (defScope st) f cdv A outer s H E) (defBody st) t ∧ t { nx := fun _ H' => Q .non H', rt := Q } (start N vs) H) :
    FnG P w K mg base CX (k + 1) f fd ps sp := by
  obtain ⟨oc, od, kV, doc, pm, an, cdv, ct, osl, rfl, lk, hcd⟩ := F.ex
  refine ⟨len, fun A outer s H args us vs Q E room e0 bd rel want => ?_⟩
  have count := len _ _ _ _ want
  have kin : K.In s.heap := e0.mod.kin.keeps fun b o e => (e0.bs b o e).1
  have kinds : ∀ y ∈ ps.zip us, (defScope st).names.lookup y.1 = some .local ∨ ((defScope st).names.lookup y.1 = some .cell ∧ ((cellsFrom (s.heap.objs.size + 1) (defScope st).names []).lookup y.1).isSome = true) := by
    rintro ⟨n, v⟩ hy
    cases S.par n (List.of_mem_zip hy).1 with
    | inl q => exact .inl q
    | inr q => exact .inr ⟨q, PySem.W.cellsFrom_some _ _ _ (.inl q)⟩
  apply codeAny_call_function room.r.depth (kin _ _ lk) rfl S.co S.gen rfl (PySem.W.codeRec_of kin hcd) (bd _ _ _ _ _)
  apply wpAny_newFunctionEnv_cells S.kind kinds
  intro env he s1 x
  subst he
  have lim : s.heap.NoLimit := e0.mod.nolimit.keeps fun b o e => (e0.bs b o e).1
  refine ⟨lim.keeps x.toInCall.keep, codeAny_func ?_⟩
  obtain ⟨t, ht, want'⟩ := body cdv A outer s H vs Q E (room.deeper _) want
  have I := inv_start (CX := CX) (P := P) (w := w) (K := K) (mg := mg) (base := base) (E := E) S room.r.hd e0 count rel x
  refine wpAny_mono (ht.run [] s1 (start N vs) H _ I want') ?_ fun e s' hs => hs
  intro fl s' hs
  cases fl with
  | ret u =>
    obtain ⟨v, σ', H', J, rv, q⟩ := hs
    exact ⟨v, H', J.os, J.bare, J.base, J.hok, rv, q⟩
  | next =>
    obtain ⟨σ', H', J, q⟩ := hs
    exact ⟨V.non, H', J.os, J.bare, J.base, J.hok, rfl, q⟩
  | brk => exact hs.elim fun _ z => z.elim fun _ z => z.2.elim
  | cont => exact hs.elim fun _ z => z.elim fun _ z => z.2.elim
/-- a def that no exception leaves -/
theorem fnG0 {x qual : Str} {st : Stmt} {f : Addr} {fd : FuncData} {N ps : List Str} {k : Nat} {sp : Sp} (F : Fun K x qual st f fd) (S : FnScope N ps (defScope st)) (len : ∀ vs H Q E, sp vs H Q E → vs.length = ps.length)
    (body : ∀ (cdv : Value) (A : Around) (outer : List Env) (s : Shared) (H : Hp) (vs : List V) (Q : VK) (E : XK), Rm k (A.deeper (envOfC qual (defScope st) s.heap.objs.size f cdv)) → sp vs H Q E →
      ∃ t, PSs (cxOf CX0 P w K mg base N qual (defScope st) f cdv A outer s H E).nox (defBody st) t ∧ t { nx := fun _ H' => Q .non H', rt := Q } (start N vs) H) :
    FnG P w K mg base CX0 (k + 1) f fd ps sp := fnG F S len fun cdv A outer s H vs Q E hr h => by
  obtain ⟨t, p, q⟩ := body cdv A outer s H vs Q E hr h
  exact ⟨t, p.nox, q⟩
/-- a def that may be called by its global name -/
structure Cal (P : Program) (w : World) (K : PySem.W.Frag) (mg : Str → Option Value) (base : Heap) (CX : CXT) (k : Nat) (x : Str) (sp : Sp) : Prop where
  ex : ∃ (f : Addr) (fd : FuncData) (ps : List Str), FnG P w K mg base CX k f fd ps sp ∧ mg x = some (.ref f) ∧ PySem.W.keepIn K (.ref f) = true ∧ Binds K fd ps []
end

section
variable {X : Cx} {CX : L2.CXT} {k j : Nat} {f : Addr} {fd : FuncData} {ps : List Str} {sp : Sp} {E : XK} {x : Str} {p pos : Pos} {e : Expr} {es : List Expr} {t : TA}
theorem callG {pins : List (Addr × Obj)} {σ : L2.St} {H : Hp} {s : Shared} {Q : VK} {us : List Value} {vs : List V} (F : FnG X.prog X.w X.K X.mg X.base CX k f fd ps sp) (hr : Rm k X.A) (hb : Binds X.K fd ps []) (hx : Passes CX X E)
    (I : Inv X pins σ H s) (r : Vals vs us) (h : sp vs H Q E) : wpAny (model X.prog X.w) X.A (call (.ref f) us) (EP X pins σ Q) X.xe s := by
  have count : us.length = ps.length := r.length ▸ F.len _ _ _ _ h
  have bd := hb s us I.kIn (by rw [List.append_nil]; exact count)
  rw [List.append_nil] at bd
  refine wpAny_call (codeAny_mono (F.go X.A X.stack s H ⟨us, []⟩ us vs Q E hr I.env0 bd r h) ?_)
  intro res s' hq
  cases res with
  | error er => exact hx pins σ H s er s' I hq
  | ok fl =>
    cases fl with
    | ret u => exact I.after hq
    | next => exact hq.elim
    | brk => exact hq.elim
    | cont => exact hq.elim
/-- f(..): the promise -/
def tC1 (sp : Sp) (E : XK) (t : TA) : TE := fun σ H Q => t σ H fun vs H1 => sp vs H1 Q E
theorem pe_cG (c : Cal X.prog X.w X.K X.mg X.base CX k x sp) (hr : Rm j X.A) (hk : k ≤ j) (hg : Gl X x) (hx : Passes CX X E) (ha : PA X (e :: es) t)
    (hdb : (x == ("__debug__" : Str)) = false := by decide) (he : starEach (e :: es) X.env = (false, eval e X.env) :: starEach es X.env := by rfl) (hpl : (backTo pos (starEach es X.env)).any (·.1) = false := by rfl) :
    PE X (.Call (.Name x p) (e :: es) [] pos) (tC1 sp E t) := by
  obtain ⟨f, fd, ps, F, hm, kp, b⟩ := c.ex
  refine ⟨fun pins s σ H Q I h => wpAny_Call_Name_kw (ld_glob I hg hm ?_ hdb)⟩
  refine PySem.W.callWith_K (h₀ := X.base) I.ok.mod.kin kp (thn (ha.run pos pins s σ H _ I h) ?_) he hpl
  rintro us s1 ⟨vs, H1, I1, r, q⟩
  exact ⟨I1.kIn, callG F (hr.mono hk) b hx I1 r q⟩
/-- f() -/
theorem pe_cG0 (c : Cal X.prog X.w X.K X.mg X.base CX k x sp) (hr : Rm j X.A) (hk : k ≤ j) (hg : Gl X x) (hx : Passes CX X E)
    (hdb : (x == ("__debug__" : Str)) = false := by decide) : PE X (.Call (.Name x p) [] [] pos) (tC1 sp E tNil) := by
  obtain ⟨f, fd, ps, F, hm, kp, b⟩ := c.ex
  refine ⟨fun pins s σ H Q I h => wpAny_Call_Name_kw (ld_glob I hg hm ?_ hdb)⟩
  exact PySem.W.callWith_K0 I.kIn kp (callG (us := []) F (hr.mono hk) b hx I .nil h)
theorem pe_c (c : Cal X.prog X.w X.K X.mg X.base CX0 k x sp) (hr : Rm j X.A) (hk : k ≤ j) (hg : Gl X x) (ha : PA X (e :: es) t)
    (hdb : (x == ("__debug__" : Str)) = false := by decide) (he : starEach (e :: es) X.env = (false, eval e X.env) :: starEach es X.env := by rfl) (hpl : (backTo pos (starEach es X.env)).any (·.1) = false := by rfl) :
    PE X (.Call (.Name x p) (e :: es) [] pos) (tC1 sp E0 t) := pe_cG c hr hk hg pass0 ha hdb he hpl
/-- .. what is raised is wished for at the caller's slots -/
def tC2 (sp : Sp) (W : WX) (t : TA) : TE := fun σ H Q => t σ H fun vs H1 => sp vs H1 Q fun cls d H' => W cls d σ H'
theorem pe_cX {W : WX} (c : Cal X.prog X.w X.K X.mg X.base (L2.CX X.prog X.w) k x sp) (hr : Rm j X.A) (hk : k ≤ j) (hg : Gl X x) (tk : Takes X W) (ha : PA X (e :: es) t)
    (hdb : (x == ("__debug__" : Str)) = false := by decide) (he : starEach (e :: es) X.env = (false, eval e X.env) :: starEach es X.env := by rfl) (hpl : (backTo pos (starEach es X.env)).any (·.1) = false := by rfl) :
    PE X (.Call (.Name x p) (e :: es) [] pos) (tC2 sp W t) := by
  obtain ⟨f, fd, ps, F, hm, kp, b⟩ := c.ex
  refine ⟨fun pins s σ H Q I h => wpAny_Call_Name_kw (ld_glob I hg hm ?_ hdb)⟩
  refine PySem.W.callWith_K (h₀ := X.base) I.ok.mod.kin kp (thn (ha.run pos pins s σ H _ I h) ?_) he hpl
  rintro us s1 ⟨vs, H1, I1, r, q⟩
  refine ⟨I1.kIn, ?_⟩
  have count : us.length = ps.length := r.length ▸ F.len _ _ _ _ q
  have bd := b s1 us I1.kIn (by rw [List.append_nil]; exact count)
  rw [List.append_nil] at bd
  refine wpAny_call (codeAny_mono (F.go X.A X.stack s1 H1 ⟨us, []⟩ us vs _ _ (hr.mono hk) I1.env0 bd r q) ?_)
  intro res s' hq
  cases res with
  | error er => exact tk er s' (XE.of_call I1 (fun cls d H' z => z) hq)
  | ok fl =>
    cases fl with
    | ret u => exact I1.after hq
    | next => exact hq.elim
    | brk => exact hq.elim
    | cont => exact hq.elim
end

/-! ### the law's own head -/
theorem law_G {P : Program} {w : World} {K : PySem.W.Frag} {mg mb : Str → Option Value} {k : Nat} {fa a : Addr} {fd : FuncData} {x : Str} {sp : Sp} {s₁ : Shared} {vs : List Value} {ns : List Int}
    (KX : K.In s₁.heap) (hns : s₁.heap.Ns mainGlobals mg) (hb : s₁.heap.Ns builtinsNs mb) (hbb : ∀ x : Str, x ≠ "__name__" → mb x = bootBuiltins x) (hlim : s₁.heap.NoLimit) (hg : s₁.gens = #[])
    (ha : s₁.heap.get? a = some { cls := .type "list", data := .seq vs.toArray }) (hi : IntsAre vs ns) (hl : ns.length ≤ sizeLine) (hr : Room k callerA)
    (F : ∀ base : Heap, K.In base → base.Ns mainGlobals mg → FnG P w K mg base CX0 k fa fd [x] sp) (hbind : ∀ (s : Shared) (u : Value), BindsTo s fd ⟨[u], []⟩ [(x, u)])
    (hsp : ∀ H : Hp, Only H → SqL K H a (ns.map V.int) → sp [.ref a] H (fun v _ => v = .bl true) fun _ _ _ => False) :
    codeAny (model P w) callerA (.call (.ref fa) ⟨[.ref a], []⟩) (fun r s' => r = .ok (.ret (.bool true)) ∧ OldK s₁.heap s'.heap ∧ s'.os = s₁.os ∧ AllBare s'.gens) s₁ := by
  /- the promise as L2's head asks it: of room alone; it asks it of callerA alone -/
  have Z : ∀ base : Heap, K.In base → base.Ns mainGlobals mg → ∀ (outer : List Env) (s : Shared) (H : Hp) (args : Args) (us : List Value) (vs : List V) (Q : VK) (E : XK),
      Env0 P w K mg base callerA outer s H → BindsTo s fd args ([x].zip us) → Vals vs us → sp vs H Q E → codeAny (model P w) callerA (.call (.ref fa) args) (CR CX0 outer P w H s Q E) s :=
    fun base h1 h2 outer s H args us vs Q E e b r q => (F base h1 h2).go callerA outer s H args us vs Q E ⟨hr, rfl⟩ e b r q
  have rv := vals_ints hi
  have lenV := hi.length
  have main : ∀ H : Hp, Only H → SqL K H a (ns.map V.int) → HOk P w H s₁.heap → (∀ b, H b ≠ none → b = a) → (H a ≠ none → K.lookup a = none) →
      codeAny (model P w) callerA (.call (.ref fa) ⟨[.ref a], []⟩) (fun r s' => r = .ok (.ret (.bool true)) ∧ OldK s₁.heap s'.heap ∧ s'.os = s₁.os ∧ AllBare s'.gens) s₁ := by
    intro H only seq ok only_a own
    have free_dict : ∀ {b : Addr} {o : Obj} {es : Array DictEntry} {ep : Nat}, s₁.heap.get? b = some o → o.data = .dict es ep → H b = none := by
      intro b o es ep e d
      cases q : H b with
      | none => rfl
      | some u =>
        obtain rfl : b = a := only_a b (by rw [q]; simp)
        obtain rfl := Option.some.inj (ha.symm.trans e)
        cases d
    have stays : ∀ {b : Addr} {m : Str → Option Value}, s₁.heap.Ns b m → (hidT s₁.heap H).Ns b m := by
      rintro b m ⟨o, es, ep, e, d, r⟩
      exact ⟨o, es, ep, hidT_get e (free_dict e d), d, r⟩
    have kin : K.In (hidT s₁.heap H) := by
      intro b o e
      refine hidT_get (KX b o e) ?_
      cases q : H b with
      | none => rfl
      | some u =>
        obtain rfl : b = a := only_a b (by rw [q]; simp)
        rw [own (by rw [q]; simp)] at e
        cases e
    have md : Mod K mg (hidT s₁.heap H) := ⟨kin, stays hns, ⟨mb, stays hb, hbb⟩, by
      obtain ⟨mc, h1, h2⟩ := hlim
      exact ⟨mc, stays h1, h2⟩⟩
    have e0 : Env0 P w K mg (hidT s₁.heap H) callerA [] s₁ H := ⟨rfl, md, fun b o e => of_hidT e, Nat.le_of_eq (hidT_size _ _), trivial, fun b z => (List.not_mem_nil z).elim, ok, .of_eq hg⟩
    refine codeAny_mono (Z _ kin (stays hns) [] s₁ H ⟨[.ref a], []⟩ [.ref a] [.ref a] _ _ e0 (hbind s₁ (.ref a)) (.cons rfl .nil) (hsp H only seq)) ?_
    intro r s' h
    cases r with
    | error e => exact h.elim
    | ok fl =>
      cases fl with
      | next => exact h.elim
      | brk => exact h.elim
      | cont => exact h.elim
      | ret u =>
        obtain ⟨v, H', os, bare, un, ok', r', q⟩ := h
        have q' : v = .bl true := q
        subst q'
        obtain rfl : u = Value.bool true := r'
        refine ⟨rfl, OldK.of_keep ?_, os, bare⟩
        intro b o e
        cases q : H b with
        | none => exact un.keep b o e q (fun z => (List.not_mem_nil z).elim) (fun z => (List.not_mem_nil z).elim)
        | some u =>
          rcases only b with z | ⟨ob, xs, z⟩
          · rw [q] at z; cases z
          · obtain ⟨e1, _⟩ := ok b _ z
            obtain ⟨e2, _⟩ := ok' b _ (un.frzs b ob _ z)
            exact (Option.some.inj (e1.symm.trans e)) ▸ e2
  cases hk : K.lookup a with
  | some o =>
    obtain rfl := Option.some.inj (ha.symm.trans (KX a o hk))
    refine main (fun _ => none) (fun _ => .inl rfl) (.inr ⟨_, vs.toArray, _, hk, rfl, rfl, rfl, ?_, by simpa using rv⟩) (fun b u z => nomatch z) (fun b z => (z rfl).elim) fun z => (z rfl).elim
    rw [List.size_toArray, lenV]
    exact hl
  | none =>
    refine main (fun b => if b = a then some (.frz { cls := .type "list", data := .seq vs.toArray } (.lst (ns.map V.int))) else none) (fun b => ?_) (.inl (.inr ⟨_, if_pos rfl⟩)) (fun b u z => ?_) (fun b z => ?_) fun _ => hk
    · by_cases hb : b = a
      · exact .inr ⟨_, _, if_pos hb⟩
      · exact .inl (if_neg hb)
    · by_cases hb : b = a
      · subst hb
        obtain rfl := Option.some.inj ((if_pos rfl).symm.trans z)
        exact ⟨ha, by rw [List.length_map]; exact hl, vs, _, rv, ha⟩
      · exact nomatch (if_neg hb).symm.trans z
    · by_cases hb : b = a
      · exact hb
      · exact absurd (if_neg hb) z
theorem walk_G {l : PySem.W.OpenLaw} {n k : Nat} {q : Program} {loose : List Str} {XP : (Str → Option Value) → Heap → Prop} {YP : World → Heap → Prop} {d : DefRec} {K : Params → PySem.W.Frag} {sp : PySem.W.Frag → Sp} {x : Str}
    (hn : l.most = some n) (hn2 : n ≤ sizeLine) (hdf : d.params.defaults = []) (hr : Room k callerA)
    (hY : ∀ (w : World) (h : Heap), YP w h → (K w.params).In h)
    (F : ∀ (w : World) (mg : Str → Option Value) (fa : Addr) (h : Heap), (K w.params).In h → h.Ns mainGlobals mg → mg d.name = some (.ref fa) →
      ∃ fd : FuncData, (∀ (s : Shared) (u : Value), BindsTo s fd ⟨[u], []⟩ [(x, u)]) ∧
        ∀ base : Heap, (K w.params).In base → base.Ns mainGlobals mg → FnG l.prog w (K w.params) mg base CX0 k fa fd [x] (sp (K w.params)))
    (hsp : ∀ (K : PySem.W.Frag) (H : Hp) (a : Addr) (ns : List Int), ns.length ≤ n → (∀ z ∈ ns, Builtin.Int.intBits z ≤ 1048576) → Only H → SqL K H a (ns.map V.int) → sp K [.ref a] H (fun v _ => v = .bl true) fun _ _ _ => False) :
    PySem.W.WalkO q loose XP YP l.row.toRowW d [] (fun f vs => PySem.call f vs) := by
  refine Att.attach_callB hn hdf ?_
  intro w s₀ s₁ mg mb fa o pm cd doc a vs ns G Y ho hd hcd hmg hobj hints hlen bits hg
  obtain ⟨fd, hb, hF⟩ := F w mg fa _ (hY w _ Y) G.T.g hmg
  exact law_G (hY w _ Y) G.T.g G.T.b G.T.builtins G.T.nolimit hg hobj hints (Nat.le_trans hlen hn2) hr hF hb fun H only seq => hsp _ H a ns hlen bits only seq
end U

/-! operators by the values that come: one rule an operator -/
namespace U
open PySem PySem.Spec PyProof.Rows L2
section
variable {X : Cx}

/-! ### names of the world -/
theorem bb_len : bootBuiltins "len" = some (.builtin "len") := by decide +kernel
theorem bb_abs : bootBuiltins "abs" = some (.builtin "abs") := by decide +kernel
theorem bb_max : bootBuiltins "max" = some (.builtin "max") := by decide +kernel
theorem bb_min : bootBuiltins "min" = some (.builtin "min") := by decide +kernel
theorem bb_sorted : bootBuiltins "sorted" = some (.builtin "sorted") := by decide +kernel
theorem bb_isinstance : bootBuiltins "isinstance" = some (.builtin "isinstance") := by decide +kernel
theorem bb_repr : bootBuiltins "repr" = some (.builtin "repr") := by decide +kernel
theorem bb_int : bootBuiltins "int" = some (.type "int") := by decide +kernel
theorem bb_list : bootBuiltins "list" = some (.type "list") := by decide +kernel
theorem bb_tuple : bootBuiltins "tuple" = some (.type "tuple") := by decide +kernel
theorem bb_str : bootBuiltins "str" = some (.type "str") := by decide +kernel
theorem pe_ty {x : Str} {T : String} {pos : Pos} (hg : Gl X x) (hm : X.mg x = none) (hv : bootBuiltins x = some (.type T)) (hn : x ≠ "__name__" := by decide) (hd : (x == ("__debug__" : Str)) = false := by decide) :
    PE X (.Name x pos) (tC (.ty T)) := pe_bltn hg hm hv rfl hn hd
theorem pe_gl {x : Str} {v : V} {pos : Pos} (hg : Gl X x) (h : ∃ u, X.mg x = some u ∧ RelV v u) (hd : (x == ("__debug__" : Str)) = false := by decide) : PE X (.Name x pos) (tC v) := by
  obtain ⟨u, hm, r⟩ := h
  exact pe_glob hg hm r hd

/-! ### + - * % // ** -/
/-- what is wanted where a new list, a new tuple comes -/
def nL (xs : List V) (H : Hp) (Q : VK) : Prop := ∀ p, H p = none → Q (.ref p) (upd H p (.lst xs))
def nT (xs : List V) (H : Hp) (Q : VK) : Prop := ∀ p, H p = none → Q (.ref p) (upd H p (.tup xs))
def rAddU (K : PySem.W.Frag) : R2 := fun x y H Q => match x, y with
  | .int i, .int j => Q (.int (i + j)) H
  | .str a, .str b => a.length + b.length ≤ sizeLine ∧ Q (.str (a ++ b)) H
  | .ref a, .ref b => (∃ xs ys, H a = some (.lst xs) ∧ H b = some (.lst ys) ∧ xs.length + ys.length ≤ sizeLine ∧ nL (xs ++ ys) H Q) ∨ rCatA K (.ref a) (.ref b) H Q
  | _, _ => False
theorem uAdd : OpR X (binaryOp .Add) (rAddU X.K) := by
  intro pins s σ H x y v u Q I rx ry h
  cases x <;> cases y <;> first | exact h.elim | skip
  · exact op_add pins s σ H _ _ v u Q I rx ry ⟨_, _, rfl, rfl, h⟩
  · exact op_add_str pins s σ H _ _ v u Q I rx ry ⟨_, _, rfl, rfl, h⟩
  · rcases h with ⟨xs, ys, h1, h2, h3, h4⟩ | h
    · exact op_cat pins s σ H _ _ v u Q I rx ry ⟨_, _, _, _, rfl, rfl, h1, h2, h3, h4⟩
    · exact op_catA pins s σ H _ _ v u Q I rx ry h
def rSubU : R2 := fun x y H Q => match x, y with
  | .int i, .int j => Q (.int (i - j)) H
  | _, _ => False
theorem uSub : OpR X (binaryOp .Sub) rSubU := by
  intro pins s σ H x y v u Q I rx ry h
  cases x <;> cases y <;> first | exact h.elim | exact op_sub pins s σ H _ _ v u Q I rx ry ⟨_, _, rfl, rfl, h⟩
/-- a text k times -/
def timesS (z : Str) (k : Int) : Str := ⟨((List.replicate k.toNat z.cps.toList).flatten).toArray⟩
theorem timesS_one (z : Str) : timesS z 1 = z := by
  unfold timesS
  simp
theorem timesS_neg {z : Str} {k : Int} (h : k < 1) : timesS z k = Str.empty := by
  unfold timesS
  have e : k.toNat = 0 := by omega
  rw [e]
  rfl
theorem fold_rep (a : Array Nat) : ∀ (n : Nat) (acc : Array Nat), (List.replicate n a).foldl (· ++ ·) acc = acc ++ ((List.replicate n a.toList).flatten).toArray
  | 0, acc => by simp
  | n + 1, acc => by
    rw [List.replicate_succ, List.foldl_cons, fold_rep a n, List.replicate_succ, List.flatten_cons]
    apply Array.ext'
    simp
theorem timesS_nil {z : Str} {k : Int} (h : z.length = 0) : timesS z k = z := by
  obtain ⟨a⟩ := z
  have e : a = #[] := Array.size_eq_zero_iff.mp h
  subst e
  unfold timesS
  have : (List.replicate k.toNat ([] : List Nat)).flatten = [] := by
    rw [List.flatten_eq_nil_iff]
    intro l hl
    exact List.eq_of_mem_replicate hl
  show (⟨((List.replicate k.toNat ([] : List Nat)).flatten).toArray⟩ : Str) = ⟨#[]⟩
  rw [this]
def rMulU : R2 := fun x y H Q => match x, y with
  | .int i, .int j => (CMul i j ∨ CMulW i j) ∧ Q (.int (i * j)) H
  | .str z, .int k => (0 ≤ k ∧ k ≤ 1000 ∧ z.length ≤ 1000) ∧ Q (.str (timesS z k)) H
  | .ref l, .int k => rRep (.ref l) (.int k) H Q
  | _, _ => False
theorem uMul : OpR X (binaryOp .Mult) rMulU := by
  intro pins s σ H x y v u Q I rx ry h
  cases x <;> cases y <;> first | exact h.elim | skip
  · obtain ⟨c | c, h⟩ := h
    · exact op_mul pins s σ H _ _ v u Q I rx ry ⟨_, _, rfl, rfl, c, h⟩
    · exact op_mulW pins s σ H _ _ v u Q I rx ry ⟨_, _, rfl, rfl, c, h⟩
  · rename_i z k
    obtain ⟨⟨h0, h1, hz⟩, q⟩ := h
    obtain ⟨t, rfl⟩ := rx
    obtain ⟨t', rfl⟩ := ry
    have hl : z.length * k.toNat ≤ 1000 * 1000 := Nat.mul_le_mul hz (by omega)
    refine P.mul_str ?_ ?_ ?_ ?_
    · have a : ¬ k < -(2 ^ 63) := by omega
      have b : ¬ k ≥ 2 ^ 63 := by omega
      rw [decide_eq_false a, decide_eq_false b]
      rfl
    · intro _ _ bad
      have : (z.length : Int) ≤ 1000 := by omega
      have e : (1000 : Int) ≤ (2 ^ 63 - 1) / k := by
        rw [Int.le_ediv_iff_mul_le (by omega)]
        have : (1000 : Int) * k ≤ 1000 * 1000 := Int.mul_le_mul_of_nonneg_left h1 (by decide)
        omega
      omega
    · intro _ _
      unfold Builtin.Str.tooLong
      have : z.length * k.toNat ≤ sizeLine := Nat.le_trans hl (by decide)
      simp
      exact this
    · split
      · rename_i hk
        rw [timesS_neg hk] at q
        exact ⟨by decide, ⟨.str Str.empty, H, I.tok _, ⟨_, rfl⟩, q⟩⟩
      · split
        · rename_i hk hc
          have e : timesS z k = z := by
            rcases (Bool.or_eq_true _ _).mp hc with c | c
            · have : k = 1 := by simpa using c
              rw [this, timesS_one]
            · exact timesS_nil (by simpa using c)
          rw [e] at q
          exact ⟨.str z, H, I.tok _, ⟨_, rfl⟩, q⟩
        · have e : (⟨(List.replicate k.toNat z.cps).foldl (· ++ ·) #[]⟩ : Str) = timesS z k := by
            rw [fold_rep]
            unfold timesS
            congr 1
            simp
          rw [e]
          refine ⟨?_, ⟨.str (timesS z k), H, I.tok _, ⟨_, rfl⟩, q⟩⟩
          have : (timesS z k).length = k.toNat * z.length := by
            unfold timesS Str.length
            simp
          rw [this, Nat.mul_comm]
          exact Nat.le_trans hl (by decide)
  · exact op_rep pins s σ H _ _ v u Q I rx ry h
def rModU : R2 := fun x y H Q => match x, y with
  | .int i, .int j => 0 < j ∧ Q (.int (i % j)) H
  | _, _ => False
theorem uMod : OpR X (binaryOp .Mod) rModU := by
  intro pins s σ H x y v u Q I rx ry h
  cases x <;> cases y <;> first | exact h.elim | exact op_mod pins s σ H _ _ v u Q I rx ry ⟨_, _, rfl, rfl, h.1, h.2⟩
def rDivU : R2 := fun x y H Q => match x, y with
  | .int i, .int j => (0 < j ∧ j < 1073741824) ∧ Q (.int (i / j)) H
  | _, _ => False
theorem uDiv : OpR X (binaryOp .FloorDiv) rDivU := by
  intro pins s σ H x y v u Q I rx ry h
  cases x <;> cases y <;> first | exact h.elim | exact op_fdiv pins s σ H _ _ v u Q I rx ry ⟨_, _, rfl, rfl, h.1, h.2⟩
def rPowU : R2 := fun x y H Q => match x, y with
  | .int i, .int j => CPow i j ∧ Q (.int (i ^ j.toNat)) H
  | _, _ => False
theorem uPow : OpR X (binaryOp .Pow) rPowU := by
  intro pins s σ H x y v u Q I rx ry h
  cases x <;> cases y <;> first | exact h.elim | exact op_pow pins s σ H _ _ v u Q I rx ry ⟨_, _, rfl, rfl, h.1, h.2⟩

/-! ### < <= > >= -/
def rLtU : R2 := fun x y H Q => match x, y with
  | .int i, .int j => Q (.bl (decide (i < j))) H
  | .str a, .str b => Q (.bl (decide (a.cps.toList < b.cps.toList))) H
  | _, _ => False
theorem uLt : OpR X (compareOp .Lt) rLtU := by
  intro pins s σ H x y v u Q I rx ry h
  cases x <;> cases y <;> first | exact h.elim | exact op_lt pins s σ H _ _ v u Q I rx ry ⟨_, _, rfl, rfl, h⟩ | exact op_lt_str pins s σ H _ _ v u Q I rx ry ⟨_, _, rfl, rfl, h⟩
def rLeU : R2 := fun x y H Q => match x, y with
  | .int i, .int j => Q (.bl (decide (i ≤ j))) H
  | _, _ => False
theorem uLe : OpR X (compareOp .LtE) rLeU := by
  intro pins s σ H x y v u Q I rx ry h
  cases x <;> cases y <;> first | exact h.elim | exact op_le pins s σ H _ _ v u Q I rx ry ⟨_, _, rfl, rfl, h⟩
def rGtU : R2 := fun x y H Q => match x, y with
  | .int i, .int j => Q (.bl (decide (j < i))) H
  | _, _ => False
theorem uGt : OpR X (compareOp .Gt) rGtU := by
  intro pins s σ H x y v u Q I rx ry h
  cases x <;> cases y <;> first | exact h.elim | exact op_gt pins s σ H _ _ v u Q I rx ry ⟨_, _, rfl, rfl, h⟩
def rGeU : R2 := fun x y H Q => match x, y with
  | .int i, .int j => Q (.bl (decide (j ≤ i))) H
  | _, _ => False
theorem uGe : OpR X (compareOp .GtE) rGeU := by
  intro pins s σ H x y v u Q I rx ry h
  cases x <;> cases y <;> first | exact h.elim | exact op_ge pins s σ H _ _ v u Q I rx ry ⟨_, _, rfl, rfl, h⟩

/-! ### == != is, is not -/
/-- == of any two: what is told of them is data -/
def eqB (x y : V) : Option Bool := match x, y with
  | .int i, .int j => some (decide (i = j))
  | .str a, .str b => some (decide (a = b))
  | .bl a, .bl b => some (decide (a = b))
  | .non, .non => some true
  | .int _, .str _ => some false
  | .str _, .int _ => some false
  | .non, .str _ => some false
  | .str _, .non => some false
  | .non, .int _ => some false
  | .int _, .non => some false
  | .bl _, .str _ => some false
  | .str _, .bl _ => some false
  | .bl _, .non => some false
  | .non, .bl _ => some false
  | _, _ => none
theorem eqB_scal {x y : V} {b : Bool} (h : eqB x y = some b) : scal x y = true ∧ decide (x = y) = b := by
  cases x <;> cases y <;> simp_all [eqB, scal]
def rEqU (K : PySem.W.Frag) : R2 := fun x y H Q => match eqB x y with
  | some b => Q (.bl b) H
  | none => rEqD K x y H Q
def rNeU (K : PySem.W.Frag) : R2 := fun x y H Q => match eqB x y with
  | some b => Q (.bl (!b)) H
  | none => rNeD K x y H Q
theorem uEq' (hu : X.A.units + 64 < cLine) : OpR X (compareOp .Eq) (rEqU X.K) := by
  intro pins s σ H x y v u Q I rx ry h
  unfold rEqU at h
  cases e : eqB x y with
  | some b =>
    rw [e] at h
    obtain ⟨z1, z2⟩ := eqB_scal e
    exact op_eq pins s σ H _ _ v u Q I rx ry ⟨z1, by rw [z2]; exact h⟩
  | none =>
    rw [e] at h
    exact op_eqD hu pins s σ H _ _ v u Q I rx ry h
theorem uNe' (hu : X.A.units + 64 < cLine) : OpR X (compareOp .NotEq) (rNeU X.K) := by
  intro pins s σ H x y v u Q I rx ry h
  unfold rNeU at h
  cases e : eqB x y with
  | some b =>
    rw [e] at h
    obtain ⟨z1, z2⟩ := eqB_scal e
    exact op_ne pins s σ H _ _ v u Q I rx ry ⟨z1, by rw [z2]; exact h⟩
  | none =>
    rw [e] at h
    exact op_neD hu pins s σ H _ _ v u Q I rx ry h
def rIsU : R2 := fun x y H Q => match y with
  | .non => Q (.bl (decide (x = .non))) H
  | .bl b => ∃ a, x = .bl a ∧ Q (.bl (decide (a = b))) H
  | _ => False
theorem uIs : OpR X (compareOp .Is) rIsU := by
  intro pins s σ H x y v u Q I rx ry h
  cases y <;> first | exact h.elim | exact op_isN pins s σ H _ _ v u Q I rx ry ⟨rfl, h⟩ | skip
  obtain ⟨a, rfl, h⟩ := h
  exact op_isBl pins s σ H _ _ v u Q I rx ry ⟨_, _, rfl, rfl, h⟩
def rIsNotU : R2 := fun x y H Q => match y with
  | .non => Q (.bl (!decide (x = .non))) H
  | .bl b => ∃ a, x = .bl a ∧ Q (.bl (!decide (a = b))) H
  | _ => False
theorem uIsNot : OpR X (compareOp .IsNot) rIsNotU := by
  intro pins s σ H x y v u Q I rx ry h
  cases y <;> first | exact h.elim | exact op_notN pins s σ H _ _ v u Q I rx ry ⟨rfl, h⟩ | skip
  obtain ⟨a, rfl, h⟩ := h
  exact op_notBl pins s σ H _ _ v u Q I rx ry ⟨_, _, rfl, rfl, h⟩

/-! ### in, not in: lists and tuples -/
def rInU (K : PySem.W.Frag) : R2 := fun x y H Q => match y with
  | .ref p => ∃ xs, (SqL K H p xs ∨ SqT K H p xs) ∧ ((flatV x = true ∧ xs.all flatV = true ∧ Q (.bl (inV x xs)) H))
  | _ => False
theorem uIn : OpR X (compareOp .In) (rInU X.K) := by
  intro pins s σ H x y v u Q I rx ry h
  cases y <;> first | exact h.elim | skip
  obtain ⟨xs, h1, h2, h3, h4⟩ := h
  exact op_in_seq pins s σ H _ _ v u Q I rx ry ⟨_, xs, rfl, h1, h2, h3, h4⟩
def rNotInU (K : PySem.W.Frag) : R2 := fun x y H Q => match y with
  | .ref p => ∃ xs, (SqL K H p xs ∨ SqT K H p xs) ∧ ((flatV x = true ∧ xs.all flatV = true ∧ Q (.bl (!inV x xs)) H))
  | _ => False
theorem uNotIn : OpR X (compareOp .NotIn) (rNotInU X.K) := by
  intro pins s σ H x y v u Q I rx ry h
  cases y <;> first | exact h.elim | skip
  obtain ⟨xs, h1, h2, h3, h4⟩ := h
  exact op_notIn_seq pins s σ H _ _ v u Q I rx ry ⟨_, xs, rfl, h1, h2, h3, h4⟩

/-! ### o[i], o[a:b] -/
def rIxU (K : PySem.W.Frag) : R2 := fun x y H Q => match x, y with
  | .str z, .int i => z.length ≤ sizeLine ∧ ∃ c, atI z.cps.toList i = some c ∧ Q (.str ⟨#[c]⟩) H
  | .ref p, .int i => ∃ xs, (SqL K H p xs ∨ SqT K H p xs) ∧ ∃ v, atI xs i = some v ∧ Q v H
  | _, _ => False
theorem uIx : IxR X (rIxU X.K) := by
  intro a b pins s σ H x y v u Q I rx ry h hs
  cases x <;> cases y <;> first | exact h.elim | skip
  · obtain ⟨h1, c, h2, h3⟩ := h
    exact ix_str a b pins s σ H _ _ v u Q I rx ry ⟨_, _, c, rfl, rfl, h1, h2, h3⟩ hs
  · obtain ⟨xs, h1 | h1, w', h2, h3⟩ := h
    · exact ix_list a b pins s σ H _ _ v u Q I rx ry ⟨_, xs, _, w', rfl, rfl, h1, h2, h3⟩ hs
    · exact ix_tup a b pins s σ H _ _ v u Q I rx ry ⟨_, xs, _, w', rfl, rfl, h1, h2, h3⟩ hs
end
end U

/-! slices, built-in functions by the values that come -/
namespace U
open PySem PySem.Spec PyProof.Rows L2
section
variable {X : Cx}
/-! ### slices -/
def rSlU (K : PySem.W.Frag) : V → Option Int → Option Int → Hp → VK → Prop := fun x lo hi H Q => match x with
  | .str z => z.length ≤ sizeLine ∧ Q (.str (cutS z lo hi)) H
  | .ref a => (∃ xs, SqL K H a xs ∧ nL (cutV xs lo hi) H Q) ∨ rSlA K (.ref a) lo hi H Q
  | _ => False
theorem uSl : SlR X (rSlU X.K) := by
  intro pins s σ H x v vl vu lo hi sl Q I rx hs pl pu h
  cases x <;> first | exact h.elim | skip
  · exact sl_str pins s σ H _ v vl vu lo hi sl Q I rx hs pl pu ⟨_, rfl, h.1, h.2⟩
  · rcases h with ⟨xs, h1, h2⟩ | h
    · exact sl_list pins s σ H _ v vl vu lo hi sl Q I rx hs pl pu ⟨_, xs, rfl, h1, h2⟩
    · exact sl_tupA pins s σ H _ v vl vu lo hi sl Q I rx hs pl pu h

/-! ### len, abs, max, min, int, list, tuple -/
def rLenU (K : PySem.W.Frag) : List V → Hp → VK → Prop := fun xs H Q => match xs with
  | [.str z] => z.length ≤ sizeLine ∧ Q (.int z.length) H
  | [.ref p] => (∃ ys, (SqL K H p ys ∨ SqT K H p ys) ∧ Q (.int ys.length) H) ∨ ∃ kvs, H p = some (.dK kvs) ∧ Q (.int kvs.length) H
  | _ => False
theorem cLen : CallR X (.builtin "len") (rLenU X.K) := by
  intro pins s σ H xs us Q I r h
  match xs, h with
  | [.str z], h => exact call_len_str pins s σ H _ us Q I r ⟨z, rfl, h.1, h.2⟩
  | [.ref p], .inl ⟨ys, h1, h2⟩ => exact call_len_seq pins s σ H _ us Q I r ⟨p, ys, rfl, h1, h2⟩
  | [.ref p], .inr ⟨kvs, h1, h2⟩ => exact call_lenD pins s σ H _ us Q I r ⟨p, kvs, rfl, h1, h2⟩
def rAbsU : List V → Hp → VK → Prop := fun xs H Q => match xs with
  | [.int i] => Q (.int (i.natAbs : Int)) H
  | _ => False
theorem cAbs : CallR X (.builtin "abs") rAbsU := by
  intro pins s σ H xs us Q I r h
  match xs, h with
  | [.int i], h =>
    refine call_abs pins s σ H _ us Q I r ⟨i, rfl, ?_⟩
    have e : (if i < 0 then -i else i) = (i.natAbs : Int) := by split <;> omega
    rw [e]
    exact h
def rMaxU : List V → Hp → VK → Prop := fun xs H Q => match xs with
  | [.int i, .int j] => Q (.int (max i j)) H
  | _ => False
theorem cMax (hc : X.calm = true) : CallR X (.builtin "max") rMaxU := by
  intro pins s σ H xs us Q I r h
  match xs, h with
  | [.int i, .int j], h =>
    refine call_max2 hc pins s σ H _ us Q I r ⟨i, j, rfl, ?_⟩
    have e : (if j > i then j else i) = max i j := by split <;> omega
    rw [e]
    exact h
def rMinU : List V → Hp → VK → Prop := fun xs H Q => match xs with
  | [.int i, .int j] => Q (.int (min i j)) H
  | _ => False
theorem cMin (hc : X.calm = true) : CallR X (.builtin "min") rMinU := by
  intro pins s σ H xs us Q I r h
  match xs, h with
  | [.int i, .int j], h =>
    refine call_min2 hc pins s σ H _ us Q I r ⟨i, j, rfl, ?_⟩
    have e : (if j < i then j else i) = min i j := by split <;> omega
    rw [e]
    exact h
def bToI (k : Bool) : Int := if k then 1 else 0
def rIntU : List V → Hp → VK → Prop := fun xs H Q => match xs with
  | [.int i] => Q (.int i) H
  | [.bl k] => Q (.int (bToI k)) H
  | _ => False
theorem cInt : CallR X (.type "int") rIntU := by
  intro pins s σ H xs us Q I r h
  match xs, h with
  | [.int i], h => exact call_int1 pins s σ H _ us Q I r (.inl ⟨i, rfl, h⟩)
  | [.bl k], h => exact call_int1 pins s σ H _ us Q I r (.inr ⟨k, rfl, h⟩)
def rListU (K : PySem.W.Frag) : List V → Hp → VK → Prop := fun xs H Q => match xs with
  | [.ref p] => (∃ ys, (SqL K H p ys ∨ SqT K H p ys) ∧ nL ys H Q) ∨ ∃ kvs : List (Key × V), Rd H p (.dK kvs) ∧ nL (kvs.map fun kv => kV kv.1) H Q
  | _ => False
theorem cList (hc : X.calm = true) : CallR X (.type "list") (rListU X.K) := by
  intro pins s σ H xs us Q I r h
  match xs, h with
  | [.ref p], .inl ⟨ys, h1, h2⟩ => exact call_list_of pins s σ H _ us Q I r ⟨p, ys, rfl, h1, h2⟩
  | [.ref p], .inr ⟨kvs, h1, h2⟩ => exact call_listD hc pins s σ H _ us Q I r ⟨p, kvs, rfl, h1, h2⟩
def rTupleU (K : PySem.W.Frag) : List V → Hp → VK → Prop := fun xs H Q => match xs with
  | [.ref p] => (∃ ys, SqL K H p ys ∧ nT ys H Q) ∨ ((∃ ys, SqT K H p ys) ∧ Q (.ref p) H)
  | _ => False
theorem cTuple : CallR X (.type "tuple") (rTupleU X.K) := by
  intro pins s σ H xs us Q I r h
  match xs, h with
  | [.ref p], .inl ⟨ys, h1, h2⟩ => exact call_tuple_of pins s σ H _ us Q I r ⟨p, ys, rfl, .inl ⟨h1, h2⟩⟩
  | [.ref p], .inr ⟨⟨ys, h1⟩, h2⟩ => exact call_tuple_of pins s σ H _ us Q I r ⟨p, ys, rfl, .inr ⟨h1, h2⟩⟩
/-! ### sorted -/
/-- a < b, of data -/
abbrev dLt (a b : PyData) : Bool := PySem.W.dataLt a b
/-- a list of what may be sorted -/
structure Sorts (K : PySem.W.Frag) (H : Hp) (bs : List (V × PyData)) : Prop where
  dat : ∀ b ∈ bs, Dp K H b.1 b.2
  alk : PySem.W.AllAlike (bs.map (·.2))
  srt : PySem.W.Sortable (bs.map (·.2))
  dep : ∀ b ∈ bs, b.2.depth ≤ 50
  len : bs.length ≤ 100000
def rSortU (K : PySem.W.Frag) : List V → Hp → VK → Prop := fun xs H Q => match xs with
  | [.ref p] => ∃ bs : List (V × PyData), SqL K H p (bs.map (·.1)) ∧ Sorts K H bs ∧
      ∀ cs : List (V × PyData), cs.Perm bs → cs.Pairwise (fun a b => dLt b.2 a.2 = false) → nL (cs.map (·.1)) H Q
  | _ => False
theorem each_vals : ∀ {bs : List (V × PyData)} {us : List Value}, Vals (bs.map (·.1)) us → PySem.W.EachIs (fun u b => RelV b.1 u) us bs
  | [], _, r => by
    cases r
    exact .nil
  | b :: bs, _, r => by
    cases r with
    | cons r1 r2 => exact .cons r1 (each_vals r2)
theorem vals_each : ∀ {bs : List (V × PyData)} {us : List Value}, PySem.W.EachIs (fun u b => RelV b.1 u) us bs → Vals (bs.map (·.1)) us
  | [], _, r => by
    cases r
    exact .nil
  | b :: bs, _, r => by
    cases r with
    | cons r1 r2 => exact .cons r1 (vals_each r2)
theorem each_reads {pins : List (Addr × Obj)} {σ : L2.St} {H : Hp} {s : Shared} (I : Inv X pins σ H s) : ∀ {bs : List (V × PyData)} {us : List Value}, (∀ b ∈ bs, Dp X.K H b.1 b.2) → Vals (bs.map (·.1)) us → PySem.W.EachIs (fun u b => ∃ as, Reads s.heap u b.2 as) us bs
  | [], _, _, r => by
    cases r
    exact .nil
  | b :: bs, _, h, r => by
    cases r with
    | cons r1 r2 => exact .cons (Dp.reads I _ _ _ (h b List.mem_cons_self) r1) (each_reads I (fun c hc => h c (List.mem_cons_of_mem _ hc)) r2)
theorem cSorted (hu : X.A.units + 64 < cLine) : CallR X (.builtin "sorted") (rSortU X.K) := by
  intro pins s σ H xs us Q I r h
  match xs, h with
  | [.ref p], ⟨bs, hs, S, q⟩ =>
    cases r with
    | cons r rr =>
      cases rr
      cases r
      obtain ⟨its, rv, pl, hz⟩ := I.list hs
      have e1 := each_vals rv
      have hb : ∀ b, b ∈ bs → X.A.units + 2 + b.2.depth < cLine := fun b hb => by
        have := S.dep b hb
        omega
      refine PySem.W.sorted_data (vs := its) (bs := bs) (enc := fun b : V × PyData => b.2) (R := fun u b => RelV b.1 u) pl.isList e1 (each_reads I S.dat rv) S.alk S.srt ?_ hb ?_
      · rw [List.length_map] at hz
        exact hz
      · intro out ol oe
        have perm : (bs.mergeSort (PySem.W.dataLe false fun b : V × PyData => b.2)).Perm bs := List.mergeSort_perm _ _
        have srt : (bs.mergeSort (PySem.W.dataLe false fun b : V × PyData => b.2)).Pairwise (fun a b => dLt b.2 a.2 = false) :=
          (PySem.W.sort_pairwise (PySem.W.sortLe_total _ _ _) bs).imp fun {a b} z => by
            have z' : (!dLt b.2 a.2) = true := z
            simpa using z'
        generalize bs.mergeSort (PySem.W.dataLe false fun b : V × PyData => b.2) = cs at perm srt oe
        have rv2 := vals_each oe
        have hfr : s.heap.objs.size ≤ s.heap.objs.size + 1 := Nat.le_succ _
        obtain ⟨e, he⟩ := sortedAll_at s.heap its out.toArray
        have new : ObjOk X.prog X.w (upd H (s.heap.objs.size + 1) (.lst (cs.map (·.1)))) (sortedAll s.heap its out.toArray) (s.heap.objs.size + 1) (.lst (cs.map (·.1))) :=
          ⟨by rw [List.length_map, perm.length_eq]; rw [List.length_map] at hz; exact hz, out, e, rv2, he⟩
        exact ⟨.ref (s.heap.objs.size + 1), _, I.laid (t' := s.toks) (fun b u z => sortedAll_old z) hfr new, rfl, q cs perm srt _ (I.hok.fresh hfr)⟩

/-! ### isinstance of built-in classes -/
inductive Ty where
  | non | bl | int | str | lst | tup | dct
  deriving DecidableEq
def Ty.nm : Ty → String
  | .non => "NoneType"
  | .bl => "bool"
  | .int => "int"
  | .str => "str"
  | .lst => "list"
  | .tup => "tuple"
  | .dct => "dict"
def isT (a b : Ty) : Bool := decide (a = b) || (decide (a = .bl) && decide (b = .int))
theorem isT_ok (a b : Ty) (hb : b ≠ .non) : kitB a.nm b.nm = some (isT a b) := by
  cases a <;> cases b <;> first | exact absurd rfl hb | decide +kernel
/-- a value's class -/
def TyIs (K : PySem.W.Frag) (H : Hp) (x : V) (a : Ty) : Prop := TyX K H x (.type a.nm)
def tyOf : String → Option Ty
  | "bool" => some .bl
  | "int" => some .int
  | "str" => some .str
  | "list" => some .lst
  | "tuple" => some .tup
  | "dict" => some .dct
  | _ => none
theorem tyOf_ok {n : String} {t : Ty} (h : tyOf n = some t) : n = t.nm ∧ t ≠ .non := by
  unfold tyOf at h
  split at h <;> first | (cases h; exact ⟨rfl, by decide⟩) | cases h
def rIsiU (K : PySem.W.Frag) : List V → Hp → VK → Prop := fun xs H Q => match xs with
  | [x, .ty n] => ∃ a t, TyIs K H x a ∧ tyOf n = some t ∧ Q (.bl (isT a t)) H
  | _ => False
theorem cIsi : CallR X (.builtin "isinstance") (rIsiU X.K) := by
  intro pins s σ H xs us Q I r h
  match xs, h with
  | [x, .ty n], ⟨a, t, h1, h2, h3⟩ =>
    obtain ⟨e, hn⟩ := tyOf_ok h2
    exact call_isi pins s σ H _ us Q I r ⟨x, _, _, _, _, rfl, .ty n, h1, kit_ty (by rw [e]; exact isT_ok a t hn), h3⟩
theorem ty_str {K : PySem.W.Frag} {H : Hp} {x : Str} : TyIs K H (.str x) .str := .base (.str x)
theorem ty_int {K : PySem.W.Frag} {H : Hp} {x : Int} : TyIs K H (.int x) .int := .base (.int x)
theorem ty_non {K : PySem.W.Frag} {H : Hp} : TyIs K H .non .non := .base .non
theorem ty_lst {K : PySem.W.Frag} {H : Hp} {a : Addr} {xs : List V} (h : H a = some (.lst xs)) : TyIs K H (.ref a) .lst := .base (.lst h)
theorem ty_tup {K : PySem.W.Frag} {H : Hp} {a : Addr} {xs : List V} (h : H a = some (.tup xs)) : TyIs K H (.ref a) .tup := .base (.tup h)
theorem ty_dK {K : PySem.W.Frag} {H : Hp} {a : Addr} {kvs : List (Key × V)} (h : H a = some (.dK kvs)) : TyIs K H (.ref a) .dct := .base (.dK h)
end
end U
namespace U
open PySem PySem.Spec PyProof.Rows L2
/-! the rules with the fragment told: they serve within a comprehension's block -/
section
variable {X : Cx} (K : PySem.W.Frag) (hK : X.K = K)
include hK
theorem kAdd : OpR X (binaryOp .Add) (rAddU K) := hK ▸ uAdd
theorem kEq (hu : X.A.units + 64 < cLine) : OpR X (compareOp .Eq) (rEqU K) := hK ▸ uEq' hu
theorem kNe (hu : X.A.units + 64 < cLine) : OpR X (compareOp .NotEq) (rNeU K) := hK ▸ uNe' hu
theorem kIn : OpR X (compareOp .In) (rInU K) := hK ▸ uIn
theorem kNotIn : OpR X (compareOp .NotIn) (rNotInU K) := hK ▸ uNotIn
theorem kIx : IxR X (rIxU K) := hK ▸ uIx
theorem kSl : SlR X (rSlU K) := hK ▸ uSl
theorem kLen : CallR X (.builtin "len") (rLenU K) := hK ▸ cLen
theorem kList (hc : X.calm = true) : CallR X (.type "list") (rListU K) := hK ▸ cList hc
theorem kTuple : CallR X (.type "tuple") (rTupleU K) := hK ▸ cTuple
theorem kSorted (hu : X.A.units + 64 < cLine) : CallR X (.builtin "sorted") (rSortU K) := hK ▸ cSorted hu
theorem kIsi : CallR X (.builtin "isinstance") (rIsiU K) := hK ▸ cIsi
theorem ki_list {tg l : Expr} {tl : TE} (hl : PE X l tl) : PI X tg l (iList K tl) := hK ▸ pi_list hl
theorem ki_tup {tg l : Expr} {tl : TE} (hl : PE X l tl) : PI X tg l (iTup K tl) := hK ▸ pi_tup hl
theorem kg_tup {pos : Pos} {es : List Expr} {k : Nat} {t : TGs} {n : Nat} (hc : X.calm = true) (h : PGs X es t)
    (hn : (assignEach es X.env).length = n := by rfl) (hst : (assignEach es X.env).findIdx? (·.1) = none := by rfl) : PG X (.Tuple es k pos) (gTup K n t) := hK ▸ pg_tup hc h hn hst
end
end U

/-! the readings, step by step: one lemma a form, one word for all that need no thought -/
namespace U
open PySem PySem.Spec PyProof.Rows L2
section
variable {σ : L2.St} {H : Hp} {Q : VK} {D : Ends} {v x y : V} {i j : Int} {a b : Str} {ta tb tc te : TE} {t u : TS} {K : PySem.W.Frag}
theorem rd_seq (h : t { D with nx := u D } σ H) : tSeq t u D σ H := h
theorem rd_var {n : Nat} (e : σ[n]? = some (some v)) (h : Q v H) : tVar n σ H Q := ⟨v, e, h⟩
theorem rd_c (h : Q v H) : tC v σ H Q := h
theorem rd_asg {g : TG} (h : te σ H fun x H1 => g x σ H1 D.nx) : tAsg te g D σ H := h
theorem rd_name {n : Nat} {Q : L2.St → Hp → Prop} (h : Q (σ.set n (some v)) H) : gName n v σ H Q := h
theorem rd_ret (h : te σ H D.rt) : tRet te D σ H := h
theorem rd_retN (h : D.rt .non H) : tRetN D σ H := h
theorem rd_drop (h : te σ H fun _ H1 => D.nx σ H1) : tDrop te D σ H := h
theorem rd_next (h : D.nx σ H) : tNext D σ H := h
theorem rd_if {c : TT} (h : c σ H fun b H1 => if b = true then t D σ H1 else u D σ H1) : tIfS c t u D σ H := h
theorem rd_break (h : D.bk σ H) : tBreak D σ H := h
theorem rd_cont (h : D.ct σ H) : tCont D σ H := h
theorem rd_op {r : R2} (h : ta σ H fun x H1 => tb σ H1 fun y H2 => r x y H2 Q) : tOp r ta tb σ H Q := h
theorem rd_test {Q : Bool → Hp → Prop} (h : te σ H fun x H1 => ∃ k, x = .bl k ∧ Q k H1) : tTest te σ H Q := h
theorem rd_B {Q : Bool → Hp → Prop} (h : te σ H fun x H1 => ∃ k, x = .bl k ∧ Q k H1) : tB te σ H Q := h
theorem rd_bl {Q : Bool → Prop} {k : Bool} (h : Q k) : ∃ c, V.bl k = .bl c ∧ Q c := ⟨k, rfl, h⟩
theorem rd_chain {r r' : R2} (h : ta σ H fun x H1 => tb σ H1 fun y H2 => r x y H2 fun z H3 => ∃ k, z = .bl k ∧ (if k = true then tc σ H3 fun w' H4 => r' y w' H4 Q else Q (.bl false) H3)) : tChain r r' ta tb tc σ H Q := h
theorem rd_nil {Q : List V → Hp → Prop} (h : Q [] H) : tNil σ H Q := h
theorem rd_cons {tr : TA} {Q : List V → Hp → Prop} (h : ta σ H fun x H1 => tr σ H1 fun xs H2 => Q (x :: xs) H2) : tCons ta tr σ H Q := h
theorem rd_cb {r : List V → Hp → VK → Prop} {tr : TA} (h : tr σ H fun vs H1 => r vs H1 Q) : tCB r tr σ H Q := h
theorem rd_c1 {sp : Sp} {E : XK} {tr : TA} (h : tr σ H fun vs H1 => sp vs H1 Q E) : tC1 sp E tr σ H Q := h
theorem rd_c2 {sp : Sp} {W : WX} {tr : TA} (h : tr σ H fun vs H1 => sp vs H1 Q fun cls d H' => W cls d σ H') : tC2 sp W tr σ H Q := h
theorem rd_lst {tr : TA} (h : tr σ H fun xs H1 => xs.length ≤ sizeLine ∧ nL xs H1 Q) : tLst tr σ H Q := h
theorem rd_tup {tr : TA} (h : tr σ H fun xs H1 => xs.length ≤ sizeLine ∧ nT xs H1 Q) : tTup tr σ H Q := h
theorem rd_sz {xs : List V} {P : Prop} (h : Nat.ble xs.length 1000 = true) (q : P) : xs.length ≤ sizeLine ∧ P :=
  ⟨Nat.le_trans (Nat.le_of_ble_eq_true h) (by decide), q⟩
theorem rd_addI (h : Q (.int (i + j)) H) : rAddU K (.int i) (.int j) H Q := h
theorem rd_subI (h : Q (.int (i - j)) H) : rSubU (.int i) (.int j) H Q := h
theorem rd_mulI (c : CMul i j ∨ CMulW i j) (h : Q (.int (i * j)) H) : rMulU (.int i) (.int j) H Q := ⟨c, h⟩
theorem rd_modI (c : 0 < j) (h : Q (.int (i % j)) H) : rModU (.int i) (.int j) H Q := ⟨c, h⟩
theorem rd_divI (c : 0 < j ∧ j < 1073741824) (h : Q (.int (i / j)) H) : rDivU (.int i) (.int j) H Q := ⟨c, h⟩
theorem rd_addS (c : a.length + b.length ≤ sizeLine) (h : Q (.str (a ++ b)) H) : rAddU K (.str a) (.str b) H Q := ⟨c, h⟩
theorem rd_ltI (h : Q (.bl (decide (i < j))) H) : rLtU (.int i) (.int j) H Q := h
theorem rd_ltS (h : Q (.bl (decide (a.cps.toList < b.cps.toList))) H) : rLtU (.str a) (.str b) H Q := h
theorem rd_leI (h : Q (.bl (decide (i ≤ j))) H) : rLeU (.int i) (.int j) H Q := h
theorem rd_gtI (h : Q (.bl (decide (j < i))) H) : rGtU (.int i) (.int j) H Q := h
theorem rd_geI (h : Q (.bl (decide (j ≤ i))) H) : rGeU (.int i) (.int j) H Q := h
theorem rd_eqI (h : Q (.bl (decide (i = j))) H) : rEqU K (.int i) (.int j) H Q := h
theorem rd_eqS (h : Q (.bl (decide (a = b))) H) : rEqU K (.str a) (.str b) H Q := h
theorem rd_neI (h : Q (.bl (!decide (i = j))) H) : rNeU K (.int i) (.int j) H Q := h
theorem rd_neS (h : Q (.bl (!decide (a = b))) H) : rNeU K (.str a) (.str b) H Q := h
theorem rd_is (h : Q (.bl (decide (x = .non))) H) : rIsU x .non H Q := h
theorem rd_isNot (h : Q (.bl (!decide (x = .non))) H) : rIsNotU x .non H Q := h
theorem rd_absI (h : Q (.int (i.natAbs : Int)) H) : rAbsU [.int i] H Q := h
theorem rd_maxI (h : Q (.int (max i j)) H) : rMaxU [.int i, .int j] H Q := h
theorem rd_minI (h : Q (.int (min i j)) H) : rMinU [.int i, .int j] H Q := h
theorem rd_intI (h : Q (.int i) H) : rIntU [.int i] H Q := h
theorem rd_intB {k : Bool} (h : Q (.int (bToI k)) H) : rIntU [.bl k] H Q := h
theorem rd_neg {g : Int → Int} (h : Q (.int (g i)) H) : rU (fun i => .int (g i)) (.int i) H Q := ⟨i, rfl, h⟩
theorem rd_sub {to ti : TE} {t : TSet} {Q : L2.St → Hp → Prop} (h : to σ H fun o H1 => ti σ H1 fun i H2 => t o i v H2 fun H3 => Q σ H3) : gSub to ti t v σ H Q := h
theorem rd_and {t u : TT} {Q : Bool → Hp → Prop} (h : t σ H fun c H1 => if c = true then u σ H1 Q else Q false H1) : tAnd t u σ H Q := h
theorem rd_or {t u : TT} {Q : Bool → Hp → Prop} (h : t σ H fun c H1 => if c = true then Q true H1 else u σ H1 Q) : tOr t u σ H Q := h
theorem rd_not {t : TT} {Q : Bool → Hp → Prop} (h : t σ H fun c H1 => Q (!c) H1) : tNot t σ H Q := h
theorem rd_andV (h : ta σ H fun x H1 => ∃ c, x = .bl c ∧ if c = true then tb σ H1 Q else Q (.bl false) H1) : tAndV ta tb σ H Q := h
theorem rd_orV (h : ta σ H fun x H1 => ∃ c, x = .bl c ∧ if c = true then Q (.bl true) H1 else tb σ H1 Q) : tOrV ta tb σ H Q := h
theorem rd_notV (h : ta σ H fun x H1 => ∃ c, x = .bl c ∧ Q (.bl (!c)) H1) : tNotV ta σ H Q := h
theorem rd_ifE {t : TT} (h : t σ H fun c H1 => if c = true then ta σ H1 Q else tb σ H1 Q) : tIf t ta tb σ H Q := h
theorem rd_T {A B : Prop} (h : A) : if true = true then A else B := by
  rw [if_pos rfl]
  exact h
theorem rd_F {A B : Prop} (h : B) : if false = true then A else B := by
  rw [if_neg Bool.false_ne_true]
  exact h
/-- a test that is known -/
theorem rd_yes {c : Prop} {_ : Decidable c} {A B : Prop} (hc : c) (h : A) : if decide c = true then A else B := by
  rw [if_pos (decide_eq_true hc)]
  exact h
theorem rd_no {c : Prop} {_ : Decidable c} {A B : Prop} (hc : ¬ c) (h : B) : if decide c = true then A else B := by
  rw [if_neg (by rw [decide_eq_false hc]; exact Bool.false_ne_true)]
  exact h
theorem rd_nyes {c : Prop} {_ : Decidable c} {A B : Prop} (hc : ¬ c) (h : A) : if (!decide c) = true then A else B := by
  rw [if_pos (by rw [decide_eq_false hc]; rfl)]
  exact h
theorem rd_nno {c : Prop} {_ : Decidable c} {A B : Prop} (hc : c) (h : B) : if (!decide c) = true then A else B := by
  rw [if_neg (by rw [decide_eq_true hc]; exact Bool.false_ne_true)]
  exact h
theorem rd_split {c : Prop} {_ : Decidable c} {A B : Prop} (h1 : c → A) (h2 : ¬ c → B) : if decide c = true then A else B := by
  by_cases h : c
  · exact rd_yes h (h1 h)
  · exact rd_no h (h2 h)
theorem rd_nsplit {c : Prop} {_ : Decidable c} {A B : Prop} (h1 : ¬ c → A) (h2 : c → B) : if (!decide c) = true then A else B := by
  by_cases h : c
  · exact rd_nno h (h2 h)
  · exact rd_nyes h (h1 h)
theorem rd_b {c : Bool} {A B : Prop} (h1 : c = true → A) (h2 : c = false → B) : if c = true then A else B := by
  cases c with
  | true => exact rd_T (h1 rfl)
  | false => exact rd_F (h2 rfl)
/-- an item of a list, a tuple -/
theorem rd_ixL {p : Addr} {xs : List V} (hs : SqL K H p xs) (hv : atI xs i = some v) (h : Q v H) : rIxU K (.ref p) (.int i) H Q := ⟨xs, .inl hs, v, hv, h⟩
theorem rd_ixT {p : Addr} {xs : List V} (hs : SqT K H p xs) (hv : atI xs i = some v) (h : Q v H) : rIxU K (.ref p) (.int i) H Q := ⟨xs, .inr hs, v, hv, h⟩
theorem rd_ixS {c : Nat} (hz : a.length ≤ 100000) (hv : atI a.cps.toList i = some c) (h : Q (.str ⟨#[c]⟩) H) : rIxU K (.str a) (.int i) H Q := ⟨Nat.le_trans hz (by decide), c, hv, h⟩
theorem rd_lenL {p : Addr} {xs : List V} (hs : SqL K H p xs) (h : Q (.int xs.length) H) : rLenU K [.ref p] H Q := .inl ⟨xs, .inl hs, h⟩
theorem rd_lenT {p : Addr} {xs : List V} (hs : SqT K H p xs) (h : Q (.int xs.length) H) : rLenU K [.ref p] H Q := .inl ⟨xs, .inr hs, h⟩
theorem rd_lenS (hz : a.length ≤ 100000) (h : Q (.int a.length) H) : rLenU K [.str a] H Q := ⟨Nat.le_trans hz (by decide), h⟩
theorem rd_setL {p : Addr} {xs : List V} {n : Nat} {Q : Hp → Prop} (hs : H p = some (.lst xs)) (hi : ixN xs.length i = some n) (h : Q (upd H p (.lst (xs.set n v)))) : rSetL (.ref p) (.int i) v H Q := ⟨p, xs, i, n, rfl, rfl, hs, hi, h⟩
theorem rd_listL {p : Addr} {xs : List V} (hs : SqL K H p xs) (h : nL xs H Q) : rListU K [.ref p] H Q := .inl ⟨xs, .inl hs, h⟩
theorem rd_listT {p : Addr} {xs : List V} (hs : SqT K H p xs) (h : nL xs H Q) : rListU K [.ref p] H Q := .inl ⟨xs, .inr hs, h⟩
theorem rd_tupleL {p : Addr} {xs : List V} (hs : SqL K H p xs) (h : nT xs H Q) : rTupleU K [.ref p] H Q := .inl ⟨xs, hs, h⟩
theorem rd_slS {lo hi : Option Int} (hz : a.length ≤ 100000) (h : Q (.str (cutS a lo hi)) H) : rSlU K (.str a) lo hi H Q := ⟨Nat.le_trans hz (by decide), h⟩
theorem rd_slL {lo hi : Option Int} {p : Addr} {xs : List V} (hs : SqL K H p xs) (h : nL (cutV xs lo hi) H Q) : rSlU K (.ref p) lo hi H Q := .inl ⟨xs, hs, h⟩
theorem rd_sl {tl th : TO} {r : V → Option Int → Option Int → Hp → VK → Prop} (h : te σ H fun x H1 => tl σ H1 fun lo H2 => th σ H2 fun hi H3 => r x lo hi H3 Q) : tSl r te tl th σ H Q := h
theorem rd_noPart {Q : Option Int → Hp → Prop} (h : Q none H) : tNoPart σ H Q := h
theorem rd_part {Q : Option Int → Hp → Prop} (h : te σ H fun x H1 => ∃ i, x = .int i ∧ Q (some i) H1) : tPart te σ H Q := h
theorem rd_exI {Q : Int → Prop} (h : Q i) : ∃ k, V.int i = .int k ∧ Q k := ⟨i, rfl, h⟩
theorem rd_bm {T : String} {r : V → List V → Hp → VK → Prop} {tr : TA} (h : te σ H fun x H1 => tyV K T x H1 ∧ tr σ H1 fun xs H2 => r x xs H2 Q) : tBM K T r te tr σ H Q := h
theorem rd_bm0 {T : String} {r : V → List V → Hp → VK → Prop} (h : te σ H fun x H1 => tyV K T x H1 ∧ r x [] H1 Q) : tBM0 K T r te σ H Q := h
theorem rd_tyL {p : Addr} {xs : List V} {P : Prop} (hs : H p = some (.lst xs)) (h : P) : tyV K "list" (.ref p) H ∧ P := ⟨.inl ⟨rfl, xs, .inl (.inl hs)⟩, h⟩
theorem rd_append {p : Addr} {xs : List V} (hs : H p = some (.lst xs)) (hz : xs.length < 100000) (h : Q .non (upd H p (.lst (xs ++ [v])))) : rAppend (.ref p) [v] H Q :=
  ⟨p, xs, v, rfl, rfl, hs, Nat.lt_of_lt_of_le hz (by decide), h⟩
theorem mul_bI {i : Int} {b : Bool} : CMul i (bToI b) ∨ CMulW i (bToI b) := .inl (.inr (by cases b <;> decide))
theorem rd_powI (c : CPow i j) (h : Q (.int (i ^ j.toNat)) H) : rPowU (.int i) (.int j) H Q := ⟨c, h⟩
/-! heaps -/
theorem new_ne {p q : Addr} {o : HO} (h : upd H p o q = none) : q ≠ p := fun e => by
  rw [e, upd_same] at h
  cases h
theorem new_old {p q : Addr} {o : HO} (h : upd H p o q = none) : H q = none := by
  rw [upd_ne (new_ne h)] at h
  exact h
theorem at_upd {p q : Addr} {o u : HO} (n : q ≠ p) (h : H q = some u) : upd H p o q = some u := (upd_ne n).trans h
theorem no_upd {p q : Addr} {o : HO} (n : q ≠ p) (h : H q = none) : upd H p o q = none := (upd_ne n).trans h
/-- all that is tracked stays, but the object at p -/
def But (p : Addr) (H H' : Hp) : Prop := ∀ b o, b ≠ p → H b = some o → H' b = some o
theorem But.refl {p : Addr} : But p H H := fun _ _ _ h => h
theorem But.trans {p : Addr} {H1 H2 : Hp} (a : But p H H1) (b : But p H1 H2) : But p H H2 := fun c o n h => b c o n (a c o n h)
theorem But.of_same {p : Addr} {H1 : Hp} (a : Same H H1) : But p H H1 := fun c o _ h => a c o h
theorem But.upd {p : Addr} {o : HO} : But p H (upd H p o) := fun _ _ n h => at_upd n h
theorem But.new {p q : Addr} {o : HO} (h : H q = none) : But p H (L2.upd H q o) := fun _ _ _ e => at_upd (ne_of_none e h) e
theorem Same.new {q : Addr} {o : HO} (h : H q = none) : Same H (L2.upd H q o) := fun _ _ e => at_upd (ne_of_none e h) e
theorem But.free {p q : Addr} {H1 : Hp} (a : But p H H1) (n : q ≠ p) (h : H1 q = none) : H q = none := by
  cases e : H q with
  | none => rfl
  | some o =>
    rw [a q o n e] at h
    cases h
theorem new_of_same {q : Addr} {H1 : Hp} (a : Same H H1) (h : H1 q = none) : H q = none := a.free h
theorem Same.seqT {H' : Hp} {a : Addr} {xs : List V} (e : Same H H') (h : SqT K H a xs) : SqT K H' a xs := by
  rcases h with (h | ⟨o, h⟩) | h
  · exact .inl (.inl (e _ _ h))
  · exact .inl (.inr ⟨o, e _ _ h⟩)
  · exact .inr h
theorem But.seqT {p : Addr} {H' : Hp} {a : Addr} {xs : List V} (e : But p H H') (n : ∃ ys, H p = some (.lst ys)) (h : SqT K H a xs) : SqT K H' a xs := by
  obtain ⟨ys, hy⟩ := n
  rcases h with (h | ⟨o, h⟩) | h
  · exact .inl (.inl (e _ _ (ne_of h hy (by intro z; cases z)) h))
  · exact .inl (.inr ⟨o, e _ _ (ne_of h hy (by intro z; cases z)) h⟩)
  · exact .inr h
theorem rd_un {r : V → Hp → VK → Prop} (h : ta σ H fun x H1 => r x H1 Q) : tUn r ta σ H Q := h
end
local macro_rules | `(tactic| wtm_at "rd1") => `(tactic| first
  | with_reducible refine rd_seq ?_
  | ((with_reducible refine rd_var (v := ?vv) ?hv ?_); (case hv => exact rfl))
  | with_reducible refine rd_c ?_
  | with_reducible refine rd_cons ?_
  | with_reducible refine rd_nil ?_
  | with_reducible refine rd_op ?_
  | with_reducible refine rd_asg ?_
  | with_reducible refine rd_name ?_
  | with_reducible refine rd_c1 ?_
  | with_reducible refine rd_cb ?_
  | with_reducible refine rd_test ?_
  | with_reducible refine rd_B ?_
  | with_reducible refine rd_bl ?_
  | with_reducible refine rd_if ?_
  | with_reducible refine rd_ret ?_
  | with_reducible refine rd_drop ?_
  | with_reducible refine rd_next ?_
  | with_reducible refine rd_addI ?_
  | with_reducible refine rd_ltI ?_
  | with_reducible refine rd_eqI ?_
  | with_reducible refine rd_neI ?_
  | with_reducible refine rd_eqS ?_
  | with_reducible refine rd_neS ?_
  | with_reducible refine rd_gtI ?_
  | with_reducible refine rd_geI ?_
  | with_reducible refine rd_leI ?_
  | with_reducible refine rd_ltS ?_
  | with_reducible refine rd_subI ?_
  | ((with_reducible refine rd_modI ?hc ?_); (case hc => first | decide | omega))
  | ((with_reducible refine rd_mulI ?hc ?_); (case hc => first | exact mul_bI | exact .inl (.inr (by decide)) | exact .inl (.inl (by decide)) | exact .inl (.inr (by omega)) | exact .inl (.inl (by omega))))
  | ((with_reducible refine rd_divI ?hc ?_); (case hc => first | decide | omega))
  | ((with_reducible refine rd_powI ?hc ?_); (case hc => exact ⟨by decide, by decide, by decide⟩))
  | with_reducible refine rd_lst ?_
  | with_reducible refine rd_tup ?_
  | ((with_reducible refine rd_sz ?hv ?_); (case hv => exact rfl))
  | with_reducible refine rd_and ?_
  | with_reducible refine rd_or ?_
  | with_reducible refine rd_not ?_
  | with_reducible refine rd_andV ?_
  | with_reducible refine rd_orV ?_
  | with_reducible refine rd_notV ?_
  | with_reducible refine rd_ifE ?_
  | with_reducible refine rd_T ?_
  | with_reducible refine rd_F ?_
  | with_reducible refine rd_chain ?_
  | with_reducible refine rd_is ?_
  | with_reducible refine rd_isNot ?_
  | with_reducible refine rd_absI ?_
  | with_reducible refine rd_maxI ?_
  | with_reducible refine rd_minI ?_
  | with_reducible refine rd_intI ?_
  | with_reducible refine rd_intB ?_
  | with_reducible refine rd_sub ?_
  | with_reducible refine rd_sl ?_
  | with_reducible refine rd_noPart ?_
  | with_reducible refine rd_part ?_
  | with_reducible refine rd_exI ?_
  | with_reducible refine rd_bm ?_
  | with_reducible refine rd_bm0 ?_
  | with_reducible refine rd_un ?_
  | with_reducible refine rd_neg ?_
  | with_reducible refine rd_c2 ?_
  | with_reducible refine rd_retN ?_
  | with_reducible refine rd_break ?_
  | with_reducible refine rd_cont ?_)
local macro_rules | `(tactic| wtm_at "rd") => `(tactic| repeat wtm_at "rd1")
end U

/-! texts in order, names -/
namespace U
open PySem PySem.Spec PyProof.Rows L2
/-- the order of texts -/
def sLt (a b : Str) : Prop := a.cps.toList < b.cps.toList
instance (a b : Str) : Decidable (sLt a b) := inferInstanceAs (Decidable (a.cps.toList < b.cps.toList))
theorem str_ext {a b : Str} (h : a.cps.toList = b.cps.toList) : a = b := by
  obtain ⟨x⟩ := a
  obtain ⟨y⟩ := b
  have e : x = y := Array.toList_inj.mp h
  rw [e]
theorem sLt_irrefl (a : Str) : ¬ sLt a a := List.lt_irrefl _
theorem sLt_trans {a b c : Str} (h : sLt a b) (h' : sLt b c) : sLt a c := List.lt_trans h h'
theorem sLt_asymm {a b : Str} (h : sLt a b) : ¬ sLt b a := fun h' => sLt_irrefl a (sLt_trans h h')
theorem sLt_total {a b : Str} (h : ¬ sLt b a) (n : a ≠ b) : sLt a b := by
  have h1 : a.cps.toList ≤ b.cps.toList := List.not_lt.mp h
  rcases List.le_iff_lt_or_eq.mp h1 with z | z
  · exact z
  · exact absurd (str_ext z) n
theorem sLt_tri (a b : Str) : sLt a b ∨ a = b ∨ sLt b a := by
  by_cases h : sLt b a
  · exact .inr (.inr h)
  · by_cases e : a = b
    · exact .inr (.inl e)
    · exact .inl (sLt_total h e)
/-- strictly upwards -/
abbrev Asc (xs : List Str) : Prop := xs.Pairwise sLt
theorem asc_nodup {xs : List Str} (h : Asc xs) : xs.Nodup := by
  refine List.Pairwise.imp ?_ h
  intro a b z e
  subst e
  exact sLt_irrefl _ z
/-- two lists upwards with the same members are one -/
theorem asc_unique : ∀ {xs ys : List Str}, Asc xs → Asc ys → (∀ z, z ∈ xs ↔ z ∈ ys) → xs = ys
  | [], [], _, _, _ => rfl
  | [], y :: ys, _, _, h => absurd ((h y).mpr List.mem_cons_self) List.not_mem_nil
  | x :: xs, [], _, _, h => absurd ((h x).mp List.mem_cons_self) List.not_mem_nil
  | x :: xs, y :: ys, hx, hy, h => by
    rw [Asc, List.pairwise_cons] at hx hy
    have e : x = y := by
      rcases List.mem_cons.mp ((h x).mp List.mem_cons_self) with z | z
      · exact z
      · rcases List.mem_cons.mp ((h y).mpr List.mem_cons_self) with z2 | z2
        · exact z2.symm
        · exact absurd (hx.1 _ z2) (sLt_asymm (hy.1 _ z))
    subst e
    have t : xs = ys := asc_unique hx.2 hy.2 fun z => by
      constructor
      · intro hz
        rcases List.mem_cons.mp ((h z).mp (List.mem_cons_of_mem _ hz)) with e | e
        · subst e
          exact absurd (hx.1 _ hz) (sLt_irrefl _)
        · exact e
      · intro hz
        rcases List.mem_cons.mp ((h z).mpr (List.mem_cons_of_mem _ hz)) with e | e
        · subst e
          exact absurd (hy.1 _ hz) (sLt_irrefl _)
        · exact e
    rw [t]
theorem asc_of_sorted {xs : List Str} (h : xs.Pairwise fun a b => ¬ sLt b a) (n : xs.Nodup) : Asc xs := by
  have z : xs.Pairwise fun a b => ¬ sLt b a ∧ a ≠ b := List.Pairwise.and h n
  exact z.imp fun {a b} q => sLt_total q.1 q.2
/-- an edge's order -/
def eLt (a b : Str × Str) : Prop := sLt a.1 b.1 ∨ (a.1 = b.1 ∧ sLt a.2 b.2)
instance (a b : Str × Str) : Decidable (eLt a b) := inferInstanceAs (Decidable (_ ∨ _))
theorem eLt_irrefl (a : Str × Str) : ¬ eLt a a := fun h => h.elim (sLt_irrefl _) fun z => sLt_irrefl _ z.2
theorem eLt_total {a b : Str × Str} (h : ¬ eLt b a) (n : a ≠ b) : eLt a b := by
  rcases sLt_tri a.1 b.1 with z | z | z
  · exact .inl z
  · rcases sLt_tri a.2 b.2 with y | y | y
    · exact .inr ⟨z, y⟩
    · exact absurd (Prod.ext z y) n
    · exact absurd (.inr ⟨z.symm, y⟩) h
  · exact absurd (.inl z) h
abbrev AscE (xs : List (Str × Str)) : Prop := xs.Pairwise eLt
theorem ascE_nodup {xs : List (Str × Str)} (h : AscE xs) : xs.Nodup := by
  refine List.Pairwise.imp ?_ h
  intro a b z e
  subst e
  exact eLt_irrefl _ z
theorem ascE_of_sorted {xs : List (Str × Str)} (h : xs.Pairwise fun a b => ¬ eLt b a) (n : xs.Nodup) : AscE xs := by
  have z : xs.Pairwise fun a b => ¬ eLt b a ∧ a ≠ b := List.Pairwise.and h n
  exact z.imp fun {a b} q => eLt_total q.1 q.2

section
variable {K : PySem.W.Frag} {H : Hp} {Q : VK} {p : Addr}
theorem perm_of_map {α β : Type} {f : α → β} : ∀ {l : List β} {xs : List α}, l.Perm (xs.map f) → ∃ ys : List α, ys.Perm xs ∧ l = ys.map f := by
  intro l xs h
  generalize hm : xs.map f = m at h
  induction h generalizing xs with
  | nil =>
    cases xs with
    | nil => exact ⟨[], .nil, rfl⟩
    | cons _ _ => cases hm
  | cons x hp ih =>
    cases xs with
    | nil => cases hm
    | cons a as =>
      injection hm with h1 h2
      obtain ⟨ys, py, e⟩ := ih h2
      exact ⟨a :: ys, py.cons a, by rw [e, List.map_cons, h1]⟩
  | swap x y l =>
    cases xs with
    | nil => cases hm
    | cons a as =>
      cases as with
      | nil => cases hm
      | cons b bs =>
        injection hm with h1 h2
        injection h2 with h2 h3
        exact ⟨b :: a :: bs, .swap a b bs, by rw [List.map_cons, List.map_cons, h1, h2, h3]⟩
  | trans _ _ ih1 ih2 =>
    obtain ⟨ys, py, e⟩ := ih2 hm
    obtain ⟨zs, pz, e'⟩ := ih1 e.symm
    exact ⟨zs, pz.trans py, e'⟩
/-- sorted(a list of texts) -/
theorem rd_sortS {xs : List Str} (hs : SqL K H p (xs.map V.str)) (hl : xs.length ≤ 100000) (k : ∀ ys : List Str, ys.Perm xs → ys.Pairwise (fun a b => ¬ sLt b a) → nL (ys.map V.str) H Q) : rSortU K [.ref p] H Q := by
  refine ⟨xs.map fun x => (V.str x, PyData.str x), ?_, ⟨?_, ?_, ?_, ?_, ?_⟩, ?_⟩
  · rw [List.map_map]
    exact hs
  · intro b hb
    obtain ⟨x, _, rfl⟩ := List.mem_map.mp hb
    exact .str x
  · rw [List.map_map]
    exact PySem.W.AllAlike.of (enc := PyData.str) fun a b => by simp [PySem.W.alike]
  · rw [List.map_map]
    exact PySem.W.Sortable.others (enc := PyData.str) fun b => ⟨by simp, by simp⟩
  · intro b hb
    obtain ⟨x, _, rfl⟩ := List.mem_map.mp hb
    simp [PyData.depth]
  · rw [List.length_map]
    omega
  · intro cs pc sc
    obtain ⟨ys, py, rfl⟩ := perm_of_map pc
    rw [List.map_map]
    refine k ys py ?_
    rw [List.pairwise_map] at sc
    refine sc.imp fun {a b} z h => ?_
    have z' : PySem.W.dataLt (PyData.str b) (PyData.str a) = false := z
    rw [PySem.W.dataLt_str] at z'
    exact of_decide_eq_false z' h
/-- sorted(a list of pairs of texts): e is the pair's place, then the two -/
theorem rd_sortE {xs : List (Addr × Str × Str)} (hs : SqL K H p (xs.map fun e => V.ref e.1)) (ht : ∀ e ∈ xs, SqT K H e.1 [.str e.2.1, .str e.2.2]) (hl : xs.length ≤ 100000)
    (k : ∀ ys : List (Addr × Str × Str), ys.Perm xs → ys.Pairwise (fun a b => ¬ eLt b.2 a.2) → nL (ys.map fun e => V.ref e.1) H Q) : rSortU K [.ref p] H Q := by
  refine ⟨xs.map fun e => (V.ref e.1, PyData.tuple [.str e.2.1, .str e.2.2]), ?_, ⟨?_, ?_, ?_, ?_, ?_⟩, ?_⟩
  · rw [List.map_map]
    exact hs
  · intro b hb
    obtain ⟨x, hx, rfl⟩ := List.mem_map.mp hb
    exact .tup (ht x hx) (.cons (.str _) (.cons (.str _) .nil))
  · rw [List.map_map]
    exact PySem.W.AllAlike.of (enc := fun e : Addr × Str × Str => PyData.tuple [.str e.2.1, .str e.2.2]) fun a b => by simp [PySem.W.alike, PySem.W.alikeAll]
  · rw [List.map_map]
    exact PySem.W.Sortable.tuples (enc := fun e : Addr × Str × Str => PyData.tuple [.str e.2.1, .str e.2.2]) fun b => ⟨_, _, rfl⟩
  · intro b hb
    obtain ⟨x, _, rfl⟩ := List.mem_map.mp hb
    simp [PyData.depth, PyData.depthAll]
  · rw [List.length_map]
    omega
  · intro cs pc sc
    obtain ⟨ys, py, rfl⟩ := perm_of_map pc
    rw [List.map_map]
    refine k ys py ?_
    rw [List.pairwise_map] at sc
    refine sc.imp fun {a b} z h => ?_
    have z' : PySem.W.dataLt (PyData.tuple [.str b.2.1, .str b.2.2]) (PyData.tuple [.str a.2.1, .str a.2.2]) = false := z
    rw [PySem.W.dataLt_pair (by simp [PySem.W.alike]) (by simp [PySem.W.alike]), PySem.W.dataLt_str, PySem.W.dataLt_str] at z'
    simp only [PyData.eqv, beq_iff_eq] at z'
    rcases h with h | ⟨e, h⟩
    · have n : ¬ b.2.1 = a.2.1 := fun e => sLt_irrefl _ (by rw [e] at h; exact h)
      rw [if_neg n] at z'
      exact of_decide_eq_false z' h
    · rw [if_pos e] at z'
      have n : ¬ b.2.2 = a.2.2 := fun e => sLt_irrefl _ (by rw [e] at h; exact h)
      rw [if_neg n] at z'
      exact of_decide_eq_false z' h
end
end U

/-! names as the laws draw them -/
namespace U
open PySem PySem.Spec PyProof.Rows L2
/-- 1 to 8 small letters -/
structure IsName (z : Str) : Prop where
  lo : 1 ≤ z.length
  hi : z.length ≤ 8
  ch : ∀ c ∈ z.cps.toList, 97 ≤ c ∧ c ≤ 122
theorem letters_at {i : Int} (h0 : 0 ≤ i) (h1 : i < 26) : atI (Str.ofString "abcdefghijklmnopqrstuvwxyz").cps.toList i = some (97 + i.toNat) := by
  obtain ⟨n, rfl⟩ : ∃ n : Nat, i = (n : Int) := ⟨i.toNat, by omega⟩
  have all : ∀ n : Fin 26, (Str.ofString "abcdefghijklmnopqrstuvwxyz").cps.toList[(n : Nat)]? = some (97 + (n : Nat)) := by decide +kernel
  have hn : n < 26 := by omega
  rw [Int.toNat_natCast]
  exact atI_nat (all ⟨n, hn⟩)
theorem letters_len : (Str.ofString "abcdefghijklmnopqrstuvwxyz").length ≤ 100000 := by decide +kernel
theorem pick4 {a b c d r : Int} (h0 : 0 ≤ r) (h1 : r < 4) : ∃ v, atI [V.int a, .int b, .int c, .int d] r = some (.int v) ∧ (v = a ∨ v = b ∨ v = c ∨ v = d) := by
  have : r = 0 ∨ r = 1 ∨ r = 2 ∨ r = 3 := by omega
  rcases this with rfl | rfl | rfl | rfl
  · exact ⟨a, rfl, .inl rfl⟩
  · exact ⟨b, rfl, .inr (.inl rfl)⟩
  · exact ⟨c, rfl, .inr (.inr (.inl rfl))⟩
  · exact ⟨d, rfl, .inr (.inr (.inr rfl))⟩
theorem bToI_pick {x y : V} (b : Bool) : atI [x, y] (bToI b) = some (if b = true then y else x) := by cases b <;> rfl
/-- the letter c put into the text t at place a -/
def putIn (t : List Nat) (a c : Nat) : List Nat := t.take a ++ [c] ++ t.drop a
theorem putIn_len (t : List Nat) (a c : Nat) (h : a ≤ t.length) : (putIn t a c).length = t.length + 1 := by
  unfold putIn
  simp
  omega
theorem putIn_inj {t : List Nat} {a c d : Nat} (h : a ≤ t.length) (e : putIn t a c = putIn t a d) : c = d := by
  unfold putIn at e
  rw [List.append_assoc, List.append_assoc] at e
  have e2 := List.append_cancel_left e
  injection e2
theorem mem_putIn {t : List Nat} {a c x : Nat} (h : x ∈ putIn t a c) : x = c ∨ x ∈ t := by
  unfold putIn at h
  rw [List.mem_append, List.mem_append, List.mem_singleton] at h
  rcases h with (h | h) | h
  · exact .inr (List.mem_of_mem_take h)
  · exact .inl h
  · exact .inr (List.mem_of_mem_drop h)
/-- the k-th name: begin b, step s, the tail's letter and times, its place, whether mixed -/
def nameK (b s : Int) (t : List Nat) (a : Nat) (m : Bool) (k : Nat) : Str :=
  if m = true ∧ k % 2 = 1 then ⟨#[97 + ((b + s * (k : Int)) % 26).toNat]⟩ else ⟨(putIn t a (97 + ((b + s * (k : Int)) % 26).toNat)).toArray⟩
theorem nameK_ok {b s : Int} {n d a : Nat} {m : Bool} {k : Nat} (hn : n ≤ 7) (ha : a ≤ n) (hd : 97 ≤ d ∧ d ≤ 122) : IsName (nameK b s (List.replicate n d) a m k) := by
  have hc : 97 ≤ 97 + ((b + s * (k : Int)) % 26).toNat ∧ 97 + ((b + s * (k : Int)) % 26).toNat ≤ 122 := by omega
  unfold nameK
  generalize 97 + ((b + s * (k : Int)) % 26).toNat = c at hc
  split
  · exact ⟨by simp [Str.length], by simp [Str.length], fun x hx => by
      have : x = c := by simpa using hx
      rw [this]
      exact hc⟩
  · have hl : (putIn (List.replicate n d) a c).length = n + 1 := by rw [putIn_len _ _ _ (by rw [List.length_replicate]; exact ha), List.length_replicate]
    refine ⟨by simp [Str.length, hl], by simp [Str.length, hl]; omega, fun x hx => ?_⟩
    have hx' : x ∈ putIn (List.replicate n d) a c := by simpa using hx
    rcases mem_putIn hx' with e | e
    · rw [e]; exact hc
    · rw [List.eq_of_mem_replicate e]; exact hd
theorem nameK_inj {b s : Int} {n d a : Nat} {m : Bool} {j k : Nat} (ha : a ≤ n) (hs : s = 1 ∨ s = 3 ∨ s = 5 ∨ s = 7) (hj : j < 26) (hk : k < 26)
    (e : nameK b s (List.replicate n d) a m j = nameK b s (List.replicate n d) a m k) : j = k := by
  have core : ∀ {x y : Nat}, x = 97 + ((b + s * (j : Int)) % 26).toNat → y = 97 + ((b + s * (k : Int)) % 26).toNat → x = y → j = k := by
    intro x y hx hy q
    rcases hs with rfl | rfl | rfl | rfl <;> omega
  have hl : ∀ c, (putIn (List.replicate n d) a c).length = n + 1 := fun c => by rw [putIn_len _ _ _ (by rw [List.length_replicate]; exact ha), List.length_replicate]
  unfold nameK at e
  split at e <;> split at e
  · injection e with e
    have e2 := congrArg Array.toList e
    simp only [List.cons.injEq, and_true] at e2
    exact core rfl rfl e2
  · rename_i h1 h2
    exfalso
    injection e with e
    have e2 := congrArg Array.size e
    simp only [List.size_toArray, hl] at e2
    have hn : n = 0 := by simpa using e2.symm
    subst hn
    obtain rfl : a = 0 := by omega
    have e3 := congrArg Array.toList e
    simp only [putIn, List.replicate_zero, List.take_nil, List.nil_append, List.drop_nil, List.append_nil, List.cons.injEq, and_true] at e3
    have := core rfl rfl e3
    subst this
    exact h2 h1
  · rename_i h1 h2
    exfalso
    injection e with e
    have e2 := congrArg Array.size e
    simp only [List.size_toArray, hl] at e2
    have hn : n = 0 := by simpa using e2
    subst hn
    obtain rfl : a = 0 := by omega
    have e3 := congrArg Array.toList e
    simp only [putIn, List.replicate_zero, List.take_nil, List.nil_append, List.drop_nil, List.append_nil, List.cons.injEq, and_true] at e3
    have := core rfl rfl e3
    subst this
    exact h1 h2
  · injection e with e
    have e2 := congrArg Array.toList e
    exact core rfl rfl (putIn_inj (by rw [List.length_replicate]; exact ha) e2)
theorem names_nodup {b s : Int} {n d a : Nat} {m : Bool} (ha : a ≤ n) (hs : s = 1 ∨ s = 3 ∨ s = 5 ∨ s = 7) {many : Nat} (hm : many ≤ 26) : ((List.range many).map (nameK b s (List.replicate n d) a m)).Nodup := by
  rw [List.nodup_iff_pairwise_ne, List.pairwise_map]
  have h : (List.range many).Pairwise fun x y => x ≠ y := List.nodup_range
  refine (List.Pairwise.and_mem.mp h).imp ?_
  intro x y ⟨hx, hy, n⟩ e
  exact n (nameK_inj ha hs (by have := List.mem_range.mp hx; omega) (by have := List.mem_range.mp hy; omega) e)
/-- names, strictly upwards -/
structure Names (ys : List Str) : Prop where
  asc : Asc ys
  ok : ∀ y ∈ ys, IsName y
/-- names, each once, in any order -/
structure NamesU (ys : List Str) : Prop where
  nd : ys.Nodup
  ok : ∀ y ∈ ys, IsName y
theorem Names.u {ys : List Str} (h : Names ys) : NamesU ys := ⟨asc_nodup h.asc, h.ok⟩
theorem NamesU.perm {xs ys : List Str} (h : NamesU xs) (p : ys.Perm xs) : NamesU ys := ⟨p.nodup_iff.mpr h.nd, fun y hy => h.ok y (p.mem_iff.mp hy)⟩
/-! slices of a text -/
theorem cutS_to {z : Str} {i : Int} (h0 : 0 ≤ i) : cutS z none (some i) = ⟨(z.cps.toList.take i.toNat).toArray⟩ := by
  unfold cutS HT.sIx
  simp only [Nat.sub_zero, List.drop_zero]
  rw [if_neg (by omega)]
  congr 2
  have : z.cps.toList.length = z.length := by simp [Str.length]
  by_cases h : i.toNat ≤ z.length
  · rw [Nat.min_eq_left h]
  · rw [Nat.min_eq_right (by omega), List.take_of_length_le (by omega), List.take_of_length_le (by omega)]
theorem cutS_from {z : Str} {i : Int} (h0 : 0 ≤ i) : cutS z (some i) none = ⟨(z.cps.toList.drop i.toNat).toArray⟩ := by
  unfold cutS HT.sIx
  simp only
  rw [if_neg (by omega)]
  congr 1
  have hl : z.cps.toList.length = z.length := by simp [Str.length]
  by_cases h : i.toNat ≤ z.length
  · rw [Nat.min_eq_left h, List.take_of_length_le (by rw [List.length_drop]; omega)]
  · rw [Nat.min_eq_right (by omega), List.drop_of_length_le (by omega), List.drop_of_length_le (by omega), List.take_nil]
theorem str_app {a b : List Nat} : (⟨a.toArray⟩ : Str) ++ ⟨b.toArray⟩ = ⟨(a ++ b).toArray⟩ := str_ext (TL.tl_append _ _)
end U

/-! loops, dictionaries, unpacking: their readings by steps -/
namespace U
open PySem PySem.Spec PyProof.Rows L2
/-- what a loop over J asks -/
def ForB (J : It) (g : TG) (tb : TS) (D : Ends) (σ : L2.St) (H : Hp) : Prop := ∃ W : Nat → Nat → L2.St → Hp → Prop, (∃ m, W 0 m σ H) ∧ ∀ i m σ H, W i m σ H →
  (J.stop i H ∧ D.nx σ H) ∨ (J.go i H ∧ ∃ N : L2.St → Hp → Prop, (∀ σ' H', N σ' H' → ∃ m', m' < m ∧ W (i + 1) m' σ' H') ∧ ∀ x H', J.yld i H x H' → g x σ H' fun σ2 H2 => tb { D with nx := N, ct := N, bk := D.nx } σ2 H2)
def LcB (J : It) (g : TG) (tt : TT) (te : TE) (vs : List Nat) (σ : L2.St) (H1 : Hp) (D : Addr) (Qd : Hp → Prop) : Prop := ∃ W : Nat → Nat → Hp → Prop, (∃ m, W 0 m (upd H1 D (.lst []))) ∧ ∀ i m H, W i m H →
  (J.stop i H ∧ Qd H) ∨ (J.go i H ∧ ∃ Nx : Hp → Prop, (∀ H', Nx H' → ∃ m', m' < m ∧ W (i + 1) m' H') ∧ ∀ x H', J.yld i H x H' → g x (wipe σ vs) H' fun σ2 H2 => wipe σ2 vs = wipe σ vs ∧ tt σ2 H2 fun b H3 =>
    if b = true then te σ2 H3 fun y H4 => ∃ acc, H4 D = some (.lst acc) ∧ acc.length < sizeLine ∧ Nx (upd H4 D (.lst (acc ++ [y]))) else Nx H3)
section
variable {σ : L2.St} {H : Hp} {Q : VK} {D : Ends} {v x y : V} {i j : Int} {ta tb tc te td ty tv : TE} {t u : TS} {K : PySem.W.Frag} {g : TG} {wi : TI} {R : It → Hp → Prop} {tr : TA}
theorem rd_for (h : wi σ H fun J H1 => ForB J g t D σ H1) : tFor wi g t D σ H := h
theorem rd_rng1 (h : tr σ H fun vs H1 => ∃ j : Int, vs = [.int j] ∧ -(2 ^ 62) ≤ j ∧ j < 2 ^ 62 ∧ R (Itr 0 j.toNat) H1) : iRng1 tr σ H R := h
theorem rd_rng2 (h : tr σ H fun vs H1 => ∃ i j : Int, vs = [.int i, .int j] ∧ (-(2 ^ 62) ≤ i ∧ i < 2 ^ 62 ∧ -(2 ^ 62) ≤ j ∧ j < 2 ^ 62) ∧ R (Itr i (j - i).toNat) H1) : iRng2 tr σ H R := h
theorem rd_iList (h : te σ H fun x H1 => ∃ a, x = .ref a ∧ (∃ xs, SqL K H1 a xs) ∧ R (Itl K a) H1) : iList K te σ H R := h
theorem rd_iTup (h : te σ H fun x H1 => ∃ a, x = .ref a ∧ (∃ xs, SqT K H1 a xs) ∧ R (Itt K a) H1) : iTup K te σ H R := h
theorem rd_iEnum (h : tr σ H fun vs H1 => ∃ a xs, vs = [.ref a] ∧ SqL K H1 a xs ∧ R (Ite K a) H1) : iEnum K tr σ H R := h
theorem rd_forL {p : Addr} {xs : List V} {R : Addr → Prop} (hs : SqL K H p xs) (h : R p) : ∃ a, V.ref p = .ref a ∧ (∃ xs, SqL K H a xs) ∧ R a := ⟨p, rfl, ⟨xs, hs⟩, h⟩
theorem rd_forT {p : Addr} {xs : List V} {R : Addr → Prop} (hs : SqT K H p xs) (h : R p) : ∃ a, V.ref p = .ref a ∧ (∃ xs, SqT K H a xs) ∧ R a := ⟨p, rfl, ⟨xs, hs⟩, h⟩
theorem rd_forR {R : Int → Prop} (h0 : -(2 ^ 62) ≤ j) (h1 : j < 2 ^ 62) (h : R j) : ∃ k : Int, [V.int j] = [.int k] ∧ -(2 ^ 62) ≤ k ∧ k < 2 ^ 62 ∧ R k := ⟨j, rfl, h0, h1, h⟩
theorem rd_forE {p : Addr} {xs : List V} {R : Addr → Prop} (hs : SqL K H p xs) (h : R p) : ∃ a xs, [V.ref p] = [.ref a] ∧ SqL K H a xs ∧ R a := ⟨p, xs, rfl, hs, h⟩
theorem turnsR {lo : Int} {n : Nat} (Pv : Nat → L2.St → Hp → Prop) (h0 : Pv 0 σ H) (hs : ∀ i σ H, i < n → Pv i σ H → g (.int (lo + i)) σ H fun σ2 H2 => t { D with nx := Pv (i + 1), ct := Pv (i + 1), bk := D.nx } σ2 H2)
    (hd : ∀ σ H, Pv n σ H → D.nx σ H) : ForB (Itr lo n) g t D σ H := for_range Pv h0 hs hd
theorem turnsL {a : Addr} {xs : List V} (Pv : Nat → L2.St → Hp → Prop) (h0 : Pv 0 σ H) (hl : ∀ i σ H, i ≤ xs.length → Pv i σ H → SqL K H a xs)
    (hs : ∀ i x σ H, xs[i]? = some x → Pv i σ H → g x σ H fun σ2 H2 => t { D with nx := Pv (i + 1), ct := Pv (i + 1), bk := D.nx } σ2 H2) (hd : ∀ σ H, Pv xs.length σ H → D.nx σ H) : ForB (Itl K a) g t D σ H := for_list Pv h0 hl hs hd
theorem turnsT {a : Addr} {xs : List V} (Pv : Nat → L2.St → Hp → Prop) (h0 : Pv 0 σ H) (hl : ∀ i σ H, i ≤ xs.length → Pv i σ H → SqT K H a xs)
    (hs : ∀ i x σ H, xs[i]? = some x → Pv i σ H → g x σ H fun σ2 H2 => t { D with nx := Pv (i + 1), ct := Pv (i + 1), bk := D.nx } σ2 H2) (hd : ∀ σ H, Pv xs.length σ H → D.nx σ H) : ForB (Itt K a) g t D σ H := for_tup Pv h0 hl hs hd
theorem turnsW {J : It} {n : Nat} {G : Hp → Prop} {Y : Nat → Hp → V → Hp → Prop} (w : Walk J n G Y) (Pv : Nat → L2.St → Hp → Prop) (h0 : Pv 0 σ H) (hG : ∀ i σ H, i ≤ n → Pv i σ H → G H)
    (hs : ∀ i x σ H H', i < n → Pv i σ H → Y i H x H' → g x σ H' fun σ2 H2 => t { D with nx := Pv (i + 1), ct := Pv (i + 1), bk := D.nx } σ2 H2) (hd : ∀ σ H, Pv n σ H → D.nx σ H) : ForB J g t D σ H := for_it w Pv h0 hG hs hd
theorem rd_lc {tt : TT} {vs : List Nat} (h : wi σ H fun J H1 => ∀ D, H1 D = none → LcB J g tt te vs σ H1 D fun H2 => Q (.ref D) H2) : tLc wi g tt te vs σ H Q := h
theorem lcL {a : Addr} {xs : List V} {tt : TT} {vs : List Nat} {D : Addr} {Qd : Hp → Prop} (Pv : Nat → Hp → Prop) (h0 : Pv 0 (upd H D (.lst []))) (hl : ∀ i H, i ≤ xs.length → Pv i H → SqL K H a xs)
    (hs : ∀ i x H, xs[i]? = some x → Pv i H → g x (wipe σ vs) H fun σ2 H2 => wipe σ2 vs = wipe σ vs ∧ tt σ2 H2 fun b H3 =>
      if b = true then te σ2 H3 fun y H4 => ∃ acc, H4 D = some (.lst acc) ∧ acc.length < sizeLine ∧ Pv (i + 1) (upd H4 D (.lst (acc ++ [y]))) else Pv (i + 1) H3) (hd : ∀ H, Pv xs.length H → Qd H) : LcB (Itl K a) g tt te vs σ H D Qd := lc_list Pv h0 hl hs hd
/-- unpacking -/
theorem rd_unp {n : Nat} {ts : TGs} {p : Addr} {xs : List V} {Q : L2.St → Hp → Prop} (hs : SqT K H p xs) (hl : xs.length = n) (h : ts xs σ H Q) : gTup K n ts (.ref p) σ H Q := ⟨p, xs, rfl, hs, hl, h⟩
theorem rd_gcons {tg : TG} {u : TGs} {vr : List V} {Q : L2.St → Hp → Prop} (h : tg v σ H fun σ1 H1 => u vr σ1 H1 Q) : gCons tg u (v :: vr) σ H Q := ⟨v, vr, rfl, h⟩
theorem rd_gnil {Q : L2.St → Hp → Prop} (h : Q σ H) : gNil [] σ H Q := ⟨rfl, h⟩
/-- dictionaries -/
theorem rd_dget (h : td σ H fun x H1 => ty σ H1 fun y H2 => ∃ a v, x = .ref a ∧ DGet H2 a y (some v) ∧ Q v H2) : tDGet td ty σ H Q := h
theorem rd_dat {p : Addr} {kvs : List (Key × V)} {k : Key} (hs : Rd H p (.dK kvs)) (hv : valV kvs k = some v) {R : V → Prop} (hy : y = kV k) (h : R v) : ∃ a v, V.ref p = .ref a ∧ DGet H a y (some v) ∧ R v := ⟨p, v, rfl, .inl ⟨kvs, k, hs, hy, hv.symm⟩, h⟩
theorem rd_dput (h : tv σ H fun v H1 => td σ H1 fun x H2 => ty σ H2 fun y H3 => ∃ a H4, x = .ref a ∧ DPut H3 a y v H4 ∧ D.nx σ H4) : sDPut td ty tv D σ H := h
end
end U

/-! lists of texts as data -/
namespace U
open PySem PySem.Spec PyProof.Rows L2
theorem IsName.sok {z : Str} (h : IsName z) : PyData.strOk z = true := by
  unfold PyData.strOk
  rw [Array.all_eq_true_iff_forall_mem]
  intro x hx
  have := h.ch x (by simpa using hx)
  rw [decide_eq_true_eq]
  omega
theorem erase_map {α β : Type} {f : α → β} : ∀ {xs : List α} {i : Nat}, (xs.map f).eraseIdx i = (xs.eraseIdx i).map f
  | [], _ => by simp
  | _ :: _, 0 => rfl
  | x :: xs, i + 1 => by
    show f x :: (xs.map f).eraseIdx i = f x :: (xs.eraseIdx i).map f
    rw [erase_map]
theorem erase_perm {α : Type} : ∀ {xs : List α} {i : Nat} (h : i < xs.length), (xs[i] :: xs.eraseIdx i).Perm xs
  | _ :: _, 0, _ => .refl _
  | x :: xs, i + 1, h => by
    have h' : i < xs.length := Nat.lt_of_succ_lt_succ h
    show (xs[i] :: x :: xs.eraseIdx i).Perm (x :: xs)
    exact (List.Perm.swap x xs[i] _).trans ((erase_perm h').cons x)
section
variable {K : PySem.W.Frag} {H : Hp} {Q : VK} {p q : Addr}
theorem dp_strs : ∀ (xs : List Str), DpAll K H (xs.map V.str) (xs.map PyData.str)
  | [] => .nil
  | x :: xs => .cons (.str x) (dp_strs xs)
theorem can_strs : ∀ {xs : List Str}, (∀ x ∈ xs, PyData.strOk x = true) → PyData.canLayAll0 (xs.map PyData.str) = true
  | [], _ => by simp [PyData.canLayAll0]
  | x :: xs, h => by
    rw [List.map_cons, PyData.canLayAll0, PyData.canLay0, h x List.mem_cons_self, can_strs fun y hy => h y (List.mem_cons_of_mem _ hy)]
    rfl
theorem dep_strs : ∀ {xs : List Str}, PyData.depthAll (xs.map PyData.str) = 0
  | [] => by simp [PyData.depthAll]
  | x :: xs => by
    rw [List.map_cons, PyData.depthAll, dep_strs, PyData.depth]
    rfl
theorem shp_strs {xs : List Str} (h : ∀ x ∈ xs, PyData.strOk x = true) : SeqAt.shaped (.list (xs.map PyData.str)) = true := by
  unfold SeqAt.shaped
  rw [PyData.canLay0, can_strs h, PyData.depth, dep_strs]
  rfl
theorem eqv_nil {xs : List Str} : PyData.eqv (.list (xs.map PyData.str)) (.list []) = xs.isEmpty := by
  cases xs with
  | nil => simp [PyData.eqv, PyData.eqvAll]
  | cons _ _ => simp [PyData.eqv, PyData.eqvAll]
/-- xs != [] -/
theorem rd_neNil {xs : List Str} (hp : SqL K H p (xs.map V.str)) (hq : SqL K H q []) (ok : ∀ x ∈ xs, PyData.strOk x = true) (h : Q (.bl (!xs.isEmpty)) H) : rNeU K (.ref p) (.ref q) H Q := by
  refine ⟨_, _, .lst hp (dp_strs xs), .lst hq .nil, shp_strs ok, by decide, ?_⟩
  rw [eqv_nil]
  exact h
theorem rd_popAt {xs : List V} {i : Int} {v : V} {k : Nat} (hs : H p = some (.lst xs)) (h0 : 0 ≤ i) (hk : i.toNat = k) (hl : xs.length < 100000) (hv : xs[k]? = some v) (h : Q v (upd H p (.lst (xs.eraseIdx k)))) : rPopAt (.ref p) [.int i] H Q := by
  obtain ⟨hlt, _⟩ := List.getElem?_eq_some_iff.mp hv
  refine ⟨p, xs, i, k, v, rfl, rfl, hs, by omega, by omega, ?_, hv, h⟩
  rw [seqIndex_of h0 (by omega), hk]
end
end U

/-! graphs and states as the laws draw them -/
namespace U
open PySem PySem.Spec PyProof.Rows L2
/-- the two names, the lower first -/
def eOf (a b : Str) : Str × Str := if sLt a b then (a, b) else (b, a)
theorem eOf_cases (a b : Str) : eOf a b = (a, b) ∨ eOf a b = (b, a) := by
  unfold eOf
  split
  · exact .inl rfl
  · exact .inr rfl
theorem eOf_lt {a b : Str} (n : a ≠ b) : sLt (eOf a b).1 (eOf a b).2 := by
  unfold eOf
  split
  · assumption
  · rename_i h
    exact sLt_total h (Ne.symm n)
theorem eOf_inj {a b c d : Str} (h : eOf a b = eOf c d) : (a = c ∧ b = d) ∨ (a = d ∧ b = c) := by
  rcases eOf_cases a b with e | e <;> rcases eOf_cases c d with e' | e' <;> rw [e, e'] at h <;> injection h with h1 h2
  · exact .inl ⟨h1, h2⟩
  · exact .inr ⟨h1, h2⟩
  · exact .inr ⟨h2, h1⟩
  · exact .inl ⟨h2, h1⟩
/-- the state's pairs -/
abbrev kvsOf (ws : List (Str × Int)) : List (Key × V) := ws.map fun p => (Sum.inr p.1, V.int p.2)
/-- the number of the node n -/
def numOf (ws : List (Str × Int)) (n : Str) : Int := (ws.lookup n).getD 0
theorem val_kvs : ∀ {ws : List (Str × Int)} {n : Str}, n ∈ ws.map (·.1) → valV (kvsOf ws) (.inr n) = some (.int (numOf ws n))
  | p :: ws, n, h => by
    by_cases e : n = p.1
    · subst e
      rw [kvsOf, List.map_cons, valV_pos rfl]
      unfold numOf
      rw [List.lookup_cons_self]
      rfl
    · have e' : ¬ (Sum.inr p.1 : Key) = Sum.inr n := fun z => e (Sum.inr.inj z).symm
      rw [kvsOf, List.map_cons, valV_neg e']
      have : n ∈ ws.map (·.1) := by
        rcases List.mem_cons.mp h with z | z
        · exact absurd z e
        · exact z
      have r := val_kvs this
      rw [kvsOf] at r
      rw [r]
      unfold numOf
      rw [List.lookup_cons, show (n == p.1) = false from beq_eq_false_iff_ne.mpr e]
theorem val_none : ∀ {ws : List (Str × Int)} {n : Str}, n ∉ ws.map (·.1) → valV (kvsOf ws) (.inr n) = none
  | [], _, _ => rfl
  | p :: ws, n, h => by
    have e' : ¬ (Sum.inr p.1 : Key) = Sum.inr n := fun z => h (by rw [← Sum.inr.inj z]; exact List.mem_cons_self)
    rw [kvsOf, List.map_cons, valV_neg e']
    exact val_none fun z => h (List.mem_cons_of_mem _ z)
theorem put_kvs {ws : List (Str × Int)} {n : Str} {v : Int} (h : n ∉ ws.map (·.1)) : putK (kvsOf ws) (.inr n) (.int v) = kvsOf (ws ++ [(n, v)]) := by
  rw [putK_new _ (val_none h), kvsOf, kvsOf, List.map_append]
  rfl
theorem num_mem : ∀ {ws : List (Str × Int)} {n : Str}, n ∈ ws.map (·.1) → (n, numOf ws n) ∈ ws
  | p :: ws, n, h => by
    unfold numOf
    rw [List.lookup_cons]
    by_cases e : n = p.1
    · rw [show (n == p.1) = true from beq_iff_eq.mpr e]
      subst e
      exact List.mem_cons_self
    · rw [show (n == p.1) = false from beq_eq_false_iff_ne.mpr e]
      have : n ∈ ws.map (·.1) := by
        rcases List.mem_cons.mp h with z | z
        · exact absurd z e
        · exact z
      exact List.mem_cons_of_mem _ (num_mem this)
/-- a state: each name once, in the order ord, a number of 0, 1, 2 -/
structure StOk (ord : List Str) (ws : List (Str × Int)) : Prop where
  key : ws.map (·.1) = ord
  num : ∀ p ∈ ws, 0 ≤ p.2 ∧ p.2 < 3
theorem StOk.at {ord : List Str} {ws : List (Str × Int)} (h : StOk ord ws) {n : Str} (hn : n ∈ ord) : 0 ≤ numOf ws n ∧ numOf ws n < 3 := h.num _ (num_mem (by rw [h.key]; exact hn))
theorem StOk.val {ord : List Str} {ws : List (Str × Int)} (h : StOk ord ws) {n : Str} (hn : n ∈ ord) : valV (kvsOf ws) (.inr n) = some (.int (numOf ws n)) := val_kvs (by rw [h.key]; exact hn)
/-- the edges as they are found: at turn i, j -/
structure EdgesIn (ord : List Str) (f : Str → Int) (i j : Nat) (es : List (Addr × Str × Str)) : Prop where
  nd : (es.map (·.2)).Nodup
  of : ∀ e ∈ es, ∃ i' j', ∃ (hi : i' < ord.length) (hj : j' < ord.length), j' < i' ∧ (i' < i ∨ (i' = i ∧ j' < j)) ∧ e.2 = eOf ord[i'] ord[j'] ∧ f ord[i'] ≠ f ord[j']
theorem EdgesIn.step {ord : List Str} {f : Str → Int} {i j i2 j2 : Nat} {es : List (Addr × Str × Str)} (h : EdgesIn ord f i j es) (c : i < i2 ∨ (i = i2 ∧ j ≤ j2)) : EdgesIn ord f i2 j2 es :=
  ⟨h.nd, fun e he => by
    obtain ⟨i', j', hi, hj, h1, h2, h3⟩ := h.of e he
    exact ⟨i', j', hi, hj, h1, by omega, h3⟩⟩
theorem EdgesIn.add {ord : List Str} {f : Str → Int} {i j : Nat} {es : List (Addr × Str × Str)} {t : Addr} (h : EdgesIn ord f i j es) (nd : ord.Nodup) (hij : j < i) (hi : i < ord.length) (hj : j < ord.length) (hf : f ord[i] ≠ f ord[j]) :
    EdgesIn ord f i (j + 1) (es ++ [(t, eOf ord[i] ord[j])]) := by
  have inj : ∀ {a b : Nat} (ha : a < ord.length) (hb : b < ord.length), ord[a] = ord[b] → a = b := by
    intro a b ha hb e
    have z := List.pairwise_iff_getElem.mp (List.nodup_iff_pairwise_ne.mp nd)
    rcases Nat.lt_trichotomy a b with h | h | h
    · exact absurd e (z a b ha hb h)
    · exact h
    · exact absurd e.symm (z b a hb ha h)
  refine ⟨?_, ?_⟩
  · rw [List.map_append, List.nodup_append]
    refine ⟨h.nd, by simp, ?_⟩
    intro x hx y hy e
    obtain ⟨z, hz, rfl⟩ := List.mem_map.mp hx
    have : y = eOf ord[i] ord[j] := by simpa using hy
    subst this
    obtain ⟨i', j', hi', hj', h1, h2, h3, _⟩ := h.of z hz
    rw [h3] at e
    rcases eOf_inj e with ⟨e1, e2⟩ | ⟨e1, e2⟩
    · have := inj _ _ e1
      have := inj _ _ e2
      omega
    · have := inj _ _ e1
      have := inj _ _ e2
      omega
  · intro e he
    rcases List.mem_append.mp he with he | he
    · obtain ⟨i', j', hi', hj', h1, h2, h3⟩ := h.of e he
      exact ⟨i', j', hi', hj', h1, by omega, h3⟩
    · have : e = (t, eOf ord[i] ord[j]) := by simpa using he
      subst this
      exact ⟨i, j, hi, hj, hij, by omega, rfl, hf⟩
/-- a graph: names upwards, edges upwards, each with its lower name first -/
structure GrOk (ns : List Str) (es : List (Str × Str)) : Prop where
  names : Names ns
  asc : AscE es
  lt : ∀ e ∈ es, sLt e.1 e.2
  mem : ∀ e ∈ es, e.1 ∈ ns ∧ e.2 ∈ ns
/-- the graph stands at g -/
structure GrAt (H : Hp) (g n e : Addr) (ns : List Str) (es : List (Addr × Str × Str)) : Prop where
  top : H g = some (.tup [.ref n, .ref e])
  nodes : H n = some (.tup (ns.map V.str))
  edges : H e = some (.tup (es.map fun x => V.ref x.1))
  pairs : ∀ x ∈ es, H x.1 = some (.tup [.str x.2.1, .str x.2.2])
theorem cutV_to {xs : List V} {i : Nat} (h : i ≤ xs.length) : cutV xs none (some (i : Int)) = xs.take i := by
  unfold cutV HT.sIx
  simp only [Nat.sub_zero, List.drop_zero]
  rw [if_neg (by omega), Int.toNat_natCast, Nat.min_eq_left h]
theorem map_at {α : Type} {f : α → V} {xs : List α} {i : Nat} {x : V} (h : (xs.map f)[i]? = some x) : ∃ hi : i < xs.length, x = f xs[i] := by
  rw [List.getElem?_map] at h
  by_cases hi : i < xs.length
  · rw [List.getElem?_eq_getElem hi] at h
    exact ⟨hi, (Option.some.inj h).symm⟩
  · rw [List.getElem?_eq_none (by omega)] at h
    cases h
theorem StOk.nil : StOk [] [] := ⟨rfl, fun _ h => nomatch h⟩
theorem StOk.add {ord : List Str} {ws : List (Str × Int)} {i : Nat} {v : Int} (h : StOk (ord.take i) ws) (hi : i < ord.length) (h0 : 0 ≤ v) (h1 : v < 3) : StOk (ord.take (i + 1)) (ws ++ [(ord[i], v)]) := by
  refine ⟨?_, ?_⟩
  · rw [List.map_append, h.key, List.take_succ, List.getElem?_eq_getElem hi]
    rfl
  · intro p hp
    rcases List.mem_append.mp hp with hp | hp
    · exact h.num p hp
    · have : p = (ord[i], v) := by simpa using hp
      subst this
      exact ⟨h0, h1⟩
theorem StOk.not {ord : List Str} {ws : List (Str × Int)} {i : Nat} (h : StOk (ord.take i) ws) (nd : ord.Nodup) (hi : i < ord.length) : ord[i] ∉ ws.map (·.1) := by
  rw [h.key]
  intro hm
  obtain ⟨j, hj, e⟩ := List.mem_iff_getElem.mp hm
  rw [List.length_take] at hj
  have e' : ord[j] = ord[i] := by rw [← e, List.getElem_take]
  have z := List.pairwise_iff_getElem.mp (List.nodup_iff_pairwise_ne.mp nd)
  exact z j i (by omega) hi (by omega) e'
theorem eOf_pair {a b : Str} : (if sLt a b then [V.str a, V.str b] else [V.str b, V.str a]) = [V.str (eOf a b).1, V.str (eOf a b).2] := by
  unfold eOf
  split <;> rfl
section
variable {K : PySem.W.Frag} {H : Hp} {Q : VK} {p q : Addr} {σ : L2.St}
theorem rd_dnew (h : ∀ d, H d = none → Q (.ref d) (upd H d (.dK []))) : tDNewK σ H Q := h
theorem rd_dset {kvs : List (Key × V)} {k : Key} {y v : V} {R : Hp → Prop} (hs : H p = some (.dK kvs)) (hy : y = kV k) (hl : kvs.length < 100000) (h : R (upd H p (.dK (putK kvs k v)))) :
    ∃ a H4, V.ref p = .ref a ∧ DPut H a y v H4 ∧ R H4 := ⟨p, _, rfl, .inl ⟨kvs, k, hs, hy, Nat.lt_of_lt_of_le hl (by decide), rfl⟩, h⟩
end
end U

/-! comprehensions, locks, statements that are never reached: their readings -/
namespace U
open PySem PySem.Spec PyProof.Rows L2
def tCK (sp : Sp) (np nk : Nat) (E : XK) (t tk : TA) : TE := fun σ H Q => t σ H fun vs H1 => vs.length = np ∧ tk σ H1 fun zs H2 => zs.length = nk ∧ sp (vs ++ zs) H2 Q E
def DcB (J : It) (g : TG) (tt : TT) (tk tv : TE) (vs : List Nat) (σ : L2.St) (H1 : Hp) (D : Addr) (Qd : Hp → Prop) : Prop := ∃ W : Nat → Nat → Hp → Prop, (∃ m, W 0 m (upd H1 D (.dK []))) ∧ ∀ i m H, W i m H →
  (J.stop i H ∧ Qd H) ∨ (J.go i H ∧ ∃ Nx : Hp → Prop, (∀ H', Nx H' → ∃ m', m' < m ∧ W (i + 1) m' H') ∧ ∀ x H', J.yld i H x H' → g x (wipe σ vs) H' fun σ2 H2 => wipe σ2 vs = wipe σ vs ∧ tt σ2 H2 fun b H3 =>
    if b = true then tk σ2 H3 fun y H4 => tv σ2 H4 fun z H5 => ∃ kvs k, y = kV k ∧ H5 D = some (.dK kvs) ∧ kvs.length < sizeLine ∧ Nx (upd H5 D (.dK (putK kvs k z))) else Nx H3)
section
variable {σ : L2.St} {H : Hp} {Q : VK} {D : Ends} {te td ty tv : TE} {t : TS} {g : TG} {wi : TI} {R : It → Hp → Prop} {tt : TT} {vs : List Nat} {L : Addr} {Qd : Hp → Prop} {J : It} {n : Nat} {G : Hp → Prop} {Y : Nat → Hp → V → Hp → Prop} {K : PySem.W.Frag}
theorem dcW {tk : TE} (w : Walk J n G Y) (Pv : Nat → Hp → Prop) (h0 : Pv 0 (upd H L (.dK []))) (hG : ∀ i H, i ≤ n → Pv i H → G H)
    (hs : ∀ i x H H', i < n → Pv i H → Y i H x H' → g x (wipe σ vs) H' fun σ2 H2 => wipe σ2 vs = wipe σ vs ∧ tt σ2 H2 fun b H3 =>
      if b = true then tk σ2 H3 fun y H4 => tv σ2 H4 fun z H5 => ∃ kvs k, y = kV k ∧ H5 L = some (.dK kvs) ∧ kvs.length < sizeLine ∧ Pv (i + 1) (upd H5 L (.dK (putK kvs k z))) else Pv (i + 1) H3) (hd : ∀ H, Pv n H → Qd H) : DcB J g tt tk tv vs σ H L Qd := by
  refine ⟨fun i m H => m = n - i ∧ i ≤ n ∧ Pv i H, ⟨n, by simp, Nat.zero_le _, h0⟩, ?_⟩
  rintro i m H ⟨rfl, hi, p⟩
  have q := hG i H hi p
  by_cases hlt : i < n
  · refine .inr ⟨w.goes i H hlt q, Pv (i + 1), fun H' p' => ⟨n - (i + 1), by omega, rfl, hlt, p'⟩, fun x H' y => hs i x H H' hlt p (w.yields i H x H' hlt q y)⟩
  · have e : i = n := by omega
    subst e
    exact .inl ⟨w.stops H q, hd H p⟩
theorem rd_dc {tk : TE} (h : wi σ H fun J H1 => ∀ D, H1 D = none → DcB J g tt tk tv vs σ H1 D fun H2 => Q (.ref D) H2) : tDc wi g tt tk tv vs σ H Q := h
/-- under a lock: what the block leaves at the lock's place is the locked thing -/
theorem rd_lockE {d : Addr} {kvs : List (Key × V)} (hd : H d = some (.dK kvs)) (h : ∀ od, te σ (upd H d (.frz od (.dK kvs))) fun v H' => H' d = some (.frz od (.dK kvs)) ∧ Q v (upd H' d (.dK kvs))) : tLockE te σ H Q := ⟨d, _, hd, trivial, h⟩
theorem rd_iItems (h : td σ H fun x H1 => ∃ d o kvs, x = .ref d ∧ H1 d = some (.frz o (.dK kvs)) ∧ R (Iti d o kvs) H1) : iItems td σ H R := h
theorem rd_iKeys (h : td σ H fun x H1 => ∃ d o, x = .ref d ∧ ((∃ kvs, H1 d = some (.frz o (.dK kvs)) ∧ R (Itk d o kvs) H1) ∨ ∃ kvs, H1 d = some (.frz o (.dT kvs)) ∧ R (Itkt d o kvs) H1)) : iKeys td σ H R := h
theorem rd_forI {d : Addr} {o : Obj} {kvs : List (Key × V)} {R : Addr → Obj → List (Key × V) → Prop} (hd : H d = some (.frz o (.dK kvs))) (h : R d o kvs) : ∃ d' o kvs, V.ref d = .ref d' ∧ H d' = some (.frz o (.dK kvs)) ∧ R d' o kvs := ⟨d, o, kvs, rfl, hd, h⟩
theorem rd_wp {vs : List Nat} {σ1 σ2 : L2.St} {P : Prop} (e : wipe σ1 vs = wipe σ2 vs) (h : P) : wipe σ1 vs = wipe σ2 vs ∧ P := ⟨e, h⟩
theorem rd_yesT {Q : Bool → Hp → Prop} (h : Q true H) : tYes σ H Q := h
theorem rd_acc {L : Addr} {acc : List V} {R : List V → Prop} (hL : H L = some (.lst acc)) (hz : acc.length < 100000) (h : R acc) : ∃ acc, H L = some (.lst acc) ∧ acc.length < sizeLine ∧ R acc := ⟨acc, hL, Nat.lt_of_lt_of_le hz (by decide), h⟩
theorem rd_accD {L : Addr} {y : V} {kvs : List (Key × V)} {k : Key} {R : List (Key × V) → Key → Prop} (hy : y = kV k) (hL : H L = some (.dK kvs)) (hz : kvs.length < 100000) (h : R kvs k) : ∃ kvs k, y = kV k ∧ H L = some (.dK kvs) ∧ kvs.length < sizeLine ∧ R kvs k := ⟨kvs, k, hy, hL, Nat.lt_of_lt_of_le hz (by decide), h⟩
theorem inV_str {v : Str} {xs : List Str} : inV (.str v) (xs.map V.str) = decide (v ∈ xs) := by
  induction xs with
  | nil => rfl
  | cons x xs ih =>
    unfold inV at ih ⊢
    rw [List.map_cons, List.any_cons, ih]
    simp only [eqV, List.mem_cons, Bool.decide_or]
    congr 1
    exact decide_eq_decide.mpr ⟨Eq.symm, Eq.symm⟩
theorem flat_str {xs : List Str} : (xs.map V.str).all flatV = true := by
  rw [List.all_eq_true]
  intro x hx
  obtain ⟨i, _, rfl⟩ := List.mem_map.mp hx
  rfl
theorem rd_ninSL {p : Addr} {v : Str} {xs : List Str} (hs : SqL K H p (xs.map V.str)) (h : Q (.bl (!decide (v ∈ xs))) H) : rNotInU K (.str v) (.ref p) H Q := ⟨_, .inl hs, rfl, flat_str, by rw [inV_str]; exact h⟩
theorem rd_inST {p : Addr} {v : Str} {xs : List Str} (hs : SqT K H p (xs.map V.str)) (h : Q (.bl (decide (v ∈ xs))) H) : rInU K (.str v) (.ref p) H Q := ⟨_, .inr hs, rfl, flat_str, by rw [inV_str]; exact h⟩
theorem rd_ninST {p : Addr} {v : Str} {xs : List Str} (hs : SqT K H p (xs.map V.str)) (h : Q (.bl (!decide (v ∈ xs))) H) : rNotInU K (.str v) (.ref p) H Q := ⟨_, .inr hs, rfl, flat_str, by rw [inV_str]; exact h⟩
theorem rd_catL {p q : Addr} {xs ys : List V} (h1 : H p = some (.lst xs)) (h2 : H q = some (.lst ys)) (hz : xs.length + ys.length ≤ 100000) (h : nL (xs ++ ys) H Q) : rAddU K (.ref p) (.ref q) H Q := .inl ⟨xs, ys, h1, h2, Nat.le_trans hz (by decide), h⟩
theorem GrAt.same {H' : Hp} {g n e : Addr} {ns : List Str} {es : List (Addr × Str × Str)} (h : GrAt H g n e ns es) (s : Same H H') : GrAt H' g n e ns es :=
  ⟨s _ _ h.top, s _ _ h.nodes, s _ _ h.edges, fun x hx => s _ _ (h.pairs x hx)⟩
theorem GrAt.but {H' : Hp} {p g n e : Addr} {ys : List V} {ns : List Str} {es : List (Addr × Str × Str)} (h : GrAt H g n e ns es) (hp : H p = some (.lst ys)) (b : But p H H') : GrAt H' g n e ns es := by
  have k : ∀ {a : Addr} {xs : List V}, H a = some (.tup xs) → H' a = some (.tup xs) := fun {a xs} ha => b _ _ (ne_of ha hp (by intro z; cases z)) ha
  exact ⟨k h.top, k h.nodes, k h.edges, fun x hx => k (h.pairs x hx)⟩
theorem But.dK {H' : Hp} {p d : Addr} {ys : List V} {kvs : List (Key × V)} (b : But p H H') (hp : H p = some (.lst ys)) (h : H d = some (.dK kvs)) : H' d = some (.dK kvs) := b _ _ (ne_of h hp (by intro z; cases z)) h
theorem But.tup {H' : Hp} {p d : Addr} {ys xs : List V} (b : But p H H') (hp : H p = some (.lst ys)) (h : H d = some (.tup xs)) : H' d = some (.tup xs) := b _ _ (ne_of h hp (by intro z; cases z)) h
theorem same_put {H1 : Hp} {a : Addr} {o : HO} (s : Same H H1) (n : H a = none) : Same H (upd H1 a o) := fun c u h => at_upd (ne_of_none h n) (s c u h)
theorem same_add {H1 : Hp} {a : Addr} {o : HO} (s : Same H H1) (n : H1 a = none) : Same H (upd H1 a o) := fun c u h => at_upd (ne_of_none (s c u h) n) (s c u h)
/-- xs != [], whatever data -/
theorem rd_neNilD {p q : Addr} {xs : List V} {ds : List PyData} (hp : SqL K H p xs) (hd : DpAll K H xs ds) (hq : SqL K H q []) (ok : PyData.canLayAll0 ds = true) (dep : PyData.depthAll ds ≤ 60) (h : Q (.bl (!xs.isEmpty)) H) : rNeU K (.ref p) (.ref q) H Q := by
  refine ⟨_, _, .lst hp hd, .lst hq .nil, ?_, by decide, ?_⟩
  · unfold SeqAt.shaped
    rw [PyData.canLay0, ok, PyData.depth, decide_eq_true (by omega)]
    rfl
  · have : PyData.eqv (.list ds) (.list []) = xs.isEmpty := by
      cases hd with
      | nil => simp [PyData.eqv, PyData.eqvAll]
      | cons _ _ => simp [PyData.eqv, PyData.eqvAll]
    rw [this]
    exact h
theorem rd_isi {x : V} {n : String} {a t : Ty} (h1 : TyIs K H x a) (h2 : tyOf n = some t) (h : Q (.bl (isT a t)) H) : rIsiU K [x, .ty n] H Q := ⟨a, t, h1, h2, h⟩
theorem rd_din (h : ty σ H fun y H1 => td σ H1 fun x H2 => ∃ a o, x = .ref a ∧ DGet H2 a y o ∧ Q (.bl o.isSome) H2) : tDIn ty td σ H Q := h
theorem rd_dnin (h : ty σ H fun y H1 => td σ H1 fun x H2 => ∃ a o, x = .ref a ∧ DGet H2 a y o ∧ Q (.bl (!o.isSome)) H2) : tDNotIn ty td σ H Q := h
theorem rd_din1 {p : Addr} {kvs : List (Key × V)} {k : Key} {y : V} {R : Option V → Prop} (hs : Rd H p (.dK kvs)) (hy : y = kV k) (h : R (valV kvs k)) : ∃ a o, V.ref p = .ref a ∧ DGet H a y o ∧ R o := ⟨p, _, rfl, .inl ⟨kvs, k, hs, hy, rfl⟩, h⟩
theorem rd_nT {A B : Prop} (h : B) : if (!true) = true then A else B := h
theorem rd_nF {A B : Prop} (h : A) : if (!false) = true then A else B := h
/-- repr of a truth value -/
def shB (b : Bool) : Str := if b then "True" else "False"
def rReprU : List V → Hp → VK → Prop := fun xs H Q => match xs with
  | [.bl b] => Q (.str (shB b)) H
  | _ => False
theorem rd_reprB {b : Bool} (h : Q (.str (shB b)) H) : rReprU [.bl b] H Q := h
theorem rd_ck {sp : Sp} {E : XK} {np nk : Nat} {t tk : TA} (h : t σ H fun vs H1 => vs.length = np ∧ tk σ H1 fun zs H2 => zs.length = nk ∧ sp (vs ++ zs) H2 Q E) : tCK sp np nk E t tk σ H Q := h
theorem rd_len {vs : List V} {k : Nat} {P : Prop} (e : vs.length = k) (h : P) : vs.length = k ∧ P := ⟨e, h⟩
theorem rd_par {i j : Nat} {ta : TA} (h : ta σ H fun vs H1 => ∃ v w, vs = [v, w] ∧ D.nx ((σ.set i (some v)).set j (some w)) H1) : tPar i j ta D σ H := h
theorem rd_two {v w' : V} {R : V → V → Prop} (h : R v w') : ∃ x y, [v, w'] = [x, y] ∧ R x y := ⟨v, w', rfl, h⟩
theorem rd_isB {a b : Bool} (h : Q (.bl (decide (a = b))) H) : rIsU (.bl a) (.bl b) H Q := ⟨a, rfl, h⟩
theorem rd_isNotB {a b : Bool} (h : Q (.bl (!decide (a = b))) H) : rIsNotU (.bl a) (.bl b) H Q := ⟨a, rfl, h⟩
theorem rd_daug {rd : V → V → Hp → VK → Prop} (h : td σ H fun x H1 => ty σ H1 fun y H2 => ∃ a v, x = .ref a ∧ DGet H2 a y (some v) ∧
  tv σ H2 fun y2 H3 => rd v y2 H3 fun z H4 => ∃ H5, DPut H4 a y z H5 ∧ D.nx σ H5) : sDAug td ty tv rd D σ H := h
end
end U

/-! exceptions that outlive their handler; own classes over own classes -/
namespace U
open PySem PySem.Spec PyProof.Rows L2
/-- at a: an exception of the class cls, its dict at d -/
def exk (a : Addr) (cls : Value) (d : Option Addr) : HO := .ext fun h => ∃ oe vs, h.get? a = some oe ∧ Zc cls d oe ∧ oe.data = .fields vs
theorem exk_ok {P : Program} {w : World} {H : Hp} {h : Heap} {a : Addr} {cls : Value} {d : Option Addr} {oe : Obj} {vs : Array Value} (e : h.get? a = some oe) (z : Zc cls d oe) (f : oe.data = .fields vs) : ObjOk P w H h a (exk a cls d) := by
  refine ⟨⟨oe, vs, e, z, f⟩, ⟨_, e⟩, fun h1 h2 t k => ?_⟩
  obtain ⟨o2, v2, e2, z2, f2⟩ := t
  exact ⟨o2, v2, k _ e2, z2, f2⟩
theorem exk_at {P : Program} {w : World} {H : Hp} {h : Heap} {a : Addr} {cls : Value} {d : Option Addr} (hok : HOk P w H h) (e : H a = some (exk a cls d)) : ∃ oe vs, h.get? a = some oe ∧ Zc cls d oe ∧ oe.data = .fields vs := by
  have t : ObjOk P w H h a (.ext fun h => ∃ oe vs, h.get? a = some oe ∧ Zc cls d oe ∧ oe.data = .fields vs) := hok a _ e
  exact t.1
section
variable {X : Cx} {pins : List (Addr × Obj)} {σ : L2.St} {H : Hp} {sI s' : Shared} {B : Heap} {a : Addr} {cls : Value} {d : Option Addr} {oe : Obj} {vs : Array Value}
/-- back on the ground, the exception tracked -/
theorem landed_k (I : Inv X pins σ H sI) (nb : ∀ b o, sI.heap.get? b = some o → b ∉ frs X.stack → B.get? b = some o) (st : B.StaysIn s'.heap) (up : sI.heap.UpToSlots s'.heap) (os : s'.os = sI.os) (ag : AllBare s'.gens)
    (hB : B.get? a = none) (nfr : a ∉ frs X.stack) (na : H a = none) (he : s'.heap.get? a = some oe) (hz : Zc cls d oe) (hd : oe.data = .fields vs) : Inv X pins σ (upd H a (exk a cls d)) s' := by
  have fr : ∀ b ∈ frs X.stack, ∀ o, sI.heap.get? b = some o → ∃ sl, s'.heap.get? b = some { o with slots := sl } := by
    intro b hb o e
    obtain ⟨_, o1, e1, h1⟩ := I.stack.mem hb
    rw [e] at e1
    cases e1
    exact up b o e h1
  have sIa : ∀ o, sI.heap.get? a ≠ some o := fun o e => by
    rw [nb a o e nfr] at hB
    cases hB
  have ok1 : HOk X.prog X.w H s'.heap := (I.inGround nb).kept st
  have ok2 : HOk X.prog X.w (upd H a (exk a cls d)) s'.heap := by
    intro b o e
    by_cases hb : b = a
    · subst hb
      rw [upd_same] at e
      cases e
      exact exk_ok he hz hd
    · rw [upd_ne hb] at e
      exact (ok1 b o e).stay (fun c v _ q => q) (fun c q => at_upd (ne_of_none q na) q) fun c xs q => at_upd (ne_of_none q na) q
  have J := I.call (ch := []) (h' := s'.heap) (g' := s'.gens) (t' := s'.toks) (d' := s'.drawn) (H' := upd H a (exk a cls d))
    { keep := fun b o e _ hb _ => st b o (nb b o e hb)
      slot := fun b o e _ hb _ => fr b hb o e
      free := fun b o e n _ => no_upd (fun z => sIa o (by rw [← z]; exact e)) n
      there := fun b o e _ => by
        by_cases hb : b ∈ frs X.stack
        · obtain ⟨sl, q⟩ := fr b hb o e
          exact ⟨_, q⟩
        · exact ⟨o, st b o (nb b o e hb)⟩
      tups := fun _ _ e => at_upd (ne_of_none e na) e
      frzs := fun _ _ _ e => at_upd (ne_of_none e na) e
      tbls := fun b ps e => ⟨#[], by rw [at_upd (ne_of_none e na) e]; simp⟩ } ok2 ag (fun _ z => nomatch z)
  obtain ⟨b1, b2, b3, b4, b5⟩ := s'
  have e5 : b5 = sI.os := os
  subst e5
  exact J
end
/-- the wish of 'except x as n', the exception tracked: slot i is n's -/
def wKeep (K : PySem.W.Frag) (c : Value) (i : Nat) (ts : TS) (Wout : WX) (D : Ends) : WX := fun cls d σ H =>
  ∃ b, PySem.W.exmOne K cls c = some b ∧ (b = false → Wout cls d σ H) ∧
    (b = true → ∀ a, H a = none → ts { nx := fun σ1 H1 => D.nx (σ1.set i none) H1, rt := D.rt, bk := fun σ1 H1 => D.bk (σ1.set i none) H1, ct := fun σ1 H1 => D.ct (σ1.set i none) H1 } (σ.set i (some (.ref a))) (upd H a (exk a cls d)))
section
variable {X : Cx} {x n : Str} {c : Value} {i : Nat} {body suite : List Stmt} {b₀ : Stmt} {np pos pos' : Pos} {tb : WX → TS} {ts : TS} {Wout : WX}
theorem ps_try_keep (hs : X.stack = X.env :: X.outer) (hf : X.env.frame = some X.env.locals) (hN : X.N.Nodup) (hi : X.N[i]? = some n) (hln : X.env.kindOf n = some .local) (hc : L2.Names X x c) (tk : Takes X Wout)
    (hb : ∀ (W : WX) (pn : List (Addr × Obj)) (xe : Value → Shared → Prop), Takes (X.tr pn xe) W → PassesOwn (model X.prog X.w) X.A X.env xe → PSs (X.tr pn xe) body (tb W))
    (hsu : ∀ (a : Addr) (pn : List (Addr × Obj)), PSs (X.suite a pn) (b₀ :: suite) ts) :
    PS X (.Try body [.ExceptHandler (some (.Name x np)) (some n) (b₀ :: suite) pos'] [] [] pos) (fun D σ H => tb (wKeep X.K c i ts Wout D) D σ H) := by
  refine ⟨fun pins s σ H D I want => ?_⟩
  have okX := I.ok
  have frX : X.A.frames = some (X.env :: X.outer) := by rw [okX.frames, hs]
  refine wpAny_Try_except ?_
  have run := (hb (wKeep X.K c i ts Wout D) (X.pn ++ pins) (fun e t1 => wpAny (model X.prog X.w) X.A (noteFrame e X.env) (fun _ t2 => wpAny (model X.prog X.w) X.A (setFlight e none) (fun _ t3 =>
    wpAny (model X.prog X.w) X.A (handleBy e X.env [.ExceptHandler (some (.Name x np)) (some n) (b₀ :: suite) pos']) (SP X pins D) X.xe t3) X.xe t2) X.xe t1) ?_ PassesOwn.looking).run [] s σ H D (I.toTry _) want
  · refine wpAny_mono run (fun f t1 h => ?_) fun _ _ z => z
    cases f with
    | next =>
      obtain ⟨σ1, H1, J, q⟩ := h
      exact wpAny_execs_nil ⟨σ1, H1, J.ofTry okX, q⟩
    | brk =>
      obtain ⟨σ1, H1, J, q⟩ := h
      exact ⟨σ1, H1, J.ofTry okX, q⟩
    | cont =>
      obtain ⟨σ1, H1, J, q⟩ := h
      exact ⟨σ1, H1, J.ofTry okX, q⟩
    | ret v =>
      obtain ⟨v1, σ1, H1, J, r, q⟩ := h
      exact ⟨v1, σ1, H1, J.ofTry okX, r, q⟩
  · intro u t0 xx
    obtain ⟨a, B, sI, pins1, σ1, H1, cls, d, rfl, J1, nb, up, sky, na, os, ag, b, hb1, hno, hyes⟩ := xx
    have J : Inv X pins σ1 H1 sI := J1.ofTry okX
    have sky1 : Sky B (X.env :: X.outer) a (Zc cls d) X.env.locals t0.heap := by rw [← hs]; exact sky
    show wpAny (model X.prog X.w) X.A (noteFrame (.ref a) X.env) _ _ _
    refine Sky.land Zc.steady frX hf sky1 fun h3 fl3 up3 => ?_
    have J3 : Inv X pins σ1 H1 { t0 with heap := h3 } := J.landed nb fl3.1 (up.trans up3) os ag
    obtain ⟨oe3, vs3, he3, hz3, hd3⟩ := fl3.there
    have off : ∀ {h : Heap} {o : Obj} {vs : Array Value}, h.FunFrames B (X.env :: X.outer) → h.get? a = some o → o.data = .fields vs → a ∉ frs (X.env :: X.outer) := by
      intro h o vs ff e dd hm
      obtain ⟨_, o1, e1, hnf⟩ := ff.mem hm
      rw [e] at e1
      cases e1
      exact hnf _ dd
    have nfr := off fl3.2.2.1 he3 hd3
    have nL : a ≠ X.env.locals := fun z => nfr (List.mem_filterMap.mpr ⟨X.env, List.mem_cons_self, by rw [hf, z]⟩)
    have nF : a ∉ X.fs := by
      intro hm
      obtain ⟨e, he, q⟩ := List.mem_filterMap.mp hm
      exact nfr (List.mem_filterMap.mpr ⟨e, List.mem_cons_of_mem _ he, q⟩)
    have S3 := J3.suite he3 hd3 na nL nF
    refine wpAny_handleBy_cons (codeAny_handlers_test ?_) (by intro q; cases q)
    have LT : PySem.W.Looks (model X.prog X.w) h3 (typeOf (.ref a)) cls := fun A Q E s k q => wpAny_typeOf_ref (k _ _ he3) (by rw [hz3.1]; exact q)
    have LM := PySem.W.exm_one (M := model X.prog X.w) (J3.kIn) LT hb1
    have named : ∀ {Q E : Value → Shared → Prop}, Q c { t0 with heap := h3 } → wpAny (model X.prog X.w) (X.A.mark (some (.ref a))) (eval (.Name x np) X.env) Q E { t0 with heap := h3 } := by
      intro Q E q
      obtain ⟨hg, hdbg, hm | ⟨hm, hv, hnn⟩⟩ := hc
      · exact ld_glob (X := X.suite a ((a, oe3) :: (X.pn ++ pins))) S3 hg hm q hdbg
      · exact ld_blt (X := X.suite a ((a, oe3) :: (X.pn ++ pins))) S3 hg hm hv q hnn hdbg
    refine named (LM.here ?_)
    cases b with
    | false =>
      show wpAny _ X.A (handleBy (.ref a) X.env []) _ _ _
      refine wpAny_handleBy_nil ?_
      obtain ⟨k1, k2, k3, oe, vs, T, oT, ts1, he, hz, hd, h1, hr⟩ := id fl3
      unfold PySem.passOn
      refine wpAny_bind (wpAny_field he hd h1 ?_)
      rw [if_neg (show ¬ ((Value.ref T == Value.none) = true) from by simp)]
      have onward : wpAny (model X.prog X.w) X.A (setFlight (.ref a) X.env.frame) (fun _ s4 => wpAny (model X.prog X.w) X.A (throw (.ref a) : Sem Flow) (SP X pins D) X.xe s4) X.xe { t0 with heap := h3 } := by
        rw [hf]
        refine HandSPX.setFlight_upZ fl3 fun h4 hh4 up4 => wpAny_throw (tk _ _ ?_)
        exact ⟨a, B, sI, pins, σ1, H1, cls, d, rfl, J, nb, (up.trans up3).trans up4, .inr (.inr (by rw [hs]; exact hh4)), na, os, ag, hno rfl⟩
      first
        | exact wpAny_bind (wpAny_pure (wpAny_bind onward))
        | exact wpAny_bind onward
    | true =>
      refine codeAny_handlers_suite_as ?_
      refine HandSPX.lands_againZ fl3 fun h4 fl4 up4 => ?_
      obtain ⟨oe4, vs4, he4, hz4, hd4⟩ := fl4.there
      have J4 : Inv X pins σ1 (upd H1 a (exk a cls d)) { t0 with heap := h4 } := landed_k J nb fl4.1 ((up.trans up3).trans up4) os ag fl4.2.1 (by rw [hs]; exact nfr) na he4 hz4 hd4
      have S4 : Inv (X.suite a (X.pn ++ pins)) [] σ1 (upd H1 a (exk a cls d)) { t0 with heap := h4 } :=
        ⟨J4.ok.suite _ _, J4.os, J4.bare, J4.base, J4.loc, J4.cell, J4.free, J4.freeC, fun p hp => J4.pin p (by rw [List.append_nil] at hp; exact hp), J4.hok, J4.len⟩
      refine store_ok (X := X.suite a (X.pn ++ pins)) (v := .ref a) S4 hN hi (.inl hln) rfl (fun s5 S5 => ?_) (.inr hln)
      refine wpAny_mono ((hsu a (X.pn ++ pins)).run [] s5 _ _ _ S5 (hyes rfl a na)) (fun f s6 hsp => ?_) (fun _ _ z => False.elim z)
      have back : ∀ {σ6 : L2.St} {H6 : Hp}, Inv (X.suite a (X.pn ++ pins)) [] σ6 H6 s6 → Inv X pins σ6 H6 s6 := fun S =>
        ⟨okX, S.os, S.bare, S.base, S.loc, S.cell, S.free, S.freeC, fun p hp => S.pin p (List.mem_append_left _ hp), S.hok, S.len⟩
      have over : ∀ {σ6 : L2.St} {H6 : Hp} {Q : Shared → Prop}, Inv (X.suite a (X.pn ++ pins)) [] σ6 H6 s6 → (∀ s7, Inv X pins (σ6.set i none) H6 s7 → Q s7) →
          wpAny (model X.prog X.w) X.A (do bindName X.env n .none; unbindBehindTheSuite X.env n pos') (fun _ s7 => Q s7) X.xe s6 := fun S6 hq => gone_ok (back S6) hN hi hln hq
      cases f with
      | next =>
        obtain ⟨σ6, H6, S6, q6⟩ := hsp
        exact over S6 fun s7 J7 => ⟨_, _, J7, q6⟩
      | brk =>
        obtain ⟨σ6, H6, S6, q6⟩ := hsp
        exact over S6 fun s7 J7 => ⟨_, _, J7, q6⟩
      | cont =>
        obtain ⟨σ6, H6, S6, q6⟩ := hsp
        exact over S6 fun s7 J7 => ⟨_, _, J7, q6⟩
      | ret v =>
        obtain ⟨v6, σ6, H6, S6, r6, q6⟩ := hsp
        exact over S6 fun s7 J7 => ⟨_, _, _, J7, r6, q6⟩
end
/-! e.f of a tracked exception -/
def tXk (K : PySem.W.Frag) (f : Str) (te : TE) : TE := fun σ H Q => te σ H fun x H1 => ∃ (a C dd : Addr) (fs : List (Str × V)) (v : V), x = .ref a ∧ H1 a = some (exk a (.ref C) (some dd)) ∧ XfC K C ∧ PySem.W.findIn K (.ref C) f = some none ∧ H1 dd = some (.xd fs) ∧ fs.lookup f = some v ∧ Q v H1
theorem pe_xk {X : Cx} {e : Expr} {te : TE} {pos : Pos} {n : Str} (he : PE X e te) (hb : attributeBase e n X.env (eval e X.env) = eval e X.env := by rfl) : PE X (.Attribute e n pos) (tXk X.K n te) := by
  refine ⟨fun pins s σ H Q I want => attr_of hb (thn (he.run pins s σ H _ I want) fun u s1 got => ?_)⟩
  obtain ⟨x, H1, I1, rx, a, C, dd, fs, v, rfl, hk, T, hno, hdd, hl, q⟩ := got
  obtain rfl : u = Value.ref a := rx
  obtain ⟨oe, vs, h1, hz, hd⟩ := exk_at I1.hok hk
  have hx : ObjOk X.prog X.w H1 s1.heap dd (.xd fs) := I1.hok dd _ hdd
  obtain ⟨mA, hns, hr⟩ := hx
  obtain ⟨od, ho, hl2⟩ := lookIn_ns hns
  obtain ⟨u2, hu, ru⟩ := RelO.some_of (v := v) (o := mA n) (by rw [← hl]; exact hr n)
  have J : PySem.W.InstAt s1.heap a oe C (some od) := by
    refine ⟨h1, hz.1, ?_, ?_⟩
    · unfold PySem.W.notCls
      rw [hd] <;> rfl
    · rw [hz.2]
      exact ho
  exact HandSPX.exc_get I1.kIn J T.ga T.gg T.exC (PySem.W.findObj_own T.hdC hno rfl (by rw [hl2, hu])) (handed_of ru) ⟨v, H1, I1.tok _, ru, q⟩
/-! Base.__init__(self, ..), Base an own class over ValueError with no __init__ of its own -/
structure BaseI (K : PySem.W.Frag) (CB : Addr) : Prop where
  kp : PySem.W.keepIn K (.ref CB) = true
  ga : PySem.W.specialIn K (.ref CB) "__getattribute__" = some (some (.builtin "type.__getattribute__"))
  rd : PySem.W.readsIn K CB (.type "type") = true
  at_ : PySem.W.findCls K (.ref CB) (.type "type") "__init__" = some (.val (.builtin "ValueError.__init__"))
theorem pe_binit {X : Cx} {x : Str} {CB : Addr} {e : Expr} {es : List Expr} {ta : TA} {p1 p2 pos : Pos} {pl : Sem Bool} (hg : Gl X x) (hm : X.mg x = some (.ref CB)) (T : BaseI X.K CB) (ha : PA X (e :: es) ta)
    (hc : eval (.Call (.Attribute (.Name x p1) "__init__" p2) (e :: es) [] pos) X.env = (do
      let ov ← eval (.Name x p1) X.env
      standAt p2.atName
      let (f, first) ← holding [ov] (getMethod ov "__init__" pl)
      callWith pos f first (backTo pos (starEach (e :: es) X.env)) (backToKw pos (keywordEach [] X.env))) := by rfl)
    (hdb : (x == ("__debug__" : Str)) = false := by decide)
    (he : starEach (e :: es) X.env = (false, eval e X.env) :: starEach es X.env := by rfl) (hpl : (backTo pos (starEach es X.env)).any (·.1) = false := by rfl) :
    PE X (.Call (.Attribute (.Name x p1) "__init__" p2) (e :: es) [] pos) (tVeI X.K ta) := by
  refine ⟨fun pins s σ H Q I want => ?_⟩
  refine PySem.W.methodCall_KW (ld_glob I hg hm ?_ hdb) hc
  refine PySem.W.method_cls I.kIn T.ga (PySem.W.cls_value I.kIn T.rd T.at_ (by decide +kernel) ?_)
  show wpAny _ _ (callWith pos (Value.builtin "ValueError.__init__") [] (backTo pos (starEach (e :: es) X.env)) []) _ _ _
  refine PyProof.Rows.callWith_method1 (thn (ha.run pos pins _ σ H _ (I.tok _) want) fun us s1 ⟨vs, H1, I1, r1, a, C, ws, ev, hl, O, ea, q⟩ => ?_) he hpl
  subst ev
  cases r1 with
  | @cons _ u0 _ ur ra rest =>
    obtain rfl : u0 = Value.ref a := ra
    have few : ur.length ≤ sizeLine := by
      rw [← Paired.length rest, sizeLine_eq]
      omega
    exact oinit_ok O I1 ea few fun s2 J => ⟨.non, H1, J, rfl, q⟩
end U

/-! functions handed on: promises that speak of the cells which a handed function captured -/
namespace U
open PySem PySem.Spec PyProof.Rows L2 LamX NdefX
section
variable {P : Program} {w : World} {K : PySem.W.Frag} {mg : Str → Option Value} {base : Heap} {CX : CXT}
end
section
variable {X : Cx} {pins : List (Addr × Obj)} {σ : L2.St} {H : Hp} {s : Shared} {cl : List (Str × Addr)} {fr : List Str} {ws : List (Option V)} {js : List Nat}
end
end U

/-! enumerate(tuple) -/
namespace U
open PySem PySem.Spec PyProof.Rows L2
theorem meets_enumT (t : Addr) (items : Array Value) :
    Meets (Builtin.«enumerate.__new__» ⟨[.type "enumerate", .ref t], []⟩) (fun _ R s => s.heap.IsTuple t items ∧
      R (.ok (.ret (.ref (s.heap.push { cls := .type "tuple_iterator", data := .fields #[.ref t, .int 0 0] }).objs.size)))
        { s with heap := (s.heap.push { cls := .type "tuple_iterator", data := .fields #[.ref t, .int 0 0] }).push { cls := .type "enumerate", data := .fields #[.none, .bool false, .ref s.heap.objs.size, rawInt 0, .none, .none] } }) :=
  .of_wp fun prog w A R s want => by
    obtain ⟨hp, g, d, tk, os⟩ := s
    obtain ⟨ht, want⟩ := want
    have known := sub_enumerate
    have walkT : ∀ {A' : Around} {E Q : Value → Shared → Prop}, Q (.ref hp.objs.size) ⟨hp.push { cls := .type "tuple_iterator", data := .fields #[.ref t, .int 0 0] }, g, d, tk, os⟩ → wpAny (model prog w) A' (pyIter (.ref t)) Q E ⟨hp, g, d, tk, os⟩ :=
      fun q => wpAny_pyIter_tuple (s := ⟨hp, g, d, tk, os⟩) ht q
    obtain ⟨o, ho, hc, n, hd⟩ := id ht
    wp_walk using wpAny_loadPart' ho, walkT
    refine wpAny_stack_any fun st => wpAny_pure ?_
    split
    · rename_i c _ _ _ _ _
      cases (c == Value.type "enumerate")
      · wp_walk using wpAny_loadPart' ho, walkT
        exact ⟨_, rfl, want⟩
      · wp_walk using wpAny_loadPart' ho, walkT
        exact ⟨_, rfl, want⟩
    · wp_walk using wpAny_loadPart' ho, walkT
      exact ⟨_, rfl, want⟩
theorem call_enumT {prog : Program} {w : World} {A : Around} {E Q : Value → Shared → Prop} {s : Shared} {t : Addr} {items : Array Value} (ht : s.heap.IsTuple t items)
    (h : ∀ h', IsEnum h' (s.heap.objs.size + 1) s.heap.objs.size 0 .none → h'.IsTupleIter s.heap.objs.size t 0 → (∀ b o, s.heap.get? b = some o → h'.get? b = some o) → Q (.ref (s.heap.objs.size + 1)) { s with heap := h' }) :
    wpAny (model prog w) A (call (.type "enumerate") [.ref t]) Q E s := by
  refine callType_new F.called_enumerate (by decide) (F.typeCall_enumerate_1 _) (F.newCall_enumerate_1 _) (fun obj => F.args_object_init_2 obj _) F.entry_enumerate_new (meets_enumT t items) ⟨ht, ?_⟩
  have sz : (s.heap.push { cls := .type "tuple_iterator", data := .fields #[.ref t, .int 0 0] }).objs.size = s.heap.objs.size + 1 := Heap.size_push ..
  show _ ∧ _
  rw [sz]
  have made : IsEnum ((s.heap.push { cls := .type "tuple_iterator", data := .fields #[.ref t, .int 0 0] }).push
      { cls := .type "enumerate", data := .fields #[.none, .bool false, .ref s.heap.objs.size, rawInt 0, .none, .none] }) (s.heap.objs.size + 1) s.heap.objs.size 0 .none := by
    have z := Heap.get?_push_size (s.heap.push { cls := .type "tuple_iterator", data := .fields #[.ref t, .int 0 0] })
      (o := { cls := .type "enumerate", data := .fields #[.none, .bool false, .ref s.heap.objs.size, rawInt 0, .none, .none] }) rfl
    rw [sz] at z
    exact z
  exact ⟨⟨_, made, rfl⟩, h _ made ⟨_, Heap.get?_push_of_some _ (Heap.get?_push_size _ rfl), rfl, rfl⟩ fun b o x => Heap.get?_push_of_some _ (Heap.get?_push_of_some _ x)⟩
/-- the tuple at a, each item in a new pair -/
def Iet (K : PySem.W.Frag) (a : Addr) : It :=
  ⟨fun i H => ∃ (xs : List V) (x : V), SqT K H a xs ∧ xs[i]? = some x, fun i H v H' => ∃ T x, v = .ref T ∧ H T = none ∧ H' = upd H T (.tup [.int (i : Nat), x]) ∧ ∀ xs, SqT K H a xs → xs[i]? = some x, fun i H => ∃ xs : List V, SqT K H a xs ∧ xs.length = i⟩
theorem off_iter {h : Heap} {a it : Addr} {items : Array Value} {i : Nat} (ht : h.IsTuple a items) (hi : h.IsTupleIter it a i) : a ≠ it := by
  rintro rfl
  obtain ⟨o, ho, hc, _⟩ := ht
  obtain ⟨o2, ho2, hc2, _⟩ := hi
  rw [ho] at ho2
  cases ho2
  rw [hc] at hc2
  simp at hc2
theorem off_enum {h : Heap} {a e it : Addr} {items : Array Value} {c : Int} {old : Value} (ht : h.IsTuple a items) (he : IsEnum h e it c old) : e ≠ a := by
  rintro rfl
  obtain ⟨o, ho, hc, _⟩ := ht
  have he' : h.get? e = some _ := he
  rw [ho] at he'
  cases he'
  simp at hc
theorem turn_enumT {P : Program} {w : World} {K : PySem.W.Frag} {elts : List Expr} {kk : Nat} {tpos : Pos} (a e it : Addr) :
    Turn P w K (.Tuple elts kk tpos) (Iet K a) [e, it] e (fun i h => (∃ old, IsEnum h e it ((i : Nat) : Int) old) ∧ h.IsTupleIter it a i ∧ e ≠ it) where
  mem := by simp
  obj := fun i h st b hb => by
    obtain ⟨⟨old, he⟩, ⟨o, ho, hc, hd⟩, _⟩ := st
    rcases (by simpa using hb : b = e ∨ b = it) with z | z
    · subst z
      exact ⟨_, he, fun v q => nomatch q⟩
    · subst z
      exact ⟨o, ho, fun v q => by rw [hd] at q; cases q⟩
  keep := fun i h h' st k => by
    obtain ⟨⟨old, he⟩, hi, hne⟩ := st
    exact ⟨⟨old, k e (by simp) _ he⟩, hi.at fun o q => k it (by simp) o q, hne⟩
  item := by
    intro X hP hw hK hc i pins s σ H E I hf st hg
    subst hP hw hK
    obtain ⟨⟨old, he⟩, hit, hne⟩ := st
    obtain ⟨xs, x, hq, hx⟩ := hg
    obtain ⟨its, rv, p, hz⟩ := I.tuple hq
    obtain ⟨u, hu, ru⟩ := rv.get hx
    have ht : s.heap.IsTuple a its.toArray := p
    have lte : e < s.heap.objs.size := Heap.lt_size he
    have lti : it < s.heap.objs.size := by
      obtain ⟨_, q, _⟩ := hit
      exact Heap.lt_size q
    have hlt : i < its.toArray.size := by
      rw [List.size_toArray]
      exact (List.getElem?_eq_some_iff.mp hu).1
    have nea := off_enum ht he
    refine wpAny_pyNext_enum_itemD (Draws.tuple (A := X.A.in1) (I.ok.hd hc) it a (off_iter ht hit) its.toArray) he ⟨hit, ht⟩ hlt hne (by simp [hne, nea]) fun y h' tk hy ho st2 hT _ hk => ?_
    have hyu : y = u := by
      have hy' : its.toArray[i]? = some y := hy
      rw [List.getElem?_toArray, hu] at hy'
      exact (Option.some.inj hy').symm
    subst hyu
    refine ⟨_, rfl, wpAny_letOwnedTupleGo_enum (s := { s with heap := h', toks := tk + 1 }) ho fun h'' he' sb => ?_⟩
    have hT2 : h''.get? s.heap.objs.size = some { cls := .type "tuple", data := .seq #[.int i tk, y] } := (sb.2 _ (Nat.ne_of_gt lte)).trans hT
    have new : ObjOk X.prog X.w (upd H s.heap.objs.size (.tup [.int (i : Nat), x])) h'' s.heap.objs.size (.tup [.int (i : Nat), x]) :=
      ⟨by show 2 ≤ sizeLine; decide, [.int i tk, y], .cons ⟨_, rfl⟩ (.cons ru .nil), ⟨_, hT2, rfl, _, rfl⟩⟩
    have I1 : Inv X pins σ (upd H s.heap.objs.size (.tup [.int (i : Nat), x])) { s with heap := h'', toks := tk + 1 } :=
      I.turnedNew (ch := [e, it]) (fun b ob hb q => (sb.2 b (fun z => hb (by simp [z]))).trans (hk b ob (fun z => hb (by simp [z])) (fun z => hb (by simp [z])) q)) hf (Nat.le_refl _) new
    refine ⟨.ref s.heap.objs.size, _, I1, rfl, ⟨_, x, rfl, I.hok.fresh (Nat.le_refl _), rfl, fun ys hy => by rw [I.tuple_inj hy hq]; exact hx⟩, ⟨⟨y, ?_⟩, st2.1.at fun o q => (sb.2 it (Ne.symm hne)).trans q, hne⟩, fun b hb => ?_⟩
    · have e1 : ((i + 1 : Nat) : Int) = (i : Int) + 1 := by omega
      rw [e1]
      exact he'
    · have lb : b < s.heap.objs.size := by
        rcases (by simpa using hb : b = e ∨ b = it) with z | z
        · rw [z]; exact lte
        · rw [z]; exact lti
      rw [upd_ne (Nat.ne_of_lt lb)]
      exact (hf b hb).1
  done := by
    intro X hP hw hK hc i pins s σ H E I hf st hg
    subst hP hw hK
    obtain ⟨⟨old, he⟩, hit, hne⟩ := st
    obtain ⟨xs, hq, hx⟩ := hg
    obtain ⟨its, rv, p, hz⟩ := I.tuple hq
    have ht : s.heap.IsTuple a its.toArray := p
    obtain ⟨f0, f1, f2, f3, f4, f5⟩ := hf it (by simp)
    have hl := rv.length
    have hn : i = its.toArray.size := by
      rw [List.size_toArray, ← hl, hx]
    subst hn
    exact wpAny_pyNext_enum_endD (Draws.tuple (A := X.A.in1) (I.ok.hd hc) it a (off_iter ht hit) its.toArray) he ⟨hit, ht⟩ fun h' eb => ⟨rfl, I.turned (t' := s.toks) (fun b o hb q => eb b o hb q) f0 f1 f3 f4 f5⟩
  self := fun A i s Q E st h => by
    obtain ⟨⟨_, he⟩, _⟩ := st
    exact wpAny_pyIter_enum he h
def iEnumT (K : PySem.W.Frag) (ta : TA) : TI := fun σ H R => ta σ H fun vs H1 => ∃ a xs, vs = [.ref a] ∧ SqT K H1 a xs ∧ R (Iet K a) H1
theorem ki_enumT {X : Cx} (K : PySem.W.Frag) (hK : X.K = K) {e : Expr} {ta : TA} {p pos tpos : Pos} {elts : List Expr} {kk : Nat} (hg : Gl X "enumerate") (hm : X.mg "enumerate" = none) (ha : PA X [e] ta) (hs : starEach [e] X.env = [(false, eval e X.env)] := by rfl) :
    PI X (.Tuple elts kk tpos) (.Call (.Name "enumerate" p) [e] [] pos) (iEnumT K ta) := by
  subst hK
  refine ⟨fun pins s σ H R I want => ?_⟩
  refine Call_ (ld_blt I hg hm boot_enumerate (PyProof.Rows.callWith_type1 (thn (ha.run pos pins s σ H _ I want) fun us s1 ⟨vs, H1, I1, r1, q1⟩ => ?_) hs rfl))
  obtain ⟨a, xs, rfl, hq, q⟩ := q1
  cases r1 with
  | cons r rr =>
    cases rr
    cases r
    obtain ⟨its, rv, p', hz⟩ := I1.tuple hq
    refine call_enumT (show s1.heap.IsTuple a its.toArray from p') fun h' he hit hk => wpAny_pyIter_enum he ?_
    have I2 : Inv X pins σ H1 { s1 with heap := h' } := I1.kept (t' := s1.toks) hk
    refine ⟨s1.heap.objs.size + 1, [s1.heap.objs.size + 1, s1.heap.objs.size], _, _, H1, rfl, I2, turn_enumT a (s1.heap.objs.size + 1) s1.heap.objs.size, ⟨⟨.none, he⟩, hit, Nat.succ_ne_self _⟩, fun b hb => ?_, q⟩
    have up : s1.heap.objs.size ≤ b := by
      rcases (by simpa using hb : b = s1.heap.objs.size + 1 ∨ b = s1.heap.objs.size) with z | z
      · rw [z]; exact Nat.le_add_right _ _
      · rw [z]; exact Nat.le_refl _
    exact I1.fpOk up (I1.hok.fresh up)
theorem walk_enumT {K : PySem.W.Frag} {a : Addr} {xs : List V} : Walk (Iet K a) xs.length (fun H => SqT K H a xs) (YPair (fun i => some (.int (i : Nat))) (fun i => xs[i]?)) := by
  refine ⟨fun i _ hi q => ⟨xs, xs[i], q, by simp [hi]⟩, fun _ q => ⟨xs, q, rfl⟩, fun i H v H' _ q y => ?_⟩
  obtain ⟨T, x, h1, h2, h3, h4⟩ := y
  exact ⟨T, .int (i : Nat), x, h1, h2, h3, rfl, h4 xs q⟩
end U

/-! own exceptions with one field: made, raised, kept, read -/
namespace U
open PySem PySem.Spec PyProof.Rows L2
/-- __init__(self, v): the field f is v -/
def spInit1 (C : Addr) (f : Str) : Sp := fun vs H Q _ => ∃ (a : Addr) (v : V), vs = [.ref a, v] ∧ H a = some (exo a C none) ∧
  ∀ dx, H dx = none → dx ≠ a → Q .non (upd (upd H dx (exd dx [(f, v)])) a (exo a C (some dx)))
theorem rd_mk1 {C : Addr} {f : Str} {v : V} {H : Hp} {Q : XK} (h : ∀ (dd : Addr) (H' : Hp), Same H H' → H dd = none → H' dd = some (.xd [(f, v)]) → Q (.ref C) (some dd) H') :
    [v].length ≤ 1000 ∧ ∀ a, H a = none → spInit1 C f (.ref a :: ([v] ++ [])) (upd H a (exo a C none)) (fun w H2 => w = .non ∧ ∃ (d : Addr) (fs : List (Str × V)), H2 a = some (exo a C (some d)) ∧ H2 d = some (exd d fs) ∧ H d = none ∧ Q (.ref C) (some d) (upd (del H2 a) d (.xd fs))) (fun _ _ _ => False) := by
  refine ⟨(by show 1 ≤ 1000; decide), fun a na => ⟨a, v, rfl, upd_same, fun dx ndx nda => ⟨rfl, dx, [(f, v)], upd_same, ?_, ?_, ?_⟩⟩⟩
  · rw [upd_ne nda, upd_same]
  · rw [upd_ne nda] at ndx
    exact ndx
  · have nd0 : H dx = none := by
      rw [upd_ne nda] at ndx
      exact ndx
    refine h dx _ (fun b o e => ?_) nd0 upd_same
    have n1 : b ≠ dx := ne_of_none e nd0
    have n2 : b ≠ a := ne_of_none e na
    rw [upd_ne n1, del_ne n2, upd_ne n2, upd_ne n1, upd_ne n2]
    exact e
section
variable {σ : L2.St} {H : Hp} {Q : VK} {D : Ends} {K : PySem.W.Frag} {te : TE} {ta : TA}
theorem rd_vei {v : V} (h : ta σ H fun vs H1 => ∃ (a C : Addr) (ws : List V), vs = .ref a :: ws ∧ ws.length ≤ 1000 ∧ OexC K C ∧ H1 a = some (exo a C none) ∧ Q .non H1) : tVeI K ta σ H Q := h
theorem rd_ost {f : Str} {to : TE} (h : te σ H fun y H1 => to σ H1 fun x H2 => ∃ a C : Addr, x = .ref a ∧ OexC K C ∧ PySem.W.findIn K (.ref C) f = some none ∧
  ((H2 a = some (exo a C none) ∧ ∀ dx, H2 dx = none → dx ≠ a → D.nx σ (upd (upd H2 dx (exd dx [(f, y)])) a (exo a C (some dx)))) ∨
    ∃ (dx : Addr) (fs : List (Str × V)), H2 a = some (exo a C (some dx)) ∧ H2 dx = some (exd dx fs) ∧ fs.length ≤ 900 ∧ D.nx σ (upd H2 dx (exd dx ((f, y) :: fs))))) : tOst K f to te D σ H := h
end
/-! the class's facts, gathered -/
structure OwnX (K : PySem.W.Frag) (mg : Str → Option Value) (x : Str) (f : Str) (C CB fI : Addr) : Prop where
  gC : mg x = some (.ref C)
  ox : OexC K C
  no : PySem.W.findIn K (.ref C) f = some none
  iC : PySem.W.findIn K (.ref C) "__init__" = some (some (.ref fI))
  tI : PySem.W.typeIn K (.ref fI) = some (.type "function")
  xf : XfC K C
  gB : mg "InputError" = some (.ref CB)
  bi : BaseI K CB
  ex : PySem.W.exmOne K (.ref C) (.ref C) = some true
  eb : PySem.W.exmOne K (.ref C) (.ref CB) = some true
end U

/-! lifts: the plain laws -/
namespace U
open PySem PySem.Spec PyProof.Rows L2
/-- the dict of numbers over ns, in that order -/
abbrev kvF (ns : List Str) (f : Str → Int) : List (Key × V) := ns.map fun n => (Sum.inr n, V.int (f n))
theorem kvs_F {ord : List Str} {ws : List (Str × Int)} (h : StOk ord ws) (nd : ord.Nodup) : kvsOf ws = kvF ord (numOf ws) := by
  obtain ⟨hk, _⟩ := h
  subst hk
  rw [kvF, List.map_map]
  refine List.map_congr_left fun p hp => ?_
  show ((Sum.inr p.1 : Key), V.int p.2) = (Sum.inr p.1, V.int (numOf ws p.1))
  have : (p.1, numOf ws p.1) ∈ ws := num_mem (List.mem_map_of_mem hp)
  congr 2
  -- one number a name
  have uniq : ∀ {ws : List (Str × Int)}, (ws.map (·.1)).Nodup → ∀ {x : Str} {a b : Int}, (x, a) ∈ ws → (x, b) ∈ ws → a = b := by
    intro ws
    induction ws with
    | nil => intro _ _ _ _ h; cases h
    | cons q ws ih =>
      intro nd x a b ha hb
      rw [List.map_cons, List.nodup_cons] at nd
      rcases List.mem_cons.mp ha with ea | ha <;> rcases List.mem_cons.mp hb with eb | hb
      · rw [← ea] at eb
        exact (Prod.mk.inj eb).2.symm
      · exact absurd (List.mem_map_of_mem (f := (·.1)) hb) (by rw [← ea] at nd; exact nd.1)
      · exact absurd (List.mem_map_of_mem (f := (·.1)) ha) (by rw [← eb] at nd; exact nd.1)
      · exact ih nd.2 ha hb
  exact uniq nd hp this

/-! ### neighbours, moves -/
def nbrF (es : List (Str × Str)) (x : Str) : List Str := es.flatMap fun e => (if e.1 = x then [e.2] else []) ++ (if e.2 = x then [e.1] else [])
theorem mem_nbrF {es : List (Str × Str)} {x z : Str} : z ∈ nbrF es x ↔ (x, z) ∈ es ∨ (z, x) ∈ es := by
  unfold nbrF
  rw [List.mem_flatMap]
  constructor
  · rintro ⟨e, he, h⟩
    rcases List.mem_append.mp h with h | h
    · split at h
      · rename_i c
        have : z = e.2 := by simpa using h
        subst this
        subst c
        exact .inl he
      · cases h
    · split at h
      · rename_i c
        have : z = e.1 := by simpa using h
        subst this
        subst c
        exact .inr he
      · cases h
  · rintro (h | h)
    · exact ⟨_, h, by simp⟩
    · exact ⟨_, h, by simp⟩
/-! ### counting -/
def slp (f : Str → Int) (a b : Str) : Int := if (f b - f a) % 3 = 1 then 1 else -1
/-! ### fitting -/
end U

/-! medians, distances -/
namespace U
open PySem PySem.Spec PyProof.Rows L2
/-! ### distances -/
def ab (x y : Int) : Int := ((x - y).natAbs : Int)
end U

/-! dicts of references, double comprehensions, defaults, repr -/
namespace U
open PySem PySem.Spec PyProof.Rows L2
abbrev kvG (ns : List Str) (F : Str → V) : List (Key × V) := ns.map fun n => (Sum.inr n, F n)
def updV {α : Type} (f : Str → α) (n : Str) (v : α) : Str → α := fun m => if m = n then v else f m
theorem kvG_val : ∀ {ns : List Str} {F : Str → V} {n : Str}, n ∈ ns → valV (kvG ns F) (.inr n) = some (F n)
  | m :: ns, F, n, h => by
    by_cases e : n = m
    · subst e
      rw [kvG, List.map_cons, valV_pos rfl]
    · have e' : ¬ (Sum.inr m : Key) = Sum.inr n := fun z => e (Sum.inr.inj z).symm
      rw [kvG, List.map_cons, valV_neg e']
      refine kvG_val ?_
      rcases List.mem_cons.mp h with z | z
      · exact absurd z e
      · exact z
theorem kvG_none : ∀ {ns : List Str} {F : Str → V} {n : Str}, n ∉ ns → valV (kvG ns F) (.inr n) = none
  | [], _, _, _ => rfl
  | m :: ns, F, n, h => by
    have e' : ¬ (Sum.inr m : Key) = Sum.inr n := fun z => h (by rw [← Sum.inr.inj z]; exact List.mem_cons_self)
    rw [kvG, List.map_cons, valV_neg e']
    exact kvG_none fun z => h (List.mem_cons_of_mem _ z)
theorem kvG_new {ns : List Str} {F : Str → V} {n : Str} {v : V} (h : n ∉ ns) : putK (kvG ns F) (.inr n) v = kvG (ns ++ [n]) (updV F n v) := by
  rw [putK_new _ (kvG_none h), kvG, kvG, List.map_append]
  congr 1
  · refine List.map_congr_left fun m hm => ?_
    unfold updV
    rw [if_neg (fun e => h (by rw [← e]; exact hm))]
  · show [((Sum.inr n : Key), v)] = [(Sum.inr n, updV F n v n)]
    unfold updV
    rw [if_pos rfl]
theorem kvG_at {ns : List Str} {F : Str → V} {i : Nat} {x y : V} (hx : ((kvG ns F)[i]?.map fun kv => kV kv.1) = some x) (hy : (kvG ns F)[i]?.map Prod.snd = some y) : ∃ hi : i < ns.length, x = .str ns[i] ∧ y = F ns[i] := by
  rw [kvG, List.getElem?_map] at hx hy
  by_cases hi : i < ns.length
  · rw [List.getElem?_eq_getElem hi] at hx hy
    exact ⟨hi, (Option.some.inj hx).symm, (Option.some.inj hy).symm⟩
  · rw [List.getElem?_eq_none (by omega)] at hx
    cases hx
/-! f(e, ..) where defaults fill the rest -/
def tCD (sp : Sp) (dvs : List V) (E : XK) (t : TA) : TE := fun σ H Q => t σ H fun vs H1 => sp (vs ++ dvs) H1 Q E
/-! two fors in a comprehension -/
def In1 (J1 : It) (g1 : TG) (tt1 : TT) (te : TE) (vs1 : List Nat) (σ2 : L2.St) (D : Addr) (H4 : Hp) (R : Hp → Prop) : Prop := ∃ W1 : Nat → Nat → Hp → Prop, (∃ m, W1 0 m H4) ∧ ∀ j k H, W1 j k H →
  (J1.stop j H ∧ R H) ∨ (J1.go j H ∧ ∃ Nx1 : Hp → Prop, (∀ H', Nx1 H' → ∃ k', k' < k ∧ W1 (j + 1) k' H') ∧ ∀ x H', J1.yld j H x H' → g1 x (wipe σ2 vs1) H' fun σ3 H5 => wipe σ3 vs1 = wipe σ2 vs1 ∧ tt1 σ3 H5 fun b H6 =>
    if b = true then te σ3 H6 fun y H7 => ∃ acc, H7 D = some (.lst acc) ∧ acc.length < sizeLine ∧ Nx1 (upd H7 D (.lst (acc ++ [y]))) else Nx1 H6)
def Lc2B (J : It) (g : TG) (tt : TT) (wi1 : TI) (g1 : TG) (tt1 : TT) (te : TE) (vs vs1 : List Nat) (σ : L2.St) (H1 : Hp) (D : Addr) (Qd : Hp → Prop) : Prop := ∃ W : Nat → Nat → Hp → Prop, (∃ m, W 0 m (upd H1 D (.lst []))) ∧ ∀ i m H, W i m H →
  (J.stop i H ∧ Qd H) ∨ (J.go i H ∧ ∃ Nx : Hp → Prop, (∀ H', Nx H' → ∃ m', m' < m ∧ W (i + 1) m' H') ∧ ∀ x H', J.yld i H x H' → g x (wipe σ vs) H' fun σ2 H2 => wipe σ2 vs = wipe σ vs ∧ tt σ2 H2 fun b H3 =>
    if b = true then wi1 σ2 H3 fun J1 H4 => In1 J1 g1 tt1 te vs1 σ2 D H4 Nx else Nx H3)
section
variable {σ : L2.St} {H : Hp} {Q : VK} {te : TE} {g g1 : TG} {wi wi1 : TI} {tt tt1 : TT} {vs vs1 : List Nat} {L : Addr} {Qd R : Hp → Prop} {J J1 : It} {n : Nat} {G : Hp → Prop} {Y : Nat → Hp → V → Hp → Prop} {K : PySem.W.Frag}
theorem rd_lc2 (h : wi σ H fun J H1 => ∀ D, H1 D = none → Lc2B J g tt wi1 g1 tt1 te vs vs1 σ H1 D fun H2 => Q (.ref D) H2) : tLc2 wi g tt wi1 g1 tt1 te vs vs1 σ H Q := h
theorem rd_cd {sp : Sp} {dvs : List V} {E : XK} {t : TA} (h : t σ H fun vs H1 => sp (vs ++ dvs) H1 Q E) : tCD sp dvs E t σ H Q := h
end
/-! repr -/
section
variable {X : Cx} {pins : List (Addr × Obj)} {σ : L2.St} {H : Hp} {s : Shared}
def encK : Key → PyData
  | .inl i => .int i
  | .inr x => .str x
theorem kv_pairs {h : Heap} {f : Str → Int} : ∀ {ns : List Str} {vs : List (Key × Value)}, KV (kvF ns f) vs → PyProof.V.PairsRead h encK vs (ns.map fun n => (.str n, .int (f n))) []
  | [], vs, r => by
    cases r
    exact .nil
  | n :: ns, vs, r => by
    cases r with
    | @cons p q ps qs hpq t =>
      obtain ⟨h1, h2⟩ := hpq
      obtain ⟨k, v⟩ := q
      have h1' : (Sum.inr n : Key) = k := h1
      subst h1'
      obtain ⟨tk, rfl⟩ : ∃ t, v = Value.int (f n) t := h2
      exact .cons (k := .inr n) (as := []) (bs := []) (Reads.int _ _) (kv_pairs t)
theorem key_reads {h : Heap} {P : Program} {w : World} : ∀ (k : Key) (key : Value), (mixKind P w).is k key = true → Reads h key (encK k) [] := by
  intro k key hk
  rcases keyIs_shape hk with ⟨i, t, rfl, rfl⟩ | ⟨x, t, rfl, rfl⟩
  · exact Reads.int _ _
  · exact Reads.str _ _
end
end U
namespace U
open PySem PySem.Spec PyProof.Rows L2
/-! name = {k: v for ..}, the name a local -/
abbrev InBlk (X : Cx) (scope : Scope) (Φ : Cx → Prop) : Prop :=
  ∀ (s : Shared) (H : Hp) (C : Addr) (cl : List (Str × Addr)) (fp : List Addr), Φ (X.blk s H scope (compEnvC scope cl C X.env) fp)
section
variable {X : Cx}
theorem sw_dict {kx vx : Expr} {gs : List Comprehension} {scope : Scope} {pos py : Pos} {y : Str} {l : Nat} {env : Env}
    (hk : env.scope.kind = .function) (hy : env.scope.names.lookup y = some .local) (hl : (py.line == pos.line) = true)
    (ha : (scope.names.any fun (n, k) => n == y && (k == .local || k == .cell)) = false) :
    swapsWith (.DictComp kx vx gs scope pos) (some (.Name y py)) l env = pure true := by
  have q1 : env.kindOf y = some .local := hy
  have q2 : env.blockKind = .function := by
    unfold Env.blockKind
    rw [hk]
    rfl
  unfold swapsWith
  simp only [q1, q2, ha, hl, Expr.pos]
  rfl
theorem ps_setDc {i : Nat} {y : Str} {py : Pos} {kx vx tg iter : Expr} {ifs : List Expr} {scope : Scope} {own : List (Str × Nat)} {pos spos : Pos} {wi : TI} {g : TG} {tt : TT} {tk tv : TE}
    (hc : X.calm = true) (hN : X.N.Nodup) (hy : X.N[i]? = some y) (hyl : X.env.scope.names.lookup y = some .local)
    (hsw : swapsWith (.DictComp kx vx [⟨tg, iter, ifs, 0⟩] scope pos) (some (.Name y py)) spos.line X.env = pure true) (hi : PI X tg iter wi) (ok : BlkOk X.N X.env.scope scope own)
    (hg : InBlk X scope fun Y => PG Y tg g) (ht : InBlk X scope fun Y => PTs Y ifs tt) (hk : InBlk X scope fun Y => PE Y kx tk) (he : InBlk X scope fun Y => PE Y vx tv)
    (hs : ∀ x, foldedSetIterable iter X.env x = pure x := by intro _; rfl) :
    PS X (.Assign [.Name y py] (.DictComp kx vx [⟨tg, iter, ifs, 0⟩] scope pos) spos) (tAsg (tDc wi g tt tk tv (own.map (·.2))) (gName i)) := by
  refine ⟨fun pins s σ H D I want => ?_⟩
  rw [exec_Assign_Name_used _ _ _ _ hsw]
  refine wpAny_bind (wpAny_standAt (wpAny_bind ?_))
  have want : tDc wi g tt tk tv (own.map (·.2)) σ H fun x H1 => gName i x σ H1 D.nx := want
  show wpAny _ X.A (do
    let _ ← comprehension (.DictComp kx vx [⟨tg, iter, ifs, 0⟩] scope pos) scope X.env (firstIterPos [⟨tg, iter, ifs, 0⟩] pos) newDict false (eval iter X.env) (some (assign (.Name y py) X.env))) _ _ s
  refine wpAny_bind (thn (dc_core (Qf := fun _ s' => SP X pins D .next s') hc hN I hi ok hg ht hk he hs want fun L C s' m H' J q hn fpo => ?_) fun _ s' done => wpAny_pure (wpAny_pure done))
  show wpAny _ _ (assign (.Name y py) X.env (.ref L)) _ _ _
  refine wpAny_assign_Name (store_ok2 (v := V.ref L) J hN hy (.inl hyl) rfl (fun s2 J2 ⟨a, sb, ha⟩ => ?_) (.inr hyl))
  obtain ⟨p0, p1, p2, p3, p4, p5⟩ := fpo
  have apart : C ≠ a := by
    cases ha with
    | inl z => rw [z]; exact p1
    | inr z => exact fun e => p4 y a z e.symm
  refine ⟨m, hn.sameBut sb apart, fun h3 sb3 => ⟨_, H', J2.turned (t' := s2.toks) (fun b o hb e => (sb3.2 b hb).trans e) p0 p1 p3 p4 p5, q⟩⟩
end
end U

/-! calls with keywords and defaults of a def that may raise -/
namespace U
open PySem PySem.Spec PyProof.Rows L2
/-- an own error with one field, its __init__ done -/
structure ErrX (P : Program) (w : World) (K : PySem.W.Frag) (mg : Str → Option Value) (base : Heap) (x f : Str) (C CB : Addr) : Prop where
  ex : ∃ (fI : Addr) (fd : FuncData), OwnX K mg x f C CB fI ∧ FnOk P w K mg base CX0 1 fI fd ["self", f] (spInit1 C f) ∧ Binds K fd ["self", f] []
/-- raise X(e): reading rd_rz, e's, rd_mk1 -/
def tRz (C : Addr) (f : Str) (te : TE) (W : WX) : TS := fun _ σ H => tMkO C (spInit1 C f) [] (tCons te tNil) σ H fun cls d H' => W cls d σ H'
theorem ps_rz {X : Cx} {W : WX} {j : Nat} {x f : Str} {C CB : Addr} {e : Expr} {te : TE} {p p2 pos : Pos} (T : ErrX X.prog X.w X.K X.mg X.base x f C CB) (hr : Rm j X.A) (hk : 2 ≤ j) (hc : X.calm = true) (tk : Takes X W) (hg : Gl X x) (he : PE X e te)
    (hdb : (x == ("__debug__" : Str)) = false := by decide) (hs : starEach [e] X.env = (false, eval e X.env) :: starEach [] X.env := by rfl) (hpl : (backTo p2 (starEach [] X.env)).any (·.1) = false := by rfl) :
    PS X (.Raise (some (.Call (.Name x p) [e] [] p2)) none pos) (tRz C f te W) := by
  obtain ⟨fI, fd, T1, F1, b⟩ := T.ex
  exact ps_raise (pos := pos) hc tk (pmk_oex (p := p) (pos := p2) (dvs := []) T1.ox T1.iC T1.tI F1 (hr.r.mono hk) b .nil pass0 hg T1.gC (pa_cons he pa_nil (hs := hs)) hdb hs hpl)
theorem rd_rz {C : Addr} {f : Str} {te : TE} {W : WX} {D : Ends} {σ : L2.St} {H : Hp} (h : tCons te tNil σ H fun vs H1 => vs.length ≤ 1000 ∧ ∀ a, H1 a = none → spInit1 C f (.ref a :: (vs ++ [])) (upd H1 a (exo a C none))
  (fun v H2 => v = .non ∧ ∃ (d : Addr) (fs : List (Str × V)), H2 a = some (exo a C (some d)) ∧ H2 d = some (exd d fs) ∧ H1 d = none ∧ W (.ref C) (some d) σ (upd (del H2 a) d (.xd fs))) (fun _ _ _ => False)) : tRz C f te W D σ H := h
end U

/-! the facts of an own error class, gathered from the fragment -/
namespace U
open PySem PySem.Spec PyProof.Rows L2
theorem exm_sub {K : PySem.W.Frag} {S T : Addr} (h1 : PySem.W.subIn K (.ref S) (.type "BaseException") = some true) (b1 : PySem.W.subIn K (.ref T) (.type "BaseException") = some true) (h2 : PySem.W.isClsIn K T = true) (h3 : PySem.W.typeIn K (.ref T) = some (.type "type")) (h4 : PySem.W.subIn K (.ref S) (.ref T) = some true) :
    PySem.W.exmOne K (.ref S) (.ref T) = some true := by
  have e1 : (PySem.W.subIn K (.ref T) (.type "BaseException") == some true) = true := by rw [b1] <;> rfl
  have e2 : ((PySem.W.clsIn K T).isSome && PySem.W.typeIn K (.ref T) == some (.type "type")) = true := by
    have h2' : (PySem.W.clsIn K T).isSome = true := h2
    rw [h2', h3] <;> rfl
  show (if (PySem.W.subIn K (.ref T) (.type "BaseException") == some true) = true then (if ((PySem.W.clsIn K T).isSome && PySem.W.typeIn K (.ref T) == some (.type "type")) = true then PySem.W.subIn K (.ref S) (.ref T) else none) else none) = some true
  rw [if_pos e1, if_pos e2]
  exact h4
theorem own_mk {K : PySem.W.Frag} {mg : Str → Option Value} {x f : Str} {C CB fI : Addr} {nm q : Str} {N : Addr} {bs : List Value} {sn : List Str} {sub : List Value} {ab : Bool} {col : Option Bool} {dd : Option Addr} {m0 m1 m2 m3 m5 : Option Value}
    (gC : mg x = some (.ref C)) (gB : mg "InputError" = some (.ref CB))
    (xL : K.lookup C = some (excClassObj nm q C N bs [.ref CB, .type "ValueError", .type "Exception", .type "BaseException", .type "object"] true sn sub ab col dd m0 m1 m2 m3 m5 "ValueError.__new__"))
    (sa : PySem.W.findIn K (.ref C) "__setattr__" = some (some (.builtin "object.__setattr__"))) (ga : PySem.W.findIn K (.ref C) "__getattribute__" = some (some (.builtin "BaseException.__getattribute__"))) (gg : PySem.W.findIn K (.ref C) "__getattr__" = some none) (nb : PySem.W.findIn K (.ref C) f = some none)
    (a1 : PySem.W.findIn K (.ref C) "__init__" = some (some (.ref fI))) (t1 : PySem.W.typeIn K (.ref fI) = some (.type "function"))
    (kC : PySem.W.keepIn K (.ref C) = true) (eC : PySem.W.subIn K (.ref C) (.type "BaseException") = some true) (tC : PySem.W.typeIn K (.ref C) = some (.type "type")) (hC : PySem.W.hasDictIn K C = true) (iC : PySem.W.isClsIn K C = true) (sC : PySem.W.subIn K (.ref C) (.ref C) = some true)
    (kB : PySem.W.keepIn K (.ref CB) = true) (eB : PySem.W.subIn K (.ref CB) (.type "BaseException") = some true) (tB : PySem.W.typeIn K (.ref CB) = some (.type "type")) (iB : PySem.W.isClsIn K CB = true) (sB : PySem.W.subIn K (.ref C) (.ref CB) = some true)
    (gB2 : PySem.W.specialIn K (.ref CB) "__getattribute__" = some (some (.builtin "type.__getattribute__"))) (rB : PySem.W.readsIn K CB (.type "type") = true) (aB : PySem.W.findCls K (.ref CB) (.type "type") "__init__" = some (.val (.builtin "ValueError.__init__"))) : OwnX K mg x f C CB fI where
  gC := gC
  ox := ⟨⟨nm, q, N, bs, _, sn, sub, ab, col, dd, m0, m1, m2, m3, m5, xL, by first | rfl | decide +kernel⟩, sa, eC, tC, kC⟩
  no := nb
  iC := a1
  tI := t1
  xf := ⟨ga, gg, eC, hC⟩
  gB := gB
  bi := ⟨kB, gB2, rB, aB⟩
  ex := exm_sub eC eC iC tC sC
  eb := exm_sub eC eB iB tB sB
end U

namespace Law
open PySem PySem.Spec PyProof.Rows L2 U
def top (i : Nat) : Stmt := PySem.Challenge.pw_threeturned_k03_shortest_paths.main.body.getD i (.Pass ⟨0, 0, 0, 0⟩)
abbrev s_InvalidPath_init : Stmt := inClass (top 2) 0
theorem sc_InvalidPath_init : FnScope ["self", "position"] ["self", "position"] (defScope s_InvalidPath_init) := ⟨rfl, rfl, rfl, by decide +kernel, rfl, by decide +kernel, by decide +kernel⟩
abbrev s_UnknownNode_init : Stmt := inClass (top 3) 0
theorem sc_UnknownNode_init : FnScope ["self", "node"] ["self", "node"] (defScope s_UnknownNode_init) := ⟨rfl, rfl, rfl, by decide +kernel, rfl, by decide +kernel, by decide +kernel⟩
abbrev s_has_node : Stmt := top 6
theorem sc_has_node : FnScope ["graph", "candidate"] ["graph", "candidate"] (defScope s_has_node) := ⟨rfl, rfl, rfl, by decide +kernel, rfl, by decide +kernel, by decide +kernel⟩
abbrev s_check_node : Stmt := top 7
theorem sc_check_node : FnScope ["graph", "candidate"] ["graph", "candidate"] (defScope s_check_node) := ⟨rfl, rfl, rfl, by decide +kernel, rfl, by decide +kernel, by decide +kernel⟩
abbrev s_edge_of : Stmt := top 8
theorem sc_edge_of : FnScope ["first", "second"] ["first", "second"] (defScope s_edge_of) := ⟨rfl, rfl, rfl, by decide +kernel, rfl, by decide +kernel, by decide +kernel⟩
abbrev s_adjacency : Stmt := top 9
abbrev nN_adjacency : List Str := ["graph", "nodes", "edges", "found", "node", "one", "other", "some"]
theorem sc_adjacency : FnScope ["graph", "nodes", "edges", "found", "node", "one", "other", "some"] ["graph"] (defScope s_adjacency) := ⟨rfl, rfl, rfl, by decide +kernel, rfl, by decide +kernel, by decide +kernel⟩
abbrev s_check_path : Stmt := top 10
theorem sc_check_path : FnScope ["graph", "candidate", "position", "node"] ["graph", "candidate"] (defScope s_check_path) := ⟨rfl, rfl, rfl, by decide +kernel, rfl, by decide +kernel, by decide +kernel⟩
abbrev s_paths_from : Stmt := top 11
theorem sc_paths_from : FnScope ["graph", "node", "adjacent", "found", "queue", "position", "current", "other"] ["graph", "node"] (defScope s_paths_from) := ⟨rfl, rfl, rfl, by decide +kernel, rfl, by decide +kernel, by decide +kernel⟩
abbrev s_shortest_path : Stmt := top 12
theorem sc_shortest_path : FnScope ["graph", "start", "end"] ["graph", "start", "end"] (defScope s_shortest_path) := ⟨rfl, rfl, rfl, by decide +kernel, rfl, by decide +kernel, by decide +kernel⟩
abbrev s__law_pool : Stmt := top 14
theorem sc__law_pool : FnScope ["_law_script", "_law_k", "_law_cell", "_law_size", "_law_seed"] ["_law_script", "_law_k"] (defScope s__law_pool) := ⟨rfl, rfl, rfl, by decide +kernel, rfl, by decide +kernel, by decide +kernel⟩
abbrev s__law_draw : Stmt := top 15
theorem sc__law_draw : FnScope ["_law_pool_here", "_law_many", "_law_found"] ["_law_pool_here", "_law_many"] (defScope s__law_draw) := ⟨rfl, rfl, rfl, by decide +kernel, rfl, by decide +kernel, by decide +kernel⟩
abbrev s__law_draw_names : Stmt := top 16
theorem sc__law_draw_names : FnScope ["_law_pool_here", "_law_many", "_law_letters", "_law_begin", "_law_spread", "_law_tail", "_law_at", "_law_is_mixed", "_law_found", "_law_k", "_law_letter"] ["_law_pool_here", "_law_many"] (defScope s__law_draw_names) := ⟨rfl, rfl, rfl, by decide +kernel, rfl, by decide +kernel, by decide +kernel⟩
abbrev s__law_shuffle : Stmt := top 17
theorem sc__law_shuffle : FnScope ["_law_pool_here", "_law_some", "_law_left", "_law_found"] ["_law_pool_here", "_law_some"] (defScope s__law_shuffle) := ⟨rfl, rfl, rfl, by decide +kernel, rfl, by decide +kernel, by decide +kernel⟩
abbrev s__law_edge_of : Stmt := top 18
theorem sc__law_edge_of : FnScope ["_law_one", "_law_other"] ["_law_one", "_law_other"] (defScope s__law_edge_of) := ⟨rfl, rfl, rfl, by decide +kernel, rfl, by decide +kernel, by decide +kernel⟩
abbrev s__law_wants_edge : Stmt := top 19
theorem sc__law_wants_edge : FnScope ["_law_pool_here", "_law_kind", "_law_at", "_law_position", "_law_many"] ["_law_pool_here", "_law_kind", "_law_at", "_law_position", "_law_many"] (defScope s__law_wants_edge) := ⟨rfl, rfl, rfl, by decide +kernel, rfl, by decide +kernel, by decide +kernel⟩
abbrev s__law_draw_graph : Stmt := top 20
theorem sc__law_draw_graph : FnScope ["_law_pool_here", "_law_most", "_law_order", "_law_kind", "_law_state", "_law_value", "_law_node", "_law_edges", "_law_at", "_law_one", "_law_position", "_law_other"] ["_law_pool_here", "_law_most"] (defScope s__law_draw_graph) := ⟨rfl, rfl, rfl, by decide +kernel, rfl, by decide +kernel, by decide +kernel⟩
abbrev s__law_neighbors_of : Stmt := top 21
theorem sc__law_neighbors_of : FnScope ["_law_graph", "_law_node", "_law_found", "_law_one", "_law_other"] ["_law_graph", "_law_node"] (defScope s__law_neighbors_of) := ⟨rfl, rfl, rfl, by decide +kernel, rfl, by decide +kernel, by decide +kernel⟩
abbrev s__law_shortest_paths : Stmt := top 22
abbrev nN__law_shortest_paths : List Str := ["_law_graph", "_law_node", "_law_found", "_law_level", "_law_longer", "_law_path", "_law_other"]
theorem sc__law_shortest_paths : FnScope ["_law_graph", "_law_node", "_law_found", "_law_level", "_law_longer", "_law_path", "_law_other"] ["_law_graph", "_law_node"] (defScope s__law_shortest_paths) := ⟨rfl, rfl, rfl, by decide +kernel, rfl, by decide +kernel, by decide +kernel⟩
abbrev s__law_check_result : Stmt := top 23
theorem sc__law_check_result : FnScope ["_law_graph", "_law_candidate", "_law_error", "e"] ["_law_graph", "_law_candidate"] (defScope s__law_check_result) := ⟨rfl, rfl, rfl, by decide +kernel, rfl, by decide +kernel, by decide +kernel⟩
abbrev s__law_compute_expected : Stmt := top 24
theorem sc__law_compute_expected : FnScope ["_law_graph", "_law_candidate", "_law_at", "_law_node"] ["_law_graph", "_law_candidate"] (defScope s__law_compute_expected) := ⟨rfl, rfl, rfl, by decide +kernel, rfl, by decide +kernel, by decide +kernel⟩
abbrev s__law_error_of : Stmt := top 25
theorem sc__law_error_of : FnScope ["_law_graph", "_law_one", "_law_other", "_law_error", "e"] ["_law_graph", "_law_one", "_law_other"] (defScope s__law_error_of) := ⟨rfl, rfl, rfl, by decide +kernel, rfl, by decide +kernel, by decide +kernel⟩
abbrev s__law_make_variant : Stmt := top 26
theorem sc__law_make_variant : FnScope ["_law_pool_here", "_law_graph", "_law_path", "_law_at", "_law_invalid", "_law_some"] ["_law_pool_here", "_law_graph", "_law_path"] (defScope s__law_make_variant) := ⟨rfl, rfl, rfl, by decide +kernel, rfl, by decide +kernel, by decide +kernel⟩
abbrev s__law_long_holds : Stmt := top 27
theorem sc__law_long_holds : FnScope ["_law_pair"] [] (defScope s__law_long_holds) := ⟨rfl, rfl, rfl, by decide +kernel, rfl, by decide +kernel, by decide +kernel⟩
abbrev s__law_with_more_edges : Stmt := top 28
theorem sc__law_with_more_edges : FnScope ["_law_pool_here", "_law_graph", "_law_edges", "_law_at", "_law_one", "_law_other"] ["_law_pool_here", "_law_graph"] (defScope s__law_with_more_edges) := ⟨rfl, rfl, rfl, by decide +kernel, rfl, by decide +kernel, by decide +kernel⟩
abbrev s_law : Stmt := top 29
theorem sc_law : FnScope ["_law_script", "_law_candidate", "_law_k", "_law_pool_here", "_law_graph", "_law_state", "_law_one", "_law_paths", "_law_other", "_law_found", "_law_turn", "_law_changed", "_law_invalid"] ["_law_script"] (defScope s_law) := ⟨rfl, rfl, rfl, by decide +kernel, rfl, by decide +kernel, by decide +kernel⟩
end Law

namespace Law
open PySem PySem.Spec PyProof.Rows L2 U
local macro_rules | `(tactic| wtm_at "rd1") => `(tactic| first
  | with_reducible refine rd_seq ?_
  | ((with_reducible refine rd_var (v := ?vv) ?hv ?_); (case hv => exact rfl))
  | with_reducible refine rd_c ?_
  | with_reducible refine rd_cons ?_
  | with_reducible refine rd_nil ?_
  | with_reducible refine rd_op ?_
  | with_reducible refine rd_asg ?_
  | with_reducible refine rd_name ?_
  | with_reducible refine rd_c1 ?_
  | with_reducible refine rd_cb ?_
  | with_reducible refine rd_test ?_
  | with_reducible refine rd_B ?_
  | with_reducible refine rd_bl ?_
  | with_reducible refine rd_if ?_
  | with_reducible refine rd_ret ?_
  | with_reducible refine rd_drop ?_
  | with_reducible refine rd_next ?_
  | with_reducible refine rd_addI ?_
  | with_reducible refine rd_ltI ?_
  | with_reducible refine rd_eqI ?_
  | with_reducible refine rd_neI ?_
  | with_reducible refine rd_eqS ?_
  | with_reducible refine rd_neS ?_
  | with_reducible refine rd_gtI ?_
  | with_reducible refine rd_geI ?_
  | with_reducible refine rd_leI ?_
  | with_reducible refine rd_ltS ?_
  | with_reducible refine rd_subI ?_
  | ((with_reducible refine rd_modI ?hc ?_); (case hc => first | decide | omega))
  | ((with_reducible refine rd_mulI ?hc ?_); (case hc => first | exact mul_bI | exact .inl (.inr (by decide)) | exact .inl (.inl (by decide)) | exact .inl (.inr (by omega)) | exact .inl (.inl (by omega))))
  | ((with_reducible refine rd_divI ?hc ?_); (case hc => first | decide | omega))
  | ((with_reducible refine rd_powI ?hc ?_); (case hc => exact ⟨by decide, by decide, by decide⟩))
  | with_reducible refine rd_lst ?_
  | with_reducible refine rd_tup ?_
  | ((with_reducible refine rd_sz ?hv ?_); (case hv => exact rfl))
  | with_reducible refine rd_and ?_
  | with_reducible refine rd_or ?_
  | with_reducible refine rd_not ?_
  | with_reducible refine rd_andV ?_
  | with_reducible refine rd_orV ?_
  | with_reducible refine rd_notV ?_
  | with_reducible refine rd_ifE ?_
  | with_reducible refine rd_T ?_
  | with_reducible refine rd_F ?_
  | with_reducible refine rd_chain ?_
  | with_reducible refine rd_is ?_
  | with_reducible refine rd_isNot ?_
  | with_reducible refine rd_absI ?_
  | with_reducible refine rd_maxI ?_
  | with_reducible refine rd_minI ?_
  | with_reducible refine rd_intI ?_
  | with_reducible refine rd_intB ?_
  | with_reducible refine rd_sub ?_
  | with_reducible refine rd_sl ?_
  | with_reducible refine rd_noPart ?_
  | with_reducible refine rd_part ?_
  | with_reducible refine rd_exI ?_
  | with_reducible refine rd_bm ?_
  | with_reducible refine rd_bm0 ?_
  | with_reducible refine rd_un ?_
  | with_reducible refine rd_neg ?_
  | with_reducible refine rd_c2 ?_
  | with_reducible refine rd_retN ?_
  | with_reducible refine rd_break ?_
  | with_reducible refine rd_cont ?_
  | with_reducible refine rd_for ?_
  | with_reducible refine rd_rng1 ?_
  | with_reducible refine rd_rng2 ?_
  | with_reducible refine rd_iList ?_
  | with_reducible refine rd_iTup ?_
  | with_reducible refine rd_iEnum ?_
  | ((with_reducible refine rd_forR ?h0 ?h1 ?_); (case h0 => omega); (case h1 => omega))
  | with_reducible refine rd_lc ?_
  | with_reducible refine rd_gcons ?_
  | with_reducible refine rd_gnil ?_
  | with_reducible refine rd_dget ?_
  | with_reducible refine rd_dput ?_
  | with_reducible refine rd_dnew ?_
  | with_reducible refine rd_dc ?_
  | with_reducible refine rd_iItems ?_
  | with_reducible refine rd_iKeys ?_
  | with_reducible refine rd_din ?_
  | with_reducible refine rd_par ?_
  | with_reducible refine rd_two ?_
  | with_reducible refine rd_reprB ?_
  | with_reducible refine rd_ck ?_
  | ((with_reducible refine rd_len ?hl ?_); (case hl => exact rfl))
  | with_reducible refine rd_nT ?_
  | with_reducible refine rd_nF ?_
  | with_reducible refine rd_dnin ?_
  | with_reducible refine rd_isB ?_
  | with_reducible refine rd_isNotB ?_
  | with_reducible refine rd_daug ?_
  | with_reducible refine rd_yesT ?_
  | ((with_reducible refine rd_wp ?hw ?_); (case hw => exact rfl)))
local macro_rules | `(tactic| wtm_at "rd") => `(tactic| repeat wtm_at "rd1")
/-- the names of the world are the world's -/
structure Bt (mg : Str → Option Value) : Prop where
  len : mg "len" = none
  abs : mg "abs" = none
  max : mg "max" = none
  min : mg "min" = none
  sorted : mg "sorted" = none
  isinstance : mg "isinstance" = none
  int : mg "int" = none
  list : mg "list" = none
  tuple : mg "tuple" = none
  str : mg "str" = none
  range : mg "range" = none
  enumerate : mg "enumerate" = none
  dict : mg "dict" = none
  sum : mg "sum" = none
  all : mg "all" = none
  any : mg "any" = none
  repr : mg "repr" = none
  set : mg "set" = none
  zip : mg "zip" = none
  reversed : mg "reversed" = none
/-- a source of draws -/
def PoolOk (big seed : Int) : Prop := 0 ≤ big ∧ 0 ≤ seed ∧ seed < 2147483647
abbrev poolO (big seed : Int) : HO := .lst [.int big, .int seed]
def spPool (K : PySem.W.Frag) : Sp := fun vs H Q _ => ∃ (a : Addr) (ns : List Int) (k : Nat), vs = [.ref a, .int (k : Int)] ∧ SqL K H a (ns.map V.int) ∧ k ≤ 100 ∧
  ∀ p big seed, H p = none → PoolOk big seed → Q (.ref p) (upd H p (poolO big seed))
def spDraw : Sp := fun vs H Q _ => ∃ (p : Addr) (many big seed : Int), vs = [.ref p, .int many] ∧ 0 < many ∧ many < 1000000 ∧ H p = some (poolO big seed) ∧ PoolOk big seed ∧
  ∀ r big' seed', 0 ≤ r → r < many → PoolOk big' seed' → Q (.int r) (upd H p (poolO big' seed'))
section
variable {P : Program} {w : World} {K : PySem.W.Frag} {mg : Str → Option Value} {base : Heap}
theorem ok_pool {f : Addr} {fd : FuncData} (F : Fun K "_law_pool" "_law_pool" s__law_pool f fd) (B : Bt mg) : FnG P w K mg base CX0 1 f fd ["_law_script", "_law_k"] (spPool K) := by
  refine fnG0 F sc__law_pool (fun vs H Q E h => ?_) (fun cdv A outer s H vs Q E hr h => ?_)
  · obtain ⟨a, ns, k, rfl, _⟩ := h
    rfl
  · obtain ⟨a, ns, k, rfl, hs, hk, q⟩ := h
    have nd := sc__law_pool.nd
    refine ⟨_, (pss_cons (ps_set (i := 2) nd rfl (by first | exact Or.inl rfl | exact Or.inr rfl) pe_int)
  (pss_cons (ps_if (pt_cmpR uLt (pv 1) (pe_callB (kLen K rfl) (by rfl) B.len bb_len (pa_cons (pv 0) pa_nil)) (nomark _)) (pss_one (ps_set (i := 2) nd rfl (by first | exact Or.inl rfl | exact Or.inr rfl) (pe_ix (kIx K rfl) (pv 0) (pv 1) (fun _ _ => rfl)))) pss_nil)
  (pss_cons (ps_set (i := 3) nd rfl (by first | exact Or.inl rfl | exact Or.inr rfl) (pe_callB cAbs (by rfl) B.abs bb_abs (pa_cons (pv 2) pa_nil)))
  (pss_cons (ps_set (i := 4) nd rfl (by first | exact Or.inl rfl | exact Or.inr rfl) (pe_op uMod (pe_op uMul (pe_op (kAdd K rfl) (pe_op (kAdd K rfl) (pe_op uMod (pv 3) pe_int) (pe_op uMul pe_int (pv 1))) pe_int) pe_int) pe_int))
  (pss_one (ps_ret (pe_lst (pa_cons (pe_op uMul (pv 3) (pe_callTy cInt (by rfl) B.int bb_int (pa_cons (pe_cmpR uGe (pv 3) (pe_op uPow pe_int pe_int) (nomark _)) pa_nil))) (pa_cons (pv 4) pa_nil))))))))), ?_⟩
    have fin : ∀ z : Int, PoolOk ((z.natAbs : Int) * bToI (decide (10 ^ (18 : Int).toNat ≤ (z.natAbs : Int)))) (((z.natAbs : Int) % 2147483629 + 7919 * (k : Int) + 31) * 48271 % 2147483647) := by
      intro z
      refine ⟨?_, by omega, by omega⟩
      unfold bToI
      split <;> omega
    wtm_at "rd"
    refine rd_lenL hs ?_
    wtm_at "rd"
    refine rd_split (fun c => ?_) (fun c => ?_)
    · have hk2 : k < ns.length := by
        rw [List.length_map] at c
        omega
      wtm_at "rd"
      refine rd_ixL hs (atI_nat (v := .int ns[k]) (by rw [List.getElem?_map, List.getElem?_eq_getElem hk2]; rfl)) ?_
      wtm_at "rd"
      exact fun p np => q p _ _ np (fin _)
    · wtm_at "rd"
      exact fun p np => q p _ _ np (fin _)
theorem ok_draw {f : Addr} {fd : FuncData} (F : Fun K "_law_draw" "_law_draw" s__law_draw f fd) (B : Bt mg) : FnG P w K mg base CX0 1 f fd ["_law_pool_here", "_law_many"] spDraw := by
  refine fnG0 F sc__law_draw (fun vs H Q E h => ?_) (fun cdv A outer s H vs Q E hr h => ?_)
  · obtain ⟨p, many, big, seed, rfl, _⟩ := h
    rfl
  · obtain ⟨p, many, big, seed, rfl, m0, m1, hp, ⟨k0, k1, k2⟩, q⟩ := h
    have nd := sc__law_draw.nd
    refine ⟨_, (pss_cons (ps_if (pt_cmpR uGt (pe_ix (kIx K rfl) (pv 0) pe_int (fun _ _ => rfl)) pe_int (nomark _)) (pss_cons (ps_set (i := 2) nd rfl (by first | exact Or.inl rfl | exact Or.inr rfl) (pe_op uMod (pe_ix (kIx K rfl) (pv 0) pe_int (fun _ _ => rfl)) (pv 1)))
  (pss_cons (ps_asg (pe_op uDiv (pe_ix (kIx K rfl) (pv 0) pe_int (fun _ _ => rfl)) (pv 1)) (pg_sub (pv 0) pe_int set_list))
  (pss_one (ps_ret (pv 2))))) pss_nil)
  (pss_cons (ps_asg (pe_op uMod (pe_op (kAdd K rfl) (pe_op uMul (pe_ix (kIx K rfl) (pv 0) pe_int (fun _ _ => rfl)) pe_int) pe_int) pe_int) (pg_sub (pv 0) pe_int set_list))
  (pss_one (ps_ret (pe_op uMod (pe_op uDiv (pe_op uMod (pe_op uMul (pe_ix (kIx K rfl) (pv 0) pe_int (fun _ _ => rfl)) (pe_ix (kIx K rfl) (pv 0) pe_int (fun _ _ => rfl))) pe_int) pe_int) (pv 1)))))), ?_⟩
    wtm_at "rd"
    refine rd_ixL (SqL.of hp) rfl ?_
    wtm_at "rd"
    refine rd_split (fun c => ?_) (fun c => ?_)
    · wtm_at "rd"
      refine rd_ixL (SqL.of hp) rfl ?_
      wtm_at "rd"
      refine rd_ixL (SqL.of hp) rfl ?_
      wtm_at "rd"
      refine rd_setL hp rfl ?_
      wtm_at "rd"
      exact q _ _ _ (Int.emod_nonneg _ (by omega)) (Int.emod_lt_of_pos _ m0) ⟨Int.ediv_nonneg k0 (by omega), k1, k2⟩
    · wtm_at "rd"
      refine rd_ixL (SqL.of hp) rfl ?_
      wtm_at "rd"
      refine rd_setL hp rfl ?_
      wtm_at "rd"
      refine rd_ixL (SqL.of upd_same) rfl ?_
      wtm_at "rd"
      refine rd_ixL (SqL.of upd_same) rfl ?_
      wtm_at "rd"
      exact q _ _ _ (Int.emod_nonneg _ (by omega)) (Int.emod_lt_of_pos _ m0) ⟨k0, by omega, by omega⟩
end
end Law

namespace Law
open PySem PySem.Spec PyProof.Rows L2 U
local macro_rules | `(tactic| wtm_at "rd1") => `(tactic| first
  | with_reducible refine rd_seq ?_
  | ((with_reducible refine rd_var (v := ?vv) ?hv ?_); (case hv => exact rfl))
  | with_reducible refine rd_c ?_
  | with_reducible refine rd_cons ?_
  | with_reducible refine rd_nil ?_
  | with_reducible refine rd_op ?_
  | with_reducible refine rd_asg ?_
  | with_reducible refine rd_name ?_
  | with_reducible refine rd_c1 ?_
  | with_reducible refine rd_cb ?_
  | with_reducible refine rd_test ?_
  | with_reducible refine rd_B ?_
  | with_reducible refine rd_bl ?_
  | with_reducible refine rd_if ?_
  | with_reducible refine rd_ret ?_
  | with_reducible refine rd_drop ?_
  | with_reducible refine rd_next ?_
  | with_reducible refine rd_addI ?_
  | with_reducible refine rd_ltI ?_
  | with_reducible refine rd_eqI ?_
  | with_reducible refine rd_neI ?_
  | with_reducible refine rd_eqS ?_
  | with_reducible refine rd_neS ?_
  | with_reducible refine rd_gtI ?_
  | with_reducible refine rd_geI ?_
  | with_reducible refine rd_leI ?_
  | with_reducible refine rd_ltS ?_
  | with_reducible refine rd_subI ?_
  | ((with_reducible refine rd_modI ?hc ?_); (case hc => first | decide | omega))
  | ((with_reducible refine rd_mulI ?hc ?_); (case hc => first | exact mul_bI | exact .inl (.inr (by decide)) | exact .inl (.inl (by decide)) | exact .inl (.inr (by omega)) | exact .inl (.inl (by omega))))
  | ((with_reducible refine rd_divI ?hc ?_); (case hc => first | decide | omega))
  | ((with_reducible refine rd_powI ?hc ?_); (case hc => exact ⟨by decide, by decide, by decide⟩))
  | with_reducible refine rd_lst ?_
  | with_reducible refine rd_tup ?_
  | ((with_reducible refine rd_sz ?hv ?_); (case hv => exact rfl))
  | with_reducible refine rd_and ?_
  | with_reducible refine rd_or ?_
  | with_reducible refine rd_not ?_
  | with_reducible refine rd_andV ?_
  | with_reducible refine rd_orV ?_
  | with_reducible refine rd_notV ?_
  | with_reducible refine rd_ifE ?_
  | with_reducible refine rd_T ?_
  | with_reducible refine rd_F ?_
  | with_reducible refine rd_chain ?_
  | with_reducible refine rd_is ?_
  | with_reducible refine rd_isNot ?_
  | with_reducible refine rd_absI ?_
  | with_reducible refine rd_maxI ?_
  | with_reducible refine rd_minI ?_
  | with_reducible refine rd_intI ?_
  | with_reducible refine rd_intB ?_
  | with_reducible refine rd_sub ?_
  | with_reducible refine rd_sl ?_
  | with_reducible refine rd_noPart ?_
  | with_reducible refine rd_part ?_
  | with_reducible refine rd_exI ?_
  | with_reducible refine rd_bm ?_
  | with_reducible refine rd_bm0 ?_
  | with_reducible refine rd_un ?_
  | with_reducible refine rd_neg ?_
  | with_reducible refine rd_c2 ?_
  | with_reducible refine rd_retN ?_
  | with_reducible refine rd_break ?_
  | with_reducible refine rd_cont ?_
  | with_reducible refine rd_for ?_
  | with_reducible refine rd_rng1 ?_
  | with_reducible refine rd_rng2 ?_
  | with_reducible refine rd_iList ?_
  | with_reducible refine rd_iTup ?_
  | with_reducible refine rd_iEnum ?_
  | ((with_reducible refine rd_forR ?h0 ?h1 ?_); (case h0 => omega); (case h1 => omega))
  | with_reducible refine rd_lc ?_
  | with_reducible refine rd_gcons ?_
  | with_reducible refine rd_gnil ?_
  | with_reducible refine rd_dget ?_
  | with_reducible refine rd_dput ?_
  | with_reducible refine rd_dnew ?_
  | with_reducible refine rd_dc ?_
  | with_reducible refine rd_iItems ?_
  | with_reducible refine rd_iKeys ?_
  | with_reducible refine rd_din ?_
  | with_reducible refine rd_par ?_
  | with_reducible refine rd_two ?_
  | with_reducible refine rd_reprB ?_
  | with_reducible refine rd_ck ?_
  | ((with_reducible refine rd_len ?hl ?_); (case hl => exact rfl))
  | with_reducible refine rd_nT ?_
  | with_reducible refine rd_nF ?_
  | with_reducible refine rd_dnin ?_
  | with_reducible refine rd_isB ?_
  | with_reducible refine rd_isNotB ?_
  | with_reducible refine rd_daug ?_
  | with_reducible refine rd_yesT ?_
  | ((with_reducible refine rd_wp ?hw ?_); (case hw => exact rfl)))
local macro_rules | `(tactic| wtm_at "rd") => `(tactic| repeat wtm_at "rd1")

/-- a source of draws stands at p -/
def PoolAt (H : Hp) (p : Addr) : Prop := ∃ big seed, H p = some (poolO big seed) ∧ PoolOk big seed
theorem PoolAt.ne {H : Hp} {p q : Addr} (h : PoolAt H p) (n : H q = none) : p ≠ q := by
  obtain ⟨b, s, h, _⟩ := h
  exact ne_of_none h n
theorem PoolAt.upd {H : Hp} {p q : Addr} {o : HO} (h : PoolAt H p) (n : p ≠ q) : PoolAt (L2.upd H q o) p := by
  obtain ⟨b, s, h, ok⟩ := h
  exact ⟨b, s, at_upd n h, ok⟩
theorem PoolAt.isL {H : Hp} {p : Addr} (h : PoolAt H p) : ∃ ys, H p = some (.lst ys) := by
  obtain ⟨b, s, h, _⟩ := h
  exact ⟨_, h⟩
theorem PoolAt.off {H : Hp} {p q : Addr} {xs : List Str} (h : PoolAt H p) (hq : H q = some (.lst (xs.map V.str))) : q ≠ p := by
  rintro rfl
  obtain ⟨b, s, h, _⟩ := h
  rw [hq] at h
  have e := HO.lst.inj (Option.some.inj h)
  match xs, e with
  | _ :: _, e => cases e
/-- from H to H' all stays but the draws' source at p, which is one still; new things may have come -/
structure Go (p : Addr) (H H' : Hp) : Prop where
  but : But p H H'
  free : ∀ b, H' b = none → H b = none
  pool : PoolAt H' p
theorem Go.refl {p : Addr} {H : Hp} (h : PoolAt H p) : Go p H H := ⟨But.refl, fun _ n => n, h⟩
theorem Go.trans {p : Addr} {H H1 H2 : Hp} (a : Go p H H1) (b : Go p H1 H2) : Go p H H2 := ⟨a.but.trans b.but, fun c n => a.free c (b.free c n), b.pool⟩
theorem Go.new {p q : Addr} {H H1 : Hp} {o : HO} (a : Go p H H1) (n : H1 q = none) : Go p H (L2.upd H1 q o) :=
  ⟨a.but.trans (But.new n), fun c z => a.free c (new_old z), a.pool.upd (a.pool.ne n)⟩
/-- an object that was not there at H is written -/
theorem Go.put {p q : Addr} {H H1 : Hp} {o : HO} (a : Go p H H1) (n : H q = none) (ne : p ≠ q) : Go p H (L2.upd H1 q o) :=
  ⟨fun b u h e => at_upd (ne_of_none e n) (a.but b u h e), fun c z => a.free c (new_old z), a.pool.upd ne⟩
theorem Go.at {p q : Addr} {H H1 : Hp} {o : HO} (a : Go p H H1) (h : H q = some o) (n : q ≠ p) : H1 q = some o := a.but q o n h
theorem Go.seqT {p a : Addr} {H H1 : Hp} {xs : List V} {K : PySem.W.Frag} (g : Go p H H1) (hp : PoolAt H p) (h : SqT K H a xs) : SqT K H1 a xs := g.but.seqT hp.isL h
theorem Go.of_same {p : Addr} {H H' : Hp} (hp : PoolAt H p) (s : Same H H') : Go p H H' := ⟨But.of_same s, fun b n => new_of_same s n, by
  obtain ⟨b, s', h, ok⟩ := hp
  exact ⟨b, s', s _ _ h, ok⟩⟩
theorem PoolAt.keep {p : Addr} {H H' : Hp} (h : PoolAt H p) (k : ∀ a xs, H a = some (.lst xs) → H' a = some (.lst xs)) : PoolAt H' p := by
  obtain ⟨b, s, h, ok⟩ := h
  exact ⟨b, s, k _ _ h, ok⟩
/-- _law_draw, as it is used -/
theorem use_draw {H : Hp} {p : Addr} {many : Int} {Q : VK} {E : XK} (h : PoolAt H p) (m0 : 0 < many) (m1 : many < 1000000)
    (k : ∀ (r : Int) (H' : Hp), 0 ≤ r → r < many → Go p H H' → Q (.int r) H') : spDraw [.ref p, .int many] H Q E := by
  obtain ⟨b, s, h, ok⟩ := h
  exact ⟨p, many, b, s, rfl, m0, m1, h, ok, fun r b' s' r0 r1 ok' => k r _ r0 r1 ⟨But.upd, fun c n => new_old n, b', s', upd_same, ok'⟩⟩
/-- a new list of names -/
def spNames : Sp := fun vs H Q _ => ∃ (p : Addr) (many : Int), vs = [.ref p, .int many] ∧ 0 ≤ many ∧ many ≤ 26 ∧ PoolAt H p ∧
  ∀ (l : Addr) (ys : List Str) (H' : Hp), Go p H H' → H l = none → H' l = some (.lst (ys.map V.str)) → Names ys → ys.length = many.toNat → Q (.ref l) H'
section
variable {P : Program} {w : World} {K : PySem.W.Frag} {mg : Str → Option Value} {base : Heap}
structure C1 (P : Program) (w : World) (K : PySem.W.Frag) (mg : Str → Option Value) (base : Heap) : Prop where
  _law_draw : Cal P w K mg base CX0 1 "_law_draw" spDraw
theorem ok_names {f : Addr} {fd : FuncData} (F : Fun K "_law_draw_names" "_law_draw_names" s__law_draw_names f fd) (B : Bt mg) (C : C1 P w K mg base) : FnG P w K mg base CX0 2 f fd ["_law_pool_here", "_law_many"] spNames := by
  refine fnG0 F sc__law_draw_names (fun vs H Q E h => ?_) (fun cdv A outer s H vs Q E hr h => ?_)
  · obtain ⟨p, many, rfl, _⟩ := h
    rfl
  · obtain ⟨p, many, rfl, m0, m1, hp, q⟩ := h
    have nd := sc__law_draw_names.nd
    refine ⟨_, (pss_cons (ps_set (i := 2) nd rfl (by first | exact Or.inl rfl | exact Or.inr rfl) pe_str)
  (pss_cons (ps_set (i := 3) nd rfl (by first | exact Or.inl rfl | exact Or.inr rfl) (pe_c C._law_draw hr (by decide) rfl (pa_cons (pv 0) (pa_cons pe_int pa_nil))))
  (pss_cons (ps_set (i := 4) nd rfl (by first | exact Or.inl rfl | exact Or.inr rfl) (pe_ix (kIx K rfl) (pe_lst (pa_cons pe_int (pa_cons pe_int (pa_cons pe_int (pa_cons pe_int pa_nil))))) (pe_c C._law_draw hr (by decide) rfl (pa_cons (pv 0) (pa_cons pe_int pa_nil))) (fun _ _ => rfl)))
  (pss_cons (ps_set (i := 5) nd rfl (by first | exact Or.inl rfl | exact Or.inr rfl) (pe_op uMul (pe_ix (kIx K rfl) (pv 2) (pe_c C._law_draw hr (by decide) rfl (pa_cons (pv 0) (pa_cons pe_int pa_nil))) (fun _ _ => rfl)) (pe_ix (kIx K rfl) (pe_lst (pa_cons pe_int (pa_cons pe_int (pa_cons pe_int (pa_cons pe_int pa_nil))))) (pe_c C._law_draw hr (by decide) rfl (pa_cons (pv 0) (pa_cons pe_int pa_nil))) (fun _ _ => rfl))))
  (pss_cons (ps_set (i := 6) nd rfl (by first | exact Or.inl rfl | exact Or.inr rfl) (pe_c C._law_draw hr (by decide) rfl (pa_cons (pv 0) (pa_cons (pe_op (kAdd K rfl) (pe_callB (kLen K rfl) (by rfl) B.len bb_len (pa_cons (pv 5) pa_nil)) pe_int) pa_nil))))
  (pss_cons (ps_set (i := 7) nd rfl (by first | exact Or.inl rfl | exact Or.inr rfl) (pe_cmpR (kEq K rfl hr.u64) (pe_c C._law_draw hr (by decide) rfl (pa_cons (pv 0) (pa_cons pe_int pa_nil))) pe_int (nomark _)))
  (pss_cons (ps_set (i := 8) nd rfl (by first | exact Or.inl rfl | exact Or.inr rfl) (pe_lst pa_nil))
  (pss_cons (ps_for PassesOwn.never rfl (pi_range1 rfl B.range (pa_cons (pv 1) pa_nil)) (pg_name (i := 9) nd rfl (by first | exact Or.inl rfl | exact Or.inr rfl)) (pss_cons (ps_set (i := 10) nd rfl (by first | exact Or.inl rfl | exact Or.inr rfl) (pe_ix (kIx K rfl) (pv 2) (pe_op uMod (pe_op (kAdd K rfl) (pv 3) (pe_op uMul (pv 4) (pv 9))) pe_int) (fun _ _ => rfl)))
  (pss_one (ps_expr (pe_bm PySem.F.plainAttrs_list PySem.F.slot_list_append PySem.F.type_list_append mt_append (pv 8) (pa_cons (pe_ix (kIx K rfl) (pe_lst (pa_cons (pe_op (kAdd K rfl) (pe_op (kAdd K rfl) (pe_slice (kSl K rfl) (pv 5) po_none (po_some (pv 6))) (pv 10)) (pe_slice (kSl K rfl) (pv 5) (po_some (pv 6)) po_none)) (pa_cons (pv 10) pa_nil))) (pe_callTy cInt (by rfl) B.int bb_int (pa_cons (pe_and (pv 7) (pe_one (pe_cmpR (kEq K rfl hr.u64) (pe_op uMod (pv 9) pe_int) pe_int (nomark _)))) pa_nil)) (fun _ _ => rfl)) pa_nil))))))
  (pss_one (ps_ret (pe_callB (kSorted K rfl hr.u64) (by rfl) B.sorted bb_sorted (pa_cons (pv 8) pa_nil)))))))))))), ?_⟩
    wtm_at "rd"
    refine use_draw hp (by decide) (by decide) fun b H1 b0 b1 g1 => ?_
    wtm_at "rd"
    intro t2 f2
    have g2 := g1.new (o := .lst [.int 1, .int 3, .int 5, .int 7]) f2
    wtm_at "rd"
    refine use_draw g2.pool (by decide) (by decide) fun r H3 r0 r1 g => ?_
    have h3 := g.at upd_same (g1.pool.ne f2).symm
    have g3 := g2.trans g
    clear g
    obtain ⟨sp, hsp, isp⟩ := pick4 (a := 1) (b := 3) (c := 5) (d := 7) r0 r1
    refine rd_ixL (SqL.of h3) hsp ?_
    wtm_at "rd"
    refine use_draw g3.pool (by decide) (by decide) fun d H4 d0 d1 g => ?_
    have g4 := g3.trans g
    clear g
    refine rd_ixS letters_len (letters_at d0 d1) ?_
    wtm_at "rd"
    intro t5 f5
    have g5 := g4.new (o := .lst [.int 0, .int 1, .int 3, .int 7]) f5
    wtm_at "rd"
    refine use_draw g5.pool (by decide) (by decide) fun r6 H6 r60 r61 g => ?_
    have h6 := g.at upd_same (g4.pool.ne f5).symm
    have g6 := g5.trans g
    clear g
    obtain ⟨n, hn, isn⟩ := pick4 (a := 0) (b := 1) (c := 3) (d := 7) r60 r61
    refine rd_ixL (SqL.of h6) hn ?_
    -- the tail
    have n0 : 0 ≤ n ∧ n ≤ 7 := by omega
    have et : timesS ⟨#[97 + d.toNat]⟩ n = ⟨(List.replicate n.toNat (97 + d.toNat)).toArray⟩ := by
      unfold timesS
      congr 2
      generalize n.toNat = m
      induction m with
      | zero => rfl
      | succ m ih =>
        rw [List.replicate_succ, List.flatten_cons, ih]
        rfl
    refine ⟨⟨n0.1, by omega, by show 1 ≤ 1000; decide⟩, ?_⟩
    rw [et]
    have tl : (⟨(List.replicate n.toNat (97 + d.toNat)).toArray⟩ : Str).length = n.toNat := by simp [Str.length]
    wtm_at "rd"
    refine rd_lenS (by rw [tl]; omega) ?_
    rw [tl]
    wtm_at "rd"
    refine use_draw g6.pool (by omega) (by omega) fun a H7 a0 a1 g => ?_
    have g7 := g6.trans g
    clear g
    wtm_at "rd"
    refine use_draw g7.pool (by decide) (by decide) fun m H8 m0' m1' g => ?_
    have g8 := g7.trans g
    clear g
    wtm_at "rd"
    intro l fl
    have nl := g8.pool.ne fl
    have fl0 := g8.free _ fl
    have g9 := g8.new (o := .lst []) fl
    wtm_at "rd"
    generalize hmb : decide (m = 1) = mb
    generalize hT : (⟨(List.replicate n.toNat (97 + d.toNat)).toArray⟩ : Str) = T at *
    have nm : ∀ k : Nat, nameK b sp (List.replicate n.toNat (97 + d.toNat)) a.toNat mb k =
        if mb = true ∧ k % 2 = 1 then ⟨#[97 + ((b + sp * (k : Int)) % 26).toNat]⟩ else cutS T none (some a) ++ ⟨#[97 + ((b + sp * (k : Int)) % 26).toNat]⟩ ++ cutS T (some a) none := by
      intro k
      unfold nameK
      rw [← hT, cutS_to a0, cutS_from a0]
      split
      · rfl
      · show _ = (⟨(List.take a.toNat (List.replicate n.toNat (97 + d.toNat))).toArray⟩ : Str) ++ ⟨[97 + ((b + sp * (k : Int)) % 26).toNat].toArray⟩ ++ ⟨(List.drop a.toNat (List.replicate n.toNat (97 + d.toNat))).toArray⟩
        rw [str_app, str_app]
        rfl
    have hTl : T.length ≤ 7 := by rw [tl]; omega
    generalize hN : nameK b sp (List.replicate n.toNat (97 + d.toNat)) a.toNat mb = nk at *
    refine turnsR (fun i σ H1 => ∃ u1 u2, σ = [some (.ref p), some (.int many), some (.str (Str.ofString "abcdefghijklmnopqrstuvwxyz")), some (.int b), some (.int sp), some (.str T), some (.int a), some (.bl mb), some (.ref l), u1, u2] ∧
      Go p H H1 ∧ H1 l = some (.lst ((List.range i).map fun k => V.str (nk k)))) ⟨_, _, rfl, g9, upd_same⟩ ?_ ?_
    · rintro i σ H1 hi ⟨u1, u2, rfl, g, hl⟩
      wtm_at "rd"
      have ir : 0 ≤ (b + sp * (0 + (i : Int))) % 26 ∧ (b + sp * (0 + (i : Int))) % 26 < 26 := by omega
      refine rd_ixS letters_len (letters_at ir.1 ir.2) ?_
      wtm_at "rd"
      refine rd_tyL hl ?_
      wtm_at "rd"
      refine rd_slS (by omega) ?_
      wtm_at "rd"
      have e0 : (0 + (i : Int)) = (i : Int) := Int.zero_add _
      rw [e0]
      have cut1 : (cutS T none (some a)).length ≤ 7 := by
        have := congrArg List.length (congrArg (fun z : Str => z.cps.toList) (cutS_to (z := T) a0))
        simp only [List.length_take] at this
        simp only [Str.length] at hTl ⊢
        simp only [Array.length_toList] at this
        omega
      have cut2 : (cutS T (some a) none).length ≤ 7 := by
        have := congrArg List.length (congrArg (fun z : Str => z.cps.toList) (cutS_from (z := T) a0))
        simp only [List.length_drop] at this
        simp only [Str.length] at hTl ⊢
        simp only [Array.length_toList] at this
        omega
      generalize hc : (⟨#[97 + ((b + sp * (i : Int)) % 26).toNat]⟩ : Str) = ch
      have chl : ch.length = 1 := by rw [← hc]; rfl
      refine rd_addS (Nat.le_trans (Nat.add_le_add cut1 (Nat.le_of_eq chl)) (by decide)) ?_
      wtm_at "rd"
      refine rd_slS (by omega) ?_
      wtm_at "rd"
      have cut3 : (cutS T none (some a) ++ ch).length ≤ 8 := by
        have : (cutS T none (some a) ++ ch).length = (cutS T none (some a)).length + ch.length := by
          show ((cutS T none (some a)).cps ++ ch.cps).size = _
          rw [Array.size_append]
          rfl
        omega
      refine rd_addS (Nat.le_trans (Nat.add_le_add cut3 cut2) (by decide)) ?_
      wtm_at "rd"
      intro t ft
      have nt : l ≠ t := ne_of_none hl ft
      wtm_at "rd"
      have hl2 := at_upd (o := .lst [.str (cutS T none (some a) ++ ch ++ cutS T (some a) none), .str ch]) nt hl
      have g' := g.new (o := .lst [.str (cutS T none (some a) ++ ch ++ cutS T (some a) none), .str ch]) ft
      have len : ((List.range i).map fun k => V.str (nk k)).length < 100000 := by
        rw [List.length_map, List.length_range]
        omega
      have fin : ∀ z : Str, z = nk i → Go p H (upd (upd H1 t (.lst [.str (cutS T none (some a) ++ ch ++ cutS T (some a) none), .str ch])) l (.lst (((List.range i).map fun k => V.str (nk k)) ++ [.str z]))) ∧
          (upd (upd H1 t (.lst [.str (cutS T none (some a) ++ ch ++ cutS T (some a) none), .str ch])) l (.lst (((List.range i).map fun k => V.str (nk k)) ++ [.str z]))) l = some (.lst ((List.range (i + 1)).map fun k => V.str (nk k))) := by
        rintro z rfl
        refine ⟨g'.put fl0 nl, ?_⟩
        rw [upd_same, List.range_succ, List.map_append]
        rfl
      have ne := nm i
      rw [hc] at ne
      refine rd_b (fun c => ?_) (fun c => ?_)
      · wtm_at "rd"
        refine rd_ixL (SqL.of upd_same) (bToI_pick _) ?_
        wtm_at "rd"
        have z : (if decide ((i : Int) % 2 = 1) = true then V.str ch else V.str (cutS T none (some a) ++ ch ++ cutS T (some a) none)) = V.str (nk i) := by
          rw [ne]
          by_cases h : i % 2 = 1
          · rw [if_pos (decide_eq_true (by omega)), if_pos ⟨c, h⟩]
          · rw [if_neg (by rw [decide_eq_true_eq]; omega), if_neg (fun z => h z.2)]
        rw [z]
        refine rd_append hl2 len ?_
        exact ⟨_, _, rfl, (fin _ rfl).1, (fin _ rfl).2⟩
      · wtm_at "rd"
        refine rd_ixL (SqL.of upd_same) (bToI_pick _) ?_
        wtm_at "rd"
        have z : (if false = true then V.str ch else V.str (cutS T none (some a) ++ ch ++ cutS T (some a) none)) = V.str (nk i) := by
          rw [ne, if_neg Bool.false_ne_true, if_neg (fun z => by rw [c] at z; exact Bool.false_ne_true z.1)]
        rw [z]
        refine rd_append hl2 len ?_
        exact ⟨_, _, rfl, (fin _ rfl).1, (fin _ rfl).2⟩
    · rintro σ H1 ⟨u1, u2, rfl, g, hl⟩
      wtm_at "rd"
      refine rd_sortS (xs := (List.range many.toNat).map nk) (SqL.of (by rw [List.map_map]; exact hl)) (by rw [List.length_map, List.length_range]; omega) ?_
      intro ys py sy l2 fl2
      have nd2 : ((List.range many.toNat).map nk).Nodup := by
        rw [← hN]
        exact names_nodup (by omega) isp (by omega)
      have nu : NamesU ((List.range many.toNat).map nk) := ⟨nd2, fun y hy => by
        obtain ⟨k, _, rfl⟩ := List.mem_map.mp hy
        rw [← hN]
        exact nameK_ok (by omega) (by omega) (by omega)⟩
      have nu2 := nu.perm py
      exact q l2 ys _ (g.new fl2) (g.free _ fl2) upd_same ⟨asc_of_sorted sy nu2.nd, nu2.ok⟩ (by rw [py.length_eq, List.length_map, List.length_range])
end
end Law

namespace Law
open PySem PySem.Spec PyProof.Rows L2 U
local macro_rules | `(tactic| wtm_at "rd1") => `(tactic| first
  | with_reducible refine rd_seq ?_
  | ((with_reducible refine rd_var (v := ?vv) ?hv ?_); (case hv => exact rfl))
  | with_reducible refine rd_c ?_
  | with_reducible refine rd_cons ?_
  | with_reducible refine rd_nil ?_
  | with_reducible refine rd_op ?_
  | with_reducible refine rd_asg ?_
  | with_reducible refine rd_name ?_
  | with_reducible refine rd_c1 ?_
  | with_reducible refine rd_cb ?_
  | with_reducible refine rd_test ?_
  | with_reducible refine rd_B ?_
  | with_reducible refine rd_bl ?_
  | with_reducible refine rd_if ?_
  | with_reducible refine rd_ret ?_
  | with_reducible refine rd_drop ?_
  | with_reducible refine rd_next ?_
  | with_reducible refine rd_addI ?_
  | with_reducible refine rd_ltI ?_
  | with_reducible refine rd_eqI ?_
  | with_reducible refine rd_neI ?_
  | with_reducible refine rd_eqS ?_
  | with_reducible refine rd_neS ?_
  | with_reducible refine rd_gtI ?_
  | with_reducible refine rd_geI ?_
  | with_reducible refine rd_leI ?_
  | with_reducible refine rd_ltS ?_
  | with_reducible refine rd_subI ?_
  | ((with_reducible refine rd_modI ?hc ?_); (case hc => first | decide | omega))
  | ((with_reducible refine rd_mulI ?hc ?_); (case hc => first | exact mul_bI | exact .inl (.inr (by decide)) | exact .inl (.inl (by decide)) | exact .inl (.inr (by omega)) | exact .inl (.inl (by omega))))
  | ((with_reducible refine rd_divI ?hc ?_); (case hc => first | decide | omega))
  | ((with_reducible refine rd_powI ?hc ?_); (case hc => exact ⟨by decide, by decide, by decide⟩))
  | with_reducible refine rd_lst ?_
  | with_reducible refine rd_tup ?_
  | ((with_reducible refine rd_sz ?hv ?_); (case hv => exact rfl))
  | with_reducible refine rd_and ?_
  | with_reducible refine rd_or ?_
  | with_reducible refine rd_not ?_
  | with_reducible refine rd_andV ?_
  | with_reducible refine rd_orV ?_
  | with_reducible refine rd_notV ?_
  | with_reducible refine rd_ifE ?_
  | with_reducible refine rd_T ?_
  | with_reducible refine rd_F ?_
  | with_reducible refine rd_chain ?_
  | with_reducible refine rd_is ?_
  | with_reducible refine rd_isNot ?_
  | with_reducible refine rd_absI ?_
  | with_reducible refine rd_maxI ?_
  | with_reducible refine rd_minI ?_
  | with_reducible refine rd_intI ?_
  | with_reducible refine rd_intB ?_
  | with_reducible refine rd_sub ?_
  | with_reducible refine rd_sl ?_
  | with_reducible refine rd_noPart ?_
  | with_reducible refine rd_part ?_
  | with_reducible refine rd_exI ?_
  | with_reducible refine rd_bm ?_
  | with_reducible refine rd_bm0 ?_
  | with_reducible refine rd_un ?_
  | with_reducible refine rd_neg ?_
  | with_reducible refine rd_c2 ?_
  | with_reducible refine rd_retN ?_
  | with_reducible refine rd_break ?_
  | with_reducible refine rd_cont ?_
  | with_reducible refine rd_for ?_
  | with_reducible refine rd_rng1 ?_
  | with_reducible refine rd_rng2 ?_
  | with_reducible refine rd_iList ?_
  | with_reducible refine rd_iTup ?_
  | with_reducible refine rd_iEnum ?_
  | ((with_reducible refine rd_forR ?h0 ?h1 ?_); (case h0 => omega); (case h1 => omega))
  | with_reducible refine rd_lc ?_
  | with_reducible refine rd_gcons ?_
  | with_reducible refine rd_gnil ?_
  | with_reducible refine rd_dget ?_
  | with_reducible refine rd_dput ?_
  | with_reducible refine rd_dnew ?_
  | with_reducible refine rd_dc ?_
  | with_reducible refine rd_iItems ?_
  | with_reducible refine rd_iKeys ?_
  | with_reducible refine rd_din ?_
  | with_reducible refine rd_par ?_
  | with_reducible refine rd_two ?_
  | with_reducible refine rd_reprB ?_
  | with_reducible refine rd_ck ?_
  | ((with_reducible refine rd_len ?hl ?_); (case hl => exact rfl))
  | with_reducible refine rd_nT ?_
  | with_reducible refine rd_nF ?_
  | with_reducible refine rd_dnin ?_
  | with_reducible refine rd_isB ?_
  | with_reducible refine rd_isNotB ?_
  | with_reducible refine rd_daug ?_
  | with_reducible refine rd_yesT ?_
  | ((with_reducible refine rd_wp ?hw ?_); (case hw => exact rfl)))
local macro_rules | `(tactic| wtm_at "rd") => `(tactic| repeat wtm_at "rd1")

/-- the same names in another order -/
def spShuf (K : PySem.W.Frag) : Sp := fun vs H Q _ => ∃ (p src : Addr) (xs : List Str), vs = [.ref p, .ref src] ∧ PoolAt H p ∧ H src = some (.lst (xs.map V.str)) ∧ (∀ x ∈ xs, PyData.strOk x = true) ∧ xs.length ≤ 1000 ∧
  ∀ (l : Addr) (ys : List Str) (H' : Hp), Go p H H' → H l = none → H' l = some (.lst (ys.map V.str)) → ys.Perm xs → Q (.ref l) H'
def spEdgeOf : Sp := fun vs H Q _ => ∃ x y : Str, vs = [.str x, .str y] ∧ ∀ t, H t = none → Q (.ref t) (upd H t (.tup (if sLt x y then [.str x, .str y] else [.str y, .str x])))
def spWants : Sp := fun vs H Q _ => ∃ (p : Addr) (kind a b m : Int), vs = [.ref p, .int kind, .int a, .int b, .int m] ∧ PoolAt H p ∧ 0 ≤ kind ∧ kind ≤ 10 ∧ ∀ (r : Bool) (H' : Hp), Go p H H' → Q (.bl r) H'
section
variable {P : Program} {w : World} {K : PySem.W.Frag} {mg : Str → Option Value} {base : Heap}
theorem ok_shuffle {f : Addr} {fd : FuncData} (F : Fun K "_law_shuffle" "_law_shuffle" s__law_shuffle f fd) (B : Bt mg) (C : C1 P w K mg base) : FnG P w K mg base CX0 2 f fd ["_law_pool_here", "_law_some"] (spShuf K) := by
  refine fnG0 F sc__law_shuffle (fun vs H Q E h => ?_) (fun cdv A outer s H vs Q E hr h => ?_)
  · obtain ⟨p, src, xs, rfl, _⟩ := h
    rfl
  · obtain ⟨p, src, xs, rfl, hp, hs, ok, hz, q⟩ := h
    have nd := sc__law_shuffle.nd
    refine ⟨_, (pss_cons (ps_set (i := 2) nd rfl (by first | exact Or.inl rfl | exact Or.inr rfl) (pe_callTy (kList K rfl rfl) (by rfl) B.list bb_list (pa_cons (pv 1) pa_nil)))
  (pss_cons (ps_set (i := 3) nd rfl (by first | exact Or.inl rfl | exact Or.inr rfl) (pe_lst pa_nil))
  (pss_cons (ps_while PassesOwn.never (pt_cmpR (kNe K rfl hr.u64) (pv 2) (pe_lst pa_nil) (nomark _)) (pss_one (ps_expr (pe_bm PySem.F.plainAttrs_list PySem.F.slot_list_append PySem.F.type_list_append mt_append (pv 3) (pa_cons (pe_bm PySem.F.plainAttrs_list PySem.F.slot_list_pop PySem.F.type_list_pop mt_popAt (pv 2) (pa_cons (pe_c C._law_draw hr (by decide) rfl (pa_cons (pv 0) (pa_cons (pe_callB (kLen K rfl) (by rfl) B.len bb_len (pa_cons (pv 2) pa_nil)) pa_nil))) pa_nil)) pa_nil)))))
  (pss_one (ps_ret (pv 3)))))), ?_⟩
    wtm_at "rd"
    refine rd_listL (SqL.of hs) ?_
    intro a fa
    have g1 := (Go.refl hp).new (o := .lst (xs.map V.str)) fa
    have na := hp.ne fa
    wtm_at "rd"
    intro l fl
    have g2 := g1.new (o := .lst []) fl
    have fl0 := g1.free _ fl
    have nl := g1.pool.ne fl
    have nla := new_ne fl
    wtm_at "rd"
    refine ⟨fun m σ H1 => ∃ zs ys : List Str, m = zs.length ∧ σ = [some (.ref p), some (.ref src), some (.ref a), some (.ref l)] ∧ Go p H H1 ∧ H1 a = some (.lst (zs.map V.str)) ∧ H1 l = some (.lst (ys.map V.str)) ∧ (ys ++ zs).Perm xs,
      ⟨_, xs, [], rfl, rfl, g2, at_upd (Ne.symm nla) upd_same, upd_same, .refl _⟩, ?_⟩
    rintro m σ H1 ⟨zs, ys, rfl, rfl, g, ha, hl, pm⟩
    have lz := pm.length_eq
    rw [List.length_append] at lz
    wtm_at "rd"
    intro t ft
    have g3 := g.new (o := .lst []) ft
    refine rd_neNil (SqL.of (at_upd (ne_of_none ha ft) ha)) (SqL.of upd_same) (fun x hx => ok x (pm.mem_iff.mp (List.mem_append_right _ hx))) ?_
    wtm_at "rd"
    refine rd_b (fun c => ?_) (fun c => ?_)
    · have hz0 : 0 < zs.length := by
        cases zs with
        | nil => cases c
        | cons _ _ => simp
      refine ⟨fun σ' H' => ∃ zs' ys' : List Str, zs'.length < zs.length ∧ σ' = [some (.ref p), some (.ref src), some (.ref a), some (.ref l)] ∧ Go p H H' ∧ H' a = some (.lst (zs'.map V.str)) ∧ H' l = some (.lst (ys'.map V.str)) ∧ (ys' ++ zs').Perm xs,
        fun σ' H' ⟨zs', ys', h1, h2⟩ => ⟨_, h1, zs', ys', rfl, h2⟩, ?_⟩
      wtm_at "rd"
      refine rd_tyL (at_upd (ne_of_none hl ft) hl) ?_
      wtm_at "rd"
      refine rd_tyL (at_upd (ne_of_none ha ft) ha) ?_
      wtm_at "rd"
      refine rd_lenL (SqL.of (at_upd (ne_of_none ha ft) ha)) ?_
      rw [List.length_map]
      wtm_at "rd"
      refine use_draw g3.pool (by omega) (by omega) fun r H2 r0 r1 g => ?_
      have ha2 := g.at (at_upd (ne_of_none ha ft) ha) (Ne.symm na)
      have hl2 := g.at (at_upd (ne_of_none hl ft) hl) (Ne.symm nl)
      have g4 := g3.trans g
      clear g
      wtm_at "rd"
      have hr2 : r.toNat < zs.length := by omega
      refine rd_popAt ha2 r0 rfl (by rw [List.length_map]; omega) (v := .str zs[r.toNat]) (by rw [List.getElem?_map, List.getElem?_eq_getElem hr2]; rfl) ?_
      have hl3 := at_upd (o := .lst ((zs.map V.str).eraseIdx r.toNat)) (nla) hl2
      have g5 := g4.put (o := .lst ((zs.map V.str).eraseIdx r.toNat)) fa na
      wtm_at "rd"
      refine rd_append hl3 (by rw [List.length_map]; omega) ?_
      have g6 := g5.put (o := .lst (ys.map V.str ++ [.str zs[r.toNat]])) fl0 nl
      refine ⟨zs.eraseIdx r.toNat, ys ++ [zs[r.toNat]], ?_, rfl, g6, ?_, ?_, ?_⟩
      · rw [List.length_eraseIdx_of_lt hr2]
        omega
      · rw [upd_ne (Ne.symm nla), upd_same, erase_map]
      · rw [upd_same, List.map_append]
        rfl
      · refine List.Perm.trans ?_ pm
        rw [List.append_assoc]
        refine List.Perm.append_left _ ?_
        exact erase_perm hr2
    · have e : zs = [] := by
        cases zs with
        | nil => rfl
        | cons _ _ => cases c
      subst e
      rw [List.append_nil] at pm
      wtm_at "rd"
      exact q l ys _ g3 fl0 (at_upd (ne_of_none hl ft) hl) pm
theorem ok_edge_of {f : Addr} {fd : FuncData} (F : Fun K "_law_edge_of" "_law_edge_of" s__law_edge_of f fd) (B : Bt mg) : FnG P w K mg base CX0 1 f fd ["_law_one", "_law_other"] spEdgeOf := by
  refine fnG0 F sc__law_edge_of (fun vs H Q E h => ?_) (fun cdv A outer s H vs Q E hr h => ?_)
  · obtain ⟨x, y, rfl, _⟩ := h
    rfl
  · obtain ⟨x, y, rfl, q⟩ := h
    have nd := sc__law_edge_of.nd
    refine ⟨_, (pss_cons (ps_if (pt_cmpR uLt (pv 0) (pv 1) (nomark _)) (pss_one (ps_ret (pe_tup (pa_cons (pv 0) (pa_cons (pv 1) pa_nil))))) pss_nil)
  (pss_one (ps_ret (pe_tup (pa_cons (pv 1) (pa_cons (pv 0) pa_nil)))))), ?_⟩
    wtm_at "rd"
    refine rd_split (fun c => ?_) (fun c => ?_)
    · have c : sLt x y := c
      rw [if_pos c] at q
      wtm_at "rd"
      exact fun t ft => q t ft
    · have c : ¬ sLt x y := c
      rw [if_neg c] at q
      wtm_at "rd"
      exact fun t ft => q t ft
theorem ok_wants {f : Addr} {fd : FuncData} (F : Fun K "_law_wants_edge" "_law_wants_edge" s__law_wants_edge f fd) (B : Bt mg) (C : C1 P w K mg base) : FnG P w K mg base CX0 2 f fd ["_law_pool_here", "_law_kind", "_law_at", "_law_position", "_law_many"] spWants := by
  refine fnG0 F sc__law_wants_edge (fun vs H Q E h => ?_) (fun cdv A outer s H vs Q E hr h => ?_)
  · obtain ⟨p, k, a, b, m, rfl, _⟩ := h
    rfl
  · obtain ⟨p, k, a, b, m, rfl, hp, k0, k1, q⟩ := h
    have nd := sc__law_wants_edge.nd
    refine ⟨_, (pss_cons (ps_if (pt_cmpR uLt (pv 1) pe_int (nomark _)) (pss_one (ps_ret (pe_cmpR (kEq K rfl hr.u64) (pe_c C._law_draw hr (by decide) rfl (pa_cons (pv 0) (pa_cons (pe_op (kAdd K rfl) pe_int (pe_op uMul pe_int (pv 1))) pa_nil))) pe_int (nomark _)))) pss_nil)
  (pss_cons (ps_if (PW.pt (pw_or (pt_cmpR (kEq K rfl hr.u64) (pe_op uSub (pv 2) (pv 3)) pe_int (nomark _)) (pw_or1 (PW.pt (pw_and (pt_cmpR (kEq K rfl hr.u64) (pv 3) pe_int (nomark _)) (pw_and1 (pt_cmpR (kEq K rfl hr.u64) (pv 2) (pe_op uSub (pv 4) pe_int) (nomark _)))))))) (pss_one (ps_ret pe_bl)) pss_nil)
  (pss_one (ps_ret (pe_and (pe_cmpR uLt (pv 1) pe_int (nomark _)) (pe_one (pe_cmpR (kEq K rfl hr.u64) (pe_c C._law_draw hr (by decide) rfl (pa_cons (pv 0) (pa_cons pe_int pa_nil))) pe_int (nomark _)))))))), ?_⟩
    wtm_at "rd"
    refine rd_split (fun c => ?_) (fun c => ?_)
    · wtm_at "rd"
      refine use_draw hp (by omega) (by omega) fun r H2 r0 r1 g => ?_
      wtm_at "rd"
      exact q _ _ g
    · wtm_at "rd"
      refine rd_split (fun c => ?_) (fun c => ?_)
      · wtm_at "rd"
        exact q _ _ (Go.refl hp)
      · wtm_at "rd"
        refine rd_split (fun c => ?_) (fun c => ?_)
        · wtm_at "rd"
          refine rd_split (fun c => ?_) (fun c => ?_)
          · wtm_at "rd"
            exact q _ _ (Go.refl hp)
          · wtm_at "rd"
            refine rd_split (fun c => ?_) (fun c => ?_)
            · wtm_at "rd"
              refine use_draw hp (by decide) (by decide) fun r H2 r0 r1 g => ?_
              wtm_at "rd"
              exact q _ _ g
            · wtm_at "rd"
              exact q _ _ (Go.refl hp)
        · wtm_at "rd"
          refine rd_split (fun c => ?_) (fun c => ?_)
          · wtm_at "rd"
            refine use_draw hp (by decide) (by decide) fun r H2 r0 r1 g => ?_
            wtm_at "rd"
            exact q _ _ g
          · wtm_at "rd"
            exact q _ _ (Go.refl hp)
end
end Law

namespace Law
open PySem PySem.Spec PyProof.Rows L2 U
local macro_rules | `(tactic| wtm_at "rd1") => `(tactic| first
  | with_reducible refine rd_seq ?_
  | ((with_reducible refine rd_var (v := ?vv) ?hv ?_); (case hv => exact rfl))
  | with_reducible refine rd_c ?_
  | with_reducible refine rd_cons ?_
  | with_reducible refine rd_nil ?_
  | with_reducible refine rd_op ?_
  | with_reducible refine rd_asg ?_
  | with_reducible refine rd_name ?_
  | with_reducible refine rd_c1 ?_
  | with_reducible refine rd_cb ?_
  | with_reducible refine rd_test ?_
  | with_reducible refine rd_B ?_
  | with_reducible refine rd_bl ?_
  | with_reducible refine rd_if ?_
  | with_reducible refine rd_ret ?_
  | with_reducible refine rd_drop ?_
  | with_reducible refine rd_next ?_
  | with_reducible refine rd_addI ?_
  | with_reducible refine rd_ltI ?_
  | with_reducible refine rd_eqI ?_
  | with_reducible refine rd_neI ?_
  | with_reducible refine rd_eqS ?_
  | with_reducible refine rd_neS ?_
  | with_reducible refine rd_gtI ?_
  | with_reducible refine rd_geI ?_
  | with_reducible refine rd_leI ?_
  | with_reducible refine rd_ltS ?_
  | with_reducible refine rd_subI ?_
  | ((with_reducible refine rd_modI ?hc ?_); (case hc => first | decide | omega))
  | ((with_reducible refine rd_mulI ?hc ?_); (case hc => first | exact mul_bI | exact .inl (.inr (by decide)) | exact .inl (.inl (by decide)) | exact .inl (.inr (by omega)) | exact .inl (.inl (by omega))))
  | ((with_reducible refine rd_divI ?hc ?_); (case hc => first | decide | omega))
  | ((with_reducible refine rd_powI ?hc ?_); (case hc => exact ⟨by decide, by decide, by decide⟩))
  | with_reducible refine rd_lst ?_
  | with_reducible refine rd_tup ?_
  | ((with_reducible refine rd_sz ?hv ?_); (case hv => exact rfl))
  | with_reducible refine rd_and ?_
  | with_reducible refine rd_or ?_
  | with_reducible refine rd_not ?_
  | with_reducible refine rd_andV ?_
  | with_reducible refine rd_orV ?_
  | with_reducible refine rd_notV ?_
  | with_reducible refine rd_ifE ?_
  | with_reducible refine rd_T ?_
  | with_reducible refine rd_F ?_
  | with_reducible refine rd_chain ?_
  | with_reducible refine rd_is ?_
  | with_reducible refine rd_isNot ?_
  | with_reducible refine rd_absI ?_
  | with_reducible refine rd_maxI ?_
  | with_reducible refine rd_minI ?_
  | with_reducible refine rd_intI ?_
  | with_reducible refine rd_intB ?_
  | with_reducible refine rd_sub ?_
  | with_reducible refine rd_sl ?_
  | with_reducible refine rd_noPart ?_
  | with_reducible refine rd_part ?_
  | with_reducible refine rd_exI ?_
  | with_reducible refine rd_bm ?_
  | with_reducible refine rd_bm0 ?_
  | with_reducible refine rd_un ?_
  | with_reducible refine rd_neg ?_
  | with_reducible refine rd_c2 ?_
  | with_reducible refine rd_retN ?_
  | with_reducible refine rd_break ?_
  | with_reducible refine rd_cont ?_
  | with_reducible refine rd_for ?_
  | with_reducible refine rd_rng1 ?_
  | with_reducible refine rd_rng2 ?_
  | with_reducible refine rd_iList ?_
  | with_reducible refine rd_iTup ?_
  | with_reducible refine rd_iEnum ?_
  | ((with_reducible refine rd_forR ?h0 ?h1 ?_); (case h0 => omega); (case h1 => omega))
  | with_reducible refine rd_lc ?_
  | with_reducible refine rd_gcons ?_
  | with_reducible refine rd_gnil ?_
  | with_reducible refine rd_dget ?_
  | with_reducible refine rd_dput ?_
  | with_reducible refine rd_dnew ?_
  | with_reducible refine rd_dc ?_
  | with_reducible refine rd_iItems ?_
  | with_reducible refine rd_iKeys ?_
  | with_reducible refine rd_din ?_
  | with_reducible refine rd_par ?_
  | with_reducible refine rd_two ?_
  | with_reducible refine rd_reprB ?_
  | with_reducible refine rd_ck ?_
  | ((with_reducible refine rd_len ?hl ?_); (case hl => exact rfl))
  | with_reducible refine rd_nT ?_
  | with_reducible refine rd_nF ?_
  | with_reducible refine rd_dnin ?_
  | with_reducible refine rd_isB ?_
  | with_reducible refine rd_isNotB ?_
  | with_reducible refine rd_daug ?_
  | with_reducible refine rd_yesT ?_
  | ((with_reducible refine rd_wp ?hw ?_); (case hw => exact rfl)))
local macro_rules | `(tactic| wtm_at "rd") => `(tactic| repeat wtm_at "rd1")

/-- a new graph and a state of it -/
def spGraph : Sp := fun vs H Q _ => ∃ (p : Addr) (most : Int), vs = [.ref p, .int most] ∧ PoolAt H p ∧ 1 ≤ most ∧ most ≤ 25 ∧
  ∀ (t g n e st : Addr) (ns ord : List Str) (es : List (Addr × Str × Str)) (ws : List (Str × Int)) (H' : Hp), Go p H H' → H' t = some (.tup [.ref g, .ref st]) → GrAt H' g n e ns es → H' st = some (.dK (kvsOf ws)) →
    H g = none → H st = none → 1 ≤ ns.length → ns.length ≤ most.toNat → GrOk ns (es.map (·.2)) → ord.Perm ns → StOk ord ws → (∀ x ∈ es, numOf ws x.2.1 ≠ numOf ws x.2.2) → es.length ≤ 1000 → H t = none → Q (.ref t) H'
theorem PoolAt.offT {H : Hp} {p q : Addr} {xs : List V} (h : PoolAt H p) (hq : H q = some (.tup xs)) : q ≠ p := by
  rintro rfl
  obtain ⟨ys, h⟩ := h.isL
  rw [hq] at h
  cases h
theorem PoolAt.offD {H : Hp} {p q : Addr} {xs : List (Key × V)} (h : PoolAt H p) (hq : H q = some (.dK xs)) : q ≠ p := by
  rintro rfl
  obtain ⟨ys, h⟩ := h.isL
  rw [hq] at h
  cases h
/-- what stays while edges are found -/
structure GK (H : Hp) (p or st ed : Addr) (ord : List Str) (ws : List (Str × Int)) (es : List (Addr × Str × Str)) (H' : Hp) : Prop where
  go : Go p H H'
  ho : H' or = some (.lst (ord.map V.str))
  hs : H' st = some (.dK (kvsOf ws))
  he : H' ed = some (.lst (es.map fun x => V.ref x.1))
  pr : ∀ x ∈ es, H' x.1 = some (.tup [.str x.2.1, .str x.2.2])
theorem GK.new {H H' : Hp} {p or st ed t : Addr} {ord : List Str} {ws : List (Str × Int)} {es : List (Addr × Str × Str)} {o : HO} (h : GK H p or st ed ord ws es H') (n : H' t = none) : GK H p or st ed ord ws es (upd H' t o) :=
  ⟨h.go.new n, at_upd (ne_of_none h.ho n) h.ho, at_upd (ne_of_none h.hs n) h.hs, at_upd (ne_of_none h.he n) h.he, fun x hx => at_upd (ne_of_none (h.pr x hx) n) (h.pr x hx)⟩
theorem GK.step {H H' H2 : Hp} {p or st ed : Addr} {ord : List Str} {ws : List (Str × Int)} {es : List (Addr × Str × Str)} (h : GK H p or st ed ord ws es H') (no : or ≠ p) (ne : ed ≠ p) (g : Go p H' H2) : GK H p or st ed ord ws es H2 :=
  ⟨h.go.trans g, g.at h.ho no, g.at h.hs (h.go.pool.offD h.hs), g.at h.he ne, fun x hx => g.at (h.pr x hx) (h.go.pool.offT (h.pr x hx))⟩
theorem GK.add {H H' : Hp} {p or st ed t : Addr} {ord : List Str} {ws : List (Str × Int)} {es : List (Addr × Str × Str)} {e : Str × Str} (h : GK H p or st ed ord ws es H') (hf : H ed = none) (ne : ed ≠ p) (noe : or ≠ ed)
    (ht : H' t = some (.tup [.str e.1, .str e.2])) : GK H p or st ed ord ws (es ++ [(t, e)]) (upd H' ed (.lst ((es.map fun x => V.ref x.1) ++ [.ref t]))) := by
  have nt : ∀ {b : Addr} {xs : List V}, H' b = some (.tup xs) → b ≠ ed := fun {b xs} hb => ne_of hb h.he (by intro z; cases z)
  refine ⟨h.go.put hf (Ne.symm ne), at_upd noe h.ho, at_upd (ne_of h.hs h.he (by intro z; cases z)) h.hs, ?_, ?_⟩
  · rw [upd_same, List.map_append]
    rfl
  · intro x hx
    rcases List.mem_append.mp hx with hx | hx
    · exact at_upd (nt (h.pr x hx)) (h.pr x hx)
    · have : x = (t, e) := by simpa using hx
      subst this
      exact at_upd (nt ht) ht
section
variable {P : Program} {w : World} {K : PySem.W.Frag} {mg : Str → Option Value} {base : Heap}
structure C2 (P : Program) (w : World) (K : PySem.W.Frag) (mg : Str → Option Value) (base : Heap) : Prop where
  _law_draw : Cal P w K mg base CX0 1 "_law_draw" spDraw
  _law_draw_names : Cal P w K mg base CX0 2 "_law_draw_names" spNames
  _law_shuffle : Cal P w K mg base CX0 2 "_law_shuffle" (spShuf K)
  _law_edge_of : Cal P w K mg base CX0 1 "_law_edge_of" spEdgeOf
  _law_wants_edge : Cal P w K mg base CX0 2 "_law_wants_edge" spWants
theorem ok_draw_graph {f : Addr} {fd : FuncData} (F : Fun K "_law_draw_graph" "_law_draw_graph" s__law_draw_graph f fd) (B : Bt mg) (C : C2 P w K mg base) : FnG P w K mg base CX0 3 f fd ["_law_pool_here", "_law_most"] spGraph := by
  refine fnG0 F sc__law_draw_graph (fun vs H Q E h => ?_) (fun cdv A outer s H vs Q E hr h => ?_)
  · obtain ⟨p, most, rfl, _⟩ := h
    rfl
  · obtain ⟨p, most, rfl, hp, m0, m1, q⟩ := h
    have nd := sc__law_draw_graph.nd
    have hu := hr.u1
    refine ⟨_, (pss_cons (ps_set (i := 2) nd rfl (by first | exact Or.inl rfl | exact Or.inr rfl) (pe_c C._law_shuffle hr (by decide) rfl (pa_cons (pv 0) (pa_cons (pe_c C._law_draw_names hr (by decide) rfl (pa_cons (pv 0) (pa_cons (pe_op (kAdd K rfl) pe_int (pe_c C._law_draw hr (by decide) rfl (pa_cons (pv 0) (pa_cons (pv 1) pa_nil)))) pa_nil))) pa_nil))))
  (pss_cons (ps_set (i := 3) nd rfl (by first | exact Or.inl rfl | exact Or.inr rfl) (pe_c C._law_draw hr (by decide) rfl (pa_cons (pv 0) (pa_cons pe_int pa_nil))))
  (pss_cons (ps_set (i := 4) nd rfl (by first | exact Or.inl rfl | exact Or.inr rfl) pe_dnewK)
  (pss_cons (ps_set (i := 5) nd rfl (by first | exact Or.inl rfl | exact Or.inr rfl) pe_int)
  (pss_cons (ps_for PassesOwn.never rfl (ki_list K rfl (pv 2)) (pg_name (i := 6) nd rfl (by first | exact Or.inl rfl | exact Or.inr rfl)) (pss_cons (ps_set (i := 5) nd rfl (by first | exact Or.inl rfl | exact Or.inr rfl) (pe_op uMod (pe_op (kAdd K rfl) (pv 5) (pe_ix (kIx K rfl) (pe_lst (pa_cons (pe_c C._law_draw hr (by decide) rfl (pa_cons (pv 0) (pa_cons pe_int pa_nil))) (pa_cons (pe_op (kAdd K rfl) pe_int (pe_op uDiv (pe_c C._law_draw hr (by decide) rfl (pa_cons (pv 0) (pa_cons pe_int pa_nil))) pe_int)) pa_nil))) (pe_callTy cInt (by rfl) B.int bb_int (pa_cons (pe_cmpR uGt (pv 3) pe_int (nomark _)) pa_nil)) (fun _ _ => rfl))) pe_int))
  (pss_one (ps_dput hu (pv 4) (pv 6) (pv 5) rfl))))
  (pss_cons (ps_set (i := 7) nd rfl (by first | exact Or.inl rfl | exact Or.inr rfl) (pe_lst pa_nil))
  (pss_cons (ps_for PassesOwn.never rfl (pi_enum (by rfl) B.enumerate (pa_cons (pv 2) pa_nil)) (kg_tup (n := 2) K rfl rfl (pgs_cons (pg_name (i := 8) nd rfl (by first | exact Or.inl rfl | exact Or.inr rfl)) (pgs_cons (pg_name (i := 9) nd rfl (by first | exact Or.inl rfl | exact Or.inr rfl)) pgs_nil))) (pss_one (ps_for PassesOwn.never rfl (pi_enum (by rfl) B.enumerate (pa_cons (pe_slice (kSl K rfl) (pv 2) po_none (po_some (pv 8))) pa_nil)) (kg_tup (n := 2) K rfl rfl (pgs_cons (pg_name (i := 10) nd rfl (by first | exact Or.inl rfl | exact Or.inr rfl)) (pgs_cons (pg_name (i := 11) nd rfl (by first | exact Or.inl rfl | exact Or.inr rfl)) pgs_nil))) (pss_one (ps_if (PW.pt (pw_and (pt_cmpR (kNe K rfl hr.u64) (pe_dget hu (pv 4) (pv 9) (fun _ _ => rfl)) (pe_dget hu (pv 4) (pv 11) (fun _ _ => rfl)) (nomark _)) (pw_and1 (pt_val (pe_c C._law_wants_edge hr (by decide) rfl (pa_cons (pv 0) (pa_cons (pv 3) (pa_cons (pv 8) (pa_cons (pv 10) (pa_cons (pe_callB (kLen K rfl) (by rfl) B.len bb_len (pa_cons (pv 2) pa_nil)) pa_nil)))))))))) (pss_one (ps_expr (pe_bm PySem.F.plainAttrs_list PySem.F.slot_list_append PySem.F.type_list_append mt_append (pv 7) (pa_cons (pe_c C._law_edge_of hr (by decide) rfl (pa_cons (pv 9) (pa_cons (pv 11) pa_nil))) pa_nil)))) pss_nil)))))
  (pss_one (ps_ret (pe_tup (pa_cons (pe_tup (pa_cons (pe_callTy (kTuple K rfl) (by rfl) B.tuple bb_tuple (pa_cons (pe_callB (kSorted K rfl hr.u64) (by rfl) B.sorted bb_sorted (pa_cons (pv 2) pa_nil)) pa_nil)) (pa_cons (pe_callTy (kTuple K rfl) (by rfl) B.tuple bb_tuple (pa_cons (pe_callB (kSorted K rfl hr.u64) (by rfl) B.sorted bb_sorted (pa_cons (pv 7) pa_nil)) pa_nil)) pa_nil))) (pa_cons (pv 4) pa_nil)))))))))))), ?_⟩
    wtm_at "rd"
    refine use_draw hp (by omega) (by omega) fun r H1 r0 r1 g1 => ?_
    wtm_at "rd"
    refine ⟨p, 1 + r, rfl, by omega, by omega, g1.pool, fun l0 nm0 H2 g fl0 hl0 nm ln => ?_⟩
    have g2 := g1.trans g
    clear g
    wtm_at "rd"
    refine ⟨p, l0, nm0, rfl, g2.pool, hl0, (fun x hx => (nm.ok x hx).sok), by omega, fun or ord H3 g fo ho po => ?_⟩
    have no := g.pool.off ho
    have g3 := g2.trans g
    clear g
    have lno : ord.length = (1 + r).toNat := by rw [po.length_eq, ln]
    have nu : NamesU ord := nm.u.perm po
    wtm_at "rd"
    refine use_draw g3.pool (by decide) (by decide) fun kind H4 k0 k1 g => ?_
    have ho4 := g.at ho no
    have g4 := g3.trans g
    clear g
    wtm_at "rd"
    intro st fst
    have nos : or ≠ st := ne_of_none ho4 fst
    have ho5 := at_upd (o := .dK []) nos ho4
    have g5 := g4.new (o := .dK []) fst
    have nst := g4.pool.ne fst
    have fst0 := g4.free _ fst
    wtm_at "rd"
    refine rd_forL (SqL.of ho5) ?_
    refine turnsL (K := K) (xs := ord.map V.str) (fun i σ H' => ∃ (vl : Int) (ws : List (Str × Int)) (u : Option V), σ = [some (.ref p), some (.int most), some (.ref or), some (.int kind), some (.ref st), some (.int vl), u, none, none, none, none, none] ∧
      Go p H H' ∧ H' or = some (.lst (ord.map V.str)) ∧ H' st = some (.dK (kvsOf ws)) ∧ StOk (ord.take i) ws ∧ 0 ≤ vl ∧ vl < 3) ⟨0, [], none, rfl, g5, ho5, upd_same, StOk.nil, by decide, by decide⟩ ?_ ?_ ?_
    · rintro i σ H' hi ⟨vl, ws, u, rfl, g, h1, h2, h3⟩
      exact SqL.of h1
    · rintro i x σ H' hx ⟨vl, ws, u, rfl, g, h1, h2, h3, v0, v1⟩
      obtain ⟨hi, rfl⟩ := map_at hx
      wtm_at "rd"
      refine use_draw g.pool (by decide) (by decide) fun q1 Ha q10 q11 ga => ?_
      have h1a := ga.at h1 no
      have h2a := ga.at h2 (Ne.symm nst)
      have g := g.trans ga
      wtm_at "rd"
      refine use_draw g.pool (by decide) (by decide) fun q2 Hb q20 q21 gb => ?_
      have h1b := gb.at h1a no
      have h2b := gb.at h2a (Ne.symm nst)
      have g := g.trans gb
      wtm_at "rd"
      intro t ft
      have g := g.new (o := .lst [.int q1, .int (1 + q2 / 3)]) ft
      have h1c := at_upd (o := .lst [.int q1, .int (1 + q2 / 3)]) (ne_of_none h1b ft) h1b
      have h2c := at_upd (o := .lst [.int q1, .int (1 + q2 / 3)]) (ne_of_none h2b ft) h2b
      wtm_at "rd"
      refine rd_ixL (SqL.of upd_same) (bToI_pick _) ?_
      obtain ⟨z, hz⟩ : ∃ z, (if decide (1 < kind) = true then V.int (1 + q2 / 3) else V.int q1) = .int z := by split <;> exact ⟨_, rfl⟩
      rw [hz]
      wtm_at "rd"
      have lw : (kvsOf ws).length < 100000 := by
        have := congrArg List.length h3.key
        rw [List.length_map, List.length_take] at this
        rw [List.length_map]
        omega
      refine rd_dset h2c (k := .inr ord[i]) rfl lw ?_
      rw [put_kvs (h3.not nu.nd hi)]
      refine ⟨_, _, _, rfl, g.put fst0 nst, at_upd nos h1c, upd_same, h3.add hi (Int.emod_nonneg _ (by decide)) (Int.emod_lt_of_pos _ (by decide)), Int.emod_nonneg _ (by decide), Int.emod_lt_of_pos _ (by decide)⟩
    rintro σ H5 ⟨vl, ws, u, rfl, g, h1, h2, h3, v0, v1⟩
    rw [List.length_map, List.take_length] at h3
    clear g5 ho5 v0 v1
    wtm_at "rd"
    intro ed fed
    have noe : or ≠ ed := ne_of_none h1 fed
    have nse : st ≠ ed := ne_of_none h2 fed
    have npe := g.pool.ne fed
    have fed0 := g.free _ fed
    have g := g.new (o := .lst []) fed
    have h1 := at_upd (o := .lst []) noe h1
    have h2 := at_upd (o := .lst []) nse h2
    wtm_at "rd"
    refine rd_forE (SqL.of h1) ?_
    have gk : GK H p or st ed ord ws [] (upd H5 ed (.lst [])) := ⟨g, h1, h2, upd_same, fun x hx => nomatch hx⟩
    have nep : ed ≠ p := Ne.symm npe
    have EI0 : EdgesIn ord (numOf ws) 0 0 [] := ⟨by simp, fun x hx => nomatch hx⟩
    refine turnsW (walk_enum (K := K) (a := or) (xs := ord.map V.str)) (fun i σ H' => ∃ (es : List (Addr × Str × Str)) (u8 u9 u10 u11 : Option V), σ = [some (.ref p), some (.int most), some (.ref or), some (.int kind), some (.ref st), some (.int vl), u, some (.ref ed), u8, u9, u10, u11] ∧
      GK H p or st ed ord ws es H' ∧ EdgesIn ord (numOf ws) i 0 es ∧ es.length ≤ 30 * i) ⟨[], _, _, _, _, rfl, gk, EI0, by decide⟩ ?_ ?_ ?_
    · rintro i σ H' hi ⟨es, u8, u9, u10, u11, rfl, k, _⟩
      exact SqL.of k.ho
    · rintro i x σ H6 H7 hi ⟨es, u8, u9, u10, u11, rfl, k, ei, el⟩ ⟨T, x1, y1, rfl, fT, rfl, e1, e2⟩
      have hx := Option.some.inj e1
      subst hx
      obtain ⟨hio, rfl⟩ := map_at e2
      have k := k.new (o := .tup [.int (i : Nat), .str ord[i]]) fT
      refine rd_unp (SqT.of upd_same) rfl ?_
      wtm_at "rd"
      refine rd_slL (SqL.of k.ho) ?_
      rw [cutV_to (by rw [List.length_map]; omega), ← List.map_take]
      intro t2 ft2
      have n2e : t2 ≠ ed := Ne.symm (ne_of_none k.he ft2)
      have n2p : t2 ≠ p := Ne.symm (k.go.pool.ne ft2)
      have k := k.new (o := .lst ((ord.take i).map V.str)) ft2
      wtm_at "rd"
      refine rd_forE (SqL.of upd_same) ?_
      have lti : (ord.take i).length = i := by rw [List.length_take]; omega
      refine turnsW (walk_enum (K := K) (a := t2) (xs := (ord.take i).map V.str)) (fun j σ H' => ∃ (es : List (Addr × Str × Str)) (u10 u11 : Option V), σ = [some (.ref p), some (.int most), some (.ref or), some (.int kind), some (.ref st), some (.int vl), u, some (.ref ed), some (.int (i : Nat)), some (.str ord[i]), u10, u11] ∧
        GK H p or st ed ord ws es H' ∧ H' t2 = some (.lst ((ord.take i).map V.str)) ∧ EdgesIn ord (numOf ws) i j es ∧ es.length ≤ 30 * i + j) ⟨es, u10, u11, rfl, k, upd_same, ei, by omega⟩ ?_ ?_ ?_
      · rintro j σ H' hj ⟨es, u10, u11, rfl, k, h2, _⟩
        exact SqL.of h2
      · rintro j x σ H8 H9 hj ⟨es, u10, u11, rfl, k, ht2, ei, el⟩ ⟨T', x1, y1, rfl, fT', rfl, e1, e2⟩
        have hx := Option.some.inj e1
        subst hx
        obtain ⟨hjo, rfl⟩ := map_at e2
        have hji : j < i := by rw [lti] at hjo; exact hjo
        have hjo' : j < ord.length := by omega
        rw [List.getElem_take]
        have ht2 := at_upd (o := .tup [.int (j : Nat), .str ord[j]]) (ne_of_none ht2 fT') ht2
        have k := k.new (o := .tup [.int (j : Nat), .str ord[j]]) fT'
        refine rd_unp (SqT.of upd_same) rfl ?_
        wtm_at "rd"
        refine rd_dat (.inl k.hs) (h3.val (List.getElem_mem hio)) rfl ?_
        wtm_at "rd"
        refine rd_dat (.inl k.hs) (h3.val (List.getElem_mem hjo')) rfl ?_
        wtm_at "rd"
        refine rd_nsplit (fun c => ?_) (fun c => ?_)
        · wtm_at "rd"
          refine rd_lenL (SqL.of k.ho) ?_
          wtm_at "rd"
          refine ⟨p, kind, _, _, _, rfl, k.go.pool, k0, by omega, fun b H10 g => ?_⟩
          have k := k.step no nep g
          have ht2 := g.at ht2 n2p
          wtm_at "rd"
          refine rd_b (fun c2 => ?_) (fun c2 => ?_)
          · wtm_at "rd"
            refine rd_tyL k.he ?_
            wtm_at "rd"
            refine ⟨_, _, rfl, fun t ft => ?_⟩
            rw [eOf_pair]
            have k := k.new (o := .tup [.str (eOf ord[i] ord[j]).1, .str (eOf ord[i] ord[j]).2]) ft
            have ht2 := at_upd (o := .tup [.str (eOf ord[i] ord[j]).1, .str (eOf ord[i] ord[j]).2]) (ne_of_none ht2 ft) ht2
            wtm_at "rd"
            refine rd_append k.he (by rw [List.length_map]; omega) ?_
            refine ⟨_, _, _, rfl, k.add (e := eOf ord[i] ord[j]) fed0 nep noe upd_same, at_upd n2e ht2, ei.add nu.nd hji hio hjo' c, by rw [List.length_append]; simp only [List.length_singleton]; omega⟩
          · wtm_at "rd"
            exact ⟨_, _, _, rfl, k, ht2, ei.step (by omega), by omega⟩
        · wtm_at "rd"
          exact ⟨_, _, _, rfl, k, ht2, ei.step (by omega), by omega⟩
      · rintro σ H8 ⟨es, u10, u11, rfl, k, ht2, ei, el⟩
        rw [List.length_map, lti] at ei el
        exact ⟨_, _, _, _, _, rfl, k, ei.step (by omega), by omega⟩
    · rintro σ H6 ⟨es, u8, u9, u10, u11, rfl, k, ei, el⟩
      rw [List.length_map] at ei el
      wtm_at "rd"
      refine rd_sortS (SqL.of k.ho) (by omega) ?_
      intro ns pn sn l1 fl1
      have k := k.new (o := .lst (ns.map V.str)) fl1
      wtm_at "rd"
      refine rd_tupleL (SqL.of upd_same) ?_
      intro n fn
      have hn : upd (upd H6 l1 (.lst (ns.map V.str))) n (.tup (ns.map V.str)) n = some (.tup (ns.map V.str)) := upd_same
      have k := k.new (o := .tup (ns.map V.str)) fn
      wtm_at "rd"
      refine rd_sortE (SqL.of k.he) (fun x hx => SqT.of (k.pr x hx)) (by omega) ?_
      intro es2 pe se l2 fl2
      have hn := at_upd (o := .lst (es2.map fun x => V.ref x.1)) (ne_of_none hn fl2) hn
      have k := k.new (o := .lst (es2.map fun x => V.ref x.1)) fl2
      wtm_at "rd"
      refine rd_tupleL (SqL.of upd_same) ?_
      intro e fe
      have hn := at_upd (o := .tup (es2.map fun x => V.ref x.1)) (ne_of_none hn fe) hn
      have he := @upd_same (upd (upd (upd H6 l1 (.lst (ns.map V.str))) n (.tup (ns.map V.str))) l2 (.lst (es2.map fun x => V.ref x.1))) e (.tup (es2.map fun x => V.ref x.1))
      have k := k.new (o := .tup (es2.map fun x => V.ref x.1)) fe
      wtm_at "rd"
      intro g fg
      have fg0 := k.go.free _ fg
      have hn := at_upd (o := .tup [.ref n, .ref e]) (ne_of_none hn fg) hn
      have he := at_upd (o := .tup [.ref n, .ref e]) (ne_of_none he fg) he
      have hg := @upd_same (upd (upd (upd (upd H6 l1 (.lst (ns.map V.str))) n (.tup (ns.map V.str))) l2 (.lst (es2.map fun x => V.ref x.1))) e (.tup (es2.map fun x => V.ref x.1))) g (.tup [.ref n, .ref e])
      have k := k.new (o := .tup [.ref n, .ref e]) fg
      wtm_at "rd"
      intro t ft
      have hn := at_upd (o := .tup [.ref g, .ref st]) (ne_of_none hn ft) hn
      have he := at_upd (o := .tup [.ref g, .ref st]) (ne_of_none he ft) he
      have hg := at_upd (o := .tup [.ref g, .ref st]) (ne_of_none hg ft) hg
      have k0 := k
      have k := k.new (o := .tup [.ref g, .ref st]) ft
      have nn := nu.perm pn
      have pe2 : (es2.map (·.2)).Perm (es.map (·.2)) := pe.map _
      have inE : ∀ x ∈ es2, ∃ i' j', ∃ (hi : i' < ord.length) (hj : j' < ord.length), j' < i' ∧ x.2 = eOf ord[i'] ord[j'] ∧ numOf ws ord[i'] ≠ numOf ws ord[j'] := fun x hx => by
        obtain ⟨i', j', hi, hj, h1, _, h2, h3⟩ := ei.of x (pe.mem_iff.mp hx)
        exact ⟨i', j', hi, hj, h1, h2, h3⟩
      refine q t g n e st ns ord es2 ws _ k.go upd_same ⟨hg, hn, he, fun x hx => k.pr x (pe.mem_iff.mp hx)⟩ k.hs fg0 fst0 (by rw [pn.length_eq]; omega) (by rw [pn.length_eq]; omega) ⟨⟨asc_of_sorted sn nn.nd, nn.ok⟩, ?_, ?_, ?_⟩ pn.symm h3 ?_ (by rw [pe.length_eq]; omega) (k0.go.free _ ft)
      · refine ascE_of_sorted ?_ (pe2.nodup_iff.mpr ei.nd)
        rw [List.pairwise_map]
        exact se
      · intro y hy
        obtain ⟨x, hx, rfl⟩ := List.mem_map.mp hy
        obtain ⟨i', j', hi, hj, h1, h2, h3⟩ := inE x hx
        rw [h2]
        refine eOf_lt fun z => h3 (by rw [z])
      · intro y hy
        obtain ⟨x, hx, rfl⟩ := List.mem_map.mp hy
        obtain ⟨i', j', hi, hj, h1, h2, h3⟩ := inE x hx
        rw [h2]
        have m1 := pn.mem_iff.mpr (List.getElem_mem hi)
        have m2 := pn.mem_iff.mpr (List.getElem_mem hj)
        rcases eOf_cases ord[i'] ord[j'] with z | z <;> rw [z]
        · exact ⟨m1, m2⟩
        · exact ⟨m2, m1⟩
      · intro x hx
        obtain ⟨i', j', hi, hj, h1, h2, h3⟩ := inE x hx
        rw [h2]
        rcases eOf_cases ord[i'] ord[j'] with z | z <;> rw [z]
        · exact h3
        · exact Ne.symm h3
end
end Law

namespace Law
open PySem PySem.Spec PyProof.Rows L2 U
/-- a graph and a state of it stand -/
structure GSt (H : Hp) (g n e st : Addr) (ns ord : List Str) (es : List (Addr × Str × Str)) (f : Str → Int) : Prop where
  gr : GrAt H g n e ns es
  ok : GrOk ns (es.map (·.2))
  pm : ord.Perm ns
  l2 : ns.length ≤ 100
  l3 : es.length ≤ 1000
  st : H st = some (.dK (kvF ord f))
  tri : ∀ x ∈ ns, 0 ≤ f x ∧ f x < 3
  pro : ∀ x ∈ es, f x.2.1 ≠ f x.2.2
section
variable {H H' : Hp} {g n e st p : Addr} {ns ord : List Str} {es : List (Addr × Str × Str)} {f : Str → Int}
theorem GSt.same (h : GSt H g n e st ns ord es f) (s : Same H H') : GSt H' g n e st ns ord es f := ⟨h.gr.same s, h.ok, h.pm, h.l2, h.l3, s _ _ h.st, h.tri, h.pro⟩
theorem GSt.go (h : GSt H g n e st ns ord es f) (hp : PoolAt H p) (b : Go p H H') : GSt H' g n e st ns ord es f := by
  obtain ⟨ys, hy⟩ := hp.isL
  exact ⟨h.gr.but hy b.but, h.ok, h.pm, h.l2, h.l3, b.but.dK hy h.st, h.tri, h.pro⟩
theorem GSt.nd (h : GSt H g n e st ns ord es f) : ns.Nodup := asc_nodup h.ok.names.asc
theorem GSt.ndo (h : GSt H g n e st ns ord es f) : ord.Nodup := h.pm.nodup_iff.mpr h.nd
theorem GSt.inE (h : GSt H g n e st ns ord es f) : ∀ x ∈ es, x.2.1 ∈ ns ∧ x.2.2 ∈ ns := fun x hx => h.ok.mem _ (List.mem_map_of_mem hx)
theorem GSt.sok (h : GSt H g n e st ns ord es f) : ∀ x ∈ ns, PyData.strOk x = true := fun x hx => (h.ok.names.ok x hx).sok
end
end Law

namespace Law
open PySem PySem.Spec PyProof.Rows L2 U
local macro_rules | `(tactic| wtm_at "rd1") => `(tactic| first
  | with_reducible refine rd_seq ?_
  | ((with_reducible refine rd_var (v := ?vv) ?hv ?_); (case hv => exact rfl))
  | with_reducible refine rd_c ?_
  | with_reducible refine rd_cons ?_
  | with_reducible refine rd_nil ?_
  | with_reducible refine rd_op ?_
  | with_reducible refine rd_asg ?_
  | with_reducible refine rd_name ?_
  | with_reducible refine rd_c1 ?_
  | with_reducible refine rd_cb ?_
  | with_reducible refine rd_test ?_
  | with_reducible refine rd_B ?_
  | with_reducible refine rd_bl ?_
  | with_reducible refine rd_if ?_
  | with_reducible refine rd_ret ?_
  | with_reducible refine rd_drop ?_
  | with_reducible refine rd_next ?_
  | with_reducible refine rd_addI ?_
  | with_reducible refine rd_ltI ?_
  | with_reducible refine rd_eqI ?_
  | with_reducible refine rd_neI ?_
  | with_reducible refine rd_eqS ?_
  | with_reducible refine rd_neS ?_
  | with_reducible refine rd_gtI ?_
  | with_reducible refine rd_geI ?_
  | with_reducible refine rd_leI ?_
  | with_reducible refine rd_ltS ?_
  | with_reducible refine rd_subI ?_
  | ((with_reducible refine rd_modI ?hc ?_); (case hc => first | decide | omega))
  | ((with_reducible refine rd_mulI ?hc ?_); (case hc => first | exact mul_bI | exact .inl (.inr (by decide)) | exact .inl (.inl (by decide)) | exact .inl (.inr (by omega)) | exact .inl (.inl (by omega))))
  | ((with_reducible refine rd_divI ?hc ?_); (case hc => first | decide | omega))
  | ((with_reducible refine rd_powI ?hc ?_); (case hc => exact ⟨by decide, by decide, by decide⟩))
  | with_reducible refine rd_lst ?_
  | with_reducible refine rd_tup ?_
  | ((with_reducible refine rd_sz ?hv ?_); (case hv => exact rfl))
  | with_reducible refine rd_and ?_
  | with_reducible refine rd_or ?_
  | with_reducible refine rd_not ?_
  | with_reducible refine rd_andV ?_
  | with_reducible refine rd_orV ?_
  | with_reducible refine rd_notV ?_
  | with_reducible refine rd_ifE ?_
  | with_reducible refine rd_T ?_
  | with_reducible refine rd_F ?_
  | with_reducible refine rd_chain ?_
  | with_reducible refine rd_is ?_
  | with_reducible refine rd_isNot ?_
  | with_reducible refine rd_absI ?_
  | with_reducible refine rd_maxI ?_
  | with_reducible refine rd_minI ?_
  | with_reducible refine rd_intI ?_
  | with_reducible refine rd_intB ?_
  | with_reducible refine rd_sub ?_
  | with_reducible refine rd_sl ?_
  | with_reducible refine rd_noPart ?_
  | with_reducible refine rd_part ?_
  | with_reducible refine rd_exI ?_
  | with_reducible refine rd_bm ?_
  | with_reducible refine rd_bm0 ?_
  | with_reducible refine rd_un ?_
  | with_reducible refine rd_neg ?_
  | with_reducible refine rd_c2 ?_
  | with_reducible refine rd_retN ?_
  | with_reducible refine rd_break ?_
  | with_reducible refine rd_cont ?_
  | with_reducible refine rd_for ?_
  | with_reducible refine rd_rng1 ?_
  | with_reducible refine rd_rng2 ?_
  | with_reducible refine rd_iList ?_
  | with_reducible refine rd_iTup ?_
  | with_reducible refine rd_iEnum ?_
  | ((with_reducible refine rd_forR ?h0 ?h1 ?_); (case h0 => omega); (case h1 => omega))
  | with_reducible refine rd_lc ?_
  | with_reducible refine rd_gcons ?_
  | with_reducible refine rd_gnil ?_
  | with_reducible refine rd_dget ?_
  | with_reducible refine rd_dput ?_
  | with_reducible refine rd_dnew ?_
  | with_reducible refine rd_dc ?_
  | with_reducible refine rd_iItems ?_
  | with_reducible refine rd_iKeys ?_
  | with_reducible refine rd_din ?_
  | with_reducible refine rd_par ?_
  | with_reducible refine rd_two ?_
  | with_reducible refine rd_reprB ?_
  | with_reducible refine rd_ck ?_
  | ((with_reducible refine rd_len ?hl ?_); (case hl => exact rfl))
  | with_reducible refine rd_nT ?_
  | with_reducible refine rd_nF ?_
  | with_reducible refine rd_dnin ?_
  | with_reducible refine rd_isB ?_
  | with_reducible refine rd_isNotB ?_
  | with_reducible refine rd_daug ?_
  | with_reducible refine rd_yesT ?_
  | ((with_reducible refine rd_wp ?hw ?_); (case hw => exact rfl)))
local macro_rules | `(tactic| wtm_at "rd") => `(tactic| repeat wtm_at "rd1")

/-- the ends of the node's edges, sorted -/
def spNbr : Sp := fun vs H Q _ => ∃ (g n e : Addr) (x : Str) (ns : List Str) (es : List (Addr × Str × Str)), vs = [.ref g, .str x] ∧ GrAt H g n e ns es ∧ es.length ≤ 10000 ∧
  ∀ (l : Addr) (ys : List Str) (H' : Hp), Same H H' → H l = none → H' l = some (.lst (ys.map V.str)) → ys.Perm (nbrF (es.map (·.2)) x) → ys.Pairwise (fun a b => ¬ sLt b a) → Q (.ref l) H'
section
variable {P : Program} {w : World} {K : PySem.W.Frag} {mg : Str → Option Value} {base : Heap}
theorem nbrF_take {es : List (Str × Str)} {x : Str} {i : Nat} (h : i < es.length) : nbrF (es.take (i + 1)) x = nbrF (es.take i) x ++ ((if es[i].1 = x then [es[i].2] else []) ++ (if es[i].2 = x then [es[i].1] else [])) := by
  unfold nbrF
  rw [List.take_succ, List.getElem?_eq_getElem h, List.flatMap_append]
  simp
theorem nbrF_len {x : Str} : ∀ {es : List (Str × Str)}, (nbrF es x).length ≤ 2 * es.length
  | [] => by simp [nbrF]
  | e :: es => by
    have := nbrF_len (x := x) (es := es)
    unfold nbrF at *
    rw [List.flatMap_cons, List.length_append, List.length_append, List.length_cons]
    split <;> split <;> simp only [List.length_cons, List.length_nil] <;> omega
theorem ok_nbr {f : Addr} {fd : FuncData} (F : Fun K "_law_neighbors_of" "_law_neighbors_of" s__law_neighbors_of f fd) (B : Bt mg) : FnG P w K mg base CX0 1 f fd ["_law_graph", "_law_node"] spNbr := by
  refine fnG0 F sc__law_neighbors_of (fun vs H Q E h => ?_) (fun cdv A outer s H vs Q E hr h => ?_)
  · obtain ⟨g, n, e, x, ns, es, rfl, _⟩ := h
    rfl
  · obtain ⟨g, n, e, x, ns, es, rfl, hg, hl, q⟩ := h
    have nd := sc__law_neighbors_of.nd
    refine ⟨_, (pss_cons (ps_set (i := 2) nd rfl (by first | exact Or.inl rfl | exact Or.inr rfl) (pe_lst pa_nil))
  (pss_cons (ps_for PassesOwn.never rfl (ki_tup K rfl (pe_ix (kIx K rfl) (pv 0) pe_int (fun _ _ => rfl))) (kg_tup (n := 2) K rfl rfl (pgs_cons (pg_name (i := 3) nd rfl (by first | exact Or.inl rfl | exact Or.inr rfl)) (pgs_cons (pg_name (i := 4) nd rfl (by first | exact Or.inl rfl | exact Or.inr rfl)) pgs_nil))) (pss_cons (ps_if (pt_cmpR (kEq K rfl hr.u64) (pv 3) (pv 1) (nomark _)) (pss_one (ps_expr (pe_bm PySem.F.plainAttrs_list PySem.F.slot_list_append PySem.F.type_list_append mt_append (pv 2) (pa_cons (pv 4) pa_nil)))) pss_nil)
  (pss_one (ps_if (pt_cmpR (kEq K rfl hr.u64) (pv 4) (pv 1) (nomark _)) (pss_one (ps_expr (pe_bm PySem.F.plainAttrs_list PySem.F.slot_list_append PySem.F.type_list_append mt_append (pv 2) (pa_cons (pv 3) pa_nil)))) pss_nil))))
  (pss_one (ps_ret (pe_callB (kSorted K rfl hr.u64) (by rfl) B.sorted bb_sorted (pa_cons (pv 2) pa_nil)))))), ?_⟩
    wtm_at "rd"
    intro l fl
    have s1 : Same H (upd H l (.lst [])) := Same.new fl
    have hg1 := hg.same s1
    wtm_at "rd"
    refine rd_ixT (SqT.of hg1.top) (v := .ref e) rfl ?_
    refine rd_forT (SqT.of hg1.edges) ?_
    refine turnsT (K := K) (xs := es.map fun x => V.ref x.1) (fun i σ H' => ∃ u1 u2 : Option V, σ = [some (.ref g), some (.str x), some (.ref l), u1, u2] ∧ Same H H' ∧ H' l = some (.lst ((nbrF ((es.map (·.2)).take i) x).map V.str))) ⟨_, _, rfl, s1, upd_same⟩ ?_ ?_ ?_
    · rintro i σ H' hi ⟨u1, u2, rfl, s, h⟩
      exact SqT.of (hg.same s).edges
    · rintro i y σ H' hy ⟨u1, u2, rfl, s, h⟩
      obtain ⟨hi, rfl⟩ := map_at hy
      have hi2 : i < (es.map (·.2)).length := by rw [List.length_map]; exact hi
      have st := nbrF_take (x := x) hi2
      rw [List.getElem_map] at st
      have len : (nbrF ((es.map (·.2)).take i) x).length ≤ 2 * i := by
        have := nbrF_len (x := x) (es := (es.map (·.2)).take i)
        rw [List.length_take] at this
        omega
      refine rd_unp (SqT.of ((hg.same s).pairs es[i] (List.getElem_mem hi))) rfl ?_
      wtm_at "rd"
      refine rd_split (fun c => ?_) (fun c => ?_)
      · rw [if_pos c] at st
        wtm_at "rd"
        refine rd_tyL h ?_
        wtm_at "rd"
        refine rd_append h (by rw [List.length_map]; omega) ?_
        wtm_at "rd"
        refine rd_split (fun c2 => ?_) (fun c2 => ?_)
        · rw [if_pos c2] at st
          wtm_at "rd"
          refine rd_tyL upd_same ?_
          wtm_at "rd"
          refine rd_append upd_same (by rw [List.length_append, List.length_map]; simp only [List.length_singleton]; omega) ?_
          refine ⟨_, _, rfl, same_put (same_put s fl) fl, ?_⟩
          rw [upd_same, st]
          simp [List.map_append]
        · rw [if_neg c2] at st
          wtm_at "rd"
          refine ⟨_, _, rfl, same_put s fl, ?_⟩
          rw [upd_same, st]
          simp [List.map_append]
      · rw [if_neg c] at st
        wtm_at "rd"
        refine rd_split (fun c2 => ?_) (fun c2 => ?_)
        · rw [if_pos c2] at st
          wtm_at "rd"
          refine rd_tyL h ?_
          wtm_at "rd"
          refine rd_append h (by rw [List.length_map]; omega) ?_
          refine ⟨_, _, rfl, same_put s fl, ?_⟩
          rw [upd_same, st]
          simp [List.map_append]
        · rw [if_neg c2] at st
          wtm_at "rd"
          refine ⟨_, _, rfl, s, ?_⟩
          rw [h, st]
          simp
    · rintro σ H' ⟨u1, u2, rfl, s, h⟩
      rw [List.length_map, List.take_of_length_le (by rw [List.length_map]; exact Nat.le_refl _)] at h
      wtm_at "rd"
      refine rd_sortS (SqL.of h) ?_ ?_
      · have := nbrF_len (x := x) (es := es.map (·.2))
        rw [List.length_map] at this
        omega
      · intro ys py sy l2 fl2
        exact q l2 ys _ (same_add s fl2) (new_of_same s fl2) upd_same py sy
end
end Law

namespace Law
open PySem PySem.Spec PyProof.Rows L2 U
local macro_rules | `(tactic| wtm_at "rd1") => `(tactic| first
  | with_reducible refine rd_seq ?_
  | ((with_reducible refine rd_var (v := ?vv) ?hv ?_); (case hv => exact rfl))
  | with_reducible refine rd_c ?_
  | with_reducible refine rd_cons ?_
  | with_reducible refine rd_nil ?_
  | with_reducible refine rd_op ?_
  | with_reducible refine rd_asg ?_
  | with_reducible refine rd_name ?_
  | with_reducible refine rd_c1 ?_
  | with_reducible refine rd_cb ?_
  | with_reducible refine rd_test ?_
  | with_reducible refine rd_B ?_
  | with_reducible refine rd_bl ?_
  | with_reducible refine rd_if ?_
  | with_reducible refine rd_ret ?_
  | with_reducible refine rd_drop ?_
  | with_reducible refine rd_next ?_
  | with_reducible refine rd_addI ?_
  | with_reducible refine rd_ltI ?_
  | with_reducible refine rd_eqI ?_
  | with_reducible refine rd_neI ?_
  | with_reducible refine rd_eqS ?_
  | with_reducible refine rd_neS ?_
  | with_reducible refine rd_gtI ?_
  | with_reducible refine rd_geI ?_
  | with_reducible refine rd_leI ?_
  | with_reducible refine rd_ltS ?_
  | with_reducible refine rd_subI ?_
  | ((with_reducible refine rd_modI ?hc ?_); (case hc => first | decide | omega))
  | ((with_reducible refine rd_mulI ?hc ?_); (case hc => first | exact mul_bI | exact .inl (.inr (by decide)) | exact .inl (.inl (by decide)) | exact .inl (.inr (by omega)) | exact .inl (.inl (by omega))))
  | ((with_reducible refine rd_divI ?hc ?_); (case hc => first | decide | omega))
  | ((with_reducible refine rd_powI ?hc ?_); (case hc => exact ⟨by decide, by decide, by decide⟩))
  | with_reducible refine rd_lst ?_
  | with_reducible refine rd_tup ?_
  | ((with_reducible refine rd_sz ?hv ?_); (case hv => exact rfl))
  | with_reducible refine rd_and ?_
  | with_reducible refine rd_or ?_
  | with_reducible refine rd_not ?_
  | with_reducible refine rd_andV ?_
  | with_reducible refine rd_orV ?_
  | with_reducible refine rd_notV ?_
  | with_reducible refine rd_ifE ?_
  | with_reducible refine rd_T ?_
  | with_reducible refine rd_F ?_
  | with_reducible refine rd_chain ?_
  | with_reducible refine rd_is ?_
  | with_reducible refine rd_isNot ?_
  | with_reducible refine rd_absI ?_
  | with_reducible refine rd_maxI ?_
  | with_reducible refine rd_minI ?_
  | with_reducible refine rd_intI ?_
  | with_reducible refine rd_intB ?_
  | with_reducible refine rd_sub ?_
  | with_reducible refine rd_sl ?_
  | with_reducible refine rd_noPart ?_
  | with_reducible refine rd_part ?_
  | with_reducible refine rd_exI ?_
  | with_reducible refine rd_bm ?_
  | with_reducible refine rd_bm0 ?_
  | with_reducible refine rd_un ?_
  | with_reducible refine rd_neg ?_
  | with_reducible refine rd_c2 ?_
  | with_reducible refine rd_retN ?_
  | with_reducible refine rd_break ?_
  | with_reducible refine rd_cont ?_
  | with_reducible refine rd_for ?_
  | with_reducible refine rd_rng1 ?_
  | with_reducible refine rd_rng2 ?_
  | with_reducible refine rd_iList ?_
  | with_reducible refine rd_iTup ?_
  | with_reducible refine rd_iEnum ?_
  | ((with_reducible refine rd_forR ?h0 ?h1 ?_); (case h0 => omega); (case h1 => omega))
  | with_reducible refine rd_lc ?_
  | with_reducible refine rd_gcons ?_
  | with_reducible refine rd_gnil ?_
  | with_reducible refine rd_dget ?_
  | with_reducible refine rd_dput ?_
  | with_reducible refine rd_dnew ?_
  | with_reducible refine rd_dc ?_
  | with_reducible refine rd_iItems ?_
  | with_reducible refine rd_iKeys ?_
  | with_reducible refine rd_din ?_
  | with_reducible refine rd_par ?_
  | with_reducible refine rd_two ?_
  | with_reducible refine rd_reprB ?_
  | with_reducible refine rd_ck ?_
  | ((with_reducible refine rd_len ?hl ?_); (case hl => exact rfl))
  | with_reducible refine rd_nT ?_
  | with_reducible refine rd_nF ?_
  | with_reducible refine rd_dnin ?_
  | with_reducible refine rd_isB ?_
  | with_reducible refine rd_isNotB ?_
  | with_reducible refine rd_daug ?_
  | with_reducible refine rd_yesT ?_
  | ((with_reducible refine rd_wp ?hw ?_); (case hw => exact rfl)))
local macro_rules | `(tactic| wtm_at "rd") => `(tactic| repeat wtm_at "rd1")

/-- the moves' pairs stand -/
def TupsAt (H : Hp) (ms : List (Addr × Str × Int)) : Prop := ∀ m ∈ ms, H m.1 = some (.tup [.str m.2.1, .int m.2.2])
theorem TupsAt.nil {H : Hp} : TupsAt H [] := fun m hm => nomatch hm
theorem TupsAt.same {H H' : Hp} {ms : List (Addr × Str × Int)} (h : TupsAt H ms) (s : Same H H') : TupsAt H' ms := fun m hm => s _ _ (h m hm)
theorem TupsAt.app {H : Hp} {ms ms2 : List (Addr × Str × Int)} (h : TupsAt H ms) (h2 : TupsAt H ms2) : TupsAt H (ms ++ ms2) := fun m hm => (List.mem_append.mp hm).elim (h m) (h2 m)
theorem TupsAt.put {H : Hp} {ms : List (Addr × Str × Int)} {a : Addr} {xs ys : List V} (h : TupsAt H ms) (ha : H a = some (.lst xs)) : TupsAt (upd H a (.lst ys)) ms := fun m hm => at_upd (ne_of (h m hm) ha (by intro z; cases z)) (h m hm)
theorem TupsAt.new {H : Hp} {ms : List (Addr × Str × Int)} {a : Addr} {o : HO} (h : TupsAt H ms) (ha : H a = none) : TupsAt (upd H a o) ms := fun m hm => at_upd (ne_of_none (h m hm) ha) (h m hm)
section
variable {P : Program} {w : World} {K : PySem.W.Frag} {mg : Str → Option Value} {base : Heap}
end
end Law

namespace Law
open PySem PySem.Spec PyProof.Rows L2 U
local macro_rules | `(tactic| wtm_at "rd1") => `(tactic| first
  | with_reducible refine rd_seq ?_
  | ((with_reducible refine rd_var (v := ?vv) ?hv ?_); (case hv => exact rfl))
  | with_reducible refine rd_c ?_
  | with_reducible refine rd_cons ?_
  | with_reducible refine rd_nil ?_
  | with_reducible refine rd_op ?_
  | with_reducible refine rd_asg ?_
  | with_reducible refine rd_name ?_
  | with_reducible refine rd_c1 ?_
  | with_reducible refine rd_cb ?_
  | with_reducible refine rd_test ?_
  | with_reducible refine rd_B ?_
  | with_reducible refine rd_bl ?_
  | with_reducible refine rd_if ?_
  | with_reducible refine rd_ret ?_
  | with_reducible refine rd_drop ?_
  | with_reducible refine rd_next ?_
  | with_reducible refine rd_addI ?_
  | with_reducible refine rd_ltI ?_
  | with_reducible refine rd_eqI ?_
  | with_reducible refine rd_neI ?_
  | with_reducible refine rd_eqS ?_
  | with_reducible refine rd_neS ?_
  | with_reducible refine rd_gtI ?_
  | with_reducible refine rd_geI ?_
  | with_reducible refine rd_leI ?_
  | with_reducible refine rd_ltS ?_
  | with_reducible refine rd_subI ?_
  | ((with_reducible refine rd_modI ?hc ?_); (case hc => first | decide | omega))
  | ((with_reducible refine rd_mulI ?hc ?_); (case hc => first | exact mul_bI | exact .inl (.inr (by decide)) | exact .inl (.inl (by decide)) | exact .inl (.inr (by omega)) | exact .inl (.inl (by omega))))
  | ((with_reducible refine rd_divI ?hc ?_); (case hc => first | decide | omega))
  | ((with_reducible refine rd_powI ?hc ?_); (case hc => exact ⟨by decide, by decide, by decide⟩))
  | with_reducible refine rd_lst ?_
  | with_reducible refine rd_tup ?_
  | ((with_reducible refine rd_sz ?hv ?_); (case hv => exact rfl))
  | with_reducible refine rd_and ?_
  | with_reducible refine rd_or ?_
  | with_reducible refine rd_not ?_
  | with_reducible refine rd_andV ?_
  | with_reducible refine rd_orV ?_
  | with_reducible refine rd_notV ?_
  | with_reducible refine rd_ifE ?_
  | with_reducible refine rd_T ?_
  | with_reducible refine rd_F ?_
  | with_reducible refine rd_chain ?_
  | with_reducible refine rd_is ?_
  | with_reducible refine rd_isNot ?_
  | with_reducible refine rd_absI ?_
  | with_reducible refine rd_maxI ?_
  | with_reducible refine rd_minI ?_
  | with_reducible refine rd_intI ?_
  | with_reducible refine rd_intB ?_
  | with_reducible refine rd_sub ?_
  | with_reducible refine rd_sl ?_
  | with_reducible refine rd_noPart ?_
  | with_reducible refine rd_part ?_
  | with_reducible refine rd_exI ?_
  | with_reducible refine rd_bm ?_
  | with_reducible refine rd_bm0 ?_
  | with_reducible refine rd_un ?_
  | with_reducible refine rd_neg ?_
  | with_reducible refine rd_c2 ?_
  | with_reducible refine rd_retN ?_
  | with_reducible refine rd_break ?_
  | with_reducible refine rd_cont ?_
  | with_reducible refine rd_for ?_
  | with_reducible refine rd_rng1 ?_
  | with_reducible refine rd_rng2 ?_
  | with_reducible refine rd_iList ?_
  | with_reducible refine rd_iTup ?_
  | with_reducible refine rd_iEnum ?_
  | ((with_reducible refine rd_forR ?h0 ?h1 ?_); (case h0 => omega); (case h1 => omega))
  | with_reducible refine rd_lc ?_
  | with_reducible refine rd_gcons ?_
  | with_reducible refine rd_gnil ?_
  | with_reducible refine rd_dget ?_
  | with_reducible refine rd_dput ?_
  | with_reducible refine rd_dnew ?_
  | with_reducible refine rd_dc ?_
  | with_reducible refine rd_iItems ?_
  | with_reducible refine rd_iKeys ?_
  | with_reducible refine rd_din ?_
  | with_reducible refine rd_par ?_
  | with_reducible refine rd_two ?_
  | with_reducible refine rd_reprB ?_
  | with_reducible refine rd_ck ?_
  | ((with_reducible refine rd_len ?hl ?_); (case hl => exact rfl))
  | with_reducible refine rd_nT ?_
  | with_reducible refine rd_nF ?_
  | with_reducible refine rd_dnin ?_
  | with_reducible refine rd_isB ?_
  | with_reducible refine rd_isNotB ?_
  | with_reducible refine rd_daug ?_
  | with_reducible refine rd_yesT ?_
  | ((with_reducible refine rd_wp ?hw ?_); (case hw => exact rfl)))
local macro_rules | `(tactic| wtm_at "rd") => `(tactic| repeat wtm_at "rd1")

theorem TupsAt.go {p : Addr} {H H' : Hp} {ms : List (Addr × Str × Int)} (h : TupsAt H ms) (hp : PoolAt H p) (g : Go p H H') : TupsAt H' ms := fun m hm => by
  obtain ⟨ys, hy⟩ := hp.isL
  exact g.but.tup hy (h m hm)
theorem Go.dK {p d : Addr} {H H' : Hp} {kvs : List (Key × V)} (g : Go p H H') (hp : PoolAt H p) (h : H d = some (.dK kvs)) : H' d = some (.dK kvs) := by
  obtain ⟨ys, hy⟩ := hp.isL
  exact g.but.dK hy h
theorem Go.tup {p d : Addr} {H H' : Hp} {xs : List V} (g : Go p H H') (hp : PoolAt H p) (h : H d = some (.tup xs)) : H' d = some (.tup xs) := by
  obtain ⟨ys, hy⟩ := hp.isL
  exact g.but.tup hy h
section
variable {P : Program} {w : World} {K : PySem.W.Frag} {mg : Str → Option Value} {base : Heap}
end
end Law

/-! repr of a list of data, dicts among it -/
namespace U
open PySem PySem.Spec PyProof.Rows L2
mutual
def tupOnly : PyData → Bool
  | .none | .bool _ | .int _ | .str _ => true
  | .tuple xs => tupOnlyAll xs
  | .list _ | .dict _ => false
def tupOnlyAll : List PyData → Bool
  | [] => true
  | x :: xs => tupOnly x && tupOnlyAll xs
end
mutual
theorem reads_nil {h : Heap} : ∀ (d : PyData) (v : Value) (as : List Addr), Reads h v d as → tupOnly d = true → as = []
  | .none, _, _, r, _ => by cases r; rfl
  | .bool _, _, _, r, _ => by cases r; rfl
  | .int _, _, _, r, _ => by cases r; rfl
  | .str _, _, _, r, _ => by cases r; rfl
  | .tuple xs, _, _, r, t => by
    cases r with
    | tuple h1 h2 h3 h4 => exact readsAll_nil xs _ _ h4 (by simpa [tupOnly] using t)
  | .list _, _, _, _, t => by simp [tupOnly] at t
  | .dict _, _, _, _, t => by simp [tupOnly] at t
theorem readsAll_nil {h : Heap} : ∀ (ds : List PyData) (vs : List Value) (as : List Addr), ReadsAll h vs ds as → tupOnlyAll ds = true → as = []
  | [], _, _, r, _ => by cases r; rfl
  | d :: ds, _, _, r, t => by
    rw [tupOnlyAll, Bool.and_eq_true] at t
    cases r with
    | cons r1 r2 => rw [reads_nil d _ _ r1 t.1, readsAll_nil ds _ _ r2 t.2]; rfl
end
/-- an item of the list: data of tuples, or a dict of numbers -/
inductive Di (K : PySem.W.Frag) (H : Hp) : V → PyData → Prop
  | of {v : V} {d : PyData} : Dp K H v d → tupOnly d = true → Di K H v d
  | dct {a : Addr} {ns : List Str} {f : Str → Int} : H a = some (.dK (kvF ns f)) → Di K H (.ref a) (.dict (ns.map fun n => (.str n, .int (f n))))
inductive DiAll (K : PySem.W.Frag) (H : Hp) : List V → List PyData → Prop
  | nil : DiAll K H [] []
  | cons {v : V} {vs : List V} {d : PyData} {ds : List PyData} : Di K H v d → DiAll K H vs ds → DiAll K H (v :: vs) (d :: ds)
structure Shows (d : PyData) : Prop where
  sh : d.showable = true
  lv : d.leavesShort 13 = true
  bk : d.bulk ≤ 2 ^ 20
  dp : d.depth ≤ 50
section
variable {X : Cx} {pins : List (Addr × Obj)} {σ : L2.St} {H : Hp} {s : Shared}
theorem Di.reads (I : Inv X pins σ H s) {v : V} {d : PyData} {u : Value} (h : Di X.K H v d) (r : RelV v u) : ∃ as, Reads s.heap u d as ∧ sysModules ∉ as := by
  cases h with
  | of h t =>
    obtain ⟨as, q⟩ := Dp.reads I _ _ _ h r
    have := reads_nil _ _ _ q t
    subst this
    exact ⟨_, q, List.not_mem_nil⟩
  | dct h =>
    cases r
    obtain ⟨_, hd, vs, rel, dd⟩ := dk_of I.hok h
    refine ⟨_, PyProof.V.reads_dictOf key_reads dd (kv_pairs rel), ?_⟩
    intro z
    rw [List.mem_singleton] at z
    rw [z] at hd
    simp at hd
theorem DiAll.reads (I : Inv X pins σ H s) : ∀ {vs : List V} {ds : List PyData} {us : List Value}, DiAll X.K H vs ds → Vals vs us → ∃ as, ReadsAll s.heap us ds as ∧ sysModules ∉ as
  | [], _, _, h, r => by
    cases h
    cases r
    exact ⟨_, .nil, List.not_mem_nil⟩
  | v :: vs, _, _, h, r => by
    cases h with
    | cons h1 h2 =>
      cases r with
      | cons r1 r2 =>
        obtain ⟨as, q1, n1⟩ := h1.reads I r1
        obtain ⟨bs, q2, n2⟩ := DiAll.reads I h2 r2
        exact ⟨_, .cons q1 q2, fun z => (List.mem_append.mp z).elim n1 n2⟩
end
/-! the shapes -/
theorem IsName.lv {z : Str} (h : IsName z) : (PyData.str z).leavesShort 13 = true := by
  rw [PyData.leavesShort, List.all_eq_true]
  intro x hx
  have := h.ch x hx
  rw [decide_eq_true_eq]
  omega
theorem IsName.bk {z : Str} (h : IsName z) : (PyData.str z).bulk ≤ 8 := by
  rw [PyData.bulk]
  exact h.hi
end U

namespace Law
open PySem PySem.Spec PyProof.Rows L2 U
local macro_rules | `(tactic| wtm_at "rd1") => `(tactic| first
  | with_reducible refine rd_seq ?_
  | ((with_reducible refine rd_var (v := ?vv) ?hv ?_); (case hv => exact rfl))
  | with_reducible refine rd_c ?_
  | with_reducible refine rd_cons ?_
  | with_reducible refine rd_nil ?_
  | with_reducible refine rd_op ?_
  | with_reducible refine rd_asg ?_
  | with_reducible refine rd_name ?_
  | with_reducible refine rd_c1 ?_
  | with_reducible refine rd_cb ?_
  | with_reducible refine rd_test ?_
  | with_reducible refine rd_B ?_
  | with_reducible refine rd_bl ?_
  | with_reducible refine rd_if ?_
  | with_reducible refine rd_ret ?_
  | with_reducible refine rd_drop ?_
  | with_reducible refine rd_next ?_
  | with_reducible refine rd_addI ?_
  | with_reducible refine rd_ltI ?_
  | with_reducible refine rd_eqI ?_
  | with_reducible refine rd_neI ?_
  | with_reducible refine rd_eqS ?_
  | with_reducible refine rd_neS ?_
  | with_reducible refine rd_gtI ?_
  | with_reducible refine rd_geI ?_
  | with_reducible refine rd_leI ?_
  | with_reducible refine rd_ltS ?_
  | with_reducible refine rd_subI ?_
  | ((with_reducible refine rd_modI ?hc ?_); (case hc => first | decide | omega))
  | ((with_reducible refine rd_mulI ?hc ?_); (case hc => first | exact mul_bI | exact .inl (.inr (by decide)) | exact .inl (.inl (by decide)) | exact .inl (.inr (by omega)) | exact .inl (.inl (by omega))))
  | ((with_reducible refine rd_divI ?hc ?_); (case hc => first | decide | omega))
  | ((with_reducible refine rd_powI ?hc ?_); (case hc => exact ⟨by decide, by decide, by decide⟩))
  | with_reducible refine rd_lst ?_
  | with_reducible refine rd_tup ?_
  | ((with_reducible refine rd_sz ?hv ?_); (case hv => exact rfl))
  | with_reducible refine rd_and ?_
  | with_reducible refine rd_or ?_
  | with_reducible refine rd_not ?_
  | with_reducible refine rd_andV ?_
  | with_reducible refine rd_orV ?_
  | with_reducible refine rd_notV ?_
  | with_reducible refine rd_ifE ?_
  | with_reducible refine rd_T ?_
  | with_reducible refine rd_F ?_
  | with_reducible refine rd_chain ?_
  | with_reducible refine rd_is ?_
  | with_reducible refine rd_isNot ?_
  | with_reducible refine rd_absI ?_
  | with_reducible refine rd_maxI ?_
  | with_reducible refine rd_minI ?_
  | with_reducible refine rd_intI ?_
  | with_reducible refine rd_intB ?_
  | with_reducible refine rd_sub ?_
  | with_reducible refine rd_sl ?_
  | with_reducible refine rd_noPart ?_
  | with_reducible refine rd_part ?_
  | with_reducible refine rd_exI ?_
  | with_reducible refine rd_bm ?_
  | with_reducible refine rd_bm0 ?_
  | with_reducible refine rd_un ?_
  | with_reducible refine rd_neg ?_
  | with_reducible refine rd_c2 ?_
  | with_reducible refine rd_retN ?_
  | with_reducible refine rd_break ?_
  | with_reducible refine rd_cont ?_
  | with_reducible refine rd_for ?_
  | with_reducible refine rd_rng1 ?_
  | with_reducible refine rd_rng2 ?_
  | with_reducible refine rd_iList ?_
  | with_reducible refine rd_iTup ?_
  | with_reducible refine rd_iEnum ?_
  | ((with_reducible refine rd_forR ?h0 ?h1 ?_); (case h0 => omega); (case h1 => omega))
  | with_reducible refine rd_lc ?_
  | with_reducible refine rd_gcons ?_
  | with_reducible refine rd_gnil ?_
  | with_reducible refine rd_dget ?_
  | with_reducible refine rd_dput ?_
  | with_reducible refine rd_dnew ?_
  | with_reducible refine rd_dc ?_
  | with_reducible refine rd_iItems ?_
  | with_reducible refine rd_iKeys ?_
  | with_reducible refine rd_din ?_
  | with_reducible refine rd_par ?_
  | with_reducible refine rd_two ?_
  | with_reducible refine rd_reprB ?_
  | with_reducible refine rd_ck ?_
  | ((with_reducible refine rd_len ?hl ?_); (case hl => exact rfl))
  | with_reducible refine rd_nT ?_
  | with_reducible refine rd_nF ?_
  | with_reducible refine rd_dnin ?_
  | with_reducible refine rd_isB ?_
  | with_reducible refine rd_isNotB ?_
  | with_reducible refine rd_daug ?_
  | with_reducible refine rd_yesT ?_
  | ((with_reducible refine rd_wp ?hw ?_); (case hw => exact rfl)))
local macro_rules | `(tactic| wtm_at "rd") => `(tactic| repeat wtm_at "rd1")

theorem take_snoc {α : Type} {xs : List α} {i : Nat} (hi : i < xs.length) : xs.take (i + 1) = xs.take i ++ [xs[i]] := by
  rw [List.take_succ, List.getElem?_eq_getElem hi]
  rfl
theorem not_take {α : Type} {xs : List α} {i : Nat} (nd : xs.Nodup) (hi : i < xs.length) : xs[i] ∉ xs.take i := by
  intro hm
  obtain ⟨j, hj, e⟩ := List.mem_iff_getElem.mp hm
  rw [List.length_take] at hj
  have e' : xs[j] = xs[i] := by rw [← e, List.getElem_take]
  have z := List.pairwise_iff_getElem.mp (List.nodup_iff_pairwise_ne.mp nd)
  exact z j i (by omega) hi (by omega) e'
theorem lk_same {H H' : Hp} {a : Addr} {kvs : List (Key × V)} (ha : H a = some (.dK kvs)) (but : But a H H') : Same H (upd H' a (.dK kvs)) := fun b o hb => by
  by_cases e : b = a
  · subst e
    rw [ha] at hb
    rw [upd_same]
    exact hb
  · exact at_upd e (but b o e hb)
/-- the lists of the nodes' neighbours -/
structure AdjAt (H : Hp) (d : Addr) (ns : List Str) (es : List (Str × Str)) (A : Str → Addr) : Prop where
  di : H d = some (.dK (kvG ns fun n => .ref (A n)))
  li : ∀ n ∈ ns, ∃ ys : List Str, H (A n) = some (.lst (ys.map V.str)) ∧ ys.Perm (nbrF es n) ∧ ys.Pairwise fun a b => ¬ sLt b a
theorem AdjAt.same {H H' : Hp} {d : Addr} {ns : List Str} {es : List (Str × Str)} {A : Str → Addr} (h : AdjAt H d ns es A) (s : Same H H') : AdjAt H' d ns es A :=
  ⟨s _ _ h.di, fun n hn => by
    obtain ⟨ys, h1, h2⟩ := h.li n hn
    exact ⟨ys, s _ _ h1, h2⟩⟩
/-- a graph stands -/
structure GrS (H : Hp) (g n e : Addr) (ns : List Str) (es : List (Addr × Str × Str)) : Prop where
  gr : GrAt H g n e ns es
  ok : GrOk ns (es.map (·.2))
  l2 : ns.length ≤ 100
  l3 : es.length ≤ 1000
theorem GSt.grs {H : Hp} {g n e st : Addr} {ns ord : List Str} {es : List (Addr × Str × Str)} {f : Str → Int} (h : GSt H g n e st ns ord es f) : GrS H g n e ns es := ⟨h.gr, h.ok, h.l2, h.l3⟩
theorem GrS.same {H H' : Hp} {g n e : Addr} {ns : List Str} {es : List (Addr × Str × Str)} (h : GrS H g n e ns es) (s : Same H H') : GrS H' g n e ns es := ⟨h.gr.same s, h.ok, h.l2, h.l3⟩
theorem GrS.nd {H : Hp} {g n e : Addr} {ns : List Str} {es : List (Addr × Str × Str)} (h : GrS H g n e ns es) : ns.Nodup := asc_nodup h.ok.names.asc
theorem GrS.inE {H : Hp} {g n e : Addr} {ns : List Str} {es : List (Addr × Str × Str)} (h : GrS H g n e ns es) : ∀ x ∈ es, x.2.1 ∈ ns ∧ x.2.2 ∈ ns := fun x hx => h.ok.mem _ (List.mem_map_of_mem hx)
theorem GrS.ne {H : Hp} {g n e : Addr} {ns : List Str} {es : List (Addr × Str × Str)} (h : GrS H g n e ns es) : ∀ x ∈ es.map (·.2), x.1 ≠ x.2 := fun x hx z => by
  have := h.ok.lt x hx
  rw [z] at this
  exact sLt_irrefl _ this
def spAdj : Sp := fun vs H Q _ => ∃ (g n e : Addr) (ns : List Str) (es : List (Addr × Str × Str)), vs = [.ref g] ∧ GrS H g n e ns es ∧
  ∀ (d : Addr) (A : Str → Addr) (H' : Hp), Same H H' → H d = none → AdjAt H' d ns (es.map (·.2)) A → Q (.ref d) H'
def spAdjF : Sp := fun vs H Q _ => ∃ (g n e : Addr) (ns : List Str) (es : List (Addr × Str × Str)), vs = [.ref g] ∧ GrS H g n e ns es ∧
  ∀ (d : Addr) (A : Str → Addr) (H' : Hp), Same H H' → H d = none → AdjAt H' d ns (es.map (·.2)) A → (∀ m ∈ ns, H (A m) = none) → Q (.ref d) H'
theorem adj_weak {vs : List V} {H : Hp} {Q : VK} {E : XK} (h : spAdj vs H Q E) : spAdjF vs H Q E := by
  obtain ⟨g, n, e, ns, es, e1, gs, q⟩ := h
  exact ⟨g, n, e, ns, es, e1, gs, fun d A H' s n a _ => q d A H' s n a⟩
theorem FnG.weak {P : Program} {w : World} {K : PySem.W.Frag} {mg : Str → Option Value} {base : Heap} {CX : CXT} {k : Nat} {f : Addr} {fd : FuncData} {ps : List Str} {sp sp' : Sp} (F : FnG P w K mg base CX k f fd ps sp) (h : ∀ vs H Q E, sp' vs H Q E → sp vs H Q E) : FnG P w K mg base CX k f fd ps sp' :=
  ⟨fun vs H Q E z => F.len vs H Q E (h vs H Q E z), fun A outer s H args us vs Q E r e b v z => F.go A outer s H args us vs Q E r e b v (h vs H Q E z)⟩
theorem Cal.weak {P : Program} {w : World} {K : PySem.W.Frag} {mg : Str → Option Value} {base : Heap} {CX : CXT} {k : Nat} {x : Str} {sp sp' : Sp} (C : Cal P w K mg base CX k x sp) (h : ∀ vs H Q E, sp' vs H Q E → sp vs H Q E) : Cal P w K mg base CX k x sp' := by
  obtain ⟨f, fd, ps, F, r⟩ := C.ex
  exact ⟨⟨f, fd, ps, FnG.weak F h, r⟩⟩
/-- what grows at d: lists, one a name, apart -/
structure Grow (H H' : Hp) (d : Addr) (ns : List Str) (A : Str → Addr) (L : Str → List Str) : Prop where
  sm : Same H H'
  di : H' d = some (.dK (kvG ns fun n => .ref (A n)))
  li : ∀ n ∈ ns, H' (A n) = some (.lst ((L n).map V.str)) ∧ H (A n) = none
  ap : ∀ n ∈ ns, ∀ m ∈ ns, A n = A m → n = m
theorem Grow.put {H H' : Hp} {d : Addr} {ns : List Str} {A : Str → Addr} {L : Str → List Str} {n : Str} {ys : List Str} (h : Grow H H' d ns A L) (hn : n ∈ ns) : Grow H (upd H' (A n) (.lst (ys.map V.str))) d ns A (updV L n ys) := by
  refine ⟨same_put h.sm (h.li n hn).2, at_upd (ne_of h.di (h.li n hn).1 (by intro z; cases z)) h.di, fun m hm => ⟨?_, (h.li m hm).2⟩, h.ap⟩
  unfold updV
  by_cases e : m = n
  · subst e
    rw [if_pos rfl, upd_same]
  · rw [if_neg e]
    exact at_upd (fun z => e (h.ap m hm n hn z)) (h.li m hm).1
section
variable {P : Program} {w : World} {K : PySem.W.Frag} {mg : Str → Option Value} {base : Heap}
theorem ok_adjF {f : Addr} {fd : FuncData} (F : Fun K "adjacency" "adjacency" s_adjacency f fd) (B : Bt mg) : FnG P w K mg base CX0 1 f fd ["graph"] spAdjF := by
  refine fnG0 F sc_adjacency (fun vs H Q E h => ?_) (fun cdv A outer s H vs Q E hr h => ?_)
  · obtain ⟨g, n, e, ns, es, rfl, _⟩ := h
    rfl
  · obtain ⟨g, n, e, ns, es, rfl, gs, q⟩ := h
    have nd := sc_adjacency.nd
    have hu := hr.u1
    refine ⟨_, (pss_cons (ps_asg (pv 0) (kg_tup (n := 2) K rfl rfl (pgs_cons (pg_name (i := 1) nd rfl (by first | exact Or.inl rfl | exact Or.inr rfl)) (pgs_cons (pg_name (i := 2) nd rfl (by first | exact Or.inl rfl | exact Or.inr rfl)) pgs_nil))))
  (pss_cons (ps_setDc (i := 3) (own := [("node", 4)]) rfl nd rfl rfl (sw_dict rfl rfl rfl (by decide +kernel)) (ki_tup K rfl (pv 1)) (blkOk_by (own := [("node", 4)]) (N := nN_adjacency) (sc := defScope s_adjacency) (by decide +kernel)) (fun _ _ _ _ _ => (pg_name (i := 4) nd rfl (by first | exact Or.inl rfl | exact Or.inr rfl))) (fun _ _ _ _ _ => pts_nil) (fun _ _ _ _ _ => (pv 4)) (fun _ _ _ _ _ => (pe_lst pa_nil)))
  (pss_cons (ps_for PassesOwn.never rfl (ki_tup K rfl (pv 2)) (kg_tup (n := 2) K rfl rfl (pgs_cons (pg_name (i := 5) nd rfl (by first | exact Or.inl rfl | exact Or.inr rfl)) (pgs_cons (pg_name (i := 6) nd rfl (by first | exact Or.inl rfl | exact Or.inr rfl)) pgs_nil))) (pss_cons (ps_expr (pe_bm PySem.F.plainAttrs_list PySem.F.slot_list_append PySem.F.type_list_append mt_append (pe_dget hu (pv 3) (pv 5) (fun _ _ => rfl)) (pa_cons (pv 6) pa_nil)))
  (pss_one (ps_expr (pe_bm PySem.F.plainAttrs_list PySem.F.slot_list_append PySem.F.type_list_append mt_append (pe_dget hu (pv 3) (pv 6) (fun _ _ => rfl)) (pa_cons (pv 5) pa_nil))))))
  (pss_one (ps_ret (pe_lock (pe_dc (own := [("node", 4), ("some", 7)]) rfl nd (pi_items (pv 3)) (blkOk_by (own := [("node", 4), ("some", 7)]) (N := nN_adjacency) (sc := defScope s_adjacency) (by decide +kernel)) (fun _ _ _ _ _ => (kg_tup (n := 2) K rfl rfl (pgs_cons (pg_name (i := 4) nd rfl (by first | exact Or.inl rfl | exact Or.inr rfl)) (pgs_cons (pg_name (i := 7) nd rfl (by first | exact Or.inl rfl | exact Or.inr rfl)) pgs_nil)))) (fun _ _ _ _ _ => pts_nil) (fun _ _ _ _ _ => (pv 4)) (fun _ _ _ _ _ => (pe_callB (kSorted K rfl hr.u64) (by rfl) B.sorted bb_sorted (pa_cons (pv 7) pa_nil)))))))))), ?_⟩
    wtm_at "rd"
    refine rd_unp (SqT.of gs.gr.top) rfl ?_
    wtm_at "rd"
    refine rd_forT (SqT.of gs.gr.nodes) ?_
    intro D fD
    refine dcW (walk_tup (K := K) (a := n) (xs := ns.map V.str)) (fun i H' => ∃ A : Str → Addr, Grow H H' D (ns.take i) A (fun _ => [])) ⟨fun _ => 0, Same.new fD, upd_same, (fun n hn => nomatch hn), fun n hn => nomatch hn⟩ ?_ ?_ ?_
    · rintro i H' hi ⟨A, gw⟩
      exact SqT.of (gw.sm _ _ gs.gr.nodes)
    · rintro i x H' H2 hi ⟨A, gw⟩ ⟨rfl, hx⟩
      obtain ⟨hin, rfl⟩ := map_at hx
      wtm_at "rd"
      intro t ft
      refine rd_accD (k := .inr ns[i]) rfl (at_upd (ne_of_none gw.di ft) gw.di) (by rw [List.length_map, List.length_take]; have := gs.l2; omega) ?_
      have ntD : t ≠ D := Ne.symm (ne_of_none gw.di ft)
      have nin := not_take gs.nd hin
      have nt : ∀ m ∈ ns.take i, A m ≠ t := fun m hm => ne_of_none (gw.li m hm).1 ft
      refine ⟨updV A ns[i] t, same_put (same_add gw.sm ft) fD, ?_, ?_, ?_⟩
      · rw [upd_same, kvG_new nin, take_snoc hin]
        congr 2
        refine List.map_congr_left fun m _ => ?_
        show ((Sum.inr m : Key), updV (fun n => V.ref (A n)) ns[i] (.ref t) m) = (Sum.inr m, V.ref (updV A ns[i] t m))
        unfold updV
        by_cases z : m = ns[i]
        · rw [if_pos z, if_pos z]
        · rw [if_neg z, if_neg z]
      · intro m hm
        rw [take_snoc hin] at hm
        unfold updV
        rcases List.mem_append.mp hm with hm | hm
        · rw [if_neg (fun z => nin (by rw [← z]; exact hm))]
          exact ⟨at_upd (ne_of (gw.li m hm).1 gw.di (by intro z; cases z)) (at_upd (nt m hm) (gw.li m hm).1), (gw.li m hm).2⟩
        · rw [List.mem_singleton] at hm
          rw [if_pos hm]
          exact ⟨at_upd ntD upd_same, new_of_same gw.sm ft⟩
      · intro m hm m2 hm2 z
        rw [take_snoc hin] at hm hm2
        unfold updV at z
        rcases List.mem_append.mp hm with hm | hm <;> rcases List.mem_append.mp hm2 with hm2 | hm2
        · rw [if_neg (fun y => nin (by rw [← y]; exact hm)), if_neg (fun y => nin (by rw [← y]; exact hm2))] at z
          exact gw.ap m hm m2 hm2 z
        · rw [List.mem_singleton] at hm2
          rw [if_neg (fun y => nin (by rw [← y]; exact hm)), if_pos hm2] at z
          exact absurd z (nt m hm)
        · rw [List.mem_singleton] at hm
          rw [if_pos hm, if_neg (fun y => nin (by rw [← y]; exact hm2))] at z
          exact absurd z.symm (nt m2 hm2)
        · rw [List.mem_singleton] at hm hm2
          rw [hm, hm2]
    rintro H1 ⟨A, gw⟩
    rw [List.length_map, List.take_length] at gw
    wtm_at "rd"
    refine rd_forT (SqT.of (gw.sm _ _ gs.gr.edges)) ?_
    refine turnsT (K := K) (xs := es.map fun x => V.ref x.1) (fun i σ H' => ∃ u4 u5 u6 u7 : Option V, σ = [some (.ref g), some (.ref n), some (.ref e), some (.ref D), u4, u5, u6, u7] ∧ Grow H H' D ns A (fun m => nbrF ((es.map (·.2)).take i) m)) ⟨_, _, _, _, rfl, gw⟩ ?_ ?_ ?_
    · rintro i σ H' hi ⟨u4, u5, u6, u7, rfl, gw⟩
      exact SqT.of (gw.sm _ _ gs.gr.edges)
    · rintro i y σ H' hy ⟨u4, u5, u6, u7, rfl, gw⟩
      obtain ⟨hi, rfl⟩ := map_at hy
      have hm := List.getElem_mem hi
      obtain ⟨m1, m2⟩ := gs.inE _ hm
      have hne : es[i].2.1 ≠ es[i].2.2 := gs.ne es[i].2 (List.mem_map_of_mem hm)
      have hi2 : i < (es.map (·.2)).length := by rw [List.length_map]; exact hi
      have len : ∀ m, (nbrF ((es.map (·.2)).take i) m).length ≤ 2000 := fun m => by
        have := nbrF_len (x := m) (es := (es.map (·.2)).take i)
        rw [List.length_take, List.length_map] at this
        have := gs.l3
        omega
      have tk : ∀ m, nbrF ((es.map (·.2)).take (i + 1)) m = nbrF ((es.map (·.2)).take i) m ++ ((if es[i].2.1 = m then [es[i].2.2] else []) ++ (if es[i].2.2 = m then [es[i].2.1] else [])) := fun m => by
        have := nbrF_take (x := m) hi2
        rw [List.getElem_map] at this
        exact this
      refine rd_unp (SqT.of (gw.sm _ _ (gs.gr.pairs _ hm))) rfl ?_
      wtm_at "rd"
      refine rd_dat (.inl gw.di) (kvG_val m1) rfl ?_
      refine rd_tyL (gw.li _ m1).1 ?_
      wtm_at "rd"
      refine rd_append (gw.li _ m1).1 (by rw [List.length_map]; have := len es[i].2.1; omega) ?_
      have gw2 := gw.put (ys := nbrF ((es.map (·.2)).take i) es[i].2.1 ++ [es[i].2.2]) m1
      rw [List.map_append] at gw2
      wtm_at "rd"
      refine rd_dat (.inl gw2.di) (kvG_val m2) rfl ?_
      have l2 := (gw2.li _ m2).1
      have e2 : updV (fun m => nbrF ((es.map (·.2)).take i) m) es[i].2.1 (nbrF ((es.map (·.2)).take i) es[i].2.1 ++ [es[i].2.2]) es[i].2.2 = nbrF ((es.map (·.2)).take i) es[i].2.2 := if_neg (Ne.symm hne)
      rw [e2] at l2
      refine rd_tyL l2 ?_
      wtm_at "rd"
      refine rd_append l2 (by rw [List.length_map]; have := len es[i].2.2; omega) ?_
      have gw3 := gw2.put (ys := nbrF ((es.map (·.2)).take i) es[i].2.2 ++ [es[i].2.1]) m2
      rw [List.map_append] at gw3
      refine ⟨_, _, _, _, rfl, gw3.sm, gw3.di, fun m hm => ⟨?_, (gw3.li m hm).2⟩, gw3.ap⟩
      refine (gw3.li m hm).1.trans ?_
      congr 3
      rw [tk]
      unfold updV
      by_cases c2 : m = es[i].2.2
      · subst c2
        rw [if_pos rfl, if_neg hne, if_pos rfl, List.nil_append]
      · rw [if_neg c2]
        by_cases c1 : m = es[i].2.1
        · subst c1
          rw [if_pos rfl, if_pos rfl, if_neg (Ne.symm hne), List.append_nil]
        · rw [if_neg c1, if_neg (Ne.symm c1), if_neg (Ne.symm c2), List.append_nil, List.append_nil]
    rintro σ H2 ⟨u4, u5, u6, u7, rfl, gw2⟩
    rw [List.length_map, List.take_of_length_le (by rw [List.length_map]; exact Nat.le_refl _)] at gw2
    wtm_at "rd"
    refine rd_lockE gw2.di fun od => ?_
    wtm_at "rd"
    refine rd_forI upd_same ?_
    intro D2 fD2
    have nDa := new_ne fD2
    have fD20 := new_old fD2
    refine dcW walk_items (fun i H' => ∃ A2 : Str → Addr, But D H2 H' ∧ H' D = some (.frz od (.dK (kvG ns fun n => .ref (A n)))) ∧ H' D2 = some (.dK (kvG (ns.take i) fun n => .ref (A2 n))) ∧ (∀ m ∈ ns.take i, ∃ ys : List Str, H' (A2 m) = some (.lst (ys.map V.str)) ∧ (ys.Perm (nbrF (es.map (·.2)) m) ∧ ys.Pairwise fun a b => ¬ sLt b a)) ∧ ∀ m ∈ ns.take i, H (A2 m) = none)
      ⟨fun _ => 0, But.upd.trans (But.new fD2), at_upd (Ne.symm nDa) upd_same, upd_same, (fun m hm => nomatch hm), fun m hm => nomatch hm⟩ ?_ ?_ ?_
    · rintro i H' hi ⟨A2, _, hf, _⟩
      exact hf
    · rintro i x H' H3 hi ⟨A2, but, hf, hD, hl, fre⟩ ⟨T, x1, y1, rfl, fT, rfl, e1, e2⟩
      obtain ⟨hin, rfl, rfl⟩ := kvG_at e1 e2
      have hmem := List.getElem_mem hin
      have nin := not_take gs.nd hin
      have but2 : But D H2 (upd H' T (.tup [.str ns[i], .ref (A ns[i])])) := but.trans (But.new fT)
      have hf2 := at_upd (o := .tup [.str ns[i], .ref (A ns[i])]) (ne_of_none hf fT) hf
      have hD3 := at_upd (o := .tup [.str ns[i], .ref (A ns[i])]) (ne_of_none hD fT) hD
      have hl2 : ∀ m ∈ ns.take i, ∃ ys : List Str, upd H' T (.tup [.str ns[i], .ref (A ns[i])]) (A2 m) = some (.lst (ys.map V.str)) ∧ (ys.Perm (nbrF (es.map (·.2)) m) ∧ ys.Pairwise fun a b => ¬ sLt b a) := fun m hm => by
        obtain ⟨ys, z1, z2⟩ := hl m hm
        exact ⟨ys, at_upd (ne_of_none z1 fT) z1, z2⟩
      refine rd_unp (SqT.of upd_same) rfl ?_
      have ha := but2 _ _ (ne_of (gw2.li _ hmem).1 gw2.di (by intro z; cases z)) (gw2.li _ hmem).1
      generalize upd H' T (.tup [.str ns[i], .ref (A ns[i])]) = H4 at but2 hf2 hD3 hl2 ha
      wtm_at "rd"
      refine rd_sortS (SqL.of ha) (by have := nbrF_len (x := ns[i]) (es := es.map (·.2)); rw [List.length_map] at this; have := gs.l3; omega) ?_
      intro ys py sy l2 fl2
      refine rd_accD (k := .inr ns[i]) rfl (at_upd (ne_of_none hD3 fl2) hD3) (by rw [List.length_map, List.length_take]; have := gs.l2; omega) ?_
      have nl2D : l2 ≠ D2 := Ne.symm (ne_of_none hD3 fl2)
      have nH : H l2 = none := new_of_same gw2.sm (but2.free (Ne.symm (ne_of_none hf2 fl2)) fl2)
      refine ⟨updV A2 ns[i] l2, fun b' o' nb hb' => at_upd (ne_of_none hb' fD20) ((but2.trans (But.new fl2)) b' o' nb hb'), at_upd (Ne.symm nDa) (at_upd (ne_of_none hf2 fl2) hf2), ?_, ?_, ?_⟩
      · rw [upd_same, kvG_new nin, take_snoc hin]
        congr 2
        refine List.map_congr_left fun m _ => ?_
        show ((Sum.inr m : Key), updV (fun n => V.ref (A2 n)) ns[i] (.ref l2) m) = (Sum.inr m, V.ref (updV A2 ns[i] l2 m))
        unfold updV
        by_cases z : m = ns[i]
        · rw [if_pos z, if_pos z]
        · rw [if_neg z, if_neg z]
      · intro m hm
        rw [take_snoc hin] at hm
        unfold updV
        rcases List.mem_append.mp hm with hm | hm
        · rw [if_neg (fun z => nin (by rw [← z]; exact hm))]
          obtain ⟨zs, z1, z2⟩ := hl2 m hm
          exact ⟨zs, at_upd (ne_of z1 hD3 (by intro z; cases z)) (at_upd (ne_of_none z1 fl2) z1), z2⟩
        · rw [List.mem_singleton] at hm
          subst hm
          rw [if_pos rfl]
          exact ⟨ys, at_upd nl2D upd_same, py, sy⟩
      · intro m hm
        rw [take_snoc hin] at hm
        unfold updV
        rcases List.mem_append.mp hm with hm | hm
        · rw [if_neg (fun z => nin (by rw [← z]; exact hm))]
          exact fre m hm
        · rw [List.mem_singleton] at hm
          subst hm
          rw [if_pos rfl]
          exact nH
    rintro H' ⟨A2, but, hf, hD, hl, fre⟩
    rw [List.length_map, List.take_length] at hD hl fre
    refine ⟨hf, q D2 A2 _ (gw2.sm.trans (lk_same gw2.di but)) (new_of_same gw2.sm fD20) ⟨at_upd nDa hD, fun m hm => ?_⟩ fre⟩
    obtain ⟨ys, z1, z2⟩ := hl m hm
    exact ⟨ys, at_upd (ne_of z1 hf (by intro z; cases z)) z1, z2⟩
theorem ok_adj {f : Addr} {fd : FuncData} (F : Fun K "adjacency" "adjacency" s_adjacency f fd) (B : Bt mg) : FnG P w K mg base CX0 1 f fd ["graph"] spAdj := FnG.weak (ok_adjF F B) fun _ _ _ _ h => adj_weak h
end
end Law

namespace Law
open PySem PySem.Spec PyProof.Rows L2 U
local macro_rules | `(tactic| wtm_at "rd1") => `(tactic| first
  | with_reducible refine rd_seq ?_
  | ((with_reducible refine rd_var (v := ?vv) ?hv ?_); (case hv => exact rfl))
  | with_reducible refine rd_c ?_
  | with_reducible refine rd_cons ?_
  | with_reducible refine rd_nil ?_
  | with_reducible refine rd_op ?_
  | with_reducible refine rd_asg ?_
  | with_reducible refine rd_name ?_
  | with_reducible refine rd_c1 ?_
  | with_reducible refine rd_cb ?_
  | with_reducible refine rd_test ?_
  | with_reducible refine rd_B ?_
  | with_reducible refine rd_bl ?_
  | with_reducible refine rd_if ?_
  | with_reducible refine rd_ret ?_
  | with_reducible refine rd_drop ?_
  | with_reducible refine rd_next ?_
  | with_reducible refine rd_addI ?_
  | with_reducible refine rd_ltI ?_
  | with_reducible refine rd_eqI ?_
  | with_reducible refine rd_neI ?_
  | with_reducible refine rd_eqS ?_
  | with_reducible refine rd_neS ?_
  | with_reducible refine rd_gtI ?_
  | with_reducible refine rd_geI ?_
  | with_reducible refine rd_leI ?_
  | with_reducible refine rd_ltS ?_
  | with_reducible refine rd_subI ?_
  | ((with_reducible refine rd_modI ?hc ?_); (case hc => first | decide | omega))
  | ((with_reducible refine rd_mulI ?hc ?_); (case hc => first | exact mul_bI | exact .inl (.inr (by decide)) | exact .inl (.inl (by decide)) | exact .inl (.inr (by omega)) | exact .inl (.inl (by omega))))
  | ((with_reducible refine rd_divI ?hc ?_); (case hc => first | decide | omega))
  | ((with_reducible refine rd_powI ?hc ?_); (case hc => exact ⟨by decide, by decide, by decide⟩))
  | with_reducible refine rd_lst ?_
  | with_reducible refine rd_tup ?_
  | ((with_reducible refine rd_sz ?hv ?_); (case hv => exact rfl))
  | with_reducible refine rd_and ?_
  | with_reducible refine rd_or ?_
  | with_reducible refine rd_not ?_
  | with_reducible refine rd_andV ?_
  | with_reducible refine rd_orV ?_
  | with_reducible refine rd_notV ?_
  | with_reducible refine rd_ifE ?_
  | with_reducible refine rd_T ?_
  | with_reducible refine rd_F ?_
  | with_reducible refine rd_chain ?_
  | with_reducible refine rd_is ?_
  | with_reducible refine rd_isNot ?_
  | with_reducible refine rd_absI ?_
  | with_reducible refine rd_maxI ?_
  | with_reducible refine rd_minI ?_
  | with_reducible refine rd_intI ?_
  | with_reducible refine rd_intB ?_
  | with_reducible refine rd_sub ?_
  | with_reducible refine rd_sl ?_
  | with_reducible refine rd_noPart ?_
  | with_reducible refine rd_part ?_
  | with_reducible refine rd_exI ?_
  | with_reducible refine rd_bm ?_
  | with_reducible refine rd_bm0 ?_
  | with_reducible refine rd_un ?_
  | with_reducible refine rd_neg ?_
  | with_reducible refine rd_c2 ?_
  | with_reducible refine rd_retN ?_
  | with_reducible refine rd_break ?_
  | with_reducible refine rd_cont ?_
  | with_reducible refine rd_for ?_
  | with_reducible refine rd_rng1 ?_
  | with_reducible refine rd_rng2 ?_
  | with_reducible refine rd_iList ?_
  | with_reducible refine rd_iTup ?_
  | with_reducible refine rd_iEnum ?_
  | ((with_reducible refine rd_forR ?h0 ?h1 ?_); (case h0 => omega); (case h1 => omega))
  | with_reducible refine rd_lc ?_
  | with_reducible refine rd_gcons ?_
  | with_reducible refine rd_gnil ?_
  | with_reducible refine rd_dget ?_
  | with_reducible refine rd_dput ?_
  | with_reducible refine rd_dnew ?_
  | with_reducible refine rd_dc ?_
  | with_reducible refine rd_iItems ?_
  | with_reducible refine rd_iKeys ?_
  | with_reducible refine rd_din ?_
  | with_reducible refine rd_lc2 ?_
  | with_reducible refine rd_cd ?_
  | with_reducible refine rd_par ?_
  | with_reducible refine rd_two ?_
  | with_reducible refine rd_reprB ?_
  | with_reducible refine rd_ck ?_
  | ((with_reducible refine rd_len ?hl ?_); (case hl => exact rfl))
  | with_reducible refine rd_nT ?_
  | with_reducible refine rd_nF ?_
  | with_reducible refine rd_dnin ?_
  | with_reducible refine rd_isB ?_
  | with_reducible refine rd_isNotB ?_
  | with_reducible refine rd_daug ?_
  | with_reducible refine rd_yesT ?_
  | ((with_reducible refine rd_wp ?hw ?_); (case hw => exact rfl)))
local macro_rules | `(tactic| wtm_at "rd") => `(tactic| repeat wtm_at "rd1")

section
variable {P : Program} {w : World} {K : PySem.W.Frag} {mg : Str → Option Value} {base : Heap}
end
end Law

namespace Law
open PySem PySem.Spec PyProof.Rows L2 U
local macro_rules | `(tactic| wtm_at "rd1") => `(tactic| first
  | with_reducible refine rd_seq ?_
  | ((with_reducible refine rd_var (v := ?vv) ?hv ?_); (case hv => exact rfl))
  | with_reducible refine rd_c ?_
  | with_reducible refine rd_cons ?_
  | with_reducible refine rd_nil ?_
  | with_reducible refine rd_op ?_
  | with_reducible refine rd_asg ?_
  | with_reducible refine rd_name ?_
  | with_reducible refine rd_c1 ?_
  | with_reducible refine rd_cb ?_
  | with_reducible refine rd_test ?_
  | with_reducible refine rd_B ?_
  | with_reducible refine rd_bl ?_
  | with_reducible refine rd_if ?_
  | with_reducible refine rd_ret ?_
  | with_reducible refine rd_drop ?_
  | with_reducible refine rd_next ?_
  | with_reducible refine rd_addI ?_
  | with_reducible refine rd_ltI ?_
  | with_reducible refine rd_eqI ?_
  | with_reducible refine rd_neI ?_
  | with_reducible refine rd_eqS ?_
  | with_reducible refine rd_neS ?_
  | with_reducible refine rd_gtI ?_
  | with_reducible refine rd_geI ?_
  | with_reducible refine rd_leI ?_
  | with_reducible refine rd_ltS ?_
  | with_reducible refine rd_subI ?_
  | ((with_reducible refine rd_modI ?hc ?_); (case hc => first | decide | omega))
  | ((with_reducible refine rd_mulI ?hc ?_); (case hc => first | exact mul_bI | exact .inl (.inr (by decide)) | exact .inl (.inl (by decide)) | exact .inl (.inr (by omega)) | exact .inl (.inl (by omega))))
  | ((with_reducible refine rd_divI ?hc ?_); (case hc => first | decide | omega))
  | ((with_reducible refine rd_powI ?hc ?_); (case hc => exact ⟨by decide, by decide, by decide⟩))
  | with_reducible refine rd_lst ?_
  | with_reducible refine rd_tup ?_
  | ((with_reducible refine rd_sz ?hv ?_); (case hv => exact rfl))
  | with_reducible refine rd_and ?_
  | with_reducible refine rd_or ?_
  | with_reducible refine rd_not ?_
  | with_reducible refine rd_andV ?_
  | with_reducible refine rd_orV ?_
  | with_reducible refine rd_notV ?_
  | with_reducible refine rd_ifE ?_
  | with_reducible refine rd_T ?_
  | with_reducible refine rd_F ?_
  | with_reducible refine rd_chain ?_
  | with_reducible refine rd_is ?_
  | with_reducible refine rd_isNot ?_
  | with_reducible refine rd_absI ?_
  | with_reducible refine rd_maxI ?_
  | with_reducible refine rd_minI ?_
  | with_reducible refine rd_intI ?_
  | with_reducible refine rd_intB ?_
  | with_reducible refine rd_sub ?_
  | with_reducible refine rd_sl ?_
  | with_reducible refine rd_noPart ?_
  | with_reducible refine rd_part ?_
  | with_reducible refine rd_exI ?_
  | with_reducible refine rd_bm ?_
  | with_reducible refine rd_bm0 ?_
  | with_reducible refine rd_un ?_
  | with_reducible refine rd_neg ?_
  | with_reducible refine rd_c2 ?_
  | with_reducible refine rd_retN ?_
  | with_reducible refine rd_break ?_
  | with_reducible refine rd_cont ?_
  | with_reducible refine rd_for ?_
  | with_reducible refine rd_rng1 ?_
  | with_reducible refine rd_rng2 ?_
  | with_reducible refine rd_iList ?_
  | with_reducible refine rd_iTup ?_
  | with_reducible refine rd_iEnum ?_
  | ((with_reducible refine rd_forR ?h0 ?h1 ?_); (case h0 => omega); (case h1 => omega))
  | with_reducible refine rd_lc ?_
  | with_reducible refine rd_gcons ?_
  | with_reducible refine rd_gnil ?_
  | with_reducible refine rd_dget ?_
  | with_reducible refine rd_dput ?_
  | with_reducible refine rd_dnew ?_
  | with_reducible refine rd_dc ?_
  | with_reducible refine rd_iItems ?_
  | with_reducible refine rd_iKeys ?_
  | with_reducible refine rd_din ?_
  | with_reducible refine rd_lc2 ?_
  | with_reducible refine rd_cd ?_
  | with_reducible refine rd_par ?_
  | with_reducible refine rd_two ?_
  | with_reducible refine rd_reprB ?_
  | with_reducible refine rd_ck ?_
  | ((with_reducible refine rd_len ?hl ?_); (case hl => exact rfl))
  | with_reducible refine rd_nT ?_
  | with_reducible refine rd_nF ?_
  | with_reducible refine rd_dnin ?_
  | with_reducible refine rd_isB ?_
  | with_reducible refine rd_isNotB ?_
  | with_reducible refine rd_daug ?_
  | with_reducible refine rd_yesT ?_
  | ((with_reducible refine rd_wp ?hw ?_); (case hw => exact rfl)))
local macro_rules | `(tactic| wtm_at "rd") => `(tactic| repeat wtm_at "rd1")

section
variable {P : Program} {w : World} {K : PySem.W.Frag} {mg : Str → Option Value} {base : Heap}
end
end Law

/-! is_move of anything -/
namespace Law
open PySem PySem.Spec PyProof.Rows L2 U
local macro_rules | `(tactic| wtm_at "rd1") => `(tactic| first
  | with_reducible refine rd_seq ?_
  | ((with_reducible refine rd_var (v := ?vv) ?hv ?_); (case hv => exact rfl))
  | with_reducible refine rd_c ?_
  | with_reducible refine rd_cons ?_
  | with_reducible refine rd_nil ?_
  | with_reducible refine rd_op ?_
  | with_reducible refine rd_asg ?_
  | with_reducible refine rd_name ?_
  | with_reducible refine rd_c1 ?_
  | with_reducible refine rd_cb ?_
  | with_reducible refine rd_test ?_
  | with_reducible refine rd_B ?_
  | with_reducible refine rd_bl ?_
  | with_reducible refine rd_if ?_
  | with_reducible refine rd_ret ?_
  | with_reducible refine rd_drop ?_
  | with_reducible refine rd_next ?_
  | with_reducible refine rd_addI ?_
  | with_reducible refine rd_ltI ?_
  | with_reducible refine rd_eqI ?_
  | with_reducible refine rd_neI ?_
  | with_reducible refine rd_eqS ?_
  | with_reducible refine rd_neS ?_
  | with_reducible refine rd_gtI ?_
  | with_reducible refine rd_geI ?_
  | with_reducible refine rd_leI ?_
  | with_reducible refine rd_ltS ?_
  | with_reducible refine rd_subI ?_
  | ((with_reducible refine rd_modI ?hc ?_); (case hc => first | decide | omega))
  | ((with_reducible refine rd_mulI ?hc ?_); (case hc => first | exact mul_bI | exact .inl (.inr (by decide)) | exact .inl (.inl (by decide)) | exact .inl (.inr (by omega)) | exact .inl (.inl (by omega))))
  | ((with_reducible refine rd_divI ?hc ?_); (case hc => first | decide | omega))
  | ((with_reducible refine rd_powI ?hc ?_); (case hc => exact ⟨by decide, by decide, by decide⟩))
  | with_reducible refine rd_lst ?_
  | with_reducible refine rd_tup ?_
  | ((with_reducible refine rd_sz ?hv ?_); (case hv => exact rfl))
  | with_reducible refine rd_and ?_
  | with_reducible refine rd_or ?_
  | with_reducible refine rd_not ?_
  | with_reducible refine rd_andV ?_
  | with_reducible refine rd_orV ?_
  | with_reducible refine rd_notV ?_
  | with_reducible refine rd_ifE ?_
  | with_reducible refine rd_T ?_
  | with_reducible refine rd_F ?_
  | with_reducible refine rd_chain ?_
  | with_reducible refine rd_is ?_
  | with_reducible refine rd_isNot ?_
  | with_reducible refine rd_absI ?_
  | with_reducible refine rd_maxI ?_
  | with_reducible refine rd_minI ?_
  | with_reducible refine rd_intI ?_
  | with_reducible refine rd_intB ?_
  | with_reducible refine rd_sub ?_
  | with_reducible refine rd_sl ?_
  | with_reducible refine rd_noPart ?_
  | with_reducible refine rd_part ?_
  | with_reducible refine rd_exI ?_
  | with_reducible refine rd_bm ?_
  | with_reducible refine rd_bm0 ?_
  | with_reducible refine rd_un ?_
  | with_reducible refine rd_neg ?_
  | with_reducible refine rd_c2 ?_
  | with_reducible refine rd_retN ?_
  | with_reducible refine rd_break ?_
  | with_reducible refine rd_cont ?_
  | with_reducible refine rd_for ?_
  | with_reducible refine rd_rng1 ?_
  | with_reducible refine rd_rng2 ?_
  | with_reducible refine rd_iList ?_
  | with_reducible refine rd_iTup ?_
  | with_reducible refine rd_iEnum ?_
  | ((with_reducible refine rd_forR ?h0 ?h1 ?_); (case h0 => omega); (case h1 => omega))
  | with_reducible refine rd_lc ?_
  | with_reducible refine rd_gcons ?_
  | with_reducible refine rd_gnil ?_
  | with_reducible refine rd_dget ?_
  | with_reducible refine rd_dput ?_
  | with_reducible refine rd_dnew ?_
  | with_reducible refine rd_dc ?_
  | with_reducible refine rd_iItems ?_
  | with_reducible refine rd_iKeys ?_
  | with_reducible refine rd_din ?_
  | with_reducible refine rd_lc2 ?_
  | with_reducible refine rd_cd ?_
  | with_reducible refine rd_par ?_
  | with_reducible refine rd_two ?_
  | with_reducible refine rd_reprB ?_
  | with_reducible refine rd_ck ?_
  | ((with_reducible refine rd_len ?hl ?_); (case hl => exact rfl))
  | with_reducible refine rd_nT ?_
  | with_reducible refine rd_nF ?_
  | with_reducible refine rd_dnin ?_
  | with_reducible refine rd_isB ?_
  | with_reducible refine rd_isNotB ?_
  | with_reducible refine rd_daug ?_
  | with_reducible refine rd_yesT ?_
  | ((with_reducible refine rd_wp ?hw ?_); (case hw => exact rfl)))
local macro_rules | `(tactic| wtm_at "rd") => `(tactic| repeat wtm_at "rd1")

/-- c: not a move by its form (o = none), or a text and a number -/
inductive CandAt (K : PySem.W.Frag) (H : Hp) : V → Option (Str × Int) → Prop
  | odd {c : V} {a : Ty} : TyIs K H c a → isT a .tup = false → CandAt K H c none
  | len {a : Addr} {xs : List V} : H a = some (.tup xs) → xs.length ≠ 2 → CandAt K H (.ref a) none
  | node {a : Addr} {x y : V} {t : Ty} : H a = some (.tup [x, y]) → TyIs K H x t → isT t .str = false → CandAt K H (.ref a) none
  | val {a : Addr} {x : Str} {y : V} {t : Ty} : H a = some (.tup [.str x, y]) → TyIs K H y t → t ≠ .int → CandAt K H (.ref a) none
  | mv {a : Addr} {x : Str} {v : Int} : H a = some (.tup [.str x, .int v]) → CandAt K H (.ref a) (some (x, v))
def spHasV (K : PySem.W.Frag) : Sp := fun vs H Q _ => ∃ (g n e : Addr) (x : V) (t : Ty) (ns : List Str) (es : List (Addr × Str × Str)), vs = [.ref g, x] ∧ GrAt H g n e ns es ∧ ((TyIs K H x t ∧ isT t .str = false ∧ Q (.bl false) H) ∨ ∃ s, x = .str s ∧ Q (.bl (decide (s ∈ ns))) H)
section
variable {P : Program} {w : World} {K : PySem.W.Frag} {mg : Str → Option Value} {base : Heap}
theorem ok_hasV {f : Addr} {fd : FuncData} (F : Fun K "has_node" "has_node" s_has_node f fd) (B : Bt mg) : FnG P w K mg base CX0 1 f fd ["graph", "candidate"] (spHasV K) := by
  refine fnG0 F sc_has_node (fun vs H Q E h => ?_) (fun cdv A outer s H vs Q E hr h => ?_)
  · obtain ⟨g, n, e, x, t, ns, es, rfl, _⟩ := h
    rfl
  · obtain ⟨g, n, e, x, t, ns, es, rfl, hg, q⟩ := h
    have nd := sc_has_node.nd
    refine ⟨_, (pss_one (ps_ret (pe_and (pe_callB (kIsi K rfl) (by rfl) B.isinstance bb_isinstance (pa_cons (pv 1) (pa_cons (pe_ty rfl B.str bb_str) pa_nil))) (pe_one (pe_cmpR (kIn K rfl) (pv 1) (pe_ix (kIx K rfl) (pv 0) pe_int (fun _ _ => rfl)) rfl))))), ?_⟩
    wtm_at "rd"
    rcases q with ⟨ht, hs, q⟩ | ⟨s, rfl, q⟩
    · refine rd_isi ht (t := .str) (by decide +kernel) ?_
      rw [hs]
      wtm_at "rd"
      exact q
    refine rd_isi ty_str (t := .str) (by decide +kernel) ?_
    rw [show isT .str .str = true from by decide +kernel]
    wtm_at "rd"
    refine rd_ixT (SqT.of hg.top) (v := .ref n) rfl ?_
    refine rd_inST (SqT.of hg.nodes) ?_
    exact q
end
end Law

/-! apply_moves of anything -/
namespace Law
open PySem PySem.Spec PyProof.Rows L2 U
local macro_rules | `(tactic| wtm_at "rd1") => `(tactic| first
  | with_reducible refine rd_seq ?_
  | ((with_reducible refine rd_var (v := ?vv) ?hv ?_); (case hv => exact rfl))
  | with_reducible refine rd_c ?_
  | with_reducible refine rd_cons ?_
  | with_reducible refine rd_nil ?_
  | with_reducible refine rd_op ?_
  | with_reducible refine rd_asg ?_
  | with_reducible refine rd_name ?_
  | with_reducible refine rd_c1 ?_
  | with_reducible refine rd_cb ?_
  | with_reducible refine rd_test ?_
  | with_reducible refine rd_B ?_
  | with_reducible refine rd_bl ?_
  | with_reducible refine rd_if ?_
  | with_reducible refine rd_ret ?_
  | with_reducible refine rd_drop ?_
  | with_reducible refine rd_next ?_
  | with_reducible refine rd_addI ?_
  | with_reducible refine rd_ltI ?_
  | with_reducible refine rd_eqI ?_
  | with_reducible refine rd_neI ?_
  | with_reducible refine rd_eqS ?_
  | with_reducible refine rd_neS ?_
  | with_reducible refine rd_gtI ?_
  | with_reducible refine rd_geI ?_
  | with_reducible refine rd_leI ?_
  | with_reducible refine rd_ltS ?_
  | with_reducible refine rd_subI ?_
  | ((with_reducible refine rd_modI ?hc ?_); (case hc => first | decide | omega))
  | ((with_reducible refine rd_mulI ?hc ?_); (case hc => first | exact mul_bI | exact .inl (.inr (by decide)) | exact .inl (.inl (by decide)) | exact .inl (.inr (by omega)) | exact .inl (.inl (by omega))))
  | ((with_reducible refine rd_divI ?hc ?_); (case hc => first | decide | omega))
  | ((with_reducible refine rd_powI ?hc ?_); (case hc => exact ⟨by decide, by decide, by decide⟩))
  | with_reducible refine rd_lst ?_
  | with_reducible refine rd_tup ?_
  | ((with_reducible refine rd_sz ?hv ?_); (case hv => exact rfl))
  | with_reducible refine rd_and ?_
  | with_reducible refine rd_or ?_
  | with_reducible refine rd_not ?_
  | with_reducible refine rd_andV ?_
  | with_reducible refine rd_orV ?_
  | with_reducible refine rd_notV ?_
  | with_reducible refine rd_ifE ?_
  | with_reducible refine rd_T ?_
  | with_reducible refine rd_F ?_
  | with_reducible refine rd_chain ?_
  | with_reducible refine rd_is ?_
  | with_reducible refine rd_isNot ?_
  | with_reducible refine rd_absI ?_
  | with_reducible refine rd_maxI ?_
  | with_reducible refine rd_minI ?_
  | with_reducible refine rd_intI ?_
  | with_reducible refine rd_intB ?_
  | with_reducible refine rd_sub ?_
  | with_reducible refine rd_sl ?_
  | with_reducible refine rd_noPart ?_
  | with_reducible refine rd_part ?_
  | with_reducible refine rd_exI ?_
  | with_reducible refine rd_bm ?_
  | with_reducible refine rd_bm0 ?_
  | with_reducible refine rd_un ?_
  | with_reducible refine rd_neg ?_
  | with_reducible refine rd_c2 ?_
  | with_reducible refine rd_retN ?_
  | with_reducible refine rd_break ?_
  | with_reducible refine rd_cont ?_
  | with_reducible refine rd_for ?_
  | with_reducible refine rd_rng1 ?_
  | with_reducible refine rd_rng2 ?_
  | with_reducible refine rd_iList ?_
  | with_reducible refine rd_iTup ?_
  | with_reducible refine rd_iEnum ?_
  | ((with_reducible refine rd_forR ?h0 ?h1 ?_); (case h0 => omega); (case h1 => omega))
  | with_reducible refine rd_lc ?_
  | with_reducible refine rd_gcons ?_
  | with_reducible refine rd_gnil ?_
  | with_reducible refine rd_dget ?_
  | with_reducible refine rd_dput ?_
  | with_reducible refine rd_dnew ?_
  | with_reducible refine rd_dc ?_
  | with_reducible refine rd_iItems ?_
  | with_reducible refine rd_iKeys ?_
  | with_reducible refine rd_din ?_
  | with_reducible refine rd_lc2 ?_
  | with_reducible refine rd_cd ?_
  | with_reducible refine rd_par ?_
  | with_reducible refine rd_two ?_
  | with_reducible refine rd_reprB ?_
  | with_reducible refine rd_ck ?_
  | ((with_reducible refine rd_len ?hl ?_); (case hl => exact rfl))
  | with_reducible refine rd_nT ?_
  | with_reducible refine rd_nF ?_
  | with_reducible refine rd_dnin ?_
  | with_reducible refine rd_isB ?_
  | with_reducible refine rd_isNotB ?_
  | with_reducible refine rd_daug ?_
  | with_reducible refine rd_yesT ?_
  | ((with_reducible refine rd_wp ?hw ?_); (case hw => exact rfl)))
local macro_rules | `(tactic| wtm_at "rd") => `(tactic| repeat wtm_at "rd1")

theorem rd_rz {C : Addr} {f : Str} {te : TE} {W : WX} {D : Ends} {σ : L2.St} {H : Hp} (h : tCons te tNil σ H fun vs H1 => vs.length ≤ 1000 ∧ ∀ a, H1 a = none → spInit1 C f (.ref a :: (vs ++ [])) (upd H1 a (exo a C none))
  (fun v H2 => v = .non ∧ ∃ (d : Addr) (fs : List (Str × V)), H2 a = some (exo a C (some d)) ∧ H2 d = some (exd d fs) ∧ H1 d = none ∧ W (.ref C) (some d) σ (upd (del H2 a) d (.xd fs))) (fun _ _ _ => False)) : tRz C f te W D σ H := h
theorem tyx_same {K : PySem.W.Frag} {H H' : Hp} {x : V} {t : Value} (h : TyX K H x t) (s : Same H H') : TyX K H' x t := by
  cases h with
  | base h =>
    cases h with
    | non => exact .base .non
    | bl x => exact .base (.bl x)
    | int x => exact .base (.int x)
    | str x => exact .base (.str x)
    | flt x => exact .base (.flt x)
    | lst e => exact .base (.lst (s _ _ e))
    | frz e => exact .base (.frz (s _ _ e))
    | tup e => exact .base (.tup (s _ _ e))
    | dK e => exact .base (.dK (s _ _ e))
    | dT e => exact .base (.dT (s _ _ e))
    | ins e a b c d f => exact .base (.ins (s _ _ e) a b c d f)
  | byt b => exact .byt b
  | set e => exact .set (s _ _ e)
  | kList e c => exact .kList e c
  | kTuple e c => exact .kTuple e c
  | kDict e c => exact .kDict e c
  | fTuple e => exact .fTuple (s _ _ e)
  | fDict e => exact .fDict (s _ _ e)
theorem CandAt.same {K : PySem.W.Frag} {H H' : Hp} {c : V} {o : Option (Str × Int)} (h : CandAt K H c o) (s : Same H H') : CandAt K H' c o := by
  cases h with
  | odd a b => exact .odd (tyx_same a s) b
  | len a b => exact .len (s _ _ a) b
  | node a b c => exact .node (s _ _ a) (tyx_same b s) c
  | val a b c => exact .val (s _ _ a) (tyx_same b s) c
  | mv a => exact .mv (s _ _ a)
section
variable {P : Program} {w : World} {K : PySem.W.Frag} {mg : Str → Option Value} {base : Heap}
end
end Law

/-! own exceptions with one field over any built-in class of the plain kind -/
namespace U
open PySem PySem.Spec PyProof.Rows L2
/-- the call of an own class over such a base, its __init__ a def -/
def CallOwn (newId : String) (bmB : List Value) : Prop := ∀ (P : Program) (w : World) (A : Around) (R : Result → Shared → Prop) (h : Heap) (g : Array GenState) (d : Drawn) (t : Nat) (os : OsState) (nm q : Str) (C N : Addr) (bs bm : List Value) (hdct : Bool) (sn : List Str) (sub : List Value) (ab : Bool) (col : Option Bool) (dd : Option Addr)
    (k0 k1 k2 k3 k5 : Option Value) (us : List Value) (fI : Addr), (∀ X : String, bm.contains (.type X) = bmB.contains (.type X)) → h.get? C = some (excClassObj nm q C N bs bm hdct sn sub ab col dd k0 k1 k2 k3 k5 newId) →
    PySem.W.Looks (model P w) h (typeLookup (.ref C) "__init__") (some (.ref fI)) → (∀ self, PySem.W.Looks (model P w) h (bindSpecial (.ref fI) self) (.ref fI, [self])) → us.length ≤ sizeLine →
    codeAny (model P w) (A.under (.builtin "type.__call__" ⟨.ref C :: us, []⟩)) (.call (.ref fI) ⟨.ref (h.objs.size + 1) :: us, []⟩) (PySem.W.InitBack (h.objs.size + 1) R) ⟨(h.push (PySem.W.kdv_tup us)).push (PySem.HandSPX.excO C h.objs.size), g, d, t, os⟩ →
    codeAny (model P w) A (.call (.ref C) ⟨us, []⟩) R ⟨h, g, d, t, os⟩
/-- the base's own __init__, called within it -/
def InitOwn (initId newId : String) (bmB : List Value) : Prop := ∀ (P : Program) (w : World) (A : Around) (R : Result → Shared → Prop) (h : Heap) (g : Array GenState) (d : Drawn) (t : Nat) (os : OsState) (nm q : Str) (C N : Addr) (bs bm : List Value) (hdct : Bool) (sn : List Str) (sub : List Value) (ab : Bool) (col : Option Bool) (dd : Option Addr)
    (k0 k1 k2 k3 k5 : Option Value) (us : List Value) (e t0 : Addr), (∀ X : String, bm.contains (.type X) = bmB.contains (.type X)) → h.get? C = some (excClassObj nm q C N bs bm hdct sn sub ab col dd k0 k1 k2 k3 k5 newId) → h.get? e = some (PySem.HandSPX.excO C t0) → us.length ≤ sizeLine →
    (∀ h' t1, (∀ b o, b ≠ e → h.get? b = some o → h'.get? b = some o) → h'.get? e = some (PySem.HandSPX.excO C t1) → R (.ok (.ret .none)) ⟨h', g, d, t, os⟩) → codeAny (model P w) A (.call (.builtin initId) ⟨.ref e :: us, []⟩) R ⟨h, g, d, t, os⟩
/-- what is asked of the built-in class -/
structure BasF (B newId initId : String) (bmB : List Value) : Prop where
  call : CallOwn newId bmB
  init : InitOwn initId newId bmB
  pass : ∀ self : Value, refuseLoop self "__setattr__" bmB = pure ()
  obj : bmB.contains (.type "object") = true
  typ : typeOf (.type B) = pure (.type "type")
  stub : Manifest.isStub B = false
  blt : bootBuiltins (Str.ofString B) = some (.type B)
  nam : Str.ofString B ≠ "__name__"
  dbg : (Str.ofString B == ("__debug__" : Str)) = false
  hin : PySem.W.handedIn (.builtin initId) = true
  ne : bmB ≠ []
/-- what the written part says of the own class -/
structure OexB (K : PySem.W.Frag) (C : Addr) (newId : String) (bmB : List Value) : Prop where
  cls : ∃ nm q N bs bm sn sub ab col dd k0 k1 k2 k3 k5, K.lookup C = some (excClassObj nm q C N bs bm true sn sub ab col dd k0 k1 k2 k3 k5 newId) ∧ PySem.W.excTail bmB bm = true
  sa : PySem.W.findIn K (.ref C) "__setattr__" = some (some (.builtin "object.__setattr__"))
  exC : PySem.W.subIn K (.ref C) (.type "BaseException") = some true
  tyC : PySem.W.typeIn K (.ref C) = some (.type "type")
  kC : PySem.W.keepIn K (.ref C) = true
theorem tail_ne {bmB : List Value} (nb : bmB ≠ []) {l : List Value} (h : PySem.W.excTail bmB l = true) : l.isEmpty = false := by
  cases l with
  | nil => exact absurd (beq_iff_eq.mp h : ([] : List Value) = bmB).symm nb
  | cons _ _ => rfl
section
variable {P : Program} {w : World} {A : Around} {R : Result → Shared → Prop} {hp : Heap} {g : Array GenState} {d : Drawn} {t : Nat} {os : OsState} {B newId initId : String} {bmB : List Value}
/-- the first field -/
theorem osa_first {K : PySem.W.Frag} {f : Str} {tk : Tok} {v : Value} {a C : Addr} {fv : Array Value} {cd : ClassData} (BF : BasF B newId initId bmB) (X : K.In hp) (ha : hp.get? a = some { cls := .ref C, data := .fields fv }) (hcd : PySem.W.clsIn K C = some cd) (hm : PySem.W.excTail bmB cd.mro = true)
    (hh : cd.hasDict = true) (no : PySem.W.findIn K (.ref C) f = some none)
    (hq : ∀ h' tk' dx, (∀ b o, b ≠ a → hp.get? b = some o → h'.get? b = some o) → hp.objs.size ≤ dx → dx ≠ a → h'.get? a = some { cls := .ref C, dict := some dx, data := .fields fv } → h'.Ns1 dx (fun y => if y = f then some v else none) → R (.ok (.ret .none)) ⟨h', g, d, tk', os⟩) :
    codeAny (model P w) A (.call (.builtin "object.__setattr__") ⟨[.ref a, .str f tk, v], []⟩) R ⟨hp, g, d, t, os⟩ := by
  have I1 : PySem.W.InstAt hp a { cls := .ref C, data := .fields fv } C none := ⟨ha, rfl, rfl, trivial⟩
  have na : a ≠ hp.objs.size := Nat.ne_of_lt (Heap.lt_size ha)
  have ob := (PySem.W.excTail_contains "object" _ hm).trans BF.obj
  have inst : PySem.W.Looks (model P w) hp (isInstance (.ref a) (.type "object")) true := by
    refine I1.type.andThen (PySem.W.looks_mroIn X ?_)
    unfold PySem.W.mroIn
    rw [hcd, Option.bind_some, if_neg (by rw [tail_ne BF.ne hm]; decide), ob]
  have cl : PySem.W.Looks (model P w) hp (classData C) cd := PySem.W.looks_clsIn X hcd
  have mr : PySem.W.Looks (model P w) hp (mroOf (.ref C)) cd.mro := cl.andThen .now
  have tk0 : PySem.W.Looks (model P w) hp (Builtin.ObjectAttr.storeTaker? none) none := .now
  refine codeAny_call_builtin F.store_object.slot.plain F.store_object.entry (@PySem.W.check_slot (model P w) _ _ ⟨hp, g, d, t, os⟩ "object.__setattr__" "object" "__setattr__" (.ref a) [.str f tk, v] [] _ F.store_object.kind F.store_object.split inst (F.store_object.args (.ref a) (.str f tk) v) ?_)
  rw [PySem.W.osa_eq, refuse_eq]
  refine wpAny_bind ?_
  refine wpAny_bind (I1.type.at ?_)
  refine wpAny_bind (mr.at ?_)
  rw [PySem.W.excTail_pass _ (BF.pass _) _ hm]
  refine wpAny_pure ?_
  refine wpAny_bind (I1.type.at ?_)
  refine wpAny_bind ((PySem.W.looks_findIn X no).at ?_)
  refine wpAny_bind (tk0.at ?_)
  show wpAny _ _ (Builtin.ObjectAttr.storeInOwnDict (.ref a) (.ref C) (.str f tk) f v false) _ _ _
  obtain ⟨_, _, _, _, _, hd, _, _, _, _, _⟩ := cd
  obtain rfl : hd = true := hh
  unfold Builtin.ObjectAttr.storeInOwnDict Builtin.ObjectAttr.ownDictForStores
  repeat (first | with_reducible refine PySem.HandSPX.store_in_new ?_ ?_ | with_reducible refine wpAny_loadPart_at ha ?_ | with_reducible refine cl.at ?_ | wp_step)
  · exact ⟨_, #[], _, Eq.trans (Heap.get?_update_ne _ _ _ _ na.symm) (Heap.get?_push_at rfl rfl), rfl, (fun e he => absurd he (by simp)), fun _ => rfl⟩
  · intro h2 tk2 hn2 hs
    have old : (hp.push { cls := .type "dict", data := .dict #[] }).get? a = some { cls := .ref C, data := .fields fv } := Heap.get?_push_of_some _ ha
    refine hq h2 tk2 hp.objs.size (fun b o nb hb => ?_) (Nat.le_refl _) na.symm ?_ hn2
    · rw [hs.2 b (Nat.ne_of_lt (Heap.lt_size hb)), Heap.get?_update_ne _ _ _ _ nb]
      exact Heap.get?_push_of_some _ hb
    · rw [hs.2 a na]
      exact Heap.get?_update_self _ old rfl
end
section
variable {X : Cx} {pins : List (Addr × Obj)} {σ : L2.St} {H : Hp} {s : Shared} {a C dx : Addr} {f : Str} {y : V} {u : Value} {B newId initId : String} {bmB : List Value}
theorem ost_first {Q : Unit → Shared → Prop} {E : Value → Shared → Prop} {A : Around} (BF : BasF B newId initId bmB) (T : OexB X.K C newId bmB) (I : Inv X pins σ H s) (e : H a = some (exo a C none)) (no : PySem.W.findIn X.K (.ref C) f = some none) (ry : RelV y u)
    (h : ∀ dx s', H dx = none → dx ≠ a → Inv X pins σ (upd (upd H dx (exd dx [(f, y)])) a (exo a C (some dx))) s' → Q () s') : wpAny (model X.prog X.w) A (setAttr (.ref a) f u) Q E s := by
  obtain ⟨nm, q, N, bs, bm, sn, sub, ab, col, dd, k0, k1, k2, k3, k5, hC, hbm⟩ := T.cls
  have hcl : PySem.W.clsIn X.K C = some { name := nm, bases := bs, mro := .ref C :: bm, ns := N, qualname := q, hasDict := true, slotNames := sn, subclasses := sub, abstract := ab, collection := col, hasDel := false } := by
    unfold PySem.W.clsIn
    rw [hC] <;> rfl
  obtain ⟨t1, ho⟩ := exo_at I.hok e
  obtain ⟨hp, g, d, t, os⟩ := s
  refine PySem.W.set_plain I.kIn (od := none) (ox := { cls := .ref C, dict := none, data := .fields #[.ref t1, .none, .none, .none, .bool false, .none] }) ⟨ho, rfl, rfl, trivial⟩ T.sa ?_
  refine osa_first BF I.kIn ho hcl (show PySem.W.excTail bmB (.ref C :: bm) = true from hbm) rfl no fun h' tk' dx k dn dne hx hn => ?_
  have hnd : H dx = none := I.hok.fresh dn
  have nd : ∀ {b : Addr} {o : Obj}, hp.get? b = some o → b ≠ dx := fun {b o} q => Nat.ne_of_lt (Nat.lt_of_lt_of_le (Heap.lt_size q) dn)
  have na : ∀ {b : Addr}, H b = none → b ≠ a := fun {b} n z => by
    rw [z, e] at n
    cases n
  have old : ∀ {b : Addr} {o : HO}, H b = some o → exo a C none ≠ o → upd (upd H dx (exd dx [(f, y)])) a (exo a C (some dx)) b = some o := fun {b o} q ne => at_upd (at_ne e q ne) (at_upd (ne_of_none q hnd) q)
  have U : Un X.fs [] H (upd (upd H dx (exd dx [(f, y)])) a (exo a C (some dx))) hp h' := {
    keep := fun b o q n _ _ => k b o (na n) q
    slot := fun b o q n _ _ => ⟨_, k b o (na n) q⟩
    free := fun b o q n _ => no_upd (na n) (no_upd (nd q) n)
    there := fun b o q _ => Classical.byCases (fun hb : b = a => ⟨_, hb ▸ hx⟩) fun hb => ⟨o, k b o hb q⟩
    tups := fun b xs q => old q exo_tup
    frzs := fun b o v q => old q exo_frz
    tbls := fun b ps q => ⟨#[], by rw [old q exo_tbl]; simp⟩ }
  refine h dx _ hnd dne (I.un (t' := tk') U fun b o q => ?_)
  by_cases hb : b = a
  · subst hb
    rw [upd_same] at q
    cases q
    exact exo_ok hx
  rw [upd_ne hb] at q
  by_cases hd : b = dx
  · subst hd
    rw [upd_same] at q
    cases q
    exact exd_ok hn (relO_put (fs := []) ry fun g => True.intro)
  rw [upd_ne hd] at q
  refine (I.hok b o q).stay (fun c v hc z => k c v ?_ z) (fun c hc => old hc exo_own) fun c xs hc => old hc exo_tup
  rcases hc with rfl | hc
  · exact hb
  · exact at_ne e hc exo_own
theorem oinit_b {us : List Value} {Q : Value → Shared → Prop} {E : Value → Shared → Prop} {A : Around} (BF : BasF B newId initId bmB) (T : OexB X.K C newId bmB) (I : Inv X pins σ H s) (e : H a = some (exo a C none)) (hl : us.length ≤ sizeLine) (h : ∀ s', Inv X pins σ H s' → Q .none s') :
    wpAny (model X.prog X.w) A (call (.builtin initId) (.ref a :: us)) Q E s := by
  obtain ⟨nm, q, N, bs, bm, sn, sub, ab, col, dd, k0, k1, k2, k3, k5, hC, hbm⟩ := T.cls
  obtain ⟨t1, ho⟩ := exo_at I.hok e
  obtain ⟨hp, g, d, t, os⟩ := s
  refine wpAny_call (BF.init _ _ _ _ _ _ _ _ _ _ _ _ _ _ _ _ _ _ _ _ _ _ _ _ _ _ _ _ _ (fun Y => PySem.W.excTail_contains Y bm hbm) (I.kIn _ _ hC) ho hl fun h' t2 k hx => ?_)
  have J := I.write (t' := t) (x := a) (e := a) (o := exo a C none) (by rw [e]; exact True.intro) (.inl rfl) k ⟨_, hx⟩ (exo_ok hx)
  rw [show upd H a (exo a C none) = H from funext fun b => by
    by_cases hb : b = a
    · rw [hb, upd_same, e]
    · exact upd_ne hb] at J
  exact h _ J
/-- B.__init__(self, ..) -/
def tBtI (K : PySem.W.Frag) (newId : String) (bmB : List Value) (ta : TA) : TE := fun σ H Q => ta σ H fun vs H1 => ∃ (a C : Addr) (ws : List V), vs = .ref a :: ws ∧ ws.length ≤ 1000 ∧ OexB K C newId bmB ∧ H1 a = some (exo a C none) ∧ Q .non H1
/-- self.f = e, the first field -/
def tOstB (K : PySem.W.Frag) (newId : String) (bmB : List Value) (f : Str) (to te : TE) : TS := fun D σ H => te σ H fun y H1 => to σ H1 fun x H2 => ∃ a C : Addr, x = .ref a ∧ OexB K C newId bmB ∧ PySem.W.findIn K (.ref C) f = some none ∧
  H2 a = some (exo a C none) ∧ ∀ dx, H2 dx = none → dx ≠ a → D.nx σ (upd (upd H2 dx (exd dx [(f, y)])) a (exo a C (some dx)))
variable {o e : Expr} {es : List Expr} {to te : TE} {ta : TA} {p p' p1 p2 pos : Pos}
theorem pe_btinit (BF : BasF B newId initId bmB) {pl : Sem Bool} (hg : Gl X (Str.ofString B)) (hm : X.mg (Str.ofString B) = none) (vV : PySem.W.findCls X.K (.type B) (.type "type") "__init__" = some (.val (.builtin initId))) (ha : PA X (e :: es) ta)
    (hc : eval (.Call (.Attribute (.Name (Str.ofString B) p1) "__init__" p2) (e :: es) [] pos) X.env = (do
      let ov ← eval (.Name (Str.ofString B) p1) X.env
      standAt p2.atName
      let (f, first) ← holding [ov] (getMethod ov "__init__" pl)
      callWith pos f first (backTo pos (starEach (e :: es) X.env)) (backToKw pos (keywordEach [] X.env))) := by rfl)
    (he : starEach (e :: es) X.env = (false, eval e X.env) :: starEach es X.env := by rfl) (hpl : (backTo pos (starEach es X.env)).any (·.1) = false := by rfl) :
    PE X (.Call (.Attribute (.Name (Str.ofString B) p1) "__init__" p2) (e :: es) [] pos) (tBtI X.K newId bmB ta) := by
  refine ⟨fun pins s σ H Q I h => PySem.W.methodCall_KW (ld_blt I hg hm BF.blt ?_ BF.nam BF.dbg) hc⟩
  obtain ⟨m, fr⟩ := I.fr
  refine PySem.W.method_type fr I.ok.mod.kin BF.typ BF.stub vV BF.hin ?_
  show wpAny _ _ (callWith pos (Value.builtin initId) [] (backTo pos (starEach (e :: es) X.env)) []) _ _ _
  refine PyProof.Rows.callWith_method1 (thn (ha.run pos pins _ σ H _ (I.tok _) h) fun us s1 ⟨vs, H1, I1, r1, a, C, ws, ev, hl, T, ea, q⟩ => ?_) he hpl
  subst ev
  cases r1 with
  | @cons _ u0 _ ur ra rw' =>
    obtain rfl : u0 = Value.ref a := ra
    exact oinit_b BF T I1 ea (by rw [← Paired.length rw', sizeLine_eq]; omega) fun s' J => ⟨.non, H1, J, rfl, q⟩
theorem ps_ostB (BF : BasF B newId initId bmB) (ho : PE X o to) (he : PE X e te) (hs : swapsWith e (some (.Attribute o f p')) pos.line X.env = pure false := by rfl) : PS X (.Assign [.Attribute o f p'] e pos) (tOstB X.K newId bmB f to te) := by
  refine ⟨fun pins s σ H D I h => plainObj_wpAny_Assign_Attribute (thn (he.run pins s σ H _ I h) fun v s1 ⟨y, H1, I1, r1, q1⟩ => ?_) hs⟩
  refine thn (ho.run pins s1 σ H1 _ I1 q1) fun u s2 ⟨x, H2, I2, r2, a, C, ex, T, hno, ea, q⟩ => ?_
  subst ex
  obtain rfl : u = Value.ref a := r2
  exact ost_first BF T I2 ea hno r1 fun dx s' n ne J => ⟨σ, _, J, q dx n ne⟩
theorem pmk_b (BF : BasF B newId initId bmB) {CX : CXT} {x : Str} {fI : Addr} {k : Nat} {fd : FuncData} {ps : List Str} {sp : Sp} {ds : List Value} {dvs : List V} (T : OexB X.K C newId bmB) (iC : PySem.W.findIn X.K (.ref C) "__init__" = some (some (.ref fI))) (tI : PySem.W.typeIn X.K (.ref fI) = some (.type "function"))
    (F1 : FnOk X.prog X.w X.K X.mg X.base CX k fI fd ps sp) (hr : Room (k + 1) X.A) (hb : Binds X.K fd ps ds) (hd : Vals dvs ds) (hx : Passes CX X (fun _ _ _ => False)) (hg : Gl X x) (hm : X.mg x = some (.ref C)) (ha : PA X (e :: es) ta)
    (hdb : (x == ("__debug__" : Str)) = false := by decide) (he : starEach (e :: es) X.env = (false, eval e X.env) :: starEach es X.env := by rfl) (hpl : (backTo pos (starEach es X.env)).any (·.1) = false := by rfl) :
    PMk X (.Call (.Name x p) (e :: es) [] pos) (tMkO C sp dvs ta) := by
  intro pins s σ H Q I h
  obtain ⟨nm, q, N, bs, bm, sn, sub, ab, col, dd, k0, k1, k2, k3, k5, hC, hbm⟩ := T.cls
  refine wpAny_Call_Name_kw (ld_glob I hg hm ?_ hdb)
  refine PySem.W.callWith_K (h₀ := X.base) I.ok.mod.kin T.kC (thn (ha.run pos pins s σ H _ I h) fun us s1 ⟨vs, H1, I1, r1, hz, q1⟩ => ⟨I1.kIn, ?_⟩) he hpl
  obtain ⟨hp, g, dr, tk, os⟩ := s1
  show wpAny _ _ (call (.ref C) us) _ _ _
  have le : hp.objs.size ≤ hp.objs.size + 1 := Nat.le_succ _
  have want := q1 (hp.objs.size + 1) (I1.hok.fresh le)
  generalize hG : (hp.push (PySem.W.kdv_tup us)).push (PySem.HandSPX.excO C hp.objs.size) = G
  have kk : ∀ b o, hp.get? b = some o → G.get? b = some o := fun b o z => by
    rw [← hG]
    exact Heap.get?_push_of_some _ (Heap.get?_push_of_some _ z)
  have at1 : G.get? (hp.objs.size + 1) = some (PySem.HandSPX.excO C hp.objs.size) := by
    rw [← hG]
    heap_get
  have I2 : Inv X pins σ (upd H1 (hp.objs.size + 1) (exo (hp.objs.size + 1) C none)) ⟨G, g, dr, tk, os⟩ := I1.laid (a := hp.objs.size + 1) (o := exo (hp.objs.size + 1) C none) (t' := tk) (h' := G) kk le (exo_ok at1)
  have r2 : Vals (V.ref (hp.objs.size + 1) :: (vs ++ dvs)) (Value.ref (hp.objs.size + 1) :: (us ++ ds)) := .cons rfl (r1.append hd)
  have cnt : (Value.ref (hp.objs.size + 1) :: us ++ ds).length = ps.length := by
    rw [← F1.len _ _ _ _ want]
    exact r2.length.symm
  have small : us.length ≤ sizeLine := by
    rw [← Paired.length r1, sizeLine_eq]
    omega
  have run := F1.run _ X.stack _ _ ⟨Value.ref (hp.objs.size + 1) :: us, []⟩ (Value.ref (hp.objs.size + 1) :: (us ++ ds)) _ _ (fun _ _ _ => False) (hr.make C us []) (I2.env0.make C us []) (hb _ (Value.ref (hp.objs.size + 1) :: us) I2.kIn cnt) r2 want
  refine wpAny_call (BF.call _ _ _ _ _ _ _ _ _ _ _ _ _ _ _ _ _ _ _ _ _ _ _ _ _ _ _ fI (fun Y => PySem.W.excTail_contains Y bm hbm) (I1.kIn _ _ hC) (PySem.W.looks_findIn I1.kIn iC) (fun self => PySem.W.bind_fn I1.kIn self tI) small ?_)
  rw [hG]
  refine codeAny_mono run fun r s' hq' => ?_
  match r, hq' with
  | .error er, hq' => exact hx pins σ _ _ er s' I2 hq'
  | .ok (.ret u), ⟨v, H2, os2, bare2, un2, hok2, rv, ev, d, fs, ea, ed, hd1, q2⟩ =>
    subst ev
    exact ⟨rv, mk_end (raises_own T.exC T.tyC) I1 le kk un2 hok2 os2 bare2 ea ed hd1 q2⟩
end
/-- the class's facts, gathered -/
structure OwnB (K : PySem.W.Frag) (mg : Str → Option Value) (x f : Str) (B newId initId : String) (bmB : List Value) (C fI : Addr) : Prop where
  gC : mg x = some (.ref C)
  ox : OexB K C newId bmB
  no : PySem.W.findIn K (.ref C) f = some none
  iC : PySem.W.findIn K (.ref C) "__init__" = some (some (.ref fI))
  tI : PySem.W.typeIn K (.ref fI) = some (.type "function")
  xf : XfC K C
  gB : mg (Str.ofString B) = none
  vV : PySem.W.findCls K (.type B) (.type "type") "__init__" = some (.val (.builtin initId))
  ex : PySem.W.exmOne K (.ref C) (.ref C) = some true
/-- an own error with one field, its __init__ done -/
structure ErrB (P : Program) (w : World) (K : PySem.W.Frag) (mg : Str → Option Value) (base : Heap) (x f : Str) (B newId initId : String) (bmB : List Value) (C : Addr) : Prop where
  bf : BasF B newId initId bmB
  ex : ∃ (fI : Addr) (fd : FuncData), OwnB K mg x f B newId initId bmB C fI ∧ FnOk P w K mg base CX0 1 fI fd ["self", f] (spInit1 C f) ∧ Binds K fd ["self", f] []
section
variable {X : Cx} {W : WX} {j : Nat} {x f : Str} {B newId initId : String} {bmB : List Value} {C : Addr} {e : Expr} {te : TE} {p p2 pos : Pos}
theorem ps_rzB (T : ErrB X.prog X.w X.K X.mg X.base x f B newId initId bmB C) (hr : Rm j X.A) (hk : 2 ≤ j) (hc : X.calm = true) (tk : Takes X W) (hg : Gl X x) (he : PE X e te)
    (hdb : (x == ("__debug__" : Str)) = false := by decide) (hs : starEach [e] X.env = (false, eval e X.env) :: starEach [] X.env := by rfl) (hpl : (backTo p2 (starEach [] X.env)).any (·.1) = false := by rfl) :
    PS X (.Raise (some (.Call (.Name x p) [e] [] p2)) none pos) (tRz C f te W) := by
  obtain ⟨fI, fd, T1, F1, b⟩ := T.ex
  exact ps_raise (pos := pos) hc tk (pmk_b T.bf (p := p) (pos := p2) (dvs := []) T1.ox T1.iC T1.tI F1 (hr.r.mono hk) b .nil pass0 hg T1.gC (pa_cons he pa_nil (hs := hs)) hdb hs hpl)
end
section
variable {K : PySem.W.Frag} {H : Hp} {Q : VK} {D : Ends} {σ : L2.St} {newId : String} {bmB : List Value} {ta : TA} {te : TE}
theorem rd_bti {v : V} (h : ta σ H fun vs H1 => ∃ (a C : Addr) (ws : List V), vs = .ref a :: ws ∧ ws.length ≤ 1000 ∧ OexB K C newId bmB ∧ H1 a = some (exo a C none) ∧ Q .non H1) : tBtI K newId bmB ta σ H Q := h
theorem rd_ostB {f : Str} {to : TE} (h : te σ H fun y H1 => to σ H1 fun x H2 => ∃ a C : Addr, x = .ref a ∧ OexB K C newId bmB ∧ PySem.W.findIn K (.ref C) f = some none ∧
  H2 a = some (exo a C none) ∧ ∀ dx, H2 dx = none → dx ≠ a → D.nx σ (upd (upd H2 dx (exd dx [(f, y)])) a (exo a C (some dx)))) : tOstB K newId bmB f to te D σ H := h
end
theorem ownB_mk {K : PySem.W.Frag} {mg : Str → Option Value} {x f : Str} {B newId initId : String} {bmB : List Value} {C fI : Addr} {nm q : Str} {N : Addr} {bs bm : List Value} {sn : List Str} {sub : List Value} {ab : Bool} {col : Option Bool} {dd : Option Addr} {m0 m1 m2 m3 m5 : Option Value}
    (gC : mg x = some (.ref C)) (gB : mg (Str.ofString B) = none)
    (xL : K.lookup C = some (excClassObj nm q C N bs bm true sn sub ab col dd m0 m1 m2 m3 m5 newId)) (tl : PySem.W.excTail bmB bm = true)
    (sa : PySem.W.findIn K (.ref C) "__setattr__" = some (some (.builtin "object.__setattr__"))) (ga : PySem.W.findIn K (.ref C) "__getattribute__" = some (some (.builtin "BaseException.__getattribute__"))) (gg : PySem.W.findIn K (.ref C) "__getattr__" = some none) (nb : PySem.W.findIn K (.ref C) f = some none)
    (a1 : PySem.W.findIn K (.ref C) "__init__" = some (some (.ref fI))) (t1 : PySem.W.typeIn K (.ref fI) = some (.type "function"))
    (kC : PySem.W.keepIn K (.ref C) = true) (eC : PySem.W.subIn K (.ref C) (.type "BaseException") = some true) (tC : PySem.W.typeIn K (.ref C) = some (.type "type")) (hC : PySem.W.hasDictIn K C = true) (iC : PySem.W.isClsIn K C = true) (sC : PySem.W.subIn K (.ref C) (.ref C) = some true)
    (vV : PySem.W.findCls K (.type B) (.type "type") "__init__" = some (.val (.builtin initId))) : OwnB K mg x f B newId initId bmB C fI where
  gC := gC
  ox := ⟨⟨nm, q, N, bs, _, sn, sub, ab, col, dd, m0, m1, m2, m3, m5, xL, tl⟩, sa, eC, tC, kC⟩
  no := nb
  iC := a1
  tI := t1
  xf := ⟨ga, gg, eC, hC⟩
  gB := gB
  vV := vV
  ex := exm_sub eC eC iC tC sC
end U

/-! own exceptions over KeyError: made by LookupError's __new__ -/
namespace U
open PySem PySem.Spec PyProof.Rows L2
section
variable {M : Model} {A : Around} {E : Value → Shared → Prop} {h : Heap} {g : Array GenState} {d : Drawn} {t : Nat} {os : OsState}
variable {nm q : Str} {C N : Addr} {bs bm bmN : List Value} {hdct : Bool} {sn : List Str} {sub : List Value} {ab : Bool} {col : Option Bool} {dd : Option Addr} {k0 k1 k2 k3 k5 : Option Value} {NB newId iI : String}
theorem chk_new (F : ExcBaseFacts NB newId iI bmN) (has : bm.contains (.type NB) = true) {us : List Value} {Q : Unit → Shared → Prop} (hC : h.get? C = some (excClassObj nm q C N bs bm hdct sn sub ab col dd k0 k1 k2 k3 k5 newId)) (hq : Q () ⟨h, g, d, t, os⟩) :
    wpAny M A (checkBuiltinCall newId ⟨.ref C :: us, []⟩) Q E ⟨h, g, d, t, os⟩ := by
  have c1 : (Value.ref C :: bm).contains (.type NB) = true := by rw [List.contains_cons, has, Bool.or_true]
  have c2 := F.noStar
  unfold checkBuiltinCall
  simp only [F.newKind, F.newSplit, F.newRow]
  repeat (first | with_reducible refine wpAny_loadPart_at hC ?_ | (with_reducible refine wpAny_isSubtype_exc hC ?_; rw [c1]) | with_reducible refine wpAny_staticBase_exc hC ?_ | with_reducible refine wpAny_madeBy_exc hC ?_ | simp only [bne_self_eq_false, Bool.false_eq_true, if_false] | wp_step)
  exact hq
end
section
variable {P : Program} {w : World} {A : Around} {R : Result → Shared → Prop} {h : Heap} {g : Array GenState} {d : Drawn} {t : Nat} {os : OsState}
variable {nm q : Str} {C N : Addr} {bs bm bmN : List Value} {hdct : Bool} {sn : List Str} {sub : List Value} {ab : Bool} {col : Option Bool} {dd : Option Addr} {k0 k1 k2 k3 k5 : Option Value} {NB newId iI : String}
theorem new_by (F : ExcBaseFacts NB newId iI bmN) (has : bm.contains (.type NB) = true) (noA : bm.contains (.type "AttributeError") = false) (noN : bm.contains (.type "NameError") = false) {us : List Value}
    (hC : h.get? C = some (excClassObj nm q C N bs bm hdct sn sub ab col dd k0 k1 k2 k3 k5 newId)) (small : us.length ≤ sizeLine)
    (hq : R (.ok (.ret (.ref (h.objs.size + 1)))) ⟨(h.push (PySem.W.kdv_tup us)).push (PySem.HandSPX.excO C h.objs.size), g, d, t, os⟩) : codeAny (model P w) A (.builtin newId ⟨.ref C :: us, []⟩) R ⟨h, g, d, t, os⟩ := by
  have c0 := F.ends
  have c1 : (Value.ref C :: bm).contains (.type NB) = true := by rw [List.contains_cons, has, Bool.or_true]
  have c2 : (Value.ref C :: bm).contains (.type "AttributeError") = false := by rw [List.contains_cons, noA]; rfl
  have c3 : (Value.ref C :: bm).contains (.type "NameError") = false := by rw [List.contains_cons, noN]; rfl
  refine codeAny_builtinAt F.entry ?_
  unfold Builtin.«BaseException.__new__»
  refine PySem.wpAt_bind ?_
  show PySem.wpAt _ _ _ (stack >>= _) _ _ _
  refine PySem.wpAt_bind (PySem.wpAt_stack fun below above => ?_)
  refine PySem.wpAt_of_wpAny ?_
  wp_walk
  refine PySem.wpAt_of_wpAny ?_
  rw [F.owner]
  repeat (first | with_reducible refine wpAny_madeHere_exc F.canon hC ?_ | with_reducible refine wpAny_loadPart_at hC ?_ | (with_reducible refine wpAny_isSubtype_exc hC ?_; first | rw [c1] | rw [c2] | rw [c3]) | wp_step)
  show R _ _
  rw [Heap.size_push]
  exact hq
theorem tcall_by {E : Value → Shared → Prop} {Q : Fin → Shared → Prop} (F : ExcBaseFacts NB newId iI bmN) (has : bm.contains (.type NB) = true) (noA : bm.contains (.type "AttributeError") = false) (noN : bm.contains (.type "NameError") = false) {us : List Value} {fI : Addr}
    (hC : h.get? C = some (excClassObj nm q C N bs bm hdct sn sub ab col dd k0 k1 k2 k3 k5 newId)) (hi : PySem.W.Looks (model P w) h (typeLookup (.ref C) "__init__") (some (.ref fI))) (hb : ∀ self, PySem.W.Looks (model P w) h (bindSpecial (.ref fI) self) (.ref fI, [self])) (small : us.length ≤ sizeLine)
    (hq : codeAny (model P w) A (.call (.ref fI) ⟨.ref (h.objs.size + 1) :: us, []⟩) (fun r s' => match r with | .ok (.ret v) => v = .none ∧ Q (.done (.ret (.ref (h.objs.size + 1)))) s' | .ok _ => False | .error e => E e s')
      ⟨(h.push (PySem.W.kdv_tup us)).push (PySem.HandSPX.excO C h.objs.size), g, d, t, os⟩) : wpAny (model P w) A (Builtin.«type.__call__» ⟨.ref C :: us, []⟩) Q E ⟨h, g, d, t, os⟩ := by
  repeat (first | with_reducible refine wpAny_loadPart_at hC ?_ | with_reducible refine wpAny_madeBy_exc hC ?_ | wp_step)
  refine codeAny_call_builtin_code (Code.quiet_builtin _ F.quiet) (chk_new F has hC ?_)
  refine new_by F has noA noN hC small ?_
  show wpAny _ _ _ _ _ _
  generalize hG : (h.push (PySem.W.kdv_tup us)).push (PySem.HandSPX.excO C h.objs.size) = G at hq
  have kk : ∀ b o, h.get? b = some o → G.get? b = some o := fun b o z => by
    rw [← hG]
    exact Heap.get?_push_of_some _ (Heap.get?_push_of_some _ z)
  have at1 : G.get? (h.objs.size + 1) = some (PySem.HandSPX.excO C h.objs.size) := by
    rw [← hG]
    heap_get
  have hC1 := kk _ _ hC
  have own : (Value.ref C :: bm).contains (.ref C) = true := by simp
  have i1 := hi.keeps kk
  have b1 := (hb (.ref (h.objs.size + 1))).keeps kk
  unfold isInstance
  repeat (first | with_reducible refine wpAny_loadPart_at at1 ?_ | (with_reducible refine wpAny_isSubtype_exc hC1 ?_; rw [own]) | wp_step)
  show wpAny _ _ (typeLookup (.ref C) _) _ _ _
  refine i1.at (wpAny_holding (wpAny_bind (b1.at (wpAny_bind (wpAny_call (codeAny_mono hq fun r s' z => ?_))))))
  match r, z with
  | .error e, z => exact z
  | .ok (.ret v), ⟨z1, z2⟩ =>
    subst z1
    first
      | exact wpAny_pure (wpAny_pure z2)
      | (wp_walk; exact z2)
theorem call_by (F : ExcBaseFacts NB newId iI bmN) (has : bm.contains (.type NB) = true) (noA : bm.contains (.type "AttributeError") = false) (noN : bm.contains (.type "NameError") = false) {us : List Value} {fI : Addr}
    (hC : h.get? C = some (excClassObj nm q C N bs bm hdct sn sub ab col dd k0 k1 k2 k3 k5 newId)) (hi : PySem.W.Looks (model P w) h (typeLookup (.ref C) "__init__") (some (.ref fI))) (hb : ∀ self, PySem.W.Looks (model P w) h (bindSpecial (.ref fI) self) (.ref fI, [self])) (small : us.length ≤ sizeLine)
    (hq : codeAny (model P w) (A.under (.builtin "type.__call__" ⟨.ref C :: us, []⟩)) (.call (.ref fI) ⟨.ref (h.objs.size + 1) :: us, []⟩) (PySem.W.InitBack (h.objs.size + 1) R) ⟨(h.push (PySem.W.kdv_tup us)).push (PySem.HandSPX.excO C h.objs.size), g, d, t, os⟩) :
    codeAny (model P w) A (.call (.ref C) ⟨us, []⟩) R ⟨h, g, d, t, os⟩ := by
  have l1 := PySem.tc_lookup
  have l2 := PySem.tc_bind (.ref C)
  have ty : (⟨h, g, d, t, os⟩ : Shared).TypeIs (.ref C) "type" := ⟨_, hC, rfl⟩
  refine codeAny_of_tree ?_
  show wpAny _ _ (callAny (.ref C) _) _ _ _
  repeat (any_goals (first | assumption | with_reducible refine wpAny_loadPart_at hC ?_ | wp_step))
  refine ⟨rfl, codeAny_call_builtin_at (Code.quiet_builtin _ (by decide +kernel)) PySem.entry_typeCall (PySem.wpAny_check_type_call_sub hC (tcall_by F has noA noN hC hi hb small (codeAny_mono hq fun r s' z => ?_)))⟩
  match r, z with
  | .error e, z => exact z
  | .ok (.ret v), z => exact z
end
abbrev bmKE : List Value := [.type "KeyError", .type "LookupError", .type "Exception", .type "BaseException", .type "object"]
theorem ke_split : splitId "KeyError.__init__" = some ("KeyError", "__init__") := by kernel_rfl
theorem ke_kind : builtinKind "KeyError.__init__" = some .slot := by kernel_rfl
theorem ke_row : Manifest.signature? "KeyError.__init__" = some ⟨.positional, "*", "KeyError", .self, [⟨"args", .varPos, false⟩]⟩ := by kernel_rfl
theorem ke_entry : entryFor table "KeyError.__init__" = some Builtin.«BaseException.__init__» := by
  refine entryFor_alias (id' := "BaseException.__init__") ?_ ?_ ?_ ?_
  · rw [fastTable_eq_tree]; kernel_rfl
  · first | rfl | decide +kernel
  · decide +kernel
  · rw [fastTable_eq_tree]; kernel_rfl
theorem init_KE : InitOwn "KeyError.__init__" "LookupError.__new__" bmKE := by
  intro P w A R h g d t os nm q C N bs bm hdct sn sub ab col dd k0 k1 k2 k3 k5 us e t0 hT hC he small hq
  have c1 : (Value.ref C :: bm).contains (.type "KeyError") = true := by rw [List.contains_cons, hT]; rfl
  refine PySem.codeAny_call_builtin (by decide +kernel) ke_entry ?_
  simp only [checkBuiltinCall, ke_kind, ke_split, ke_row]
  repeat (first | (with_reducible refine wpAny_loadPart_at he ?_) | with_reducible refine wpAny_loadPart_at hC ?_ | (with_reducible refine wpAny_isSubtype_exc hC ?_; rw [c1]) | wp_step)
  refine wpAny_onRaise ?_
  rw [show ∀ (a b : String) (n : Nat), Bind.check ⟨.positional, "*", "KeyError", .self, [⟨"args", .varPos, false⟩]⟩ a b n ((({ pos := Value.ref e :: us } : Args).kw).map fun x => x.fst) = pure () from fun a b n => check_star_args _ _ _ _ _ _]
  refine wpAny_pure ?_
  wp_walk
  refine hq _ h.objs.size (fun b o nb hb => ?_) ?_
  · rw [Heap.get?_update_other _ _ (Ne.symm nb)]
    exact Heap.get?_push_of_some _ hb
  · rw [Heap.get?_update_self _ (Heap.get?_push_of_some _ he) rfl] <;> rfl
theorem bas_KE : BasF "KeyError" "LookupError.__new__" "KeyError.__init__" bmKE where
  call := fun P w A R h g d t os nm q C N bs bm hdct sn sub ab col dd k0 k1 k2 k3 k5 us fI h1 h2 h3 h4 h5 h6 => call_by F.excBase_LookupError ((h1 "LookupError").trans rfl) ((h1 "AttributeError").trans rfl) ((h1 "NameError").trans rfl) h2 h3 h4 h5 h6
  init := init_KE
  pass := fun self => by kernel_rfl
  obj := by decide +kernel
  typ := by kernel_rfl
  stub := by decide +kernel
  blt := by kernel_rfl
  nam := by decide +kernel
  dbg := by decide +kernel
  hin := by decide +kernel
  ne := fun z => nomatch z
end U

/-! isinstance of a kept exception, its dict known -/
namespace U
open PySem PySem.Spec PyProof.Rows L2
section
variable {P : Program} {w : World} {A : Around} {E : Value → Shared → Prop} {K : PySem.W.Frag} {x D : Addr} {ox : Obj} {od : Option Obj}
theorem find_class (C : ExcC K D) : PySem.W.findObj K D od "__class__" = some (.bind (.builtin "getset_descriptor.__get__") (.builtin "object.__class__")) := by
  obtain ⟨cd, hc, _⟩ := PySem.W.any_some C.hd
  unfold PySem.W.findObj
  rw [hc, Option.bind_some, C.ha, Option.bind_some]
  simp [C.hn, C.ht]
theorem class_of_exc {Q : Option Value → Shared → Prop} {s : Shared} (C : ExcC K D) (X : K.In s.heap) (I : PySem.W.InstAt s.heap x ox D od) (h : Q (some (.ref D)) { s with toks := s.toks + 1 }) : wpAny (model P w) A (getAttr? (.ref x) "__class__") Q E s := by
  obtain ⟨hp, g, d, t, os⟩ := s
  have lt := I.type (M := model P w)
  have l1 := PySem.W.looks_findIn (M := model P w) X C.hg
  have l2 := PySem.W.looks_findIn (M := model P w) X C.hk
  have l3 := PySem.W.looks_find (M := model P w) X I (find_class C)
  have isB : PySem.W.Looks (model P w) hp (isInstance (.ref x) (.type "BaseException")) true := lt.andThen (PySem.W.looks_subIn X C.hs)
  have q1 : (Value.builtin "BaseException.__getattribute__" == Value.builtin "object.__getattribute__") = false := by decide +kernel
  have q2 : (onTheHeap (Value.ref D) && Value.builtin "BaseException.__getattribute__" == Value.builtin "object.__getattribute__") = false := by rw [q1] <;> rfl
  have q3 : (false && onTheHeap (Value.builtin "BaseException.__getattribute__")) = false := rfl
  unfold getAttr? getAttrBy? getAttrBy
  refine wpAny_bind (wpAny_mkText (wpAny_bind (wpAny_attempt ?_)))
  refine wpAny_holding (wpAny_bind (lt.at (wpAny_bind (l1.at ?_))))
  show wpAny _ _ (if (onTheHeap (Value.ref D) && Value.builtin "BaseException.__getattribute__" == Value.builtin "object.__getattribute__") = true then _ else _) _ _ _
  rw [q2, if_neg Bool.false_ne_true]
  unfold getAttrByItsOwn hookBefore
  refine wpAny_bind ?_
  rw [if_pos (show onTheHeap (Value.ref D) = true from rfl)]
  refine l2.at (wpAny_bind (wpAny_attempt (wpAny_holding ?_)))
  unfold callGetattribute
  rw [q3, if_neg Bool.false_ne_true]
  unfold boundAndCalled
  rw [PySem.F.excAttr_ValueError.ga.bind (.ref x)]
  refine wpAny_bind (wpAny_pure ?_)
  show wpAny _ _ (call (.builtin "BaseException.__getattribute__") [.ref x, .str "__class__" t]) _ _ _
  refine wpAny_call (PySem.codeAny_call_builtin PySem.F.excAttr_ValueError.ga.plain PySem.F.entry_bexc_ga ?_)
  have args := PySem.F.args_bexc_ga (.ref x) (.str "__class__" t)
  refine @PySem.W.check_slot (model P w) _ _ ⟨hp, g, d, t + 1, os⟩ "BaseException.__getattribute__" "BaseException" "__getattribute__" (.ref x) [.str "__class__" t] [] _ (by decide +kernel) (by decide +kernel) isB args ?_
  unfold Builtin.«object.__getattribute__»
  refine wpAny_bind (wpAny_of_eq (a := ((Value.ref x : Value), [Value.str "__class__" t])) (by first | rfl | (simp only [slotArgs]; rfl)) ?_)
  refine wpAny_bind (wpAny_pure ?_)
  refine wpAny_bind (lt.at (wpAny_bind (l3.at ?_)))
  show wpAny _ _ (holding [Value.builtin "object.__class__"] (call (.builtin "getset_descriptor.__get__") [.builtin "object.__class__", .ref x, .ref D]) >>= ret) _ _ _
  refine wpAny_bind (wpAny_holding (wpAny_call ?_))
  refine PySem.W.class_get (s := ⟨hp, g, d, t + 1, os⟩) (ox := ox) (od := od) X I C.hm ?_
  refine wpAny_pure ?_
  show wpAny _ _ (handedOut (.ref D)) _ _ _
  rw [PySem.W.handedOut_of (v := .ref D) rfl]
  first
    | exact wpAny_pure (wpAny_pure h)
    | exact wpAny_pure h
    | exact wpAny_pure (wpAny_bind (wpAny_pure (wpAny_pure h)))
theorem kitx_exc (C : ExcC K D) : PySem.W.KitX K (.ref x) (.ref D) (fun h => ∃ ox od, PySem.W.InstAt h x ox D od) where
  ty := fun _ _ _ ⟨_, _, I⟩ => I.type
  it := fun M h X _ => by
    obtain ⟨cd, hcD, _⟩ := PySem.W.any_some C.hd
    unfold PySem.W.clsIn at hcD
    split at hcD
    · rename_i ho
      intro A' Q' E' s' k q
      unfold isType loadHead
      refine wpAny_bind (wpAny_loadPart (k _ _ (X _ _ ho)) ?_)
      exact wpAny_pure q
    · cases hcD
  ne := fun h tp dd its n sl X htp => (PySem.W.handS_kitx_exc (x := x) (ox := default) C.hg C.hk C.hs C.hd C.ha C.hn C.ht C.hm).ne h tp dd its n sl X htp
  ca := fun X ⟨_, _, I⟩ k => class_of_exc C X I k
end
/-- isinstance(e, c), e kept -/
def rIsK (K : PySem.W.Frag) : List V → Hp → VK → Prop := fun xs H Q => ∃ (a C dd : Addr) (fs : List (Str × V)) (c : V) (cv : Value) (b : Bool), xs = [.ref a, c] ∧ H a = some (exk a (.ref C) (some dd)) ∧ H dd = some (.xd fs) ∧ ExcC K C ∧ (∀ u, RelV c u → u = cv) ∧ PySem.W.kitOne K (.ref C) cv = some b ∧ Q (.bl b) H
theorem kIsK {X : Cx} (K : PySem.W.Frag) (hK : X.K = K) : CallR X (.builtin "isinstance") (rIsK K) := by
  subst hK
  intro pins s σ H xs us Q I r h
  obtain ⟨a, C, dd, fs, c, cv, b, rfl, hk, hdd, T, hcv, e, q⟩ := h
  match us, r with
  | [_, u], .cons rx (.cons rt .nil) =>
    cases rx
    have ec := hcv _ rt
    subst ec
    obtain ⟨oe, vs, h1, hz, hd⟩ := exk_at I.hok hk
    have hx : ObjOk X.prog X.w H s.heap dd (.xd fs) := I.hok dd _ hdd
    obtain ⟨mA, hns, hr⟩ := hx
    obtain ⟨od, ho, hl2⟩ := lookIn_ns hns
    have J : PySem.W.InstAt s.heap a oe C (some od) := by
      refine ⟨h1, hz.1, ?_, ?_⟩
      · unfold PySem.W.notCls
        rw [hd] <;> rfl
      · rw [hz.2]
        exact ho
    exact PySem.W.kia_one (kitx_exc T) I.kIn ⟨_, _, J⟩ e (fun z => nomatch z) fun tk => ⟨.bl b, H, I.kept (t' := tk) fun _ _ z => z, rfl, q⟩
theorem rd_isK {K : PySem.W.Frag} {H : Hp} {Q : VK} {a C dd : Addr} {fs : List (Str × V)} {c : V} {cv : Value} {b : Bool} (hk : H a = some (exk a (.ref C) (some dd))) (hd : H dd = some (.xd fs)) (T : ExcC K C) (hc : ∀ u, RelV c u → u = cv) (e : PySem.W.kitOne K (.ref C) cv = some b) (h : Q (.bl b) H) : rIsK K [.ref a, c] H Q :=
  ⟨a, C, dd, fs, c, cv, b, rfl, hk, hd, T, hc, e, h⟩
end U
namespace U
open PySem PySem.Spec PyProof.Rows L2
theorem kit_refT {K : PySem.W.Frag} {D C : Addr} (h1 : PySem.W.isClsIn K C = true) (h2 : PySem.W.typeIn K (.ref C) = some (.type "type")) (h3 : PySem.W.subIn K (.ref D) (.ref C) = some true) : PySem.W.kitOne K (.ref D) (.ref C) = some true := by
  have h1' : (PySem.W.clsIn K C).isSome = true := h1
  unfold PySem.W.kitOne PySem.W.kitCls
  split
  · rfl
  · show (if ((PySem.W.clsIn K C).isSome && PySem.W.typeIn K (.ref C) == some (.type "type")) = true then PySem.W.subIn K (.ref D) (.ref C) else none) = some true
    rw [if_pos (by rw [h1', h2] <;> rfl)]
    exact h3
theorem kit_ty {K : PySem.W.Frag} {D : Addr} {T : String} {b : Bool} (h1 : PySem.W.kitMeta T = true) (h3 : PySem.W.subIn K (.ref D) (.type T) = some b) : PySem.W.kitOne K (.ref D) (.type T) = some b := by
  unfold PySem.W.kitOne PySem.W.kitCls
  show (if (Value.ref D == Value.type T) = true then some true else if PySem.W.kitMeta T = true then PySem.W.subIn K (.ref D) (.type T) else none) = some b
  rw [if_neg (fun z => nomatch (beq_iff_eq.mp z : Value.ref D = Value.type T)), if_pos h1]
  exact h3
end U

/-! repr of whatever data -/
namespace U
open PySem PySem.Spec PyProof.Rows L2
section
variable {K : PySem.W.Frag} {H H' : Hp}
mutual
theorem dp_ext (l : ∀ a xs, SqL K H a xs → SqL K H' a xs) (t : ∀ a xs, SqT K H a xs → SqT K H' a xs) : ∀ (d : PyData) (v : V), Dp K H v d → Dp K H' v d
  | .none, _, h => by cases h; exact .non
  | .bool _, _, h => by cases h; exact .bl _
  | .int _, _, h => by cases h; exact .int _
  | .str _, _, h => by cases h; exact .str _
  | .list ds, _, h => by
    cases h with
    | lst h1 h2 => exact .lst (l _ _ h1) (dp_extA l t ds _ h2)
  | .tuple ds, _, h => by
    cases h with
    | tup h1 h2 => exact .tup (t _ _ h1) (dp_extA l t ds _ h2)
  | .dict _, _, h => by cases h
theorem dp_extA (l : ∀ a xs, SqL K H a xs → SqL K H' a xs) (t : ∀ a xs, SqT K H a xs → SqT K H' a xs) : ∀ (ds : List PyData) (vs : List V), DpAll K H vs ds → DpAll K H' vs ds
  | [], _, h => by cases h; exact .nil
  | d :: ds, _, h => by
    cases h with
    | cons h1 h2 => exact .cons (dp_ext l t d _ h1) (dp_extA l t ds _ h2)
end
end
/-- a value that repr may be asked of, and what repr says -/
inductive Rp (K : PySem.W.Frag) (H : Hp) : V → Str → Prop
  | non : Rp K H .non "None"
  | bl (b : Bool) : Rp K H (.bl b) (if b then "True" else "False")
  | int (i : Int) (h : i.natAbs.log2 < 1920) : Rp K H (.int i) (toString i)
  | str (x : Str) (h : (reprText x).length ≤ sizeLine) : Rp K H (.str x) (reprText x)
  | of {a : Addr} {d : PyData} : Dp K H (.ref a) d → d.hasDict = false → Shows d → Rp K H (.ref a) d.shown
  | dct {a : Addr} {ns : List Str} {f : Str → Int} : H a = some (.dK (kvF ns f)) → Shows (.dict (ns.map fun n => (.str n, .int (f n)))) → Rp K H (.ref a) (PyData.dict (ns.map fun n => (.str n, .int (f n)))).shown
theorem Rp.ext {K : PySem.W.Frag} {H H' : Hp} {v : V} {d : Str} (h : Rp K H v d) (l : ∀ a xs, SqL K H a xs → SqL K H' a xs) (t : ∀ a xs, SqT K H a xs → SqT K H' a xs) (k : ∀ a kvs, H a = some (.dK kvs) → H' a = some (.dK kvs)) : Rp K H' v d := by
  cases h with
  | non => exact .non
  | bl b => exact .bl b
  | int i h => exact .int i h
  | str x h => exact .str x h
  | of h1 h2 h3 => exact .of (dp_ext l t _ _ h1) h2 h3
  | dct h1 h2 => exact .dct (k _ _ h1) h2
theorem Rp.same {K : PySem.W.Frag} {H H' : Hp} {v : V} {d : Str} (h : Rp K H v d) (s : Same H H') : Rp K H' v d := h.ext
  (fun a xs q => by
    rcases q with (q | ⟨o, q⟩) | q
    · exact .inl (.inl (s _ _ q))
    · exact .inl (.inr ⟨o, s _ _ q⟩)
    · exact .inr q) (fun a xs q => Same.seqT s q) fun a kvs q => s _ _ q
def rReprV (K : PySem.W.Frag) : List V → Hp → VK → Prop := fun xs H Q => ∃ x S, xs = [x] ∧ Rp K H x S ∧ Q (.str S) H
theorem kReprV {X : Cx} (K : PySem.W.Frag) (hK : X.K = K) (hg : X.A.guards = some []) (hu : X.A.units + 64 < cLine) : CallR X (.builtin "repr") (rReprV K) := by
  subst hK
  intro pins s σ H xs us Q I r h
  obtain ⟨x, S, rfl, hr, q⟩ := h
  obtain ⟨u, eu, rx⟩ := vals1 r
  subst eu
  have fin : ∀ (a : Addr) (d : PyData) (as : List Addr), Reads s.heap (.ref a) d as → (d.hasDict = true → sysModules ∉ as) → Shows d → Q (.str d.shown) H → wpAny (model X.prog X.w) X.A (call (.builtin "repr") [.ref a]) (EP X pins σ Q) X.xe s := fun a d as rd hsm S q => by
    have hdp := S.dp
    exact PySem.repr_of_reads' rd S.sh hsm hg (by omega) (fun b o e => e) (fun h' v tk hk => ⟨.str d.shown, H, I.kept (t' := tk) hk, ⟨_, rfl⟩, q⟩) (PyData.shown_fits_bulk (by decide) (by decide) S.lv S.bk)
  cases hr with
  | non =>
    cases rx
    exact PySem.P.repr_of_none ⟨.str _, H, I.tok _, ⟨_, rfl⟩, q⟩
  | bl b =>
    cases rx
    exact PySem.P.repr_of_bool ⟨.str _, H, I.tok _, ⟨_, rfl⟩, q⟩
  | int i h =>
    obtain ⟨tk, rfl⟩ := rx
    exact PySem.P.repr_of_int h ⟨.str _, H, I.tok _, ⟨_, rfl⟩, q⟩
  | str x h =>
    obtain ⟨tk, rfl⟩ := rx
    exact PySem.P.repr_of_str ⟨.str _, H, I.tok _, ⟨_, rfl⟩, q⟩ h
  | of h1 h2 h3 =>
    cases rx
    obtain ⟨as, ra⟩ := Dp.reads I _ _ _ h1 rfl
    exact fin _ _ as ra (fun z => by rw [h2] at z; cases z) h3 q
  | dct h1 h2 =>
    cases rx
    obtain ⟨as, ra, na⟩ := (Di.dct (K := X.K) h1).reads I rfl
    exact fin _ _ as ra (fun _ => na) h2 q
theorem rd_reprV {K : PySem.W.Frag} {H : Hp} {Q : VK} {x : V} {d : Str} (h : Rp K H x d) (q : Q (.str d) H) : rReprV K [x] H Q := ⟨x, d, rfl, h, q⟩
end U

/-! UnknownNode; check_node, neighbors -/
namespace Law
open PySem PySem.Spec PyProof.Rows L2 U
local macro_rules | `(tactic| wtm_at "rd1") => `(tactic| first
  | with_reducible refine rd_seq ?_
  | ((with_reducible refine rd_var (v := ?vv) ?hv ?_); (case hv => exact rfl))
  | with_reducible refine rd_c ?_
  | with_reducible refine rd_cons ?_
  | with_reducible refine rd_nil ?_
  | with_reducible refine rd_op ?_
  | with_reducible refine rd_asg ?_
  | with_reducible refine rd_name ?_
  | with_reducible refine rd_c1 ?_
  | with_reducible refine rd_cb ?_
  | with_reducible refine rd_test ?_
  | with_reducible refine rd_B ?_
  | with_reducible refine rd_bl ?_
  | with_reducible refine rd_if ?_
  | with_reducible refine rd_ret ?_
  | with_reducible refine rd_drop ?_
  | with_reducible refine rd_next ?_
  | with_reducible refine rd_addI ?_
  | with_reducible refine rd_ltI ?_
  | with_reducible refine rd_eqI ?_
  | with_reducible refine rd_neI ?_
  | with_reducible refine rd_eqS ?_
  | with_reducible refine rd_neS ?_
  | with_reducible refine rd_gtI ?_
  | with_reducible refine rd_geI ?_
  | with_reducible refine rd_leI ?_
  | with_reducible refine rd_ltS ?_
  | with_reducible refine rd_subI ?_
  | ((with_reducible refine rd_modI ?hc ?_); (case hc => first | decide | omega))
  | ((with_reducible refine rd_mulI ?hc ?_); (case hc => first | exact mul_bI | exact .inl (.inr (by decide)) | exact .inl (.inl (by decide)) | exact .inl (.inr (by omega)) | exact .inl (.inl (by omega))))
  | ((with_reducible refine rd_divI ?hc ?_); (case hc => first | decide | omega))
  | ((with_reducible refine rd_powI ?hc ?_); (case hc => exact ⟨by decide, by decide, by decide⟩))
  | with_reducible refine rd_lst ?_
  | with_reducible refine rd_tup ?_
  | ((with_reducible refine rd_sz ?hv ?_); (case hv => exact rfl))
  | with_reducible refine rd_and ?_
  | with_reducible refine rd_or ?_
  | with_reducible refine rd_not ?_
  | with_reducible refine rd_andV ?_
  | with_reducible refine rd_orV ?_
  | with_reducible refine rd_notV ?_
  | with_reducible refine rd_ifE ?_
  | with_reducible refine rd_T ?_
  | with_reducible refine rd_F ?_
  | with_reducible refine rd_chain ?_
  | with_reducible refine rd_is ?_
  | with_reducible refine rd_isNot ?_
  | with_reducible refine rd_absI ?_
  | with_reducible refine rd_maxI ?_
  | with_reducible refine rd_minI ?_
  | with_reducible refine rd_intI ?_
  | with_reducible refine rd_intB ?_
  | with_reducible refine rd_sub ?_
  | with_reducible refine rd_sl ?_
  | with_reducible refine rd_noPart ?_
  | with_reducible refine rd_part ?_
  | with_reducible refine rd_exI ?_
  | with_reducible refine rd_bm ?_
  | with_reducible refine rd_bm0 ?_
  | with_reducible refine rd_un ?_
  | with_reducible refine rd_neg ?_
  | with_reducible refine rd_c2 ?_
  | with_reducible refine rd_retN ?_
  | with_reducible refine rd_break ?_
  | with_reducible refine rd_cont ?_
  | with_reducible refine rd_for ?_
  | with_reducible refine rd_rng1 ?_
  | with_reducible refine rd_rng2 ?_
  | with_reducible refine rd_iList ?_
  | with_reducible refine rd_iTup ?_
  | with_reducible refine rd_iEnum ?_
  | ((with_reducible refine rd_forR ?h0 ?h1 ?_); (case h0 => omega); (case h1 => omega))
  | with_reducible refine rd_lc ?_
  | with_reducible refine rd_gcons ?_
  | with_reducible refine rd_gnil ?_
  | with_reducible refine rd_dget ?_
  | with_reducible refine rd_dput ?_
  | with_reducible refine rd_dnew ?_
  | with_reducible refine rd_dc ?_
  | with_reducible refine rd_iItems ?_
  | with_reducible refine rd_iKeys ?_
  | with_reducible refine rd_din ?_
  | with_reducible refine rd_lc2 ?_
  | with_reducible refine rd_cd ?_
  | with_reducible refine rd_par ?_
  | with_reducible refine rd_two ?_
  | with_reducible refine rd_reprB ?_
  | with_reducible refine rd_ck ?_
  | ((with_reducible refine rd_len ?hl ?_); (case hl => exact rfl))
  | with_reducible refine rd_nT ?_
  | with_reducible refine rd_nF ?_
  | with_reducible refine rd_dnin ?_
  | with_reducible refine rd_isB ?_
  | with_reducible refine rd_isNotB ?_
  | with_reducible refine rd_daug ?_
  | with_reducible refine rd_yesT ?_
  | ((with_reducible refine rd_wp ?hw ?_); (case hw => exact rfl)))
local macro_rules | `(tactic| wtm_at "rd") => `(tactic| repeat wtm_at "rd1")

/-- an error with one field f, told to the caller -/
def FldE (f : Str) (C : Addr) (v : V) (H : Hp) (E : XK) : Prop := ∀ (d : Addr) (H' : Hp), Same H H' → H d = none → H' d = some (.xd [(f, v)]) → E (.ref C) (some d) H'
/-- no node -/
def NotN (K : PySem.W.Frag) (H : Hp) (ns : List Str) (x : V) : Prop := (∃ t, TyIs K H x t ∧ isT t .str = false) ∨ ∃ s, x = .str s ∧ s ∉ ns
theorem NotN.same {K : PySem.W.Frag} {H H' : Hp} {ns : List Str} {x : V} (h : NotN K H ns x) (s : Same H H') : NotN K H' ns x := by
  rcases h with ⟨t, h1, h2⟩ | h
  · exact .inl ⟨t, tyx_same h1 s, h2⟩
  · exact .inr h
def spChkN (K : PySem.W.Frag) (C : Addr) : Sp := fun vs H Q E => ∃ (g n e : Addr) (x : V) (ns : List Str) (es : List (Addr × Str × Str)), vs = [.ref g, x] ∧ GrAt H g n e ns es ∧ ((∃ s, x = .str s ∧ s ∈ ns ∧ Q .non H) ∨ (NotN K H ns x ∧ FldE "node" C x H E))
section
variable {P : Program} {w : World} {K : PySem.W.Frag} {mg : Str → Option Value} {base : Heap}
theorem ok_initN {f : Addr} {fd : FuncData} {C : Addr} (F : Fun K "__init__" "UnknownNode.__init__" s_UnknownNode_init f fd) (T : OwnB K mg "UnknownNode" "node" "KeyError" "LookupError.__new__" "KeyError.__init__" bmKE C f) : FnOk P w K mg base CX0 1 f fd ["self", "node"] (spInit1 C "node") := by
  refine F.ok sc_UnknownNode_init (fun vs H Q E h => ?_) (fun cdv A outer s H vs Q E hr h => ?_)
  · obtain ⟨a, v, rfl, _⟩ := h
    rfl
  · obtain ⟨a, v, rfl, ha, q⟩ := h
    refine ⟨_, pss_cons (ps_expr (pe_btinit bas_KE rfl T.gB T.vV (pa_cons (pv 0) (pa_cons pe_str pa_nil)))) (pss_one (ps_ostB bas_KE (pv 0) (pv 1))), ?_⟩
    wtm_at "rd"
    refine rd_bti (v := v) ?_
    wtm_at "rd"
    refine ⟨a, C, _, rfl, by decide, T.ox, ha, ?_⟩
    dsimp only
    refine rd_ostB ?_
    wtm_at "rd"
    exact ⟨a, C, rfl, T.ox, T.no, ha, fun dx n1 n2 => q dx n1 n2⟩
structure UNc (P : Program) (w : World) (K : PySem.W.Frag) (mg : Str → Option Value) (base : Heap) : Prop where
  has_node : Cal P w K mg base CX0 1 "has_node" (spHasV K)
theorem ok_chkN {f : Addr} {fd : FuncData} {CE : Addr} (F : Fun K "check_node" "check_node" s_check_node f fd) (B : Bt mg) (C : UNc P w K mg base) (T : ErrB P w K mg base "UnknownNode" "node" "KeyError" "LookupError.__new__" "KeyError.__init__" bmKE CE) : FnG P w K mg base (L2.CX P w) 3 f fd ["graph", "candidate"] (spChkN K CE) := by
  refine fnG F sc_check_node (fun vs H Q E h => ?_) (fun cdv A outer s H vs Q E hr h => ?_)
  · obtain ⟨g, n, e, x, ns, es, rfl, _⟩ := h
    rfl
  · obtain ⟨g, n, e, x, ns, es, rfl, gs, alt⟩ := h
    have nd := sc_check_node.nd
    have hu := hr.u1
    refine ⟨_, (pss_one (ps_if (pt_not (pt_val (pe_c C.has_node hr (by decide) rfl (pa_cons (pv 0) (pa_cons (pv 1) pa_nil))))) (pss_one (ps_rzB T hr (by decide) rfl (takes_of rfl rfl rfl rfl) rfl (pv 1))) pss_nil)), ?_⟩
    wtm_at "rd"
    rcases alt with ⟨s, rfl, hs, q⟩ | ⟨nn, er⟩
    · refine ⟨g, n, e, _, .str, ns, es, rfl, gs, .inr ⟨s, rfl, ?_⟩⟩
      rw [decide_eq_true hs]
      wtm_at "rd"
      exact q
    · rcases nn with ⟨t, h1, h2⟩ | ⟨s, rfl, hs⟩
      · refine ⟨g, n, e, x, t, ns, es, rfl, gs, .inl ⟨h1, h2, ?_⟩⟩
        wtm_at "rd"
        refine rd_rz ?_
        wtm_at "rd"
        exact rd_mk1 fun dd H' s' nd' hd => er dd H' s' nd' hd
      · refine ⟨g, n, e, _, .str, ns, es, rfl, gs, .inr ⟨s, rfl, ?_⟩⟩
        rw [decide_eq_false hs]
        wtm_at "rd"
        refine rd_rz ?_
        wtm_at "rd"
        exact rd_mk1 fun dd H' s' nd' hd => er dd H' s' nd' hd
end
end Law

/-! sizes of shown data, put together from the parts -/
namespace U
open PySem PySem.Spec PyProof.Rows L2
/-- data that repr may be asked of: at most n of them, m deep -/
structure SmD (n m : Nat) (d : PyData) : Prop where
  lv : d.leavesShort 13 = true
  sh : d.showable = true
  bk : d.bulk ≤ n
  dp : d.depth ≤ m
  nd : d.hasDict = false
structure SmDs (n m : Nat) (ds : List PyData) : Prop where
  lv : PyData.leavesShortAll 13 ds = true
  sh : PyData.showableAll ds = true
  bk : PyData.bulkAll ds ≤ n
  dp : PyData.depthAll ds ≤ m
  nd : PyData.hasDictAll ds = false
theorem SmDs.nil : SmDs 0 0 [] := ⟨by simp [PyData.leavesShortAll], by simp [PyData.showableAll], by simp [PyData.bulkAll], by simp [PyData.depthAll], by simp [PyData.hasDictAll]⟩
theorem SmDs.cons {n m n2 m2 : Nat} {d : PyData} {ds : List PyData} (h : SmD n m d) (h2 : SmDs n2 m2 ds) : SmDs (n + 1 + n2) (m + m2) (d :: ds) := by
  obtain ⟨a1, a2, a3, a4, a5⟩ := h
  obtain ⟨b1, b2, b3, b4, b5⟩ := h2
  refine ⟨by rw [PyData.leavesShortAll, a1, b1]; rfl, by rw [PyData.showableAll, a2, b2]; rfl, ?_, ?_, by rw [PyData.hasDictAll, a5, b5]; rfl⟩
  · rw [PyData.bulkAll]
    omega
  · rw [PyData.depthAll]
    omega
theorem SmD.tup {n m : Nat} {ds : List PyData} (h : SmDs n m ds) : SmD n (m + 1) (.tuple ds) := by
  obtain ⟨b1, b2, b3, b4, b5⟩ := h
  exact ⟨by rw [PyData.leavesShort]; exact b1, by rw [PyData.showable]; exact b2, by rw [PyData.bulk]; exact b3, by rw [PyData.depth]; omega, by rw [PyData.hasDict]; exact b5⟩
theorem SmD.lst {n m : Nat} {ds : List PyData} (h : SmDs n m ds) : SmD n (m + 1) (.list ds) := by
  obtain ⟨b1, b2, b3, b4, b5⟩ := h
  exact ⟨by rw [PyData.leavesShort]; exact b1, by rw [PyData.showable]; exact b2, by rw [PyData.bulk]; exact b3, by rw [PyData.depth]; omega, by rw [PyData.hasDict]; exact b5⟩
theorem SmD.mono {n m n2 m2 : Nat} {d : PyData} (h : SmD n m d) (a : n ≤ n2) (b : m ≤ m2) : SmD n2 m2 d := ⟨h.lv, h.sh, Nat.le_trans h.bk a, Nat.le_trans h.dp b, h.nd⟩
theorem SmD.name {x : Str} (h : IsName x) : SmD 8 0 (.str x) := ⟨h.lv, by simp [PyData.showable], h.bk, by simp [PyData.depth], by simp [PyData.hasDict]⟩
theorem SmDs.names : ∀ {xs : List Str}, (∀ x ∈ xs, IsName x) → SmDs (9 * xs.length) 0 (xs.map PyData.str)
  | [], _ => SmDs.nil
  | x :: r, h => by
    have a := SmDs.cons (SmD.name (h x List.mem_cons_self)) (SmDs.names fun y hy => h y (List.mem_cons_of_mem _ hy))
    rw [List.map_cons, List.length_cons]
    exact ⟨a.lv, a.sh, by have := a.bk; omega, a.dp, a.nd⟩
theorem SmDs.of {n m : Nat} : ∀ {ds : List PyData}, (∀ d ∈ ds, SmD n m d) → SmDs ((n + 1) * ds.length) m ds
  | [], _ => ⟨SmDs.nil.lv, SmDs.nil.sh, by simp [PyData.bulkAll], by simp [PyData.depthAll], SmDs.nil.nd⟩
  | d :: ds, h => by
    obtain ⟨a1, a2, a3, a4, a5⟩ := h d List.mem_cons_self
    obtain ⟨b1, b2, b3, b4, b5⟩ := SmDs.of (n := n) (m := m) fun y hy => h y (List.mem_cons_of_mem _ hy)
    refine ⟨by rw [PyData.leavesShortAll, a1, b1]; rfl, by rw [PyData.showableAll, a2, b2]; rfl, ?_, ?_, by rw [PyData.hasDictAll, a5, b5]; rfl⟩
    · rw [PyData.bulkAll, List.length_cons, Nat.mul_succ]
      omega
    · rw [PyData.depthAll]
      omega
theorem Dp.same {K : PySem.W.Frag} {H H' : Hp} {v : V} {d : PyData} (h : Dp K H v d) (s : Same H H') : Dp K H' v d := dp_ext
  (fun a xs q => by
    rcases q with (q | ⟨o, q⟩) | q
    · exact .inl (.inl (s _ _ q))
    · exact .inl (.inr ⟨o, s _ _ q⟩)
    · exact .inr q) (fun a xs q => Same.seqT s q) _ _ h
end U

/-! data: parts of lists; a heap without one place -/
namespace U
open PySem PySem.Spec PyProof.Rows L2
theorem shaped_of {d : PyData} (a : d.canLay0 = true) (b : d.depth ≤ 64) : SeqAt.shaped d = true := by
  unfold SeqAt.shaped
  rw [a, decide_eq_true b]
  rfl
end U

/-! paths found level by level: the plain law -/
namespace U
open PySem PySem.Spec PyProof.Rows L2
/-- nodes found, each with its path, in the order in which they are found -/
abbrev keysF (kp : List (Str × List Str)) : List Str := kp.map (·.1)
def addF (ok : Str → Str → Bool) (c : Str × List Str) (kp : List (Str × List Str)) (o : Str) : List (Str × List Str) := if o ∉ keysF kp ∧ ok c.1 o = true then kp ++ [(o, c.2 ++ [o])] else kp
def addsF (ok : Str → Str → Bool) (c : Str × List Str) (os : List Str) (kp : List (Str × List Str)) : List (Str × List Str) := os.foldl (addF ok c) kp
def stF (adj : Str → List Str) (ok : Str → Str → Bool) (root : Str) : Nat → List (Str × List Str)
  | 0 => [(root, [root])]
  | i + 1 => match (stF adj ok root i)[i]? with
    | none => stF adj ok root i
    | some c => addsF ok c (adj c.1) (stF adj ok root i)
def pathsF (adj : Str → List Str) (ok : Str → Str → Bool) (root : Str) : List (Str × List Str) := stF adj ok root 1000
inductive Reach (adj : Str → List Str) (ok : Str → Str → Bool) (root : Str) : Str → Prop
  | refl : Reach adj ok root root
  | step {a b : Str} : Reach adj ok root a → b ∈ adj a → ok a b = true → Reach adj ok root b
theorem Reach.trans {adj : Str → List Str} {ok : Str → Str → Bool} {a b c : Str} (h : Reach adj ok a b) (k : Reach adj ok b c) : Reach adj ok a c := by
  induction k with
  | refl => exact h
  | step _ m o ih => exact .step ih m o
section
variable {adj : Str → List Str} {ok : Str → Str → Bool} {root : Str}
theorem addF_cases (c : Str × List Str) (kp : List (Str × List Str)) (o : Str) : (addF ok c kp o = kp ∧ (o ∈ keysF kp ∨ ok c.1 o = false)) ∨ (addF ok c kp o = kp ++ [(o, c.2 ++ [o])] ∧ o ∉ keysF kp ∧ ok c.1 o = true) := by
  unfold addF
  by_cases h : o ∉ keysF kp ∧ ok c.1 o = true
  · rw [if_pos h]
    exact .inr ⟨rfl, h⟩
  · rw [if_neg h]
    refine .inl ⟨rfl, ?_⟩
    by_cases m : o ∈ keysF kp
    · exact .inl m
    · refine .inr ?_
      cases e : ok c.1 o with
      | false => rfl
      | true => exact (h ⟨m, e⟩).elim
theorem addsF_snoc {c : Str × List Str} {os : List Str} {o : Str} {kp : List (Str × List Str)} : addsF ok c (os ++ [o]) kp = addF ok c (addsF ok c os kp) o := by
  unfold addsF
  rw [List.foldl_append]
  rfl
theorem addsF_pre {c : Str × List Str} : ∀ {os : List Str} {kp : List (Str × List Str)}, ∃ r, addsF ok c os kp = kp ++ r
  | [], kp => ⟨[], (List.append_nil kp).symm⟩
  | o :: os, kp => by
    obtain ⟨r, hr⟩ := addsF_pre (c := c) (os := os) (kp := addF ok c kp o)
    have e : addsF ok c (o :: os) kp = addsF ok c os (addF ok c kp o) := rfl
    rw [e, hr]
    rcases addF_cases c kp o with ⟨h, _⟩ | ⟨h, _⟩
    · rw [h]
      exact ⟨r, rfl⟩
    · rw [h, List.append_assoc]
      exact ⟨_, rfl⟩
/-- what is added: each a neighbour that may be gone to -/
theorem addsF_mem {c : Str × List Str} : ∀ {os : List Str} {kp : List (Str × List Str)} {x : Str × List Str}, x ∈ addsF ok c os kp → x ∈ kp ∨ (x.1 ∈ os ∧ ok c.1 x.1 = true ∧ x.2 = c.2 ++ [x.1])
  | [], kp, x, h => .inl h
  | o :: os, kp, x, h => by
    have e : addsF ok c (o :: os) kp = addsF ok c os (addF ok c kp o) := rfl
    rw [e] at h
    rcases addsF_mem h with h | ⟨h1, h2, h3⟩
    · rcases addF_cases c kp o with ⟨e, _⟩ | ⟨e, _, k⟩
      · rw [e] at h
        exact .inl h
      · rw [e] at h
        rcases List.mem_append.mp h with h | h
        · exact .inl h
        · rw [List.mem_singleton] at h
          subst h
          exact .inr ⟨List.mem_cons_self, k, rfl⟩
    · exact .inr ⟨List.mem_cons_of_mem _ h1, h2, h3⟩
theorem addsF_all {c : Str × List Str} : ∀ {os : List Str} {kp : List (Str × List Str)} {o : Str}, o ∈ os → ok c.1 o = true → o ∈ keysF (addsF ok c os kp)
  | o' :: os, kp, o, h, k => by
    have e : addsF ok c (o' :: os) kp = addsF ok c os (addF ok c kp o') := rfl
    rw [e]
    rcases List.mem_cons.mp h with rfl | h
    · obtain ⟨r, hr⟩ := addsF_pre (ok := ok) (c := c) (os := os) (kp := addF ok c kp o)
      rw [hr, keysF, List.map_append]
      refine List.mem_append_left _ ?_
      rcases addF_cases c kp o with ⟨e, m⟩ | ⟨e, _⟩
      · rw [e]
        rcases m with m | m
        · exact m
        · rw [k] at m
          cases m
      · rw [e, List.map_append]
        exact List.mem_append_right _ List.mem_cons_self
    · exact addsF_all h k
theorem addF_nodup {c : Str × List Str} {kp : List (Str × List Str)} {o : Str} (h : (keysF kp).Nodup) : (keysF (addF ok c kp o)).Nodup := by
  rcases addF_cases c kp o with ⟨e, _⟩ | ⟨e, m, _⟩
  · rw [e]
    exact h
  · rw [e, keysF, List.map_append, List.nodup_append]
    refine ⟨h, by simp, fun a ha b hb z => ?_⟩
    have : b = o := by simpa using hb
    rw [z, this] at ha
    exact m ha
theorem addsF_nodup {c : Str × List Str} : ∀ {os : List Str} {kp : List (Str × List Str)}, (keysF kp).Nodup → (keysF (addsF ok c os kp)).Nodup
  | [], _, h => h
  | o :: os, kp, h => addsF_nodup (os := os) (addF_nodup h)
theorem stF_at {i : Nat} {c : Str × List Str} (h : (stF adj ok root i)[i]? = some c) : stF adj ok root (i + 1) = addsF ok c (adj c.1) (stF adj ok root i) := by
  rw [stF, h]
theorem stF_end {i : Nat} (h : (stF adj ok root i)[i]? = none) : stF adj ok root (i + 1) = stF adj ok root i := by
  rw [stF, h]
theorem stF_pre (i : Nat) : ∃ r, stF adj ok root (i + 1) = stF adj ok root i ++ r := by
  cases h : (stF adj ok root i)[i]? with
  | none => rw [stF_end h]; exact ⟨[], (List.append_nil _).symm⟩
  | some c => rw [stF_at h]; exact addsF_pre
theorem stF_pre' (i : Nat) : ∀ k, ∃ r, stF adj ok root (i + k) = stF adj ok root i ++ r
  | 0 => ⟨[], (List.append_nil _).symm⟩
  | k + 1 => by
    obtain ⟨r, hr⟩ := stF_pre' i k
    obtain ⟨r2, h2⟩ := stF_pre (adj := adj) (ok := ok) (root := root) (i + k)
    exact ⟨r ++ r2, by rw [← Nat.add_assoc, h2, hr, List.append_assoc]⟩
theorem stF_stop {i : Nat} (h : (stF adj ok root i).length ≤ i) : ∀ k, stF adj ok root (i + k) = stF adj ok root i
  | 0 => rfl
  | k + 1 => by
    have e := stF_stop h k
    rw [← Nat.add_assoc, stF_end (by rw [e]; exact List.getElem?_eq_none (by omega)), e]
theorem stF_nodup : ∀ i, (keysF (stF adj ok root i)).Nodup
  | 0 => by simp [stF]
  | i + 1 => by
    cases h : (stF adj ok root i)[i]? with
    | none => rw [stF_end h]; exact stF_nodup i
    | some c => rw [stF_at h]; exact addsF_nodup (stF_nodup i)
theorem stF_root (i : Nat) : ∃ r, stF adj ok root i = (root, [root]) :: r := by
  obtain ⟨r, h⟩ := stF_pre' (adj := adj) (ok := ok) (root := root) 0 i
  rw [Nat.zero_add] at h
  exact ⟨r, h⟩
/-- a path: from the first to the last, each step to a neighbour that may be gone to -/
inductive PathTo (adj : Str → List Str) (ok : Str → Str → Bool) (root : Str) : Str → List Str → Prop
  | one : PathTo adj ok root root [root]
  | snoc {a b : Str} {p : List Str} : PathTo adj ok root a p → b ∈ adj a → ok a b = true → PathTo adj ok root b (p ++ [b])
theorem PathTo.reach {a : Str} {p : List Str} (h : PathTo adj ok root a p) : Reach adj ok root a := by
  induction h with
  | one => exact .refl
  | snoc _ m o ih => exact .step ih m o
theorem stF_path : ∀ i x, x ∈ stF adj ok root i → PathTo adj ok root x.1 x.2
  | 0, x, h => by
    rw [stF, List.mem_singleton] at h
    subst h
    exact .one
  | i + 1, x, h => by
    cases e : (stF adj ok root i)[i]? with
    | none => rw [stF_end e] at h; exact stF_path i x h
    | some c =>
      rw [stF_at e] at h
      rcases addsF_mem h with h | ⟨h1, h2, h3⟩
      · exact stF_path i x h
      · have := stF_path i c (List.mem_of_getElem? e)
        rw [h3]
        exact .snoc this h1 h2
theorem stF_reach {i : Nat} {x : Str} (h : x ∈ keysF (stF adj ok root i)) : Reach adj ok root x := by
  obtain ⟨y, hy, rfl⟩ := List.mem_map.mp h
  exact (stF_path i y hy).reach
/-- those whose turn has been have their neighbours found -/
theorem stF_closed : ∀ (i j : Nat) (c : Str × List Str), j < i → (stF adj ok root i)[j]? = some c → ∀ b ∈ adj c.1, ok c.1 b = true → b ∈ keysF (stF adj ok root i)
  | i + 1, j, c, hj, hc, b, hb, hk => by
    cases e : (stF adj ok root i)[i]? with
    | none =>
      rw [stF_end e] at hc ⊢
      have : j < (stF adj ok root i).length := (List.getElem?_eq_some_iff.mp hc).1
      have := List.getElem?_eq_none_iff.mp e
      exact stF_closed i j c (by omega) hc b hb hk
    | some d =>
      have li : i < (stF adj ok root i).length := (List.getElem?_eq_some_iff.mp e).1
      obtain ⟨r, hr⟩ := stF_pre (adj := adj) (ok := ok) (root := root) i
      have hc2 : (stF adj ok root i)[j]? = some c := by
        rw [hr, List.getElem?_append_left (by omega)] at hc
        exact hc
      by_cases q : j < i
      · have := stF_closed i j c q hc2 b hb hk
        rw [hr, keysF, List.map_append]
        exact List.mem_append_left _ this
      · have : j = i := by omega
        subst this
        rw [hc2] at e
        cases e
        rw [stF_at hc2]
        exact addsF_all hb hk
theorem stF_all {i : Nat} (h : (stF adj ok root i).length ≤ i) {x : Str} (r : Reach adj ok root x) : x ∈ keysF (stF adj ok root i) := by
  induction r with
  | refl =>
    obtain ⟨r, e⟩ := stF_root (adj := adj) (ok := ok) (root := root) i
    rw [e]
    exact List.mem_cons_self
  | step _ m o ih =>
    obtain ⟨y, hy, rfl⟩ := List.mem_map.mp ih
    obtain ⟨j, hj, e⟩ := List.mem_iff_getElem.mp hy
    exact stF_closed i j y (by omega) (by rw [List.getElem?_eq_getElem hj, e]) _ m o
/-- nodes of ns alone -/
theorem reach_mem {ns : List Str} (cl : ∀ x ∈ ns, ∀ y ∈ adj x, y ∈ ns) (h0 : root ∈ ns) {x : Str} (r : Reach adj ok root x) : x ∈ ns := by
  induction r with
  | refl => exact h0
  | step _ m _ ih => exact cl _ ih _ m
theorem nodup_len {α : Type} [DecidableEq α] : ∀ {xs ys : List α}, xs.Nodup → (∀ x ∈ xs, x ∈ ys) → xs.length ≤ ys.length
  | [], _, _, _ => Nat.zero_le _
  | x :: xs, ys, nd, h => by
    rw [List.nodup_cons] at nd
    have hx := h x List.mem_cons_self
    have := nodup_len (xs := xs) (ys := ys.erase x) nd.2 fun y hy => by
      refine (List.mem_erase_of_ne ?_).mpr (h y (List.mem_cons_of_mem _ hy))
      rintro rfl
      exact nd.1 hy
    rw [List.length_erase_of_mem hx] at this
    have : 0 < ys.length := List.length_pos_of_mem hx
    rw [List.length_cons]
    omega
theorem stF_len {ns : List Str} (cl : ∀ x ∈ ns, ∀ y ∈ adj x, y ∈ ns) (h0 : root ∈ ns) (i : Nat) : (stF adj ok root i).length ≤ ns.length := by
  have := nodup_len (stF_nodup (adj := adj) (ok := ok) (root := root) i) (ys := ns) fun x hx => reach_mem cl h0 (stF_reach hx)
  rw [List.length_map] at this
  exact this
theorem addsF_len {c : Str × List Str} : ∀ {os : List Str} {kp : List (Str × List Str)}, (addsF ok c os kp).length ≤ kp.length + os.length
  | [], kp => Nat.le_refl _
  | o :: os, kp => by
    have e : addsF ok c (o :: os) kp = addsF ok c os (addF ok c kp o) := rfl
    have := addsF_len (c := c) (os := os) (kp := addF ok c kp o)
    rw [e, List.length_cons]
    rcases addF_cases c kp o with ⟨z, _⟩ | ⟨z, _⟩ <;> rw [z] at this
    · rw [z]
      omega
    · rw [z]
      rw [List.length_append, List.length_singleton] at this
      omega
theorem stF_plen : ∀ i x, x ∈ stF adj ok root i → x.2.length ≤ i + 1
  | 0, x, h => by
    rw [stF, List.mem_singleton] at h
    subst h
    exact Nat.le_refl _
  | i + 1, x, h => by
    cases e : (stF adj ok root i)[i]? with
    | none =>
      rw [stF_end e] at h
      have := stF_plen i x h
      omega
    | some c =>
      rw [stF_at e] at h
      rcases addsF_mem h with h | ⟨h1, h2, h3⟩
      · have := stF_plen i x h
        omega
      · have := stF_plen i c (List.mem_of_getElem? e)
        rw [h3, List.length_append, List.length_singleton]
        omega
/-- where the loop ends, all is found -/
theorem stF_done {i : Nat} (h : (stF adj ok root i).length ≤ i) (hi : i ≤ 1000) : stF adj ok root i = pathsF adj ok root := by
  have e := stF_stop h (1000 - i)
  rw [Nat.add_sub_cancel' hi] at e
  exact e.symm
end

/-! ### neighbours in order -/
def sortS (xs : List Str) : List Str := xs.mergeSort fun a b => !decide (sLt b a)
theorem sortS_perm (xs : List Str) : (sortS xs).Perm xs := List.mergeSort_perm xs _
theorem nlt_trans {a b c : Str} (h : ¬ sLt b a) (k : ¬ sLt c b) : ¬ sLt c a := by
  intro z
  rcases sLt_tri a b with t | t | t
  · exact k (sLt_trans z t)
  · subst t
    exact k z
  · exact h t
theorem sortS_pw (xs : List Str) : (sortS xs).Pairwise fun a b => ¬ sLt b a := by
  have := List.pairwise_mergeSort (le := fun a b : Str => !decide (sLt b a)) (fun a b c h k => by
    simp only [Bool.not_eq_true', decide_eq_false_iff_not] at h k ⊢
    exact nlt_trans h k) (fun a b => by
    rw [Bool.or_eq_true]
    simp only [Bool.not_eq_true', decide_eq_false_iff_not]
    by_cases z : sLt b a
    · exact .inr (sLt_asymm z)
    · exact .inl z) xs
  exact this.imp fun h => by
    simp only [Bool.not_eq_true', decide_eq_false_iff_not] at h
    exact h
theorem sortS_asc {xs : List Str} (nd : xs.Nodup) : Asc (sortS xs) := asc_of_sorted (sortS_pw xs) ((sortS_perm xs).nodup_iff.mpr nd)
theorem sort_uniq {xs ys : List Str} (p : ys.Perm xs) (s : ys.Pairwise fun a b => ¬ sLt b a) (nd : xs.Nodup) : ys = sortS xs :=
  asc_unique (asc_of_sorted s (p.nodup_iff.mpr nd)) (sortS_asc nd) fun z => by rw [p.mem_iff, (sortS_perm xs).mem_iff]
theorem nbrF_nodup {ns : List Str} {es : List (Str × Str)} (ok : GrOk ns es) (x : Str) : (nbrF es x).Nodup := by
  unfold nbrF
  rw [List.nodup_iff_pairwise_ne, List.pairwise_flatMap]
  have m : ∀ {e : Str × Str} {z : Str}, z ∈ (if e.1 = x then [e.2] else []) ++ (if e.2 = x then [e.1] else []) → (e.1 = x ∧ z = e.2) ∨ (e.2 = x ∧ z = e.1) := by
    intro e z h
    rcases List.mem_append.mp h with h | h
    · split at h
      · rename_i c
        exact .inl ⟨c, by simpa using h⟩
      · cases h
    · split at h
      · rename_i c
        exact .inr ⟨c, by simpa using h⟩
      · cases h
  refine ⟨fun e he => ?_, ?_⟩
  · by_cases c : e.1 = x
    · have c2 : ¬ e.2 = x := fun z => by
        have := ok.lt e he
        rw [c, z] at this
        exact sLt_irrefl _ this
      rw [if_pos c, if_neg c2]
      simp
    · rw [if_neg c]
      split <;> simp
  · have nd := List.nodup_iff_pairwise_ne.mp (ascE_nodup ok.asc)
    refine List.Pairwise.imp_of_mem (fun {e d} he hd ne => ?_) nd
    intro z hz y hy zy
    subst zy
    have le := ok.lt e he
    have ld := ok.lt d hd
    rcases m hz with ⟨a1, a2⟩ | ⟨a1, a2⟩ <;> rcases m hy with ⟨b1, b2⟩ | ⟨b1, b2⟩
    · exact ne (Prod.ext (a1.trans b1.symm) (a2.symm.trans b2))
    · rw [a1, ← a2] at le
      rw [b1, ← b2] at ld
      exact sLt_asymm le ld
    · rw [a1, ← a2] at le
      rw [b1, ← b2] at ld
      exact sLt_asymm le ld
    · exact ne (Prod.ext (a2.symm.trans b2) (a1.trans b1.symm))
def nbS (es : List (Str × Str)) (x : Str) : List Str := sortS (nbrF es x)
theorem nbS_mem {es : List (Str × Str)} {x z : Str} : z ∈ nbS es x ↔ (x, z) ∈ es ∨ (z, x) ∈ es := by
  unfold nbS
  rw [(sortS_perm _).mem_iff]
  exact mem_nbrF
theorem nbS_of {ns : List Str} {es : List (Str × Str)} {x : Str} {ys : List Str} (ok : GrOk ns es) (p : ys.Perm (nbrF es x)) (s : ys.Pairwise fun a b => ¬ sLt b a) : ys = nbS es x := sort_uniq p s (nbrF_nodup ok x)
theorem nbS_in {ns : List Str} {es : List (Str × Str)} (ok : GrOk ns es) {x y : Str} (h : y ∈ nbS es x) : y ∈ ns := by
  rcases nbS_mem.mp h with h | h
  · exact (ok.mem _ h).2
  · exact (ok.mem _ h).1
end U

/-! d.update(e); lists of texts compared; the last but one -/
namespace U
open PySem PySem.Spec PyProof.Rows L2
/-! lists of texts compared -/
theorem eqvAll_strs : ∀ (xs ys : List Str), PyData.eqvAll (xs.map PyData.str) (ys.map PyData.str) = decide (xs = ys)
  | [], [] => by simp [PyData.eqvAll]
  | [], y :: ys => by simp [PyData.eqvAll]
  | x :: xs, [] => by simp [PyData.eqvAll]
  | x :: xs, y :: ys => by
    rw [List.map_cons, List.map_cons, PyData.eqvAll, eqvAll_strs xs ys]
    by_cases e : x = y
    · subst e
      simp [PyData.eqv]
    · simp [PyData.eqv, e]
theorem canLay_strs : ∀ {xs : List Str}, (∀ x ∈ xs, PyData.strOk x = true) → PyData.canLayAll0 (xs.map PyData.str) = true
  | [], _ => by simp [PyData.canLayAll0]
  | x :: xs, h => by
    rw [List.map_cons, PyData.canLayAll0, PyData.canLay0, h x List.mem_cons_self, canLay_strs fun y hy => h y (List.mem_cons_of_mem _ hy)]
    rfl
theorem depth_strs : ∀ {xs : List Str}, PyData.depthAll (xs.map PyData.str) = 0
  | [] => by simp [PyData.depthAll]
  | x :: xs => by
    rw [List.map_cons, PyData.depthAll, PyData.depth, depth_strs]
    rfl
theorem shaped_strs {xs : List Str} (h : ∀ x ∈ xs, PyData.strOk x = true) : SeqAt.shaped (.list (xs.map PyData.str)) = true := by
  unfold SeqAt.shaped
  rw [PyData.canLay0, canLay_strs h, PyData.depth, depth_strs]
  rfl
section
variable {K : PySem.W.Frag} {H : Hp} {Q : VK} {p q : Addr} {x y : V} {d : PyData} {xs ys : List Str}
theorem rd_neSL (hp : SqL K H p (xs.map V.str)) (hq : SqL K H q (ys.map V.str)) (ox : ∀ x ∈ xs, PyData.strOk x = true) (oy : ∀ x ∈ ys, PyData.strOk x = true) (h : Q (.bl (!decide (xs = ys))) H) : rNeU K (.ref p) (.ref q) H Q := by
  refine ⟨_, _, .lst hp (dp_strs _), .lst hq (dp_strs _), shaped_strs ox, shaped_strs oy, ?_⟩
  rw [PyData.eqv, eqvAll_strs]
  exact h
/-- the same data twice -/
theorem rd_neSame (hp : Dp K H (.ref p) d) (hq : Dp K H (.ref q) d) (sh : SeqAt.shaped d = true) (h : Q (.bl false) H) : rNeU K (.ref p) (.ref q) H Q := by
  refine ⟨_, _, hp, hq, sh, sh, ?_⟩
  rw [SeqAt.eqv_refl _ (SeqAt.canLay_of_shaped sh)]
  exact h
theorem rd_eqSame (hp : Dp K H (.ref p) d) (hq : Dp K H (.ref q) d) (sh : SeqAt.shaped d = true) (h : Q (.bl true) H) : rEqU K (.ref p) (.ref q) H Q := by
  refine ⟨_, _, hp, hq, sh, sh, ?_⟩
  rw [SeqAt.eqv_refl _ (SeqAt.canLay_of_shaped sh)]
  exact h
end
end U

/-! small readings that many laws want -/
namespace U
open PySem PySem.Spec PyProof.Rows L2
section
variable {K : PySem.W.Frag} {H H' : Hp} {Q : VK} {p q a : Addr} {σ : L2.St} {te td : TE} {tr : TA} {xs : List V}
theorem rd_revL (h : te σ H fun x H1 => ∃ a xs, x = .ref a ∧ SqL K H1 a xs ∧ ∀ p, H1 p = none → Q (.ref p) (upd H1 p (.lst xs.reverse))) : tRevL K te σ H Q := h
theorem Same.sqL (s : Same H H') (h : SqL K H a xs) : SqL K H' a xs := by
  rcases h with (h | ⟨o, h⟩) | h
  · exact .inl (.inl (s _ _ h))
  · exact .inl (.inr ⟨o, s _ _ h⟩)
  · exact .inr h
theorem seqL_keep (h : SqL K H a xs) (np : H p = none) (b : But p H H') : SqL K H' a xs := by
  rcases h with (h | ⟨o, h⟩) | h
  · exact .inl (.inl (b _ _ (ne_of_none h np) h))
  · exact .inl (.inr ⟨o, b _ _ (ne_of_none h np) h⟩)
  · exact .inr h
end
theorem cutV_from {xs : List V} {i : Nat} (h : i ≤ xs.length) : cutV xs (some (i : Int)) none = xs.drop i := by
  unfold cutV HT.sIx
  simp only
  rw [if_neg (by omega), Int.toNat_natCast, Nat.min_eq_left h]
  exact List.take_of_length_le (by rw [List.length_drop]; omega)
end U

/-! a pair among pairs; lists of lists of texts -/
namespace U
open PySem PySem.Spec PyProof.Rows L2
def rNinT (K : PySem.W.Frag) : R2 := fun x y H Q => ∃ (d : PyData) (ds : List PyData), Dp K H x d ∧ Dp K H y (.tuple ds) ∧ SeqAt.shaped d = true ∧ SeqAt.shaped (.tuple ds) = true ∧ Q (.bl (!ds.any fun z => PyData.eqv z d)) H
theorem kNinT {X : Cx} (K : PySem.W.Frag) (hK : X.K = K) (hu : X.A.units + 65 < cLine) : OpR X (compareOp .NotIn) (rNinT K) := by
  subst hK
  intro pins s σ H x y v u Q I rx ry ⟨d, ds, hd, he, sd, se, q⟩
  obtain ⟨_, r1⟩ := Dp.reads I _ _ _ hd rx
  obtain ⟨_, r2⟩ := Dp.reads I _ _ _ he ry
  exact SeqAt.notIn_tuple_reads r2 r1 (SeqAt.canLay_of_shaped se) (SeqAt.canLay_of_shaped sd) (room_in_shaped sd hu) ⟨.bl _, H, I, rfl, q⟩
theorem kNinL {X : Cx} (K : PySem.W.Frag) (hK : X.K = K) (hu : X.A.units + 65 < cLine) : OpR X (compareOp .NotIn) (rNotInD K) := by
  subst hK
  exact op_notInD hu
abbrev dE (e : Str × Str) : PyData := .tuple [.str e.1, .str e.2]
theorem eqv_dE {a b : Str × Str} : PyData.eqv (dE a) (dE b) = decide (a = b) := by
  obtain ⟨a1, a2⟩ := a
  obtain ⟨b1, b2⟩ := b
  rw [Bool.eq_iff_iff]
  simp [dE, PyData.eqv, PyData.eqvAll]
theorem any_dE {es : List (Str × Str)} {e : Str × Str} : ((es.map dE).any fun z => PyData.eqv z (dE e)) = decide (e ∈ es) := by
  rw [Bool.eq_iff_iff, List.any_eq_true, decide_eq_true_iff]
  constructor
  · rintro ⟨z, hz, h⟩
    obtain ⟨y, hy, rfl⟩ := List.mem_map.mp hz
    rw [eqv_dE, decide_eq_true_iff] at h
    rw [← h]
    exact hy
  · intro h
    exact ⟨_, List.mem_map_of_mem h, by rw [eqv_dE]; exact decide_eq_true rfl⟩
theorem dp_edges {K : PySem.W.Frag} {H : Hp} : ∀ {es : List (Addr × Str × Str)}, (∀ x ∈ es, SqT K H x.1 [.str x.2.1, .str x.2.2]) → DpAll K H (es.map fun x => V.ref x.1) ((es.map (·.2)).map dE)
  | [], _ => .nil
  | x :: r, h => .cons (.tup (h x List.mem_cons_self) (.cons (.str _) (.cons (.str _) .nil))) (dp_edges fun y hy => h y (List.mem_cons_of_mem _ hy))
theorem can_edges : ∀ {es : List (Str × Str)}, (∀ e ∈ es, PyData.strOk e.1 = true ∧ PyData.strOk e.2 = true) → PyData.canLayAll0 (es.map dE) = true ∧ PyData.depthAll (es.map dE) ≤ 1
  | [], _ => by simp [PyData.canLayAll0, PyData.depthAll]
  | e :: r, h => by
    obtain ⟨a, b⟩ := can_edges (es := r) fun y hy => h y (List.mem_cons_of_mem _ hy)
    obtain ⟨h1, h2⟩ := h e List.mem_cons_self
    have c : (dE e).canLay0 = true := by simp [dE, PyData.canLay0, PyData.canLayAll0, h1, h2]
    have d : (dE e).depth = 1 := by simp [dE, PyData.depth, PyData.depthAll]
    rw [List.map_cons, PyData.canLayAll0, PyData.depthAll, a, c, d]
    exact ⟨rfl, by omega⟩
theorem shaped_edge {e : Str × Str} (h : PyData.strOk e.1 = true ∧ PyData.strOk e.2 = true) : SeqAt.shaped (dE e) = true := by
  unfold SeqAt.shaped
  simp [dE, PyData.canLay0, PyData.canLayAll0, PyData.depth, PyData.depthAll, h.1, h.2]
theorem shaped_edgesT {es : List (Str × Str)} (h : ∀ e ∈ es, PyData.strOk e.1 = true ∧ PyData.strOk e.2 = true) : SeqAt.shaped (.tuple (es.map dE)) = true := by
  obtain ⟨a, b⟩ := can_edges h
  unfold SeqAt.shaped
  rw [PyData.canLay0, a, PyData.depth, decide_eq_true (by omega)]
  rfl
theorem shaped_edgesL {es : List (Str × Str)} (h : ∀ e ∈ es, PyData.strOk e.1 = true ∧ PyData.strOk e.2 = true) : SeqAt.shaped (.list (es.map dE)) = true := by
  obtain ⟨a, b⟩ := can_edges h
  unfold SeqAt.shaped
  rw [PyData.canLay0, a, PyData.depth, decide_eq_true (by omega)]
  rfl
theorem rd_ninTE {K : PySem.W.Frag} {H : Hp} {Q : VK} {p q : Addr} {e : Str × Str} {es : List (Addr × Str × Str)} (hp : SqT K H p [.str e.1, .str e.2]) (hq : SqT K H q (es.map fun x => V.ref x.1)) (pr : ∀ x ∈ es, SqT K H x.1 [.str x.2.1, .str x.2.2])
    (o1 : PyData.strOk e.1 = true ∧ PyData.strOk e.2 = true) (o2 : ∀ x ∈ es.map (·.2), PyData.strOk x.1 = true ∧ PyData.strOk x.2 = true) (h : Q (.bl (!decide (e ∈ es.map (·.2)))) H) : rNinT K (.ref p) (.ref q) H Q := by
  refine ⟨dE e, _, .tup hp (.cons (.str _) (.cons (.str _) .nil)), .tup hq (dp_edges pr), shaped_edge o1, shaped_edgesT o2, ?_⟩
  rw [any_dE]
  exact h
theorem rd_ninLE {K : PySem.W.Frag} {H : Hp} {Q : VK} {p q : Addr} {e : Str × Str} {es : List (Addr × Str × Str)} (hp : SqT K H p [.str e.1, .str e.2]) (hq : SqL K H q (es.map fun x => V.ref x.1)) (pr : ∀ x ∈ es, SqT K H x.1 [.str x.2.1, .str x.2.2])
    (o1 : PyData.strOk e.1 = true ∧ PyData.strOk e.2 = true) (o2 : ∀ x ∈ es.map (·.2), PyData.strOk x.1 = true ∧ PyData.strOk x.2 = true) (h : Q (.bl (!decide (e ∈ es.map (·.2)))) H) : rNotInD K (.ref p) (.ref q) H Q := by
  refine ⟨dE e, _, .tup hp (.cons (.str _) (.cons (.str _) .nil)), .lst hq (dp_edges pr), shaped_edge o1, shaped_edgesL o2, ?_⟩
  rw [any_dE]
  exact h
/-! lists of lists of texts -/
end U

/-! tuples of numbers compared; a pair in a tuple of pairs; numbers == [] -/
namespace U
open PySem PySem.Spec PyProof.Rows L2
section
variable {K : PySem.W.Frag} {H : Hp} {Q : VK} {p q : Addr} {xs ys : List Int}
end
end U

/-! components, root paths, basis cycles: the plain law -/
namespace U
open PySem PySem.Spec PyProof.Rows L2
abbrev ptF (es : List (Str × Str)) (x : Str) : List (Str × List Str) := pathsF (nbS es) (fun _ _ => true) x
abbrev Con (es : List (Str × Str)) (x y : Str) : Prop := Reach (nbS es) (fun _ _ => true) x y
section
variable {ns : List Str} {es : List (Str × Str)} {x y : Str}
theorem con_symm (h : Con es x y) : Con es y x := by
  induction h with
  | refl => exact .refl
  | step _ m _ ih =>
    refine Reach.trans (.step .refl ?_ rfl) ih
    exact nbS_mem.mpr ((nbS_mem.mp m).symm)
theorem pt_mem (ok : GrOk ns es) (l : ns.length ≤ 1000) (hx : x ∈ ns) : y ∈ keysF (ptF es x) ↔ Con es x y :=
  ⟨fun h => stF_reach h, fun h => stF_all (by have := stF_len (ok := fun _ _ => true) (adj := nbS es) (ns := ns) (fun a _ b hb => nbS_in ok hb) hx 1000; omega) h⟩
theorem pt_nodup : (keysF (ptF es x)).Nodup := stF_nodup 1000
theorem pt_len (ok : GrOk ns es) (hx : x ∈ ns) : (ptF es x).length ≤ ns.length := stF_len (fun a _ b hb => nbS_in ok hb) hx 1000
theorem pt_in (ok : GrOk ns es) (hx : x ∈ ns) (h : y ∈ keysF (ptF es x)) : y ∈ ns := reach_mem (fun a _ b hb => nbS_in ok hb) hx (stF_reach h)
def comp (es : List (Str × Str)) (x : Str) : List Str := sortS (keysF (ptF es x))
theorem comp_mem (ok : GrOk ns es) (l : ns.length ≤ 1000) (hx : x ∈ ns) : y ∈ comp es x ↔ Con es x y := by
  unfold comp
  rw [(sortS_perm _).mem_iff, pt_mem ok l hx]
def compStep (es : List (Str × Str)) (cs : List (List Str)) (n : Str) : List (List Str) := if n ∈ cs.flatten then cs else cs ++ [comp es n]
def compsF (ns : List Str) (es : List (Str × Str)) : List (List Str) := ns.foldl (compStep es) []
/-- components found from the nodes ds, all in ns -/
structure Cmps (ns : List Str) (es : List (Str × Str)) (ds : List Str) (cs : List (List Str)) : Prop where
  of : ∀ c ∈ cs, ∃ r ∈ ns, c = comp es r
  nd : cs.flatten.Nodup
  all : ∀ x ∈ ds, x ∈ cs.flatten
theorem Cmps.nil : Cmps ns es [] [] := ⟨(fun c hc => nomatch hc), List.nodup_nil, (fun x hx => nomatch hx)⟩
theorem Cmps.in_ {ds : List Str} {cs : List (List Str)} (h : Cmps ns es ds cs) (ok : GrOk ns es) : ∀ x ∈ cs.flatten, x ∈ ns := fun x hx => by
  obtain ⟨c, hc, hx⟩ := List.mem_flatten.mp hx
  obtain ⟨r, hr, rfl⟩ := h.of c hc
  exact pt_in ok hr ((sortS_perm _).mem_iff.mp hx)
theorem Cmps.step {ds : List Str} {cs : List (List Str)} {n : Str} (h : Cmps ns es ds cs) (ok : GrOk ns es) (l : ns.length ≤ 1000) (hn : n ∈ ns) : Cmps ns es (ds ++ [n]) (compStep es cs n) := by
  unfold compStep
  by_cases m : n ∈ cs.flatten
  · rw [if_pos m]
    refine ⟨h.of, h.nd, fun x hx => ?_⟩
    rcases List.mem_append.mp hx with hx | hx
    · exact h.all x hx
    · rw [List.mem_singleton] at hx
      rw [hx]
      exact m
  · rw [if_neg m]
    refine ⟨fun c hc => ?_, ?_, fun x hx => ?_⟩
    · rcases List.mem_append.mp hc with hc | hc
      · exact h.of c hc
      · rw [List.mem_singleton] at hc
        exact ⟨n, hn, hc⟩
    · rw [List.flatten_append, List.nodup_append]
      refine ⟨h.nd, ?_, fun a ha b hb z => ?_⟩
      · rw [List.flatten_singleton]
        exact (sortS_perm _).nodup_iff.mpr pt_nodup
      · rw [List.flatten_singleton] at hb
        subst z
        obtain ⟨c, hc, ha⟩ := List.mem_flatten.mp ha
        obtain ⟨r, hr, rfl⟩ := h.of c hc
        have h1 := (comp_mem ok l hr).mp ha
        have h2 := (comp_mem ok l hn).mp hb
        exact m (List.mem_flatten.mpr ⟨_, hc, (comp_mem ok l hr).mpr (h1.trans (con_symm h2))⟩)
    · rw [List.flatten_append, List.flatten_singleton]
      rcases List.mem_append.mp hx with hx | hx
      · exact List.mem_append_left _ (h.all x hx)
      · rw [List.mem_singleton] at hx
        subst hx
        exact List.mem_append_right _ ((comp_mem ok l hn).mpr .refl)
theorem Cmps.len {ds : List Str} {cs : List (List Str)} (h : Cmps ns es ds cs) (ok : GrOk ns es) : cs.flatten.length ≤ ns.length := nodup_len h.nd (h.in_ ok)
/-! root paths -/
def rootsF (es : List (Str × Str)) (cs : List (List Str)) : List (Str × List Str) := cs.flatMap fun c => ptF es (c.headD Str.empty)
end
end U

/-! sums of slopes along walks: the plain law -/
namespace U
open PySem PySem.Spec PyProof.Rows L2
def Adj (es : List (Str × Str)) (a b : Str) : Prop := (a, b) ∈ es ∨ (b, a) ∈ es
theorem Adj.symm {es : List (Str × Str)} {a b : Str} (h : Adj es a b) : Adj es b a := Or.symm h
def Wk (es : List (Str × Str)) : List Str → Prop
  | a :: b :: r => Adj es a b ∧ Wk es (b :: r)
  | _ => True
theorem Wk.join {es : List (Str × Str)} : ∀ {p r : List Str} {x : Str}, p.getLast? = some x → Wk es p → Wk es (x :: r) → Wk es (p ++ r)
  | [], _, _, h, _, _ => nomatch h
  | [a], r, x, h, _, w => by
    have : a = x := by simpa using h
    subst this
    exact w
  | a :: b :: q, r, x, h, w1, w2 => by
    have h' : (b :: q).getLast? = some x := by rw [List.getLast?_cons_cons] at h; exact h
    exact ⟨w1.1, Wk.join (p := b :: q) h' w1.2 w2⟩
theorem Wk.snoc {es : List (Str × Str)} {p : List Str} {x b : Str} (h : p.getLast? = some x) (w : Wk es p) (a : Adj es x b) : Wk es (p ++ [b]) := w.join h ⟨a, trivial⟩
theorem Wk.left {es : List (Str × Str)} : ∀ {p r : List Str}, Wk es (p ++ r) → Wk es p
  | [], _, _ => trivial
  | [_], _, _ => trivial
  | a :: b :: q, r, w => ⟨w.1, Wk.left (p := b :: q) (r := r) w.2⟩
theorem Wk.tail {es : List (Str × Str)} {a : Str} {p : List Str} (w : Wk es (a :: p)) : Wk es p := by
  cases p with
  | nil => trivial
  | cons b r => exact w.2
section
variable {ns : List Str} {es : List (Str × Str)} {f : Str → Int}
end
/-! ### the paths found are walks -/
theorem PathTo.wk {es : List (Str × Str)} {ok : Str → Str → Bool} {root x : Str} {p : List Str} (h : PathTo (nbS es) ok root x p) : Wk es p ∧ p.head? = some root ∧ p.getLast? = some x := by
  induction h with
  | one => exact ⟨trivial, rfl, rfl⟩
  | @snoc a b p _ m o ih =>
    obtain ⟨h1, h2, h3⟩ := ih
    refine ⟨h1.snoc h3 (nbS_mem.mp m), ?_, by simp⟩
    cases p with
    | nil => cases h2
    | cons _ _ => exact h2
/-! ### basis cycles -/
def pth (kp : List (Str × List Str)) (x : Str) : List Str := (kp.lookup x).getD []
theorem lookup_some : ∀ {kp : List (Str × List Str)} {x : Str}, x ∈ keysF kp → ∃ p, kp.lookup x = some p ∧ (x, p) ∈ kp
  | y :: r, x, h => by
    rw [List.lookup_cons]
    by_cases e : x = y.1
    · subst e
      rw [show (y.1 == y.1) = true from beq_self_eq_true _]
      exact ⟨y.2, rfl, List.mem_cons_self⟩
    · rw [show (x == y.1) = false from beq_eq_false_iff_ne.mpr e]
      have : x ∈ keysF r := by
        rcases List.mem_cons.mp h with z | z
        · exact absurd z e
        · exact z
      obtain ⟨p, h1, h2⟩ := lookup_some this
      exact ⟨p, h1, List.mem_cons_of_mem _ h2⟩
section
variable {ns : List Str} {es : List (Str × Str)}
end
end U

/-! as many basis cycles as edges, nodes and components tell: the plain law -/
namespace U
open PySem PySem.Spec PyProof.Rows L2
section
variable {adj : Str → List Str} {ok : Str → Str → Bool} {root : Str}
end
section
variable {ns : List Str} {es : List (Str × Str)}
theorem eOf_mem (ok : GrOk ns es) {a b : Str} (h : Adj es a b) : eOf a b ∈ es := by
  rcases h with h | h
  · have lt := ok.lt _ h
    unfold eOf
    rw [if_pos lt]
    exact h
  · have lt := ok.lt _ h
    unfold eOf
    rw [if_neg (sLt_asymm lt)]
    exact h
end
end U

/-! try with two handlers, the exception kept -/
namespace U
open PySem PySem.Spec PyProof.Rows L2
section
variable {X : Cx} {x x2 n : Str} {c c2 : Value} {i : Nat} {body suite suite2 : List Stmt} {b₀ b₂ : Stmt} {np np2 pos pos' pos2 : Pos} {tb : WX → TS} {ts ts2 : TS} {Wout : WX}
end
end U

/-! what laws try besides nodes -/
namespace Law
open PySem PySem.Spec PyProof.Rows L2 U
local macro_rules | `(tactic| wtm_at "rd1") => `(tactic| first
  | with_reducible refine rd_seq ?_
  | ((with_reducible refine rd_var (v := ?vv) ?hv ?_); (case hv => exact rfl))
  | with_reducible refine rd_c ?_
  | with_reducible refine rd_cons ?_
  | with_reducible refine rd_nil ?_
  | with_reducible refine rd_op ?_
  | with_reducible refine rd_asg ?_
  | with_reducible refine rd_name ?_
  | with_reducible refine rd_c1 ?_
  | with_reducible refine rd_cb ?_
  | with_reducible refine rd_test ?_
  | with_reducible refine rd_B ?_
  | with_reducible refine rd_bl ?_
  | with_reducible refine rd_if ?_
  | with_reducible refine rd_ret ?_
  | with_reducible refine rd_drop ?_
  | with_reducible refine rd_next ?_
  | with_reducible refine rd_addI ?_
  | with_reducible refine rd_ltI ?_
  | with_reducible refine rd_eqI ?_
  | with_reducible refine rd_neI ?_
  | with_reducible refine rd_eqS ?_
  | with_reducible refine rd_neS ?_
  | with_reducible refine rd_gtI ?_
  | with_reducible refine rd_geI ?_
  | with_reducible refine rd_leI ?_
  | with_reducible refine rd_ltS ?_
  | with_reducible refine rd_subI ?_
  | ((with_reducible refine rd_modI ?hc ?_); (case hc => first | decide | omega))
  | ((with_reducible refine rd_mulI ?hc ?_); (case hc => first | exact mul_bI | exact .inl (.inr (by decide)) | exact .inl (.inl (by decide)) | exact .inl (.inr (by omega)) | exact .inl (.inl (by omega))))
  | ((with_reducible refine rd_divI ?hc ?_); (case hc => first | decide | omega))
  | ((with_reducible refine rd_powI ?hc ?_); (case hc => exact ⟨by decide, by decide, by decide⟩))
  | with_reducible refine rd_lst ?_
  | with_reducible refine rd_tup ?_
  | ((with_reducible refine rd_sz ?hv ?_); (case hv => exact rfl))
  | with_reducible refine rd_and ?_
  | with_reducible refine rd_or ?_
  | with_reducible refine rd_not ?_
  | with_reducible refine rd_andV ?_
  | with_reducible refine rd_orV ?_
  | with_reducible refine rd_notV ?_
  | with_reducible refine rd_ifE ?_
  | with_reducible refine rd_T ?_
  | with_reducible refine rd_F ?_
  | with_reducible refine rd_chain ?_
  | with_reducible refine rd_is ?_
  | with_reducible refine rd_isNot ?_
  | with_reducible refine rd_absI ?_
  | with_reducible refine rd_maxI ?_
  | with_reducible refine rd_minI ?_
  | with_reducible refine rd_intI ?_
  | with_reducible refine rd_intB ?_
  | with_reducible refine rd_sub ?_
  | with_reducible refine rd_sl ?_
  | with_reducible refine rd_noPart ?_
  | with_reducible refine rd_part ?_
  | with_reducible refine rd_exI ?_
  | with_reducible refine rd_bm ?_
  | with_reducible refine rd_bm0 ?_
  | with_reducible refine rd_un ?_
  | with_reducible refine rd_neg ?_
  | with_reducible refine rd_c2 ?_
  | with_reducible refine rd_retN ?_
  | with_reducible refine rd_break ?_
  | with_reducible refine rd_cont ?_
  | with_reducible refine rd_for ?_
  | with_reducible refine rd_rng1 ?_
  | with_reducible refine rd_rng2 ?_
  | with_reducible refine rd_iList ?_
  | with_reducible refine rd_iTup ?_
  | with_reducible refine rd_iEnum ?_
  | ((with_reducible refine rd_forR ?h0 ?h1 ?_); (case h0 => omega); (case h1 => omega))
  | with_reducible refine rd_lc ?_
  | with_reducible refine rd_gcons ?_
  | with_reducible refine rd_gnil ?_
  | with_reducible refine rd_dget ?_
  | with_reducible refine rd_dput ?_
  | with_reducible refine rd_dnew ?_
  | with_reducible refine rd_dc ?_
  | with_reducible refine rd_iItems ?_
  | with_reducible refine rd_iKeys ?_
  | with_reducible refine rd_din ?_
  | with_reducible refine rd_lc2 ?_
  | with_reducible refine rd_cd ?_
  | with_reducible refine rd_par ?_
  | with_reducible refine rd_two ?_
  | with_reducible refine rd_reprB ?_
  | with_reducible refine rd_ck ?_
  | ((with_reducible refine rd_len ?hl ?_); (case hl => exact rfl))
  | with_reducible refine rd_nT ?_
  | with_reducible refine rd_nF ?_
  | with_reducible refine rd_dnin ?_
  | with_reducible refine rd_isB ?_
  | with_reducible refine rd_isNotB ?_
  | with_reducible refine rd_daug ?_
  | with_reducible refine rd_yesT ?_
  | ((with_reducible refine rd_wp ?hw ?_); (case hw => exact rfl)))
local macro_rules | `(tactic| wtm_at "rd") => `(tactic| repeat wtm_at "rd1")

theorem lk_1 {k : Str} {v : V} : List.lookup k [(k, v)] = some v := by
  have e : (k == k) = true := beq_self_eq_true k
  simp only [List.lookup, e]
theorem rd_tXk2 {K : PySem.W.Frag} {f : Str} {te : TE} {σ : L2.St} {H : Hp} {Q : VK} (h : te σ H fun x H1 => ∃ (a C dd : Addr) (fs : List (Str × V)) (v : V), x = .ref a ∧ H1 a = some (exk a (.ref C) (some dd)) ∧ XfC K C ∧ PySem.W.findIn K (.ref C) f = some none ∧ H1 dd = some (.xd fs) ∧ fs.lookup f = some v ∧ Q v H1) : tXk K f te σ H Q := h
theorem rp_str {K : PySem.W.Frag} {H : Hp} {z : Str} (h : ∀ c ∈ z.cps.toList, c ≤ 126) (l : z.length ≤ 100) : Rp K H (.str z) (reprText z) := by
  refine .str z ?_
  have lv : (PyData.str z).leavesShort 13 = true := by
    rw [PyData.leavesShort, List.all_eq_true]
    intro x hx
    have := h x hx
    rw [decide_eq_true_eq]
    omega
  have bk : (PyData.str z).bulk ≤ 2 ^ 20 := by
    rw [PyData.bulk]
    have l' : z.cps.size ≤ 100 := l
    omega
  have := PyData.shown_fits_bulk (B := 13) (by decide) (by decide) lv bk
  exact this
/-- what the law tries besides nodes -/
def Cand (K : PySem.W.Frag) (H : Hp) (ns : List Str) (x : V) : Prop := NotN K H ns x ∧ ∃ S, Rp K H x S
theorem Cand.same {K : PySem.W.Frag} {H H' : Hp} {ns : List Str} {x : V} (h : Cand K H ns x) (s : Same H H') : Cand K H' ns x := ⟨h.1.same s, h.2.imp fun _ r => r.same s⟩
section
variable {K : PySem.W.Frag} {H : Hp} {ns : List Str}
theorem cand_non : Cand K H ns .non := ⟨.inl ⟨.non, .base .non, rfl⟩, _, .non⟩
theorem cand_str {z : Str} (hn : z ∉ ns) (h : ∀ c ∈ z.cps.toList, c ≤ 126) (l : z.length ≤ 100) : Cand K H ns (.str z) := ⟨.inr ⟨z, rfl, hn⟩, _, rp_str h l⟩
theorem cand_lst1 {t : Addr} {z : Str} (ht : H t = some (.lst [.str z])) (h : IsName z) : Cand K H ns (.ref t) := by
  refine ⟨.inl ⟨.lst, .base (.lst ht), rfl⟩, _, .of (.lst (SqL.of ht) (.cons (.str z) .nil)) (by simp [PyData.hasDict, PyData.hasDictAll]) ?_⟩
  have a := h.lv
  have b := h.bk
  refine ⟨by simp [PyData.showable, PyData.showableAll], ?_, ?_, by simp [PyData.depth, PyData.depthAll]⟩
  · simp only [PyData.leavesShort, PyData.leavesShortAll, Bool.and_true] at a ⊢
    exact a
  · simp only [PyData.bulk, PyData.bulkAll] at b ⊢
    omega
end
theorem str_app1 {x : Str} {c : Nat} : (x ++ (⟨#[c]⟩ : Str)).cps.toList = x.cps.toList ++ [c] := by
  show (x.cps ++ #[c]).toList = _
  rw [Array.toList_append]
end Law

/-! k03: check_path with the position it finds -/
namespace U
open PySem PySem.Spec PyProof.Rows L2
/-- what may follow in a path -/
def stepOk (ns : List Str) (es : List (Str × Str)) (pr : Option Str) (z : Str) : Bool := decide (z ∈ ns) && (match pr with | none => true | some y => decide (z ∈ nbS es y))
/-- the first position that is no path's -/
def badF (ns : List Str) (es : List (Str × Str)) : Option Str → List (Option Str) → Nat → Option Nat
  | _, [], _ => none
  | _, none :: _, i => some i
  | pr, some z :: r, i => if stepOk ns es pr z then badF ns es (some z) r (i + 1) else some i
/-- what check_path finds -/
def ckF (ns : List Str) (es : List (Str × Str)) : Option (List (Option Str)) → Option (Option Nat)
  | none => some none
  | some os => if 1 ≤ os.length ∧ os.length ≤ 1000 then (badF ns es none os 0).map some else some none
def posV : Option Nat → V
  | none => .non
  | some i => .int (i : Int)
def ElP (K : PySem.W.Frag) (H : Hp) (v : V) : Option Str → Prop
  | some s => v = .str s
  | none => ∃ t, TyIs K H v t ∧ isT t .str = false
/-- something asked as a path -/
inductive CandP (K : PySem.W.Frag) (H : Hp) : V → Option (List (Option Str)) → Prop
  | odd {v : V} {t : Ty} : TyIs K H v t → isT t .lst = false → CandP K H v none
  | lst {a : Addr} {us : List V} {os : List (Option Str)} : SqL K H a us → us.length = os.length → (∀ (i : Nat) (u : V) (o : Option Str), us[i]? = some u → os[i]? = some o → ElP K H u o) → CandP K H (.ref a) (some os)
theorem badF_good {ns : List Str} {es : List (Str × Str)} : ∀ {p : List Str} {pr : Option Str} {i : Nat}, (∀ y ∈ p, y ∈ ns) → Wk es p → (∀ y z, pr = some y → p.head? = some z → Adj es y z) → badF ns es pr (p.map some) i = none
  | [], _, _, _, _, _ => rfl
  | z :: r, pr, i, h1, h2, h3 => by
    have c : stepOk ns es pr z = true := by
      unfold stepOk
      rw [Bool.and_eq_true]
      refine ⟨decide_eq_true (h1 z List.mem_cons_self), ?_⟩
      cases pr with
      | none => rfl
      | some y => exact decide_eq_true (nbS_mem.mpr (h3 y z rfl rfl))
    rw [List.map_cons, badF, if_pos c]
    refine badF_good (fun y hy => h1 y (List.mem_cons_of_mem _ hy)) ?_ fun y w e1 e2 => ?_
    · cases r with
      | nil => trivial
      | cons w r => exact h2.2
    · cases r with
      | nil => cases e2
      | cons w' r =>
        cases e1
        cases e2
        exact h2.1
theorem eOf_adj3 {es : List (Str × Str)} {a b : Str} (h : eOf a b ∈ es) : Adj es a b := by
  unfold eOf at h
  split at h
  · exact .inl h
  · exact .inr h
end U
namespace Law
open PySem PySem.Spec PyProof.Rows L2 U LamX
local macro_rules | `(tactic| wtm_at "rd1") => `(tactic| first
  | with_reducible refine rd_seq ?_
  | ((with_reducible refine rd_var (v := ?vv) ?hv ?_); (case hv => exact rfl))
  | with_reducible refine rd_c ?_
  | with_reducible refine rd_cons ?_
  | with_reducible refine rd_nil ?_
  | with_reducible refine rd_op ?_
  | with_reducible refine rd_asg ?_
  | with_reducible refine rd_name ?_
  | with_reducible refine rd_c1 ?_
  | with_reducible refine rd_cb ?_
  | with_reducible refine rd_test ?_
  | with_reducible refine rd_B ?_
  | with_reducible refine rd_bl ?_
  | with_reducible refine rd_if ?_
  | with_reducible refine rd_ret ?_
  | with_reducible refine rd_drop ?_
  | with_reducible refine rd_next ?_
  | with_reducible refine rd_addI ?_
  | with_reducible refine rd_ltI ?_
  | with_reducible refine rd_eqI ?_
  | with_reducible refine rd_neI ?_
  | with_reducible refine rd_eqS ?_
  | with_reducible refine rd_neS ?_
  | with_reducible refine rd_gtI ?_
  | with_reducible refine rd_geI ?_
  | with_reducible refine rd_leI ?_
  | with_reducible refine rd_ltS ?_
  | with_reducible refine rd_subI ?_
  | ((with_reducible refine rd_modI ?hc ?_); (case hc => first | decide | omega))
  | ((with_reducible refine rd_mulI ?hc ?_); (case hc => first | exact mul_bI | exact .inl (.inr (by decide)) | exact .inl (.inl (by decide)) | exact .inl (.inr (by omega)) | exact .inl (.inl (by omega))))
  | ((with_reducible refine rd_divI ?hc ?_); (case hc => first | decide | omega))
  | ((with_reducible refine rd_powI ?hc ?_); (case hc => exact ⟨by decide, by decide, by decide⟩))
  | with_reducible refine rd_lst ?_
  | with_reducible refine rd_tup ?_
  | ((with_reducible refine rd_sz ?hv ?_); (case hv => exact rfl))
  | with_reducible refine rd_and ?_
  | with_reducible refine rd_or ?_
  | with_reducible refine rd_not ?_
  | with_reducible refine rd_andV ?_
  | with_reducible refine rd_orV ?_
  | with_reducible refine rd_notV ?_
  | with_reducible refine rd_ifE ?_
  | with_reducible refine rd_T ?_
  | with_reducible refine rd_F ?_
  | with_reducible refine rd_chain ?_
  | with_reducible refine rd_is ?_
  | with_reducible refine rd_isNot ?_
  | with_reducible refine rd_absI ?_
  | with_reducible refine rd_maxI ?_
  | with_reducible refine rd_minI ?_
  | with_reducible refine rd_intI ?_
  | with_reducible refine rd_intB ?_
  | with_reducible refine rd_sub ?_
  | with_reducible refine rd_sl ?_
  | with_reducible refine rd_noPart ?_
  | with_reducible refine rd_part ?_
  | with_reducible refine rd_exI ?_
  | with_reducible refine rd_bm ?_
  | with_reducible refine rd_bm0 ?_
  | with_reducible refine rd_un ?_
  | with_reducible refine rd_neg ?_
  | with_reducible refine rd_c2 ?_
  | with_reducible refine rd_retN ?_
  | with_reducible refine rd_break ?_
  | with_reducible refine rd_cont ?_
  | with_reducible refine rd_for ?_
  | with_reducible refine rd_rng1 ?_
  | with_reducible refine rd_rng2 ?_
  | with_reducible refine rd_iList ?_
  | with_reducible refine rd_iTup ?_
  | with_reducible refine rd_iEnum ?_
  | ((with_reducible refine rd_forR ?h0 ?h1 ?_); (case h0 => omega); (case h1 => omega))
  | with_reducible refine rd_lc ?_
  | with_reducible refine rd_gcons ?_
  | with_reducible refine rd_gnil ?_
  | with_reducible refine rd_dget ?_
  | with_reducible refine rd_dput ?_
  | with_reducible refine rd_dnew ?_
  | with_reducible refine rd_dc ?_
  | with_reducible refine rd_iItems ?_
  | with_reducible refine rd_iKeys ?_
  | with_reducible refine rd_din ?_
  | with_reducible refine rd_lc2 ?_
  | with_reducible refine rd_cd ?_
  | with_reducible refine rd_par ?_
  | with_reducible refine rd_two ?_
  | with_reducible refine rd_reprB ?_
  | with_reducible refine rd_ck ?_
  | ((with_reducible refine rd_len ?hl ?_); (case hl => exact rfl))
  | with_reducible refine rd_nT ?_
  | with_reducible refine rd_nF ?_
  | with_reducible refine rd_dnin ?_
  | with_reducible refine rd_isB ?_
  | with_reducible refine rd_isNotB ?_
  | with_reducible refine rd_daug ?_
  | with_reducible refine rd_yesT ?_
  | ((with_reducible refine rd_wp ?hw ?_); (case hw => exact rfl)))
local macro_rules | `(tactic| wtm_at "rd") => `(tactic| repeat wtm_at "rd1")

theorem Same.seqLD {K : PySem.W.Frag} {H H' : Hp} {a : Addr} {xs : List V} (s : Same H H') (h : SqL K H a xs) : SqL K H' a xs := by
  rcases h with (h | ⟨o, h⟩) | h
  · exact .inl (.inl (s _ _ h))
  · exact .inl (.inr ⟨o, s _ _ h⟩)
  · exact .inr h
theorem ty_seqLD {K : PySem.W.Frag} {H : Hp} {a : Addr} {xs : List V} (h : SqL K H a xs) : TyIs K H (.ref a) .lst := by
  rcases h with (h | ⟨o, h⟩) | h
  · exact ty_lst h
  · exact .base (.frz h)
  · obtain ⟨_, _, _, h1, h2, _⟩ := h
    exact .kList h1 h2
theorem ElP.same {K : PySem.W.Frag} {H H' : Hp} {v : V} {o : Option Str} (h : ElP K H v o) (s : Same H H') : ElP K H' v o := by
  cases o with
  | some x => exact h
  | none =>
    obtain ⟨t, a, b⟩ := h
    exact ⟨t, tyx_same a s, b⟩
theorem CandP.same {K : PySem.W.Frag} {H H' : Hp} {v : V} {o : Option (List (Option Str))} (h : CandP K H v o) (s : Same H H') : CandP K H' v o := by
  cases h with
  | odd a b => exact .odd (tyx_same a s) b
  | lst a b c => exact .lst (Same.seqLD s a) b fun i u o h1 h2 => ElP.same (c i u o h1 h2) s
/-- what the law makes of it -/
def RsV (H : Hp) (u : V) : Option (Option Nat) → Prop
  | none => u = .str "good"
  | some p => ∃ t, u = .ref t ∧ H t = some (.tup [posV p])
theorem RsV.same {H H' : Hp} {u : V} {r : Option (Option Nat)} (h : RsV H u r) (s : Same H H') : RsV H' u r := by
  cases r with
  | none => exact h
  | some p =>
    obtain ⟨t, a, b⟩ := h
    exact ⟨t, a, s _ _ b⟩
def spCkPX (K : PySem.W.Frag) (C : Addr) : Sp := fun vs H Q E => ∃ (g n e : Addr) (v : V) (oc : Option (List (Option Str))) (ns : List Str) (es : List (Addr × Str × Str)), vs = [.ref g, v] ∧ GrS H g n e ns es ∧ CandP K H v oc ∧ (ckF ns (es.map (·.2)) oc = none → ∀ H' : Hp, Same H H' → Q .non H') ∧ (∀ r, ckF ns (es.map (·.2)) oc = some r → ∀ (d : Addr) (H' : Hp), Same H H' → H d = none → H' d = some (.xd [("position", posV r)]) → E (.ref C) (some d) H')
def spCkR (K : PySem.W.Frag) : Sp := fun vs H Q _ => ∃ (g n e : Addr) (v : V) (oc : Option (List (Option Str))) (ns : List Str) (es : List (Addr × Str × Str)), vs = [.ref g, v] ∧ GrS H g n e ns es ∧ CandP K H v oc ∧ ∀ (u : V) (H' : Hp), Same H H' → RsV H' u (ckF ns (es.map (·.2)) oc) → Q u H'
/-- the classes of k03's first error -/
structure IsP (K : PySem.W.Frag) (mg : Str → Option Value) (CE CB : Addr) : Prop where
  cls : ExcC K CE
  gI : mg "InputError" = some (.ref CB)
  gP : mg "InvalidPath" = some (.ref CE)
  iP : PySem.W.kitOne K (.ref CE) (.ref CE) = some true
  mI : PySem.W.exmOne K (.ref CE) (.ref CB) = some true
section
variable {P : Program} {w : World} {K : PySem.W.Frag} {mg : Str → Option Value} {base : Heap}
theorem ok_initIP {f : Addr} {fd : FuncData} {C CB : Addr} {x : Str} (F : Fun K "__init__" "InvalidPath.__init__" s_InvalidPath_init f fd) (T : OwnX K mg x "position" C CB f) : FnOk P w K mg base CX0 1 f fd ["self", "position"] (spInit1 C "position") := by
  refine F.ok sc_InvalidPath_init (fun vs H Q E h => ?_) (fun cdv A outer s H vs Q E hr h => ?_)
  · obtain ⟨a, v, rfl, _⟩ := h
    rfl
  · obtain ⟨a, v, rfl, ha, q⟩ := h
    refine ⟨_, pss_cons (ps_expr (pe_binit (x := "InputError") rfl T.gB T.bi (pa_cons (pv 0) (pa_cons pe_str pa_nil)))) (pss_one (ps_ost (pv 0) (pv 1))), ?_⟩
    wtm_at "rd"
    refine rd_vei (v := v) ?_
    wtm_at "rd"
    refine ⟨a, C, _, rfl, by decide, T.ox, ha, ?_⟩
    dsimp only
    refine rd_ost ?_
    wtm_at "rd"
    exact ⟨a, C, rfl, T.ox, T.no, .inl ⟨ha, fun dx n1 n2 => q dx n1 n2⟩⟩
theorem ok_edgeK {f : Addr} {fd : FuncData} (F : Fun K "edge_of" "edge_of" s_edge_of f fd) (B : Bt mg) : FnG P w K mg base CX0 1 f fd ["first", "second"] spEdgeOf := by
  refine fnG0 F sc_edge_of (fun vs H Q E h => ?_) (fun cdv A outer s H vs Q E hr h => ?_)
  · obtain ⟨x, y, rfl, _⟩ := h
    rfl
  · obtain ⟨x, y, rfl, q⟩ := h
    have nd := sc_edge_of.nd
    refine ⟨_, (pss_one (ps_ret (pe_ifExp (pt_cmpR uLt (pv 0) (pv 1) (nomark _)) (pe_tup (pa_cons (pv 0) (pa_cons (pv 1) pa_nil))) (pe_tup (pa_cons (pv 1) (pa_cons (pv 0) pa_nil)))))), ?_⟩
    wtm_at "rd"
    refine rd_split (fun c => ?_) (fun c => ?_)
    · have c : sLt x y := c
      rw [if_pos c] at q
      wtm_at "rd"
      exact fun t ft => q t ft
    · have c : ¬ sLt x y := c
      rw [if_neg c] at q
      wtm_at "rd"
      exact fun t ft => q t ft
structure KAa (P : Program) (w : World) (K : PySem.W.Frag) (mg : Str → Option Value) (base : Heap) : Prop where
  has_node : Cal P w K mg base CX0 1 "has_node" (spHasV K)
  edge_of : Cal P w K mg base CX0 1 "edge_of" spEdgeOf
  MAX_PATH : ∃ u, mg "MAX_PATH" = some u ∧ RelV (.int 1000) u
theorem ok_ckPX {f : Addr} {fd : FuncData} {CE CB : Addr} (F : Fun K "check_path" "check_path" s_check_path f fd) (B : Bt mg) (C : KAa P w K mg base) (T : ErrX P w K mg base "InvalidPath" "position" CE CB) : FnG P w K mg base (L2.CX P w) 3 f fd ["graph", "candidate"] (spCkPX K CE) := by
  refine fnG F sc_check_path (fun vs H Q E h => ?_) (fun cdv A outer s H vs Q E hr h => ?_)
  · obtain ⟨g, n, e, v, o, ns, es, rfl, _⟩ := h
    rfl
  · have hu65 : (A.deeper (envOfC "check_path" (defScope s_check_path) s.heap.objs.size f cdv)).units + 65 < cLine := by
      have := hr.u100
      omega
    obtain ⟨g, n, e, v, oc, ns, es, rfl, gs, an, q, er⟩ := h
    have nd := sc_check_path.nd
    have hu := hr.u1
    refine ⟨_, (pss_cons (ps_if (PW.pt (pw_or (pt_not (pt_val (pe_callB (kIsi K rfl) (by rfl) B.isinstance bb_isinstance (pa_cons (pv 1) (pa_cons (pe_ty rfl B.list bb_list) pa_nil))))) (pw_or1 (pt_not (pt_chain uLe uLe pe_int (pe_callB (kLen K rfl) (by rfl) B.len bb_len (pa_cons (pv 1) pa_nil)) (pe_gl rfl C.MAX_PATH)))))) (pss_one (ps_rz T hr (by decide) rfl (takes_of rfl rfl rfl rfl) rfl pe_non)) pss_nil)
  (pss_one (ps_for (passes_of rfl) rfl (pi_enum (by rfl) B.enumerate (pa_cons (pv 1) pa_nil)) (kg_tup (n := 2) K rfl rfl (pgs_cons (pg_name (i := 2) nd rfl (by first | exact Or.inl rfl | exact Or.inr rfl)) (pgs_cons (pg_name (i := 3) nd rfl (by first | exact Or.inl rfl | exact Or.inr rfl)) pgs_nil))) (pss_cons (ps_if (pt_not (pt_val (pe_c C.has_node hr (by decide) rfl (pa_cons (pv 0) (pa_cons (pv 3) pa_nil))))) (pss_one (ps_rz T hr (by decide) rfl (takes_of rfl rfl rfl rfl) rfl (pv 2))) pss_nil)
  (pss_one (ps_if (PW.pt (pw_and (pt_cmpR uGt (pv 2) pe_int (nomark _)) (pw_and1 (pt_cmpR (kNinT K rfl hu65) (pe_c C.edge_of hr (by decide) rfl (pa_cons (pe_ix (kIx K rfl) (pv 1) (pe_op uSub (pv 2) pe_int) (fun _ _ => rfl)) (pa_cons (pv 3) pa_nil))) (pe_ix (kIx K rfl) (pv 0) pe_int (fun _ _ => rfl)) rfl)))) (pss_one (ps_rz T hr (by decide) rfl (takes_of rfl rfl rfl rfl) rfl (pv 2))) pss_nil)))))), ?_⟩
    wtm_at "rd"
    cases an with
    | odd ty nl =>
      refine rd_isi ty (t := .lst) (by decide +kernel) ?_
      rw [nl]
      wtm_at "rd"
      refine rd_rz ?_
      wtm_at "rd"
      exact rd_mk1 fun dd H' s' nd' hd => er none rfl dd H' s' nd' hd
    | @lst pl us os hpl ul els =>
    refine rd_isi (ty_seqLD hpl) (t := .lst) (by decide +kernel) ?_
    rw [show isT Ty.lst Ty.lst = true from rfl]
    wtm_at "rd"
    refine rd_lenL hpl ?_
    wtm_at "rd"
    refine rd_split (fun c1 => ?_) (fun c1 => ?_)
    · wtm_at "rd"
      refine rd_nsplit (fun c2 => ?_) (fun c2 => ?_)
      · wtm_at "rd"
        refine rd_rz ?_
        wtm_at "rd"
        refine rd_mk1 fun dd H' s' nd' hd => er none ?_ dd H' s' nd' hd
        exact if_neg (by omega)
      have ck : ckF ns (es.map (·.2)) (some os) = (badF ns (es.map (·.2)) none os 0).map some := by
        exact if_pos (by omega)
      rw [ck] at q er
      wtm_at "rd"
      refine rd_forE hpl ?_
      refine turnsW (walk_enum (K := K) (a := pl) (xs := us)) (fun i σ H' => (∃ u2 u3 : Option V, σ = [some (.ref g), some (.ref pl), u2, u3]) ∧ Same H H' ∧ ∃ pr : Option Str, badF ns (es.map (·.2)) none os 0 = badF ns (es.map (·.2)) pr (os.drop i) i ∧ ((i = 0 ∧ pr = none) ∨ ∃ j y, i = j + 1 ∧ pr = some y ∧ y ∈ ns ∧ us[j]? = some (.str y))) ⟨⟨_, _, rfl⟩, (fun b o h => h), none, rfl, .inl ⟨rfl, rfl⟩⟩ ?_ ?_ ?_
      · rintro i σ H' hi ⟨_, s, _⟩
        exact Same.seqLD s hpl
      · rintro i y σ H3 H4 hi ⟨⟨u2, u3, rfl⟩, s, pr, eb, alt⟩ ⟨T1, x1, y1, rfl, fT, rfl, e1, e2⟩
        have hx := Option.some.inj e1
        subst hx
        have e2 : us[i]? = some y1 := e2
        have hd : i < os.length := by omega
        have eo : os[i]? = some os[i] := List.getElem?_eq_getElem hd
        have s1 := s.trans (Same.new (o := .tup [.int (i : Int), y1]) fT)
        have hT := @upd_same H3 T1 (.tup [.int (i : Int), y1])
        generalize upd H3 T1 (.tup [.int (i : Int), y1]) = H5 at s1 hT
        have gs5 := gs.same s1
        have el := ElP.same (els i y1 _ e2 eo) s1
        have dr : os.drop i = os[i] :: os.drop (i + 1) := List.drop_eq_getElem_cons hd
        rw [dr] at eb
        generalize os[i] = o at *
        refine rd_unp (SqT.of hT) rfl ?_
        wtm_at "rd"
        cases o with
        | none =>
          obtain ⟨t, ty5, nst⟩ := el
          refine ⟨g, n, e, y1, t, ns, es, rfl, gs5.gr, .inl ⟨ty5, nst, ?_⟩⟩
          wtm_at "rd"
          refine rd_rz ?_
          wtm_at "rd"
          refine rd_mk1 fun dd H' s' nd' hd => er (some i) ?_ dd H' (s1.trans s') (new_of_same s1 nd') hd
          rw [eb, badF]
          rfl
        | some z =>
        have el : y1 = .str z := el
        subst el
        have bad : stepOk ns (es.map (·.2)) pr z = false → badF ns (es.map (·.2)) none os 0 = some i := fun h => by
          rw [eb, badF, if_neg (by rw [h]; exact Bool.false_ne_true)]
        refine ⟨g, n, e, _, .str, ns, es, rfl, gs5.gr, .inr ⟨z, rfl, ?_⟩⟩
        by_cases zin : z ∈ ns
        · have good : stepOk ns (es.map (·.2)) pr z = true → badF ns (es.map (·.2)) none os 0 = badF ns (es.map (·.2)) (some z) (os.drop (i + 1)) (i + 1) := fun h => by
            rw [eb, badF, if_pos h]
          rw [decide_eq_true zin]
          wtm_at "rd"
          refine rd_split (fun c3 => ?_) (fun c3 => ?_)
          · obtain ⟨j, a, rfl, rfl, yin, uj⟩ : ∃ j y, i = j + 1 ∧ pr = some y ∧ y ∈ ns ∧ us[j]? = some (.str y) := by
              rcases alt with ⟨h, _⟩ | h
              · omega
              · exact h
            wtm_at "rd"
            refine rd_ixL (Same.seqLD s1 hpl) (v := .str a) (by
              rw [show (((j + 1 : Nat) : Int)) - 1 = ((j : Nat) : Int) from by omega]
              exact atI_nat uj) ?_
            wtm_at "rd"
            refine ⟨a, z, rfl, fun t ft => ?_⟩
            have kt := Same.new (o := .tup (if sLt a z then [.str a, .str z] else [.str z, .str a])) ft
            have ht := @upd_same H5 t (.tup (if sLt a z then [.str a, .str z] else [.str z, .str a]))
            have gs6 := gs5.same kt
            have s6 := s1.trans kt
            generalize upd H5 t (.tup (if sLt a z then [.str a, .str z] else [.str z, .str a])) = H6 at kt ht gs6 s6
            rw [eOf_pair] at ht
            have sok : ∀ x ∈ ns, PyData.strOk x = true := fun x hx => (gs.ok.names.ok x hx).sok
            wtm_at "rd"
            refine rd_ixT (SqT.of gs6.gr.top) (v := .ref e) rfl ?_
            refine rd_ninTE (e := eOf a z) (SqT.of ht) (SqT.of gs6.gr.edges) (fun x hx => SqT.of (gs6.gr.pairs x hx)) (by
              rcases eOf_cases a z with w | w <;> rw [w]
              · exact ⟨sok _ yin, sok _ zin⟩
              · exact ⟨sok _ zin, sok _ yin⟩) (fun x hx => ⟨sok _ (gs.ok.mem x hx).1, sok _ (gs.ok.mem x hx).2⟩) ?_
            wtm_at "rd"
            refine rd_nsplit (fun c2 => ?_) (fun c2 => ?_)
            · wtm_at "rd"
              refine rd_rz ?_
              wtm_at "rd"
              refine rd_mk1 fun dd H' s' nd' hd => er (some (j + 1)) ?_ dd H' (s6.trans s') (new_of_same s6 nd') hd
              rw [bad ?_]
              · rfl
              unfold stepOk
              rw [decide_eq_true zin, Bool.true_and]
              exact decide_eq_false fun h => c2 (eOf_mem gs.ok (nbS_mem.mp h))
            · wtm_at "rd"
              refine ⟨⟨_, _, rfl⟩, s6, some z, good ?_, .inr ⟨_, z, rfl, rfl, zin, e2⟩⟩
              unfold stepOk
              rw [decide_eq_true zin, Bool.true_and]
              exact decide_eq_true (nbS_mem.mpr (eOf_adj3 c2))
          · obtain ⟨rfl, rfl⟩ : i = 0 ∧ pr = none := by
              rcases alt with h | ⟨j, _, h, _⟩
              · exact h
              · omega
            wtm_at "rd"
            refine ⟨⟨_, _, rfl⟩, s1, some z, good ?_, .inr ⟨0, z, rfl, rfl, zin, e2⟩⟩
            unfold stepOk
            rw [decide_eq_true zin]
            rfl
        · rw [decide_eq_false zin]
          wtm_at "rd"
          refine rd_rz ?_
          wtm_at "rd"
          refine rd_mk1 fun dd H' s' nd' hd => er (some i) ?_ dd H' (s1.trans s') (new_of_same s1 nd') hd
          rw [bad ?_]
          · rfl
          unfold stepOk
          rw [decide_eq_false zin]
          rfl
      · rintro σ H' ⟨⟨u2, u3, rfl⟩, s, pr, eb, _⟩
        wtm_at "rd"
        refine q ?_ H' s
        rw [eb, List.drop_eq_nil_of_le (by omega), badF]
        rfl
    · wtm_at "rd"
      refine rd_rz ?_
      wtm_at "rd"
      refine rd_mk1 fun dd H' s' nd' hd => er none ?_ dd H' s' nd' hd
      exact if_neg (by omega)
structure KAb (P : Program) (w : World) (K : PySem.W.Frag) (mg : Str → Option Value) (base : Heap) (CE : Addr) : Prop where
  check_path : Cal P w K mg base (L2.CX P w) 3 "check_path" (spCkPX K CE)
theorem ok_ckR {f : Addr} {fd : FuncData} {CE CB fI : Addr} (F : Fun K "_law_check_result" "_law_check_result" s__law_check_result f fd) (B : Bt mg) (C : KAb P w K mg base CE) (T : OwnX K mg "InvalidPath" "position" CE CB fI) (I : IsP K mg CE CB) : FnG P w K mg base CX0 4 f fd ["_law_graph", "_law_candidate"] (spCkR K) := by
  refine fnG0 F sc__law_check_result (fun vs H Q E h => ?_) (fun cdv A outer s H vs Q E hr h => ?_)
  · obtain ⟨g, n, e, v, o, ns, es, rfl, _⟩ := h
    rfl
  · obtain ⟨g, n, e, v, oc, ns, es, rfl, gs, an, q⟩ := h
    have nd := sc__law_check_result.nd
    have hu := hr.u1
    have gP : ∃ u, mg "InvalidPath" = some u ∧ RelV (.ref CE) u := ⟨_, I.gP, rfl⟩
    refine ⟨_, (pss_cons (ps_set (i := 2) nd rfl (by first | exact Or.inl rfl | exact Or.inr rfl) pe_non)
  (pss_cons (ps_try_keep (i := 3) (Wout := fun _ _ _ _ => False) rfl rfl nd rfl rfl ⟨rfl, by decide, Or.inl I.gI⟩ L2.takes0 (fun W pn xe tk _ => pss_one (ps_if (pt_cmpR uIsNot (pe_cX C.check_path hr (by decide) rfl tk (pa_cons (pv 0) (pa_cons (pv 1) pa_nil))) pe_non (nomark _)) (pss_one (ps_ret pe_str)) pss_nil)) (fun a pn => pss_one (ps_set (i := 2) nd rfl (Or.inl rfl) (pv 3))))
  (pss_cons (ps_if (pt_cmpR uIs (pv 2) pe_non (nomark _)) (pss_one (ps_ret pe_str)) pss_nil)
  (pss_one (ps_ret (pe_ifExp (pt_val (pe_callB (kIsK K rfl) (by rfl) B.isinstance bb_isinstance (pa_cons (pv 2) (pa_cons (pe_gl rfl gP) pa_nil)))) (pe_tup (pa_cons (pe_xk (pv 2)) pa_nil)) pe_str)))))), ?_⟩
    wtm_at "rd"
    refine ⟨g, n, e, v, oc, ns, es, rfl, gs, an, fun h H' s => ?_, fun r h d H' s' nd' hd => ⟨true, I.mI, (fun z => nomatch z), fun _ a na => ?_⟩⟩
    · rw [h] at q
      wtm_at "rd"
      refine rd_nno rfl ?_
      wtm_at "rd"
      refine rd_yes rfl ?_
      wtm_at "rd"
      exact q _ H' s rfl
    · rw [h] at q
      have k := Same.new (o := exk a (.ref CE) (some d)) na
      have ha := @upd_same H' a (exk a (.ref CE) (some d))
      have hd2 := k _ _ hd
      have s2 := s'.trans k
      generalize upd H' a (exk a (.ref CE) (some d)) = H2 at ha hd2 s2
      wtm_at "rd"
      refine rd_no (fun z => by cases z) ?_
      wtm_at "rd"
      refine rd_isK ha hd2 I.cls (fun u hu => hu) I.iP ?_
      wtm_at "rd"
      refine rd_tXk2 ?_
      wtm_at "rd"
      refine ⟨a, CE, d, _, posV r, rfl, ha, T.xf, T.no, hd2, lk_1, ?_⟩
      wtm_at "rd"
      intro t ft
      exact q _ _ (s2.trans (Same.new ft)) ⟨t, rfl, upd_same⟩
end
end Law

namespace Law
open PySem PySem.Spec PyProof.Rows L2 U
local macro_rules | `(tactic| wtm_at "rd1") => `(tactic| first
  | with_reducible refine rd_seq ?_
  | ((with_reducible refine rd_var (v := ?vv) ?hv ?_); (case hv => exact rfl))
  | with_reducible refine rd_c ?_
  | with_reducible refine rd_cons ?_
  | with_reducible refine rd_nil ?_
  | with_reducible refine rd_op ?_
  | with_reducible refine rd_asg ?_
  | with_reducible refine rd_name ?_
  | with_reducible refine rd_c1 ?_
  | with_reducible refine rd_cb ?_
  | with_reducible refine rd_test ?_
  | with_reducible refine rd_B ?_
  | with_reducible refine rd_bl ?_
  | with_reducible refine rd_if ?_
  | with_reducible refine rd_ret ?_
  | with_reducible refine rd_drop ?_
  | with_reducible refine rd_next ?_
  | with_reducible refine rd_addI ?_
  | with_reducible refine rd_ltI ?_
  | with_reducible refine rd_eqI ?_
  | with_reducible refine rd_neI ?_
  | with_reducible refine rd_eqS ?_
  | with_reducible refine rd_neS ?_
  | with_reducible refine rd_gtI ?_
  | with_reducible refine rd_geI ?_
  | with_reducible refine rd_leI ?_
  | with_reducible refine rd_ltS ?_
  | with_reducible refine rd_subI ?_
  | ((with_reducible refine rd_modI ?hc ?_); (case hc => first | decide | omega))
  | ((with_reducible refine rd_mulI ?hc ?_); (case hc => first | exact mul_bI | exact .inl (.inr (by decide)) | exact .inl (.inl (by decide)) | exact .inl (.inr (by omega)) | exact .inl (.inl (by omega))))
  | ((with_reducible refine rd_divI ?hc ?_); (case hc => first | decide | omega))
  | ((with_reducible refine rd_powI ?hc ?_); (case hc => exact ⟨by decide, by decide, by decide⟩))
  | with_reducible refine rd_lst ?_
  | with_reducible refine rd_tup ?_
  | ((with_reducible refine rd_sz ?hv ?_); (case hv => exact rfl))
  | with_reducible refine rd_and ?_
  | with_reducible refine rd_or ?_
  | with_reducible refine rd_not ?_
  | with_reducible refine rd_andV ?_
  | with_reducible refine rd_orV ?_
  | with_reducible refine rd_notV ?_
  | with_reducible refine rd_ifE ?_
  | with_reducible refine rd_T ?_
  | with_reducible refine rd_F ?_
  | with_reducible refine rd_chain ?_
  | with_reducible refine rd_is ?_
  | with_reducible refine rd_isNot ?_
  | with_reducible refine rd_absI ?_
  | with_reducible refine rd_maxI ?_
  | with_reducible refine rd_minI ?_
  | with_reducible refine rd_intI ?_
  | with_reducible refine rd_intB ?_
  | with_reducible refine rd_sub ?_
  | with_reducible refine rd_sl ?_
  | with_reducible refine rd_noPart ?_
  | with_reducible refine rd_part ?_
  | with_reducible refine rd_exI ?_
  | with_reducible refine rd_bm ?_
  | with_reducible refine rd_bm0 ?_
  | with_reducible refine rd_un ?_
  | with_reducible refine rd_neg ?_
  | with_reducible refine rd_c2 ?_
  | with_reducible refine rd_retN ?_
  | with_reducible refine rd_break ?_
  | with_reducible refine rd_cont ?_
  | with_reducible refine rd_for ?_
  | with_reducible refine rd_rng1 ?_
  | with_reducible refine rd_rng2 ?_
  | with_reducible refine rd_iList ?_
  | with_reducible refine rd_iTup ?_
  | with_reducible refine rd_iEnum ?_
  | ((with_reducible refine rd_forR ?h0 ?h1 ?_); (case h0 => omega); (case h1 => omega))
  | with_reducible refine rd_lc ?_
  | with_reducible refine rd_gcons ?_
  | with_reducible refine rd_gnil ?_
  | with_reducible refine rd_dget ?_
  | with_reducible refine rd_dput ?_
  | with_reducible refine rd_dnew ?_
  | with_reducible refine rd_dc ?_
  | with_reducible refine rd_iItems ?_
  | with_reducible refine rd_iKeys ?_
  | with_reducible refine rd_din ?_
  | with_reducible refine rd_par ?_
  | with_reducible refine rd_two ?_
  | with_reducible refine rd_reprB ?_
  | with_reducible refine rd_ck ?_
  | ((with_reducible refine rd_len ?hl ?_); (case hl => exact rfl))
  | with_reducible refine rd_nT ?_
  | with_reducible refine rd_nF ?_
  | with_reducible refine rd_dnin ?_
  | with_reducible refine rd_isB ?_
  | with_reducible refine rd_isNotB ?_
  | with_reducible refine rd_daug ?_
  | with_reducible refine rd_yesT ?_
  | ((with_reducible refine rd_wp ?hw ?_); (case hw => exact rfl)))
local macro_rules | `(tactic| wtm_at "rd") => `(tactic| repeat wtm_at "rd1")

section
variable {P : Program} {w : World} {K : PySem.W.Frag} {mg : Str → Option Value} {base : Heap}
end
end Law

namespace Law
open PySem PySem.Spec PyProof.Rows L2 U
local macro_rules | `(tactic| wtm_at "rd1") => `(tactic| first
  | with_reducible refine rd_seq ?_
  | ((with_reducible refine rd_var (v := ?vv) ?hv ?_); (case hv => exact rfl))
  | with_reducible refine rd_c ?_
  | with_reducible refine rd_cons ?_
  | with_reducible refine rd_nil ?_
  | with_reducible refine rd_op ?_
  | with_reducible refine rd_asg ?_
  | with_reducible refine rd_name ?_
  | with_reducible refine rd_c1 ?_
  | with_reducible refine rd_cb ?_
  | with_reducible refine rd_test ?_
  | with_reducible refine rd_B ?_
  | with_reducible refine rd_bl ?_
  | with_reducible refine rd_if ?_
  | with_reducible refine rd_ret ?_
  | with_reducible refine rd_drop ?_
  | with_reducible refine rd_next ?_
  | with_reducible refine rd_addI ?_
  | with_reducible refine rd_ltI ?_
  | with_reducible refine rd_eqI ?_
  | with_reducible refine rd_neI ?_
  | with_reducible refine rd_eqS ?_
  | with_reducible refine rd_neS ?_
  | with_reducible refine rd_gtI ?_
  | with_reducible refine rd_geI ?_
  | with_reducible refine rd_leI ?_
  | with_reducible refine rd_ltS ?_
  | with_reducible refine rd_subI ?_
  | ((with_reducible refine rd_modI ?hc ?_); (case hc => first | decide | omega))
  | ((with_reducible refine rd_mulI ?hc ?_); (case hc => first | exact mul_bI | exact .inl (.inr (by decide)) | exact .inl (.inl (by decide)) | exact .inl (.inr (by omega)) | exact .inl (.inl (by omega))))
  | ((with_reducible refine rd_divI ?hc ?_); (case hc => first | decide | omega))
  | ((with_reducible refine rd_powI ?hc ?_); (case hc => exact ⟨by decide, by decide, by decide⟩))
  | with_reducible refine rd_lst ?_
  | with_reducible refine rd_tup ?_
  | ((with_reducible refine rd_sz ?hv ?_); (case hv => exact rfl))
  | with_reducible refine rd_and ?_
  | with_reducible refine rd_or ?_
  | with_reducible refine rd_not ?_
  | with_reducible refine rd_andV ?_
  | with_reducible refine rd_orV ?_
  | with_reducible refine rd_notV ?_
  | with_reducible refine rd_ifE ?_
  | with_reducible refine rd_T ?_
  | with_reducible refine rd_F ?_
  | with_reducible refine rd_chain ?_
  | with_reducible refine rd_is ?_
  | with_reducible refine rd_isNot ?_
  | with_reducible refine rd_absI ?_
  | with_reducible refine rd_maxI ?_
  | with_reducible refine rd_minI ?_
  | with_reducible refine rd_intI ?_
  | with_reducible refine rd_intB ?_
  | with_reducible refine rd_sub ?_
  | with_reducible refine rd_sl ?_
  | with_reducible refine rd_noPart ?_
  | with_reducible refine rd_part ?_
  | with_reducible refine rd_exI ?_
  | with_reducible refine rd_bm ?_
  | with_reducible refine rd_bm0 ?_
  | with_reducible refine rd_un ?_
  | with_reducible refine rd_neg ?_
  | with_reducible refine rd_c2 ?_
  | with_reducible refine rd_retN ?_
  | with_reducible refine rd_break ?_
  | with_reducible refine rd_cont ?_
  | with_reducible refine rd_for ?_
  | with_reducible refine rd_rng1 ?_
  | with_reducible refine rd_rng2 ?_
  | with_reducible refine rd_iList ?_
  | with_reducible refine rd_iTup ?_
  | with_reducible refine rd_iEnum ?_
  | ((with_reducible refine rd_forR ?h0 ?h1 ?_); (case h0 => omega); (case h1 => omega))
  | with_reducible refine rd_lc ?_
  | with_reducible refine rd_gcons ?_
  | with_reducible refine rd_gnil ?_
  | with_reducible refine rd_dget ?_
  | with_reducible refine rd_dput ?_
  | with_reducible refine rd_dnew ?_
  | with_reducible refine rd_dc ?_
  | with_reducible refine rd_iItems ?_
  | with_reducible refine rd_iKeys ?_
  | with_reducible refine rd_din ?_
  | with_reducible refine rd_par ?_
  | with_reducible refine rd_two ?_
  | with_reducible refine rd_reprB ?_
  | with_reducible refine rd_ck ?_
  | ((with_reducible refine rd_len ?hl ?_); (case hl => exact rfl))
  | with_reducible refine rd_nT ?_
  | with_reducible refine rd_nF ?_
  | with_reducible refine rd_dnin ?_
  | with_reducible refine rd_isB ?_
  | with_reducible refine rd_isNotB ?_
  | with_reducible refine rd_daug ?_
  | with_reducible refine rd_yesT ?_
  | ((with_reducible refine rd_wp ?hw ?_); (case hw => exact rfl)))
local macro_rules | `(tactic| wtm_at "rd") => `(tactic| repeat wtm_at "rd1")

section
variable {P : Program} {w : World} {K : PySem.W.Frag} {mg : Str → Option Value} {base : Heap}
end
end Law

/-! paths found level by level: paths_from, sloped_paths -/
namespace Law
open PySem PySem.Spec PyProof.Rows L2 U
local macro_rules | `(tactic| wtm_at "rd1") => `(tactic| first
  | with_reducible refine rd_seq ?_
  | ((with_reducible refine rd_var (v := ?vv) ?hv ?_); (case hv => exact rfl))
  | with_reducible refine rd_c ?_
  | with_reducible refine rd_cons ?_
  | with_reducible refine rd_nil ?_
  | with_reducible refine rd_op ?_
  | with_reducible refine rd_asg ?_
  | with_reducible refine rd_name ?_
  | with_reducible refine rd_c1 ?_
  | with_reducible refine rd_cb ?_
  | with_reducible refine rd_test ?_
  | with_reducible refine rd_B ?_
  | with_reducible refine rd_bl ?_
  | with_reducible refine rd_if ?_
  | with_reducible refine rd_ret ?_
  | with_reducible refine rd_drop ?_
  | with_reducible refine rd_next ?_
  | with_reducible refine rd_addI ?_
  | with_reducible refine rd_ltI ?_
  | with_reducible refine rd_eqI ?_
  | with_reducible refine rd_neI ?_
  | with_reducible refine rd_eqS ?_
  | with_reducible refine rd_neS ?_
  | with_reducible refine rd_gtI ?_
  | with_reducible refine rd_geI ?_
  | with_reducible refine rd_leI ?_
  | with_reducible refine rd_ltS ?_
  | with_reducible refine rd_subI ?_
  | ((with_reducible refine rd_modI ?hc ?_); (case hc => first | decide | omega))
  | ((with_reducible refine rd_mulI ?hc ?_); (case hc => first | exact mul_bI | exact .inl (.inr (by decide)) | exact .inl (.inl (by decide)) | exact .inl (.inr (by omega)) | exact .inl (.inl (by omega))))
  | ((with_reducible refine rd_divI ?hc ?_); (case hc => first | decide | omega))
  | ((with_reducible refine rd_powI ?hc ?_); (case hc => exact ⟨by decide, by decide, by decide⟩))
  | with_reducible refine rd_lst ?_
  | with_reducible refine rd_tup ?_
  | ((with_reducible refine rd_sz ?hv ?_); (case hv => exact rfl))
  | with_reducible refine rd_and ?_
  | with_reducible refine rd_or ?_
  | with_reducible refine rd_not ?_
  | with_reducible refine rd_andV ?_
  | with_reducible refine rd_orV ?_
  | with_reducible refine rd_notV ?_
  | with_reducible refine rd_ifE ?_
  | with_reducible refine rd_T ?_
  | with_reducible refine rd_F ?_
  | with_reducible refine rd_chain ?_
  | with_reducible refine rd_is ?_
  | with_reducible refine rd_isNot ?_
  | with_reducible refine rd_absI ?_
  | with_reducible refine rd_maxI ?_
  | with_reducible refine rd_minI ?_
  | with_reducible refine rd_intI ?_
  | with_reducible refine rd_intB ?_
  | with_reducible refine rd_sub ?_
  | with_reducible refine rd_sl ?_
  | with_reducible refine rd_noPart ?_
  | with_reducible refine rd_part ?_
  | with_reducible refine rd_exI ?_
  | with_reducible refine rd_bm ?_
  | with_reducible refine rd_bm0 ?_
  | with_reducible refine rd_un ?_
  | with_reducible refine rd_neg ?_
  | with_reducible refine rd_c2 ?_
  | with_reducible refine rd_retN ?_
  | with_reducible refine rd_break ?_
  | with_reducible refine rd_cont ?_
  | with_reducible refine rd_for ?_
  | with_reducible refine rd_rng1 ?_
  | with_reducible refine rd_rng2 ?_
  | with_reducible refine rd_iList ?_
  | with_reducible refine rd_iTup ?_
  | with_reducible refine rd_iEnum ?_
  | ((with_reducible refine rd_forR ?h0 ?h1 ?_); (case h0 => omega); (case h1 => omega))
  | with_reducible refine rd_lc ?_
  | with_reducible refine rd_gcons ?_
  | with_reducible refine rd_gnil ?_
  | with_reducible refine rd_dget ?_
  | with_reducible refine rd_dput ?_
  | with_reducible refine rd_dnew ?_
  | with_reducible refine rd_dc ?_
  | with_reducible refine rd_iItems ?_
  | with_reducible refine rd_iKeys ?_
  | with_reducible refine rd_din ?_
  | with_reducible refine rd_lc2 ?_
  | with_reducible refine rd_cd ?_
  | with_reducible refine rd_par ?_
  | with_reducible refine rd_two ?_
  | with_reducible refine rd_reprB ?_
  | with_reducible refine rd_ck ?_
  | ((with_reducible refine rd_len ?hl ?_); (case hl => exact rfl))
  | with_reducible refine rd_nT ?_
  | with_reducible refine rd_nF ?_
  | with_reducible refine rd_dnin ?_
  | with_reducible refine rd_isB ?_
  | with_reducible refine rd_isNotB ?_
  | with_reducible refine rd_daug ?_
  | with_reducible refine rd_yesT ?_
  | ((with_reducible refine rd_wp ?hw ?_); (case hw => exact rfl)))
local macro_rules | `(tactic| wtm_at "rd") => `(tactic| repeat wtm_at "rd1")

theorem rd_disp {σ : L2.St} {H : Hp} {Q : VK} {tk tv : TE} (h : ∀ p, H p = none → tk σ (upd H p (.dK [])) fun x H1 => tv σ H1 fun y H2 => H2 p = some (.dK []) ∧ ∃ kvs : List (Key × V), [(x, y)] = kvs.map (fun kv => (kV kv.1, kv.2)) ∧ kvs.length ≤ 15 ∧ Q (.ref p) (upd H2 p (.dK (mergeK [] kvs)))) : tDisp [(tk, tv)] σ H Q := h
theorem rd_dispE {H2 : Hp} {p : Addr} {x y : V} {k : Key} {R : List (Key × V) → Prop} (hx : x = kV k) (h0 : H2 p = some (.dK [])) (q : R [(k, y)]) : H2 p = some (.dK []) ∧ ∃ kvs : List (Key × V), [(x, y)] = kvs.map (fun kv => (kV kv.1, kv.2)) ∧ kvs.length ≤ 15 ∧ R kvs :=
  ⟨h0, [(k, y)], by rw [hx]; rfl, (by show 1 ≤ 15; decide), q⟩
theorem rd_augI {n : Nat} {i : Int} {g : Int → Int → Int} {te : TE} {D : Ends} {σ : L2.St} {H : Hp} (hv : σ[n]? = some (some (.int i))) (h : te σ H fun y H1 => ipI g (.int i) y H1 fun z H2 => D.nx (σ.set n (some z)) H2) : tAug n te (ipI g) D σ H := ⟨_, hv, h⟩
theorem rd_ipI {g : Int → Int → Int} {i j : Int} {H : Hp} {Q : VK} (h : Q (.int (g i j)) H) : ipI g (.int i) (.int j) H Q := ⟨i, j, rfl, rfl, h⟩
theorem AdjAt.at {H : Hp} {d : Addr} {ns : List Str} {es : List (Str × Str)} {A : Str → Addr} (h : AdjAt H d ns es A) (ok : GrOk ns es) {n : Str} (hn : n ∈ ns) : H (A n) = some (.lst ((nbS es n).map V.str)) := by
  obtain ⟨ys, h1, h2, h3⟩ := h.li n hn
  rw [← nbS_of ok h2 h3]
  exact h1
/-- paths found stand at d -/
structure PathsAt (H : Hp) (d : Addr) (kp : List (Str × List Str)) (A : Str → Addr) : Prop where
  di : H d = some (.dK (kvG (keysF kp) fun n => .ref (A n)))
  li : ∀ c ∈ kp, H (A c.1) = some (.lst (c.2.map V.str))
theorem PathsAt.same {H H' : Hp} {d : Addr} {kp : List (Str × List Str)} {A : Str → Addr} (h : PathsAt H d kp A) (s : Same H H') : PathsAt H' d kp A := ⟨s _ _ h.di, fun c hc => s _ _ (h.li c hc)⟩
theorem kvG_congr {ns : List Str} {F G : Str → V} (h : ∀ n ∈ ns, F n = G n) : kvG ns F = kvG ns G := List.map_congr_left fun n hn => by rw [h n hn]
/-- one more path -/
theorem PathsAt.put {H : Hp} {d t : Addr} {kp : List (Str × List Str)} {A : Str → Addr} {o : Str} {p : List Str} (h : PathsAt H d kp A) (no : o ∉ keysF kp) (ht : H t = some (.lst (p.map V.str))) :
    PathsAt (upd H d (.dK (putK (kvG (keysF kp) fun n => .ref (A n)) (.inr o) (.ref t)))) d (kp ++ [(o, p)]) (updV A o t) := by
  refine ⟨?_, fun c hc => ?_⟩
  · rw [upd_same, kvG_new no, show keysF (kp ++ [(o, p)]) = keysF kp ++ [o] from List.map_append]
    congr 2
    refine kvG_congr fun m _ => ?_
    unfold updV
    by_cases z : m = o
    · rw [if_pos z, if_pos z]
    · rw [if_neg z, if_neg z]
  · unfold updV
    rcases List.mem_append.mp hc with hc | hc
    · rw [if_neg (fun z => no (by rw [← z]; exact List.mem_map_of_mem hc))]
      exact at_upd (ne_of (h.li c hc) h.di (by intro z; cases z)) (h.li c hc)
    · rw [List.mem_singleton] at hc
      subst hc
      rw [if_pos rfl]
      exact at_upd (ne_of ht h.di (by intro z; cases z)) ht
theorem PathsAt.off {H : Hp} {d q : Addr} {kp : List (Str × List Str)} {A : Str → Addr} {xs ys : List V} (h : PathsAt H d kp A) (hq : H q = some (.lst xs)) (off : ∀ c ∈ kp, A c.1 ≠ q) : PathsAt (upd H q (.lst ys)) d kp A :=
  ⟨at_upd (ne_of h.di hq (by intro z; cases z)) h.di, fun c hc => at_upd (off c hc) (h.li c hc)⟩
def slOk (f : Str → Int) (dir : Int) (a b : Str) : Bool := decide (slp f a b = dir)
section
variable {P : Program} {w : World} {K : PySem.W.Frag} {mg : Str → Option Value} {base : Heap}
end
end Law

/-! paths_from, components, root_paths, basis_cycles -/
namespace Law
open PySem PySem.Spec PyProof.Rows L2 U
local macro_rules | `(tactic| wtm_at "rd1") => `(tactic| first
  | with_reducible refine rd_seq ?_
  | ((with_reducible refine rd_var (v := ?vv) ?hv ?_); (case hv => exact rfl))
  | with_reducible refine rd_c ?_
  | with_reducible refine rd_cons ?_
  | with_reducible refine rd_nil ?_
  | with_reducible refine rd_op ?_
  | with_reducible refine rd_asg ?_
  | with_reducible refine rd_name ?_
  | with_reducible refine rd_c1 ?_
  | with_reducible refine rd_cb ?_
  | with_reducible refine rd_test ?_
  | with_reducible refine rd_B ?_
  | with_reducible refine rd_bl ?_
  | with_reducible refine rd_if ?_
  | with_reducible refine rd_ret ?_
  | with_reducible refine rd_drop ?_
  | with_reducible refine rd_next ?_
  | with_reducible refine rd_addI ?_
  | with_reducible refine rd_ltI ?_
  | with_reducible refine rd_eqI ?_
  | with_reducible refine rd_neI ?_
  | with_reducible refine rd_eqS ?_
  | with_reducible refine rd_neS ?_
  | with_reducible refine rd_gtI ?_
  | with_reducible refine rd_geI ?_
  | with_reducible refine rd_leI ?_
  | with_reducible refine rd_ltS ?_
  | with_reducible refine rd_subI ?_
  | ((with_reducible refine rd_modI ?hc ?_); (case hc => first | decide | omega))
  | ((with_reducible refine rd_mulI ?hc ?_); (case hc => first | exact mul_bI | exact .inl (.inr (by decide)) | exact .inl (.inl (by decide)) | exact .inl (.inr (by omega)) | exact .inl (.inl (by omega))))
  | ((with_reducible refine rd_divI ?hc ?_); (case hc => first | decide | omega))
  | ((with_reducible refine rd_powI ?hc ?_); (case hc => exact ⟨by decide, by decide, by decide⟩))
  | with_reducible refine rd_lst ?_
  | with_reducible refine rd_tup ?_
  | ((with_reducible refine rd_sz ?hv ?_); (case hv => exact rfl))
  | with_reducible refine rd_and ?_
  | with_reducible refine rd_or ?_
  | with_reducible refine rd_not ?_
  | with_reducible refine rd_andV ?_
  | with_reducible refine rd_orV ?_
  | with_reducible refine rd_notV ?_
  | with_reducible refine rd_ifE ?_
  | with_reducible refine rd_T ?_
  | with_reducible refine rd_F ?_
  | with_reducible refine rd_chain ?_
  | with_reducible refine rd_is ?_
  | with_reducible refine rd_isNot ?_
  | with_reducible refine rd_absI ?_
  | with_reducible refine rd_maxI ?_
  | with_reducible refine rd_minI ?_
  | with_reducible refine rd_intI ?_
  | with_reducible refine rd_intB ?_
  | with_reducible refine rd_sub ?_
  | with_reducible refine rd_sl ?_
  | with_reducible refine rd_noPart ?_
  | with_reducible refine rd_part ?_
  | with_reducible refine rd_exI ?_
  | with_reducible refine rd_bm ?_
  | with_reducible refine rd_bm0 ?_
  | with_reducible refine rd_un ?_
  | with_reducible refine rd_neg ?_
  | with_reducible refine rd_c2 ?_
  | with_reducible refine rd_retN ?_
  | with_reducible refine rd_break ?_
  | with_reducible refine rd_cont ?_
  | with_reducible refine rd_for ?_
  | with_reducible refine rd_rng1 ?_
  | with_reducible refine rd_rng2 ?_
  | with_reducible refine rd_iList ?_
  | with_reducible refine rd_iTup ?_
  | with_reducible refine rd_iEnum ?_
  | ((with_reducible refine rd_forR ?h0 ?h1 ?_); (case h0 => omega); (case h1 => omega))
  | with_reducible refine rd_lc ?_
  | with_reducible refine rd_gcons ?_
  | with_reducible refine rd_gnil ?_
  | with_reducible refine rd_dget ?_
  | with_reducible refine rd_dput ?_
  | with_reducible refine rd_dnew ?_
  | with_reducible refine rd_dc ?_
  | with_reducible refine rd_iItems ?_
  | with_reducible refine rd_iKeys ?_
  | with_reducible refine rd_din ?_
  | with_reducible refine rd_lc2 ?_
  | with_reducible refine rd_cd ?_
  | with_reducible refine rd_par ?_
  | with_reducible refine rd_two ?_
  | with_reducible refine rd_reprB ?_
  | with_reducible refine rd_ck ?_
  | ((with_reducible refine rd_len ?hl ?_); (case hl => exact rfl))
  | with_reducible refine rd_nT ?_
  | with_reducible refine rd_nF ?_
  | with_reducible refine rd_dnin ?_
  | with_reducible refine rd_isB ?_
  | with_reducible refine rd_isNotB ?_
  | with_reducible refine rd_daug ?_
  | with_reducible refine rd_yesT ?_
  | ((with_reducible refine rd_wp ?hw ?_); (case hw => exact rfl)))
local macro_rules | `(tactic| wtm_at "rd") => `(tactic| repeat wtm_at "rd1")

section
variable {X : Cx} {o e : Expr} {es : List Expr} {to : TE} {t : TA} {apos cpos : Pos}
end
def spPathsFrom : Sp := fun vs H Q _ => ∃ (g n e : Addr) (x : Str) (ns : List Str) (es : List (Addr × Str × Str)), vs = [.ref g, .str x] ∧ GrS H g n e ns es ∧ x ∈ ns ∧
  ∀ (d : Addr) (A : Str → Addr) (H' : Hp), Same H H' → H d = none → (∀ c ∈ ptF (es.map (·.2)) x, H (A c.1) = none) → PathsAt H' d (ptF (es.map (·.2)) x) A → Q (.ref d) H'
/-- lists of names stand, each at its own place -/
structure ListsAt (H : Hp) (l : Addr) (cs : List (Addr × List Str)) : Prop where
  li : H l = some (.lst (cs.map fun c => V.ref c.1))
  at_ : ∀ c ∈ cs, H c.1 = some (.lst (c.2.map V.str))
theorem ListsAt.same {H H' : Hp} {l : Addr} {cs : List (Addr × List Str)} (h : ListsAt H l cs) (s : Same H H') : ListsAt H' l cs := ⟨s _ _ h.li, fun c hc => s _ _ (h.at_ c hc)⟩
section
variable {P : Program} {w : World} {K : PySem.W.Frag} {mg : Str → Option Value} {base : Heap}
structure B2c (P : Program) (w : World) (K : PySem.W.Frag) (mg : Str → Option Value) (base : Heap) : Prop where
  adjacency : Cal P w K mg base CX0 1 "adjacency" spAdj
theorem ok_paths_from {f : Addr} {fd : FuncData} (F : Fun K "paths_from" "paths_from" s_paths_from f fd) (B : Bt mg) (C : B2c P w K mg base) : FnG P w K mg base CX0 2 f fd ["graph", "node"] spPathsFrom := by
  refine fnG0 F sc_paths_from (fun vs H Q E h => ?_) (fun cdv A outer s H vs Q E hr h => ?_)
  · obtain ⟨g, n, e, x, ns, es, rfl, _⟩ := h
    rfl
  · obtain ⟨g, n, e, x, ns, es, rfl, gs, hx, q⟩ := h
    have nd := sc_paths_from.nd
    have hu := hr.u1
    refine ⟨_, (pss_cons (ps_set (i := 2) nd rfl (by first | exact Or.inl rfl | exact Or.inr rfl) (pe_c C.adjacency hr (by decide) rfl (pa_cons (pv 0) pa_nil)))
  (pss_cons (ps_set (i := 3) nd rfl (by first | exact Or.inl rfl | exact Or.inr rfl) (pe_disp (pps_cons (pv 1) (pe_lst (pa_cons (pv 1) pa_nil)) pps_nil) (by rfl) (by rfl) (fun z => by cases z) (by decide)))
  (pss_cons (ps_set (i := 4) nd rfl (by first | exact Or.inl rfl | exact Or.inr rfl) (pe_lst (pa_cons (pv 1) pa_nil)))
  (pss_cons (ps_set (i := 5) nd rfl (by first | exact Or.inl rfl | exact Or.inr rfl) pe_int)
  (pss_cons (ps_while PassesOwn.never (pt_cmpR uLt (pv 5) (pe_callB (kLen K rfl) (by rfl) B.len bb_len (pa_cons (pv 4) pa_nil)) (nomark _)) (pss_cons (ps_set (i := 6) nd rfl (by first | exact Or.inl rfl | exact Or.inr rfl) (pe_ix (kIx K rfl) (pv 4) (pv 5) (fun _ _ => rfl)))
  (pss_cons (ps_aug (i := 5) nd rfl (Or.inl rfl) pe_int ip_add)
  (pss_one (ps_for PassesOwn.never rfl (ki_list K rfl (pe_dget hu (pv 2) (pv 6) (fun _ _ => rfl))) (pg_name (i := 7) nd rfl (by first | exact Or.inl rfl | exact Or.inr rfl)) (pss_one (ps_if (pt_cmp (pc_dnotin hu (pv 7) (pv 3))) (pss_cons (ps_dput hu (pv 3) (pv 7) (pe_op (kAdd K rfl) (pe_dget hu (pv 3) (pv 6) (fun _ _ => rfl)) (pe_lst (pa_cons (pv 7) pa_nil))) rfl)
  (pss_one (ps_expr (pe_bm PySem.F.plainAttrs_list PySem.F.slot_list_append PySem.F.type_list_append mt_append (pv 4) (pa_cons (pv 7) pa_nil))))) pss_nil)))))))
  (pss_one (ps_ret (pv 3)))))))), ?_⟩
    wtm_at "rd"
    refine ⟨g, n, e, ns, es, rfl, gs, fun ad Ad H1 s1 _ had => ?_⟩
    wtm_at "rd"
    refine rd_disp fun D fD => ?_
    wtm_at "rd"
    intro t ft
    have ntD := new_ne ft
    refine rd_dispE (x := .str x) (y := .ref t) (k := .inr x) rfl (at_upd (Ne.symm ntD) upd_same) ?_
    rw [show mergeK [] [((Sum.inr x : Key), V.ref t)] = [(Sum.inr x, V.ref t)] from rfl]
    have s2 : Same H1 (upd (upd (upd H1 D (.dK [])) t (.lst [.str x])) D (.dK [(.inr x, .ref t)])) := same_put (same_add (Same.new fD) ft) fD
    have ft1 := new_of_same (Same.new (o := .dK []) fD) ft
    have pa : PathsAt (upd (upd (upd H1 D (.dK [])) t (.lst [.str x])) D (.dK [(.inr x, .ref t)])) D (stF (nbS (es.map (·.2))) (fun _ _ => true) x 0) fun _ => t := ⟨upd_same, fun c hc => by
      rw [stF, List.mem_singleton] at hc
      subst hc
      exact at_upd ntD upd_same⟩
    generalize upd (upd (upd H1 D (.dK [])) t (.lst [.str x])) D (.dK [(.inr x, .ref t)]) = H2 at s2 pa
    wtm_at "rd"
    intro qa fq
    have fq1 := new_of_same s2 fq
    have s3 := same_add (o := .lst [.str x]) s2 fq
    have nDq : D ≠ qa := ne_of_none pa.di fq
    have pa3 := pa.same (Same.new (o := .lst [.str x]) fq)
    have ntq : t ≠ qa := ne_of_none (pa.li (x, [x]) List.mem_cons_self) fq
    have hq3 := @upd_same H2 qa (.lst [.str x])
    generalize upd H2 qa (.lst [.str x]) = H3 at s3 pa3 hq3
    wtm_at "rd"
    have cl : ∀ a ∈ ns, ∀ b ∈ nbS (es.map (·.2)) a, b ∈ ns := fun a _ b hb => nbS_in gs.ok hb
    refine ⟨fun m σ H' => ∃ (i : Nat) (A : Str → Addr) (u8 u9 : Option V), m = ns.length + 1 - i ∧ i ≤ ns.length ∧ σ = [some (.ref g), some (.str x), some (.ref ad), some (.ref D), some (.ref qa), some (.int i), u8, u9] ∧ Same H1 H' ∧
      PathsAt H' D (stF (nbS (es.map (·.2))) (fun _ _ => true) x i) A ∧ (∀ c ∈ stF (nbS (es.map (·.2))) (fun _ _ => true) x i, H1 (A c.1) = none ∧ A c.1 ≠ qa) ∧ H' qa = some (.lst ((keysF (stF (nbS (es.map (·.2))) (fun _ _ => true) x i)).map V.str)),
      ⟨_, 0, fun _ => t, _, _, rfl, Nat.zero_le _, rfl, s3, pa3, fun c _ => ⟨ft1, ntq⟩, hq3⟩, ?_⟩
    rintro m σ H' ⟨i, A, u8, u9, rfl, il, rfl, s, pa, fr, hq⟩
    have sl := stF_len (ok := (fun _ _ => true)) cl hx i
    have hin : ∀ c ∈ stF (nbS (es.map (·.2))) (fun _ _ => true) x i, c.1 ∈ ns := fun c hc => reach_mem cl hx (stF_reach (List.mem_map_of_mem hc))
    wtm_at "rd"
    refine rd_lenL (SqL.of hq) ?_
    rw [List.length_map, List.length_map]
    wtm_at "rd"
    refine rd_split (fun c0 => ?_) (fun c0 => ?_)
    case refine_2 =>
      rw [stF_done (by omega) (by have := gs.l2; omega)] at pa fr
      wtm_at "rd"
      exact q D A H' (s1.trans s) (new_of_same s1 fD) (fun c hc => new_of_same s1 (fr c hc).1) pa
    have hi : i < (stF (nbS (es.map (·.2))) (fun _ _ => true) x i).length := by omega
    refine ⟨fun σ' H' => ∃ (A : Str → Addr) (u8 u9 : Option V), σ' = [some (.ref g), some (.str x), some (.ref ad), some (.ref D), some (.ref qa), some (.int (i + 1 : Nat)), u8, u9] ∧ Same H1 H' ∧
      PathsAt H' D (stF (nbS (es.map (·.2))) (fun _ _ => true) x (i + 1)) A ∧ (∀ c ∈ stF (nbS (es.map (·.2))) (fun _ _ => true) x (i + 1), H1 (A c.1) = none ∧ A c.1 ≠ qa) ∧ H' qa = some (.lst ((keysF (stF (nbS (es.map (·.2))) (fun _ _ => true) x (i + 1))).map V.str)),
      fun σ' H' ⟨A, u8, u9, h1, h2, h3, h4, h5⟩ => ⟨ns.length + 1 - (i + 1), by omega, i + 1, A, u8, u9, rfl, by omega, h1, h2, h3, h4, h5⟩, ?_⟩
    have e1 : (stF (nbS (es.map (·.2))) (fun _ _ => true) x i)[i]? = some (stF (nbS (es.map (·.2))) (fun _ _ => true) x i)[i] := List.getElem?_eq_getElem hi
    have cm := List.getElem_mem hi
    rw [stF_at e1]
    wtm_at "rd"
    refine rd_ixL (SqL.of hq) (atI_nat (v := .str (stF (nbS (es.map (·.2))) (fun _ _ => true) x i)[i].1) (by rw [List.getElem?_map, List.getElem?_map, e1]; rfl)) ?_
    have cn := hin _ cm
    have cp := pa.li _ cm
    have cq := fr _ cm
    have cpl := stF_plen _ _ cm
    generalize (stF (nbS (es.map (·.2))) (fun _ _ => true) x i)[i] = c at *
    generalize hkp : stF (nbS (es.map (·.2))) (fun _ _ => true) x i = kp at *
    have lkp : (keysF kp).Nodup := by rw [← hkp]; exact stF_nodup i
    wtm_at "rd"
    refine rd_augI rfl ?_
    wtm_at "rd"
    refine rd_ipI ?_
    have ei : (i : Int) + 1 = ((i + 1 : Nat) : Int) := by omega
    rw [ei]
    wtm_at "rd"
    refine rd_dat (.inl (s _ _ had.di)) (kvG_val cn) rfl ?_
    have hos := had.at gs.ok cn
    have osn : ∀ o ∈ nbS (es.map (·.2)) c.1, o ∈ ns := fun o ho => cl _ cn o ho
    have osl : (nbS (es.map (·.2)) c.1).length ≤ 2000 := by
      unfold nbS
      rw [(sortS_perm _).length_eq]
      have := nbrF_len (x := c.1) (es := es.map (·.2))
      rw [List.length_map] at this
      have := gs.l3
      omega
    generalize nbS (es.map (·.2)) c.1 = os at *
    refine rd_forL (SqL.of (s _ _ hos)) ?_
    refine turnsL (K := K) (xs := os.map V.str) (fun j σ H' => ∃ (A : Str → Addr) (u9 : Option V), σ = [some (.ref g), some (.str x), some (.ref ad), some (.ref D), some (.ref qa), some (.int (i + 1 : Nat)), some (.str c.1), u9] ∧ Same H1 H' ∧
      PathsAt H' D (addsF (fun _ _ => true) c (os.take j) kp) A ∧ (∀ c2 ∈ addsF (fun _ _ => true) c (os.take j) kp, H1 (A c2.1) = none ∧ A c2.1 ≠ qa) ∧ H' qa = some (.lst ((keysF (addsF (fun _ _ => true) c (os.take j) kp)).map V.str))) ⟨A, u9, rfl, s, pa, fr, hq⟩ ?_ ?_ ?_
    · rintro j σ H' hj ⟨A, u9, rfl, s, _⟩
      exact SqL.of (s _ _ hos)
    · rintro j y σ H' hy ⟨A, u9, rfl, s, pa, fr, hq⟩
      obtain ⟨hj, rfl⟩ := map_at hy
      have hom := osn _ (List.getElem_mem hj)
      have tk : addsF (fun _ _ => true) c (os.take (j + 1)) kp = addF (fun _ _ => true) c (addsF (fun _ _ => true) c (os.take j) kp) os[j] := by rw [take_snoc hj, addsF_snoc]
      have len : (addsF (fun _ _ => true) c (os.take j) kp).length ≤ kp.length + 2000 := by
        have := addsF_len (ok := (fun _ _ => true)) (c := c) (os := os.take j) (kp := kp)
        rw [List.length_take] at this
        omega
      have cin : c ∈ addsF (fun _ _ => true) c (os.take j) kp := by
        obtain ⟨r, hr⟩ := addsF_pre (ok := (fun _ _ => true)) (c := c) (os := os.take j) (kp := kp)
        rw [hr]
        exact List.mem_append_left _ cm
      generalize addsF (fun _ _ => true) c (os.take j) kp = k1 at *
      generalize os[j] = o at *
      wtm_at "rd"
      refine rd_din1 (.inl pa.di) (k := .inr o) rfl ?_
      have skip : (o ∈ keysF k1 ∨ (fun _ _ => true) c.1 o = false) → addsF (fun _ _ => true) c (os.take (j + 1)) kp = k1 := fun h => by
        rw [tk]
        unfold addF
        rw [if_neg]
        rintro ⟨z1, z2⟩
        rcases h with h | h
        · exact z1 h
        · rw [h] at z2
          cases z2
      by_cases mo : o ∈ keysF k1
      · rw [kvG_val mo]
        wtm_at "rd"
        rw [skip (.inl mo)]
        exact ⟨A, _, rfl, s, pa, fr, hq⟩
      · rw [kvG_none mo]
        refine rd_bl ?_
        refine rd_T ?_
        wtm_at "rd"
        have tk2 : addsF (fun _ _ => true) c (os.take (j + 1)) kp = k1 ++ [(o, c.2 ++ [o])] := by
          rw [tk]
          unfold addF
          exact if_pos ⟨mo, rfl⟩
        rw [tk2]
        wtm_at "rd"
        refine rd_dat (.inl pa.di) (kvG_val (List.mem_map_of_mem cin)) rfl ?_
        wtm_at "rd"
        intro t1 ft1
        have pl1 := pa.li _ cin
        refine rd_catL (at_upd (ne_of_none pl1 ft1) pl1) upd_same (by rw [List.length_map]; simp only [List.length_singleton]; have := gs.l2; omega) ?_
        intro t2 ft2
        have sT := same_add (o := .lst (c.2.map V.str ++ [.str o])) (same_add (o := .lst [.str o]) s ft1) ft2
        have paT := (pa.same (Same.new (o := .lst [.str o]) ft1)).same (Same.new (o := .lst (c.2.map V.str ++ [.str o])) ft2)
        have hqT := at_upd (o := .lst (c.2.map V.str ++ [.str o])) (ne_of_none (at_upd (o := .lst [.str o]) (ne_of_none hq ft1) hq) ft2) (at_upd (o := .lst [.str o]) (ne_of_none hq ft1) hq)
        have nt2 : t2 ≠ qa := Ne.symm (ne_of_none (at_upd (o := .lst [.str o]) (ne_of_none hq ft1) hq) ft2)
        have ft20 := new_of_same (same_add (o := .lst [.str o]) s ft1) ft2
        have ht2 : (upd (upd H' t1 (.lst [.str o])) t2 (.lst (c.2.map V.str ++ [.str o]))) t2 = some (.lst ((c.2 ++ [o]).map V.str)) := by
          rw [upd_same, List.map_append]
          rfl
        generalize upd (upd H' t1 (.lst [.str o])) t2 (.lst (c.2.map V.str ++ [.str o])) = HT at sT paT hqT ht2
        wtm_at "rd"
        refine rd_dset paT.di (k := .inr o) rfl (by rw [List.length_map, List.length_map]; have := gs.l2; omega) ?_
        have pa2 := paT.put mo ht2
        have sU := same_put (o := .dK (putK (kvG (keysF k1) fun n => .ref (A n)) (.inr o) (.ref t2))) sT fD
        have hqU := at_upd (o := .dK (putK (kvG (keysF k1) fun n => .ref (A n)) (.inr o) (.ref t2))) (Ne.symm nDq) hqT
        generalize upd HT D (.dK (putK (kvG (keysF k1) fun n => .ref (A n)) (.inr o) (.ref t2))) = HU at pa2 sU hqU
        wtm_at "rd"
        refine rd_tyL hqU ?_
        wtm_at "rd"
        refine rd_append hqU (by rw [List.length_map, List.length_map]; have := gs.l2; omega) ?_
        have off : ∀ c2 ∈ k1 ++ [(o, c.2 ++ [o])], H1 (updV A o t2 c2.1) = none ∧ updV A o t2 c2.1 ≠ qa := fun c2 hc2 => by
          unfold updV
          rcases List.mem_append.mp hc2 with h | h
          · rw [if_neg (fun z => mo (by rw [← z]; exact List.mem_map_of_mem h))]
            exact fr c2 h
          · rw [List.mem_singleton] at h
            subst h
            rw [if_pos rfl]
            exact ⟨ft20, nt2⟩
        refine ⟨updV A o t2, _, rfl, same_put sU fq1, pa2.off hqU (fun c2 hc2 => (off c2 hc2).2), off, ?_⟩
        rw [upd_same, show keysF (k1 ++ [(o, c.2 ++ [o])]) = keysF k1 ++ [o] from List.map_append, List.map_append]
        rfl
    · rintro σ H' ⟨A, u9, rfl, s, pa, fr, hq⟩
      rw [List.length_map, List.take_length] at pa fr hq
      wtm_at "rd"
      exact ⟨A, _, _, rfl, s, pa, fr, hq⟩
end
end Law

/-! root_paths, basis_cycles, path_sum, windings -/
namespace Law
open PySem PySem.Spec PyProof.Rows L2 U
local macro_rules | `(tactic| wtm_at "rd1") => `(tactic| first
  | with_reducible refine rd_seq ?_
  | ((with_reducible refine rd_var (v := ?vv) ?hv ?_); (case hv => exact rfl))
  | with_reducible refine rd_c ?_
  | with_reducible refine rd_cons ?_
  | with_reducible refine rd_nil ?_
  | with_reducible refine rd_op ?_
  | with_reducible refine rd_asg ?_
  | with_reducible refine rd_name ?_
  | with_reducible refine rd_c1 ?_
  | with_reducible refine rd_cb ?_
  | with_reducible refine rd_test ?_
  | with_reducible refine rd_B ?_
  | with_reducible refine rd_bl ?_
  | with_reducible refine rd_if ?_
  | with_reducible refine rd_ret ?_
  | with_reducible refine rd_drop ?_
  | with_reducible refine rd_next ?_
  | with_reducible refine rd_addI ?_
  | with_reducible refine rd_ltI ?_
  | with_reducible refine rd_eqI ?_
  | with_reducible refine rd_neI ?_
  | with_reducible refine rd_eqS ?_
  | with_reducible refine rd_neS ?_
  | with_reducible refine rd_gtI ?_
  | with_reducible refine rd_geI ?_
  | with_reducible refine rd_leI ?_
  | with_reducible refine rd_ltS ?_
  | with_reducible refine rd_subI ?_
  | ((with_reducible refine rd_modI ?hc ?_); (case hc => first | decide | omega))
  | ((with_reducible refine rd_mulI ?hc ?_); (case hc => first | exact mul_bI | exact .inl (.inr (by decide)) | exact .inl (.inl (by decide)) | exact .inl (.inr (by omega)) | exact .inl (.inl (by omega))))
  | ((with_reducible refine rd_divI ?hc ?_); (case hc => first | decide | omega))
  | ((with_reducible refine rd_powI ?hc ?_); (case hc => exact ⟨by decide, by decide, by decide⟩))
  | with_reducible refine rd_lst ?_
  | with_reducible refine rd_tup ?_
  | ((with_reducible refine rd_sz ?hv ?_); (case hv => exact rfl))
  | with_reducible refine rd_and ?_
  | with_reducible refine rd_or ?_
  | with_reducible refine rd_not ?_
  | with_reducible refine rd_andV ?_
  | with_reducible refine rd_orV ?_
  | with_reducible refine rd_notV ?_
  | with_reducible refine rd_ifE ?_
  | with_reducible refine rd_T ?_
  | with_reducible refine rd_F ?_
  | with_reducible refine rd_chain ?_
  | with_reducible refine rd_is ?_
  | with_reducible refine rd_isNot ?_
  | with_reducible refine rd_absI ?_
  | with_reducible refine rd_maxI ?_
  | with_reducible refine rd_minI ?_
  | with_reducible refine rd_intI ?_
  | with_reducible refine rd_intB ?_
  | with_reducible refine rd_sub ?_
  | with_reducible refine rd_sl ?_
  | with_reducible refine rd_noPart ?_
  | with_reducible refine rd_part ?_
  | with_reducible refine rd_exI ?_
  | with_reducible refine rd_bm ?_
  | with_reducible refine rd_bm0 ?_
  | with_reducible refine rd_un ?_
  | with_reducible refine rd_neg ?_
  | with_reducible refine rd_c2 ?_
  | with_reducible refine rd_retN ?_
  | with_reducible refine rd_break ?_
  | with_reducible refine rd_cont ?_
  | with_reducible refine rd_for ?_
  | with_reducible refine rd_rng1 ?_
  | with_reducible refine rd_rng2 ?_
  | with_reducible refine rd_iList ?_
  | with_reducible refine rd_iTup ?_
  | with_reducible refine rd_iEnum ?_
  | ((with_reducible refine rd_forR ?h0 ?h1 ?_); (case h0 => omega); (case h1 => omega))
  | with_reducible refine rd_lc ?_
  | with_reducible refine rd_gcons ?_
  | with_reducible refine rd_gnil ?_
  | with_reducible refine rd_dget ?_
  | with_reducible refine rd_dput ?_
  | with_reducible refine rd_dnew ?_
  | with_reducible refine rd_dc ?_
  | with_reducible refine rd_iItems ?_
  | with_reducible refine rd_iKeys ?_
  | with_reducible refine rd_din ?_
  | with_reducible refine rd_lc2 ?_
  | with_reducible refine rd_cd ?_
  | with_reducible refine rd_par ?_
  | with_reducible refine rd_two ?_
  | with_reducible refine rd_reprB ?_
  | with_reducible refine rd_ck ?_
  | ((with_reducible refine rd_len ?hl ?_); (case hl => exact rfl))
  | with_reducible refine rd_nT ?_
  | with_reducible refine rd_nF ?_
  | with_reducible refine rd_dnin ?_
  | with_reducible refine rd_isB ?_
  | with_reducible refine rd_isNotB ?_
  | with_reducible refine rd_daug ?_
  | with_reducible refine rd_yesT ?_
  | ((with_reducible refine rd_wp ?hw ?_); (case hw => exact rfl)))
local macro_rules | `(tactic| wtm_at "rd") => `(tactic| repeat wtm_at "rd1")

abbrev rtF (ns : List Str) (es : List (Str × Str)) : List (Str × List Str) := rootsF es (compsF ns es)
section
variable {P : Program} {w : World} {K : PySem.W.Frag} {mg : Str → Option Value} {base : Heap}
end
end Law

/-! slopes as the laws count them; walks drawn -/
namespace Law
open PySem PySem.Spec PyProof.Rows L2 U
local macro_rules | `(tactic| wtm_at "rd1") => `(tactic| first
  | with_reducible refine rd_seq ?_
  | ((with_reducible refine rd_var (v := ?vv) ?hv ?_); (case hv => exact rfl))
  | with_reducible refine rd_c ?_
  | with_reducible refine rd_cons ?_
  | with_reducible refine rd_nil ?_
  | with_reducible refine rd_op ?_
  | with_reducible refine rd_asg ?_
  | with_reducible refine rd_name ?_
  | with_reducible refine rd_c1 ?_
  | with_reducible refine rd_cb ?_
  | with_reducible refine rd_test ?_
  | with_reducible refine rd_B ?_
  | with_reducible refine rd_bl ?_
  | with_reducible refine rd_if ?_
  | with_reducible refine rd_ret ?_
  | with_reducible refine rd_drop ?_
  | with_reducible refine rd_next ?_
  | with_reducible refine rd_addI ?_
  | with_reducible refine rd_ltI ?_
  | with_reducible refine rd_eqI ?_
  | with_reducible refine rd_neI ?_
  | with_reducible refine rd_eqS ?_
  | with_reducible refine rd_neS ?_
  | with_reducible refine rd_gtI ?_
  | with_reducible refine rd_geI ?_
  | with_reducible refine rd_leI ?_
  | with_reducible refine rd_ltS ?_
  | with_reducible refine rd_subI ?_
  | ((with_reducible refine rd_modI ?hc ?_); (case hc => first | decide | omega))
  | ((with_reducible refine rd_mulI ?hc ?_); (case hc => first | exact mul_bI | exact .inl (.inr (by decide)) | exact .inl (.inl (by decide)) | exact .inl (.inr (by omega)) | exact .inl (.inl (by omega))))
  | ((with_reducible refine rd_divI ?hc ?_); (case hc => first | decide | omega))
  | ((with_reducible refine rd_powI ?hc ?_); (case hc => exact ⟨by decide, by decide, by decide⟩))
  | with_reducible refine rd_lst ?_
  | with_reducible refine rd_tup ?_
  | ((with_reducible refine rd_sz ?hv ?_); (case hv => exact rfl))
  | with_reducible refine rd_and ?_
  | with_reducible refine rd_or ?_
  | with_reducible refine rd_not ?_
  | with_reducible refine rd_andV ?_
  | with_reducible refine rd_orV ?_
  | with_reducible refine rd_notV ?_
  | with_reducible refine rd_ifE ?_
  | with_reducible refine rd_T ?_
  | with_reducible refine rd_F ?_
  | with_reducible refine rd_chain ?_
  | with_reducible refine rd_is ?_
  | with_reducible refine rd_isNot ?_
  | with_reducible refine rd_absI ?_
  | with_reducible refine rd_maxI ?_
  | with_reducible refine rd_minI ?_
  | with_reducible refine rd_intI ?_
  | with_reducible refine rd_intB ?_
  | with_reducible refine rd_sub ?_
  | with_reducible refine rd_sl ?_
  | with_reducible refine rd_noPart ?_
  | with_reducible refine rd_part ?_
  | with_reducible refine rd_exI ?_
  | with_reducible refine rd_bm ?_
  | with_reducible refine rd_bm0 ?_
  | with_reducible refine rd_un ?_
  | with_reducible refine rd_neg ?_
  | with_reducible refine rd_c2 ?_
  | with_reducible refine rd_retN ?_
  | with_reducible refine rd_break ?_
  | with_reducible refine rd_cont ?_
  | with_reducible refine rd_for ?_
  | with_reducible refine rd_rng1 ?_
  | with_reducible refine rd_rng2 ?_
  | with_reducible refine rd_iList ?_
  | with_reducible refine rd_iTup ?_
  | with_reducible refine rd_iEnum ?_
  | ((with_reducible refine rd_forR ?h0 ?h1 ?_); (case h0 => omega); (case h1 => omega))
  | with_reducible refine rd_lc ?_
  | with_reducible refine rd_gcons ?_
  | with_reducible refine rd_gnil ?_
  | with_reducible refine rd_dget ?_
  | with_reducible refine rd_dput ?_
  | with_reducible refine rd_dnew ?_
  | with_reducible refine rd_dc ?_
  | with_reducible refine rd_iItems ?_
  | with_reducible refine rd_iKeys ?_
  | with_reducible refine rd_din ?_
  | with_reducible refine rd_lc2 ?_
  | with_reducible refine rd_cd ?_
  | with_reducible refine rd_par ?_
  | with_reducible refine rd_two ?_
  | with_reducible refine rd_reprB ?_
  | with_reducible refine rd_ck ?_
  | ((with_reducible refine rd_len ?hl ?_); (case hl => exact rfl))
  | with_reducible refine rd_nT ?_
  | with_reducible refine rd_nF ?_
  | with_reducible refine rd_dnin ?_
  | with_reducible refine rd_isB ?_
  | with_reducible refine rd_isNotB ?_
  | with_reducible refine rd_daug ?_
  | with_reducible refine rd_yesT ?_
  | ((with_reducible refine rd_wp ?hw ?_); (case hw => exact rfl)))
local macro_rules | `(tactic| wtm_at "rd") => `(tactic| repeat wtm_at "rd1")

theorem use_graphB {H : Hp} {p : Addr} {most : Int} {Q : VK} {E : XK} (h : PoolAt H p) (m0 : 1 ≤ most) (m1 : most ≤ 25)
    (k : ∀ (t g n e st : Addr) (ns ord : List Str) (es : List (Addr × Str × Str)) (f : Str → Int) (H' : Hp), Go p H H' → H' t = some (.tup [.ref g, .ref st]) → GSt H' g n e st ns ord es f → 1 ≤ ns.length → (ns.length : Int) ≤ most → H t = none → H g = none → H st = none → Q (.ref t) H') : spGraph [.ref p, .int most] H Q E := by
  refine ⟨p, most, rfl, h, m0, m1, fun t g n e st ns ord es ws H' go ht hg hs ng nst l1 l2 ok pm so pro el nt => ?_⟩
  have ndo : ord.Nodup := pm.nodup_iff.mpr (asc_nodup ok.names.asc)
  refine k t g n e st ns ord es (numOf ws) H' go ht ⟨hg, ok, pm, by omega, el, ?_, fun x hx => so.at (pm.mem_iff.mpr hx), pro⟩ l1 (by omega) nt ng nst
  rw [← kvs_F so ndo]
  exact hs
theorem at_last {p : List Str} {x : Str} (h : p.getLast? = some x) : atI (p.map V.str) (-1) = some (.str x) := by
  have hp : 0 < p.length := by
    cases p with
    | nil => cases h
    | cons _ _ => simp
  unfold atI ixN
  rw [List.length_map, if_neg (by decide)]
  split
  · rename_i h2
    simp only [Option.bind_some]
    rw [show ((-1 : Int) + (p.length : Int)).toNat = p.length - 1 from by omega, List.getElem?_map, ← List.getLast?_eq_getElem?, h]
    rfl
  · omega
section
variable {P : Program} {w : World} {K : PySem.W.Frag} {mg : Str → Option Value} {base : Heap}
end
end Law

/-! shortest_path; closed walks drawn; the law behind moves -/
namespace Law
open PySem PySem.Spec PyProof.Rows L2 U
local macro_rules | `(tactic| wtm_at "rd1") => `(tactic| first
  | with_reducible refine rd_seq ?_
  | ((with_reducible refine rd_var (v := ?vv) ?hv ?_); (case hv => exact rfl))
  | with_reducible refine rd_c ?_
  | with_reducible refine rd_cons ?_
  | with_reducible refine rd_nil ?_
  | with_reducible refine rd_op ?_
  | with_reducible refine rd_asg ?_
  | with_reducible refine rd_name ?_
  | with_reducible refine rd_c1 ?_
  | with_reducible refine rd_cb ?_
  | with_reducible refine rd_test ?_
  | with_reducible refine rd_B ?_
  | with_reducible refine rd_bl ?_
  | with_reducible refine rd_if ?_
  | with_reducible refine rd_ret ?_
  | with_reducible refine rd_drop ?_
  | with_reducible refine rd_next ?_
  | with_reducible refine rd_addI ?_
  | with_reducible refine rd_ltI ?_
  | with_reducible refine rd_eqI ?_
  | with_reducible refine rd_neI ?_
  | with_reducible refine rd_eqS ?_
  | with_reducible refine rd_neS ?_
  | with_reducible refine rd_gtI ?_
  | with_reducible refine rd_geI ?_
  | with_reducible refine rd_leI ?_
  | with_reducible refine rd_ltS ?_
  | with_reducible refine rd_subI ?_
  | ((with_reducible refine rd_modI ?hc ?_); (case hc => first | decide | omega))
  | ((with_reducible refine rd_mulI ?hc ?_); (case hc => first | exact mul_bI | exact .inl (.inr (by decide)) | exact .inl (.inl (by decide)) | exact .inl (.inr (by omega)) | exact .inl (.inl (by omega))))
  | ((with_reducible refine rd_divI ?hc ?_); (case hc => first | decide | omega))
  | ((with_reducible refine rd_powI ?hc ?_); (case hc => exact ⟨by decide, by decide, by decide⟩))
  | with_reducible refine rd_lst ?_
  | with_reducible refine rd_tup ?_
  | ((with_reducible refine rd_sz ?hv ?_); (case hv => exact rfl))
  | with_reducible refine rd_and ?_
  | with_reducible refine rd_or ?_
  | with_reducible refine rd_not ?_
  | with_reducible refine rd_andV ?_
  | with_reducible refine rd_orV ?_
  | with_reducible refine rd_notV ?_
  | with_reducible refine rd_ifE ?_
  | with_reducible refine rd_T ?_
  | with_reducible refine rd_F ?_
  | with_reducible refine rd_chain ?_
  | with_reducible refine rd_is ?_
  | with_reducible refine rd_isNot ?_
  | with_reducible refine rd_absI ?_
  | with_reducible refine rd_maxI ?_
  | with_reducible refine rd_minI ?_
  | with_reducible refine rd_intI ?_
  | with_reducible refine rd_intB ?_
  | with_reducible refine rd_sub ?_
  | with_reducible refine rd_sl ?_
  | with_reducible refine rd_noPart ?_
  | with_reducible refine rd_part ?_
  | with_reducible refine rd_exI ?_
  | with_reducible refine rd_bm ?_
  | with_reducible refine rd_bm0 ?_
  | with_reducible refine rd_un ?_
  | with_reducible refine rd_neg ?_
  | with_reducible refine rd_c2 ?_
  | with_reducible refine rd_retN ?_
  | with_reducible refine rd_break ?_
  | with_reducible refine rd_cont ?_
  | with_reducible refine rd_for ?_
  | with_reducible refine rd_rng1 ?_
  | with_reducible refine rd_rng2 ?_
  | with_reducible refine rd_iList ?_
  | with_reducible refine rd_iTup ?_
  | with_reducible refine rd_iEnum ?_
  | ((with_reducible refine rd_forR ?h0 ?h1 ?_); (case h0 => omega); (case h1 => omega))
  | with_reducible refine rd_lc ?_
  | with_reducible refine rd_gcons ?_
  | with_reducible refine rd_gnil ?_
  | with_reducible refine rd_dget ?_
  | with_reducible refine rd_dput ?_
  | with_reducible refine rd_dnew ?_
  | with_reducible refine rd_dc ?_
  | with_reducible refine rd_iItems ?_
  | with_reducible refine rd_iKeys ?_
  | with_reducible refine rd_din ?_
  | with_reducible refine rd_lc2 ?_
  | with_reducible refine rd_cd ?_
  | with_reducible refine rd_par ?_
  | with_reducible refine rd_two ?_
  | with_reducible refine rd_reprB ?_
  | with_reducible refine rd_ck ?_
  | ((with_reducible refine rd_len ?hl ?_); (case hl => exact rfl))
  | with_reducible refine rd_nT ?_
  | with_reducible refine rd_nF ?_
  | with_reducible refine rd_dnin ?_
  | with_reducible refine rd_isB ?_
  | with_reducible refine rd_isNotB ?_
  | with_reducible refine rd_daug ?_
  | with_reducible refine rd_yesT ?_
  | ((with_reducible refine rd_wp ?hw ?_); (case hw => exact rfl)))
local macro_rules | `(tactic| wtm_at "rd") => `(tactic| repeat wtm_at "rd1")

section
variable {P : Program} {w : World} {K : PySem.W.Frag} {mg : Str → Option Value} {base : Heap}
theorem rd_dget1 {td ty : TE} {σ : L2.St} {H : Hp} {Q : VK} (h : td σ H fun x H1 => ∃ a, x = .ref a ∧ IsD H1 a ∧ ty σ H1 fun y H2 => ∃ o, DGet H2 a y o ∧ Q (o.getD .non) H2) : tDGet1 td ty σ H Q := h
end
end Law

/-! components as a law finds them: the plain law -/
namespace U
open PySem PySem.Spec PyProof.Rows L2
theorem nbS_nodup {ns : List Str} {es : List (Str × Str)} (ok : GrOk ns es) (x : Str) : (nbS es x).Nodup := (sortS_perm _).nodup_iff.mpr (nbrF_nodup ok x)
end U

/-! sorted(d) where d's keys are tuples of numbers -/
namespace U
open PySem PySem.Spec PyProof.Rows L2
section
variable {X : Cx}
end
end U

/-! paths found level by level, each level in order: the same as those found one by one (plain law) -/
namespace U
open PySem PySem.Spec PyProof.Rows L2
/-- one row of texts stands before another -/
def ltL (p q : List Str) : Bool := PySem.W.dataLt (.list (p.map PyData.str)) (.list (q.map PyData.str))
theorem ltL_self (p : List Str) : ltL p p = false := PyProof.Rows.lex_irrefl _
theorem ltL_cons {x y : Str} {p q : List Str} : ltL (x :: p) (y :: q) = if x = y then ltL p q else decide (sLt x y) := by
  have al : PySem.W.alike (PyData.str x) (PyData.str y) = true := by simp [PySem.W.alike]
  unfold ltL
  rw [List.map_cons, List.map_cons, PySem.W.dataLt_list, PySem.W.dataLt_list]
  by_cases e : x = y
  · rw [if_pos e]
    exact PySem.W.dataLt_all_yes al (by rw [e]; simp [PyData.eqv])
  · rw [if_neg e]
    have := PySem.W.dataLt_all_no (xs := p.map PyData.str) (ys := q.map PyData.str) al (by simp [PyData.eqv, e])
    rw [this, PySem.W.dataLt_str]
    rfl
theorem ltL_app : ∀ {p q : List Str} {x y : Str}, p.length = q.length → ltL (p ++ [x]) (q ++ [y]) = if p = q then (if x = y then false else decide (sLt x y)) else ltL p q
  | [], [], x, y, _ => by
    rw [if_pos rfl]
    show ltL [x] [y] = _
    rw [ltL_cons, ltL_self]
  | a :: p, b :: q, x, y, h => by
    have ih := ltL_app (p := p) (q := q) (x := x) (y := y) (by simpa using h)
    show ltL (a :: (p ++ [x])) (b :: (q ++ [y])) = _
    rw [ltL_cons, ltL_cons]
    by_cases e : a = b
    · subst e
      rw [if_pos rfl, if_pos rfl, ih]
      by_cases e2 : p = q
      · subst e2
        rw [if_pos (rfl : p = p), if_pos (rfl : a :: p = a :: p)]
      · rw [if_neg e2, if_neg (fun z => e2 (List.cons.inj z).2)]
    · rw [if_neg e, if_neg e, if_neg (fun z => e (List.cons.inj z).1)]
  | [], _ :: _, _, _, h => nomatch h
  | _ :: _, [], _, _, h => nomatch h
theorem ltL_asym {p q : List Str} (h : ltL p q = true) : ltL q p = false := by
  cases e : ltL q p with
  | false => rfl
  | true =>
    have := PyProof.Rows.lex_trans _ _ _ (show PyProof.Rows.lexLt PyProof.Rows.itemOrd _ _ = true from h) e
    exact absurd (this.symm.trans (ltL_self p)) (by simp)
section
variable {adj : Str → List Str} {ok : Str → Str → Bool} {root : Str}
/-- longer paths, to what is not in F -/
def longF (adj : Str → List Str) (ok : Str → Str → Bool) (F : List Str) (L : List (Str × List Str)) : List (Str × List Str) := L.flatMap fun c => ((adj c.1).filter fun o => ok c.1 o && !decide (o ∈ F)).map fun o => (o, c.2 ++ [o])
def addN (kp : List (Str × List Str)) (c : Str × List Str) : List (Str × List Str) := if c.1 ∈ keysF kp then kp else kp ++ [c]
theorem adds_long {F : List Str} {c : Str × List Str} : ∀ {os : List Str} {kp : List (Str × List Str)}, (∀ o ∈ F, o ∈ keysF kp) → addsF ok c os kp = ((os.filter fun o => ok c.1 o && !decide (o ∈ F)).map fun o => (o, c.2 ++ [o])).foldl addN kp
  | [], _, _ => rfl
  | o :: os, kp, h => by
    have e : addsF ok c (o :: os) kp = addsF ok c os (addF ok c kp o) := rfl
    have sub : ∀ x ∈ F, x ∈ keysF (addF ok c kp o) := fun x hx => by
      rcases addF_cases c kp o with ⟨z, _⟩ | ⟨z, _⟩
      · rw [z]
        exact h x hx
      · rw [z, keysF, List.map_append]
        exact List.mem_append_left _ (h x hx)
    rw [e, adds_long sub, List.filter_cons]
    by_cases k : ok c.1 o = true
    · by_cases m : o ∈ F
      · have : addF ok c kp o = kp := by
          unfold addF
          rw [if_neg fun z => z.1 (h o m)]
        rw [if_neg (by simp [m]), this]
      · rw [if_pos (by simp [m, k]), List.map_cons, List.foldl_cons]
        have : addF ok c kp o = addN kp (o, c.2 ++ [o]) := by
          unfold addF addN
          by_cases z : o ∈ keysF kp
          · rw [if_neg fun y => y.1 z, if_pos z]
          · rw [if_pos ⟨z, k⟩, if_neg z]
        rw [this]
    · have : addF ok c kp o = kp := by
        unfold addF
        rw [if_neg fun z => k z.2]
      rw [if_neg (by simp [k]), this]
theorem fold_long {F : List Str} : ∀ {L kp : List (Str × List Str)}, (∀ o ∈ F, o ∈ keysF kp) → L.foldl (fun kp c => addsF ok c (adj c.1) kp) kp = (longF adj ok F L).foldl addN kp
  | [], _, _ => rfl
  | c :: L, kp, h => by
    obtain ⟨r, hr⟩ := addsF_pre (ok := ok) (c := c) (os := adj c.1) (kp := kp)
    have sub : ∀ o ∈ F, o ∈ keysF (addsF ok c (adj c.1) kp) := fun o ho => by
      rw [hr, keysF, List.map_append]
      exact List.mem_append_left _ (h o ho)
    have e : longF adj ok F (c :: L) = (((adj c.1).filter fun o => ok c.1 o && !decide (o ∈ F)).map fun o => (o, c.2 ++ [o])) ++ longF adj ok F L := by
      unfold longF
      rw [List.flatMap_cons]
    rw [e, List.foldl_append, List.foldl_cons, fold_long sub, adds_long h]
/-- a whole level at once -/
theorem st_level : ∀ {L A R : List (Str × List Str)} {i : Nat}, stF adj ok root i = A ++ L ++ R → A.length = i → stF adj ok root (i + L.length) = L.foldl (fun kp c => addsF ok c (adj c.1) kp) (stF adj ok root i)
  | [], A, R, i, _, _ => rfl
  | c :: L, A, R, i, h, hi => by
    have ci : (stF adj ok root i)[i]? = some c := by
      rw [h, List.append_assoc, List.getElem?_append_right (by omega), hi, Nat.sub_self]
      rfl
    have e1 := stF_at ci
    obtain ⟨r, hr⟩ := addsF_pre (ok := ok) (c := c) (os := adj c.1) (kp := stF adj ok root i)
    have h2 : stF adj ok root (i + 1) = (A ++ [c]) ++ L ++ (R ++ r) := by
      rw [e1, hr, h]
      simp [List.append_assoc]
    have ih := st_level h2 (by rw [List.length_append, hi]; rfl)
    rw [List.length_cons, show i + (L.length + 1) = i + 1 + L.length from by omega, ih, e1]
    rfl
theorem addN_app : ∀ {l X Y : List (Str × List Str)}, (∀ c ∈ l, c.1 ∉ keysF X) → l.foldl addN (X ++ Y) = X ++ l.foldl addN Y
  | [], _, _, _ => rfl
  | c :: l, X, Y, h => by
    have e : addN (X ++ Y) c = X ++ addN Y c := by
      unfold addN
      have n := h c List.mem_cons_self
      by_cases m : c.1 ∈ keysF Y
      · rw [if_pos m, if_pos (by rw [keysF, List.map_append]; exact List.mem_append_right _ m)]
      · rw [if_neg m, if_neg (fun z => by
          rw [keysF, List.map_append] at z
          exact (List.mem_append.mp z).elim n m), List.append_assoc]
    rw [List.foldl_cons, List.foldl_cons, e, addN_app fun c hc => h c (List.mem_cons_of_mem _ hc)]
theorem long_mem {F : List Str} {L : List (Str × List Str)} {x : Str × List Str} (h : x ∈ longF adj ok F L) : ∃ c ∈ L, x.1 ∈ adj c.1 ∧ ok c.1 x.1 = true ∧ x.1 ∉ F ∧ x.2 = c.2 ++ [x.1] := by
  obtain ⟨c, hc, h⟩ := List.mem_flatMap.mp h
  obtain ⟨o, ho, rfl⟩ := List.mem_map.mp h
  obtain ⟨h1, h2⟩ := List.mem_filter.mp ho
  rw [Bool.and_eq_true] at h2
  exact ⟨c, hc, h1, h2.1, by simpa using h2.2, rfl⟩
theorem addN_sub : ∀ {l kp : List (Str × List Str)} {x : Str × List Str}, x ∈ l.foldl addN kp → x ∈ kp ∨ x ∈ l
  | [], _, _, h => .inl h
  | c :: l, kp, x, h => by
    rw [List.foldl_cons] at h
    rcases addN_sub h with h | h
    · unfold addN at h
      split at h
      · exact .inl h
      · rcases List.mem_append.mp h with h | h
        · exact .inl h
        · rw [List.mem_singleton.mp h]
          exact .inr List.mem_cons_self
    · exact .inr (List.mem_cons_of_mem _ h)
/-- a level: found at i, in order, of one length -/
structure Lev (adj : Str → List Str) (ok : Str → Str → Bool) (root : Str) (i n : Nat) (A L : List (Str × List Str)) : Prop where
  st : stF adj ok root i = A ++ L
  hi : A.length = i
  ln : ∀ c ∈ L, c.2.length = n
  la : ∀ c ∈ L, c.2.getLast? = some c.1
  pw : L.Pairwise fun a b => ltL a.2 b.2 = true
theorem Lev.start : Lev adj ok root 0 1 [] [(root, [root])] := ⟨rfl, rfl, (fun c h => by rw [List.mem_singleton.mp h]; rfl), (fun c h => by rw [List.mem_singleton.mp h]; rfl), List.pairwise_singleton _ _⟩
theorem Lev.long {i n : Nat} {A L : List (Str × List Str)} (h : Lev adj ok root i n A L) (asc : ∀ x, (adj x).Pairwise sLt) : (longF adj ok (keysF (A ++ L)) L).Pairwise fun a b => ltL a.2 b.2 = true := by
  have ln := h.ln
  have pw := h.pw
  generalize keysF (A ++ L) = F
  clear h
  induction L with
  | nil => exact List.Pairwise.nil
  | cons c L ih =>
    rw [List.pairwise_cons] at pw
    unfold longF
    rw [List.flatMap_cons, List.pairwise_append]
    refine ⟨?_, ih (fun d hd => ln d (List.mem_cons_of_mem _ hd)) pw.2, fun a ha b hb => ?_⟩
    · rw [List.pairwise_map]
      refine ((asc c.1).filter _).imp fun {x y} hxy => ?_
      show ltL (c.2 ++ [x]) (c.2 ++ [y]) = true
      have ne : x ≠ y := fun z => by
        rw [z] at hxy
        exact List.lt_irrefl _ hxy
      rw [ltL_app rfl, if_pos rfl, if_neg ne]
      exact decide_eq_true hxy
    · obtain ⟨o, _, rfl⟩ := List.mem_map.mp ha
      obtain ⟨d, hd, _, _, _, e⟩ := long_mem (F := F) (L := L) hb
      show ltL (c.2 ++ [o]) b.2 = true
      rw [e]
      have lt := pw.1 d hd
      have ne : c.2 ≠ d.2 := fun z => by
        rw [z, ltL_self] at lt
        cases lt
      rw [ltL_app ((ln c List.mem_cons_self).trans (ln d (List.mem_cons_of_mem _ hd)).symm), if_neg ne]
      exact lt
/-- the next level -/
theorem Lev.next {i n : Nat} {A L : List (Str × List Str)} (h : Lev adj ok root i n A L) (asc : ∀ x, (adj x).Pairwise sLt) : Lev adj ok root (i + L.length) (n + 1) (A ++ L) ((longF adj ok (keysF (A ++ L)) L).foldl addN []) := by
  have lg := h.long asc
  have mem := fun x (hx : x ∈ (longF adj ok (keysF (A ++ L)) L).foldl addN []) => (addN_sub hx).resolve_left (fun z => nomatch z)
  refine ⟨?_, by rw [List.length_append, h.hi], fun c hc => ?_, fun c hc => ?_, ?_⟩
  · have e := st_level (L := L) (A := A) (R := []) (by rw [List.append_nil]; exact h.st) h.hi
    rw [e, fold_long (F := keysF (A ++ L)) (fun o ho => by rw [h.st]; exact ho), h.st]
    have := addN_app (X := A ++ L) (Y := []) (l := longF adj ok (keysF (A ++ L)) L) fun c hc => by
      obtain ⟨_, _, _, _, n, _⟩ := long_mem hc
      exact n
    rw [List.append_nil] at this
    exact this
  · obtain ⟨d, hd, _, _, _, e⟩ := long_mem (mem c hc)
    rw [e, List.length_append, h.ln d hd]
    rfl
  · obtain ⟨d, hd, _, _, _, e⟩ := long_mem (mem c hc)
    rw [e, List.getLast?_append]
    rfl
  · clear mem
    generalize longF adj ok (keysF (A ++ L)) L = l at lg
    have sub : ∀ {l kp : List (Str × List Str)}, (kp ++ l).Pairwise (fun a b => ltL a.2 b.2 = true) → (l.foldl addN kp).Pairwise fun a b => ltL a.2 b.2 = true := fun {l} => by
      induction l with
      | nil =>
        intro kp h
        rw [List.append_nil] at h
        exact h
      | cons c l ih =>
        intro kp h
        rw [List.foldl_cons]
        refine ih ?_
        unfold addN
        split
        · exact h.sublist (List.Sublist.append (List.Sublist.refl _) (List.sublist_cons_self _ _))
        · rw [List.append_assoc]
          exact h
    exact sub (kp := []) (by rw [List.nil_append]; exact lg)
theorem Lev.done {i n : Nat} {A : List (Str × List Str)} (h : Lev adj ok root i n A []) (hi : i ≤ 1000) : A = pathsF adj ok root := by
  have e := h.st
  rw [List.append_nil] at e
  rw [← e]
  exact stF_done (by rw [e, h.hi]; exact Nat.le_refl _) hi
theorem long_len {F : List Str} {m : Nat} : ∀ {L : List (Str × List Str)}, (∀ c ∈ L, (adj c.1).length ≤ m) → (longF adj ok F L).length ≤ L.length * m
  | [], _ => Nat.zero_le _
  | c :: L, h => by
    have ih := long_len (F := F) fun d hd => h d (List.mem_cons_of_mem _ hd)
    have e : longF adj ok F (c :: L) = (((adj c.1).filter fun o => ok c.1 o && !decide (o ∈ F)).map fun o => (o, c.2 ++ [o])) ++ longF adj ok F L := by
      unfold longF
      rw [List.flatMap_cons]
    rw [e, List.length_append, List.length_map, List.length_cons, Nat.add_mul]
    have := List.length_filter_le (fun o => ok c.1 o && !decide (o ∈ F)) (adj c.1)
    have := h c List.mem_cons_self
    omega
theorem long_snoc {F : List Str} {L : List (Str × List Str)} {c : Str × List Str} : longF adj ok F (L ++ [c]) = longF adj ok F L ++ ((adj c.1).filter fun o => ok c.1 o && !decide (o ∈ F)).map fun o => (o, c.2 ++ [o]) := by
  unfold longF
  rw [List.flatMap_append]
  simp
theorem long_last {F : List Str} {L : List (Str × List Str)} {x : Str × List Str} (h : x ∈ longF adj ok F L) : x.2.getLast? = some x.1 := by
  obtain ⟨d, hd, _, _, _, e⟩ := long_mem h
  rw [e, List.getLast?_append]
  rfl
end
theorem path_mem {adj : Str → List Str} {ok : Str → Str → Bool} {root x : Str} {p ns : List Str} (cl : ∀ a ∈ ns, ∀ b ∈ adj a, b ∈ ns) (h0 : root ∈ ns) (h : PathTo adj ok root x p) : ∀ z ∈ p, z ∈ ns := by
  have key : x ∈ ns ∧ ∀ z ∈ p, z ∈ ns := by
    induction h with
    | one => exact ⟨h0, fun z hz => by rw [List.mem_singleton.mp hz]; exact h0⟩
    | @snoc a b p q m o ih =>
      refine ⟨cl _ ih.1 _ m, fun z hz => ?_⟩
      rcases List.mem_append.mp hz with hz | hz
      · exact ih.2 z hz
      · rw [List.mem_singleton.mp hz]
        exact cl _ ih.1 _ m
  exact key.2
theorem path_ne {adj : Str → List Str} {ok : Str → Str → Bool} {root x : Str} {p : List Str} (h : PathTo adj ok root x p) : p ≠ [] := by
  cases h with
  | one => exact fun z => nomatch z
  | snoc _ _ _ => simp
theorem nbS_lt {ns : List Str} {es : List (Str × Str)} (ok : GrOk ns es) (x : Str) : (nbS es x).Pairwise sLt := sortS_asc (nbrF_nodup ok x)
theorem nbS_len {ns : List Str} {es : List (Str × Str)} (ok : GrOk ns es) (x : Str) : (nbS es x).length ≤ ns.length := nodup_len (nbS_nodup ok x) fun y hy => nbS_in ok hy
end U

/-! lists of lists of texts as data; min of a list -/
namespace U
open PySem PySem.Spec PyProof.Rows L2
def dLsS (xs : List Str) : PyData := .list (xs.map PyData.str)
theorem dp_lls {K : PySem.W.Frag} {H : Hp} : ∀ {cs : List (Addr × List Str)}, (∀ c ∈ cs, H c.1 = some (.lst (c.2.map V.str))) → DpAll K H (cs.map fun c => V.ref c.1) ((cs.map (·.2)).map dLsS)
  | [], _ => .nil
  | c :: r, h => .cons (.lst (SqL.of (h c List.mem_cons_self)) (dp_strs _)) (dp_lls fun d hd => h d (List.mem_cons_of_mem _ hd))
theorem can_lls : ∀ {cs : List (List Str)}, (∀ c ∈ cs, ∀ x ∈ c, PyData.strOk x = true) → PyData.canLayAll0 (cs.map dLsS) = true ∧ PyData.depthAll (cs.map dLsS) ≤ 1
  | [], _ => by simp [PyData.canLayAll0, PyData.depthAll]
  | c :: r, h => by
    obtain ⟨a, b⟩ := can_lls (cs := r) fun d hd => h d (List.mem_cons_of_mem _ hd)
    have e1 : (dLsS c).canLay0 = true := by
      unfold dLsS
      rw [PyData.canLay0, can_strs (h c List.mem_cons_self)]
    have e2 : (dLsS c).depth = 1 := by
      unfold dLsS
      rw [PyData.depth, dep_strs]
    rw [List.map_cons, PyData.canLayAll0, PyData.depthAll, a, e1, e2]
    exact ⟨rfl, by omega⟩
end U

/-! a lambda with parameters and without captured names: entered -/
namespace U
open PySem PySem.Spec PyProof.Rows L2
end U
namespace U
open PySem PySem.Spec PyProof.Rows L2 PySem.W
theorem alike_strs : ∀ xs ys : List Str, alikeAll (xs.map PyData.str) (ys.map PyData.str) = true
  | [], ys => by cases ys <;> simp [alikeAll]
  | x :: xs, [] => by simp [alikeAll]
  | x :: xs, y :: ys => by
    rw [List.map_cons, List.map_cons, alikeAll, alike_strs xs ys]
    simp [alike]
end U
namespace U
open PySem PySem.Spec PyProof.Rows L2 PySem.W
/-- no more than new things, the callers' frames but for their slots -/
def Jm (X : Cx) (s0 s' : Shared) : Prop := s'.os = s0.os ∧ AllBare s'.gens ∧ Un (frs X.stack) [] (fun _ => none) (fun _ => none) s0.heap s'.heap
section
variable {X : Cx} {pins : List (Addr × Obj)} {σ : L2.St} {H : Hp} {s0 s : Shared}
theorem Jm.refl (I : Inv X pins σ H s0) : Jm X s0 s0 := ⟨rfl, I.bare, Un.refl⟩
theorem Jm.inv (I : Inv X pins σ H s0) (j : Jm X s0 s) : Inv X pins σ H s := by
  obtain ⟨os, bare, un⟩ := j
  have e0 := I.env0
  have raw : ∀ b u, H b = some u → ∀ o, s0.heap.get? b = some o → s.heap.get? b = some o := fun b u hb o ho => un.keep b o ho rfl (fun z => by rw [e0.frf b z] at hb; cases hb) (by simp)
  refine I.call' (ch := []) os ⟨fun b o e _ h1 h2 => un.keep b o e rfl h1 h2, fun b o e _ h1 h2 => un.slot b o e rfl h1 h2, fun _ _ _ n _ => n, un.there, fun _ _ q => q, fun _ _ _ q => q, fun _ ps q => ⟨#[], by rw [q]; simp⟩⟩ (fun a u e => ?_) bare (fun b hb => absurd hb (by simp))
  refine (I.hok a u e).stay (fun b o hb ho => ?_) (fun _ q => q) fun _ _ q => q
  rcases hb with rfl | hb
  · exact raw _ _ e o ho
  · exact raw _ _ hb o ho
variable {A : Around} {q : Str} {params : Arguments} {body : Expr} {scope : Scope} {pm ctv : Value} {f c' l : Addr} {items : List (Addr × List Str)} {its : List Value} {N : List Str} {p : Str} {tb : TE} {k : Nat}
end
end U
namespace U
open PySem PySem.Spec PyProof.Rows L2 PySem.W LamX
end U

/-! a def whose code object is known (its table of lambdas is tracked) -/
namespace U
open PySem PySem.Spec PyProof.Rows L2 LamX
section
variable {P : Program} {w : World} {K : PySem.W.Frag} {mg : Str → Option Value} {base : Heap}
end
end U

/-! sorted(a list of lists of texts that stand in order) -/
namespace U
open PySem PySem.Spec PyProof.Rows L2
abbrev lsE (b : Addr × List Str) : PyData := .list (b.2.map PyData.str)
theorem each_refsL {P : Value → Addr × List Str → Prop} : ∀ {bs : List (Addr × List Str)} {us : List Value}, Vals (bs.map fun b => V.ref b.1) us → (∀ b ∈ bs, P (Value.ref b.1) b) → PySem.W.EachIs P us bs
  | [], _, h, _ => by
    cases h
    exact .nil
  | b :: r, _, h, k => by
    cases h with
    | cons h1 h2 =>
      cases h1
      exact .cons (k b List.mem_cons_self) (each_refsL h2 fun c hc => k c (List.mem_cons_of_mem _ hc))
theorem each_outL : ∀ {out : List Value} {bs : List (Addr × List Str)}, PySem.W.EachIs (fun v b => v = Value.ref b.1) out bs → Vals (bs.map fun b => V.ref b.1) out
  | _, _, .nil => .nil
  | _, _, .cons h1 t => .cons h1 (each_outL t)
theorem reads_strsN {h : Heap} : ∀ {xs : List Str} {vs : List Value} {as : List Addr}, ReadsAll h vs (xs.map PyData.str) as → as = []
  | [], _, _, r => by
    cases r
    rfl
  | d :: ds, _, _, r => by
    cases r with
    | cons h1 h2 =>
      cases h1
      rw [reads_strsN h2]
      rfl
/-- the list stands in order: it is copied -/
def rSortLL (K : PySem.W.Frag) : List V → Hp → VK → Prop := fun vs H Q => ∃ (p : Addr) (bs : List (Addr × List Str)), vs = [.ref p] ∧ SqL K H p (bs.map fun b => V.ref b.1) ∧ (∀ b ∈ bs, H b.1 = some (.lst (b.2.map V.str))) ∧ bs.length ≤ 100000 ∧ bs.Pairwise (fun a b => ltL a.2 b.2 = true) ∧ nL (bs.map fun b => V.ref b.1) H Q
section
variable {X : Cx}
theorem call_sortedLL (hu : X.A.units + 64 < cLine) : CallR X (.builtin "sorted") (rSortLL X.K) := by
  intro pins s σ H vs us Q I r h
  obtain ⟨p, bs, rfl, hs, hit, hl, pw, q⟩ := h
  obtain ⟨u, rfl, rx⟩ := r.one
  cases rx
  obtain ⟨its, rv, ⟨o, n, ho, hc, _, hd⟩, hz⟩ := I.list hs
  refine Calls.call_function_entry PyProof.Rows.kind_sorted PyProof.Rows.plain_sorted PyProof.Rows.entry_sorted (PyProof.Rows.args_sorted1 _) ?_
  unfold Builtin.«sorted»
  refine wpAny_bind (m := checkCount "sorted" 1 1 _) (wpAny_pure ?_)
  have il : its.length = bs.length := by
    have := Vals.length rv
    rw [List.length_map] at this
    omega
  refine wpAny_bind (wpAny_collect_seq p (.inl rfl) ho hc hd (fun h' kp => ?_) (by rw [List.size_toArray]; rw [List.length_map] at hz; omega))
  rw [show its.toArray.toList = its from rfl]
  have I1 : Inv X pins σ H { s with heap := h', toks := s.toks } := I.kept kp
  have bl2 : its.length ≤ sizeLine := by rw [List.length_map] at hz; omega
  refine wpAny_bind (wpAny_newList ?_ bl2)
  have hoL : (h'.push (seqObj "list" its.toArray 0)).get? h'.objs.size = some (seqObj "list" its.toArray 0) := Heap.get?_push_size _ rfl
  have e1 : PySem.W.EachIs (fun (v : Value) (x : Addr × List Str) => v = Value.ref x.1) its bs := each_refsL rv fun _ _ => rfl
  have er : PySem.W.EachIs (fun (v : Value) (x : Addr × List Str) => ∃ as, Reads (h'.push (seqObj "list" its.toArray 0)) v (lsE x) as ∧ h'.objs.size ∉ as) its bs := each_refsL rv fun b hb => by
    obtain ⟨as, rd⟩ := Dp.reads I1 (lsE b) (.ref b.1) _ (.lst (SqL.of (hit b hb)) (dp_strs b.2)) rfl
    refine ⟨as, PyProof.Rows.Reads.keeps (fun _ _ q => Heap.get?_push_of_some _ q) rd, fun z => ?_⟩
    cases rd with
    | list h1 h2 h3 h4 =>
      have := reads_strsN h4
      subst this
      have z := List.mem_singleton.mp z
      have lt := Heap.lt_size h1
      rw [← z] at lt
      exact Nat.lt_irrefl _ lt
  have hal : PySem.W.AllAlike (bs.map lsE) := PySem.W.AllAlike.of (enc := lsE) fun a b => by
    show PySem.W.alike (.list _) (.list _) = true
    rw [PySem.W.alike]
    exact alike_strs _ _
  have hk : PySem.W.Sortable (bs.map lsE) := PySem.W.Sortable.others (enc := lsE) fun b => ⟨by simp, by simp⟩
  have hu2 : ∀ b, b ∈ bs → X.A.in1.units + 1 + (lsE b).depth < cLine := fun b _ => by
    have d1 : (lsE b).depth = 1 := by
      show (PyData.list _).depth = 1
      rw [PyData.depth, dep_strs]
    have i1 : X.A.in1.units ≤ X.A.units + 2 := by first | exact Nat.le_refl _ | exact Nat.le_succ _ | (show _ + 1 ≤ _ + 2; exact Nat.le_succ _)
    rw [d1]
    omega
  show wpAny _ _ _ _ _ { s with heap := h'.push (seqObj "list" its.toArray 0), toks := s.toks }
  refine wpAny_bind (wpAny_holding (PySem.W.list_sort_data (s := { s with heap := h'.push (seqObj "list" its.toArray 0), toks := s.toks }) (R := fun (v : Value) (x : Addr × List Str) => v = Value.ref x.1) (bs := bs) (enc := lsE) hoL e1 er hal hk (by rw [← il]; exact bl2) hu2 fun out ol oe => ?_))
  have same : bs.mergeSort (PySem.W.dataLe false lsE) = bs := List.mergeSort_of_pairwise (pw.imp fun {a b} z => by
    show (!PySem.W.dataLt (lsE b) (lsE a)) = true
    have : PySem.W.dataLt (lsE b) (lsE a) = false := ltL_asym z
    rw [this]
    rfl)
  rw [same] at oe
  obtain ⟨e', he'⟩ := PyProof.Rows.sortedHeap_at (vs := its) (out := out.toArray) hoL
  have hlen : (bs.map fun b => V.ref b.1).length ≤ sizeLine := by
    rw [List.length_map, ← il]
    exact bl2
  have fresh := I1.hok.fresh (Nat.le_refl _)
  refine wpAny_pure ⟨_, rfl, .ref h'.objs.size, upd H h'.objs.size (.lst (bs.map fun b => V.ref b.1)), I1.laid (t' := s.toks) (fun b u e => ?_) (Nat.le_refl _)
    (show ObjOk X.prog X.w _ _ _ (.lst (bs.map fun b => V.ref b.1)) from ⟨hlen, out, e', each_outL oe, he'⟩), rfl, ?_⟩
  · have hb : b < h'.objs.size := Heap.lt_size e
    rw [PyProof.Rows.sortedHeap_old (Nat.ne_of_lt hb) (by rw [size_push']; exact Nat.lt_succ_of_lt hb)]
    exact Heap.get?_push_of_some _ e
  · exact q _ fresh
end
theorem kSortLL {X : Cx} (K : PySem.W.Frag) (hK : X.K = K) (hu : X.A.units + 64 < cLine) : CallR X (.builtin "sorted") (rSortLL K) := hK ▸ call_sortedLL hu
theorem rd_sortLL {K : PySem.W.Frag} {H : Hp} {Q : VK} {p : Addr} {bs : List (Addr × List Str)} (hs : SqL K H p (bs.map fun b => V.ref b.1)) (hb : ∀ b ∈ bs, H b.1 = some (.lst (b.2.map V.str))) (hl : bs.length ≤ 100000) (pw : bs.Pairwise (fun a b => ltL a.2 b.2 = true)) (k : nL (bs.map fun b => V.ref b.1) H Q) : rSortLL K [.ref p] H Q := ⟨p, bs, rfl, hs, hb, hl, pw, k⟩
end U

/-! rising cycles, feasible lifts, progress: the plain law -/
namespace U
open PySem PySem.Spec PyProof.Rows L2
def slOk (f : Str → Int) (dir : Int) (a b : Str) : Bool := decide (slp f a b = dir)
section
variable {ns : List Str} {es : List (Str × Str)} {f : Str → Int} {dir : Int}
/-! ### feasible lifts -/
/-! ### progress -/
end
end U

/-! frozen nodes: the plain law -/
namespace U
open PySem PySem.Spec PyProof.Rows L2
section
variable {ns : List Str} {es : List (Str × Str)} {f : Str → Int} {pn : List Str} {m : Str × Int}
end
end U

/-! paths of one slope; certificates -/
namespace U
open PySem PySem.Spec PyProof.Rows L2
def SlP (es : List (Str × Str)) (f : Str → Int) (dir : Int) : List Str → Prop
  | a :: b :: r => Adj es a b ∧ slp f a b = dir ∧ SlP es f dir (b :: r)
  | _ => True
section
variable {ns : List Str} {es : List (Str × Str)} {f : Str → Int} {dir : Int}
theorem SlP.join : ∀ {p r : List Str} {x : Str}, p.getLast? = some x → SlP es f dir p → SlP es f dir (x :: r) → SlP es f dir (p ++ r)
  | [], _, _, h, _, _ => nomatch h
  | [a], r, x, h, _, k => by
    have e : a = x := by simpa using h
    subst e
    exact k
  | a :: b :: q, r, x, h, w, k => by
    have h' : (b :: q).getLast? = some x := by rw [List.getLast?_cons_cons] at h; exact h
    exact ⟨w.1, w.2.1, SlP.join h' w.2.2 k⟩
theorem SlP.snoc {p : List Str} {x b : Str} (h : p.getLast? = some x) (w : SlP es f dir p) (a : Adj es x b) (e : slp f x b = dir) : SlP es f dir (p ++ [b]) := w.join h ⟨a, e, trivial⟩
theorem SlP.tail {a : Str} {p : List Str} (w : SlP es f dir (a :: p)) : SlP es f dir p := by
  cases p with
  | nil => trivial
  | cons b r => exact w.2.2
theorem SlP.left : ∀ {p r : List Str}, SlP es f dir (p ++ r) → SlP es f dir p
  | [], _, _ => trivial
  | [a], _, _ => trivial
  | a :: b :: q, r, w => ⟨w.1, w.2.1, SlP.left (p := b :: q) w.2.2⟩
theorem SlP.wk : ∀ {p : List Str}, SlP es f dir p → Wk es p
  | [], _ => trivial
  | [a], _ => trivial
  | a :: b :: q, w => ⟨w.1, SlP.wk w.2.2⟩
theorem SlP.at : ∀ {p : List Str}, SlP es f dir p → ∀ i (h : i + 1 < p.length), Adj es p[i] p[i + 1] ∧ slp f p[i] p[i + 1] = dir
  | a :: b :: q, w, 0, _ => ⟨w.1, w.2.1⟩
  | a :: b :: q, w, i + 1, h => SlP.at (p := b :: q) w.2.2 i (by simpa using h)
theorem SlP.of : ∀ {p : List Str}, (∀ i (h : i + 1 < p.length), Adj es p[i] p[i + 1] ∧ slp f p[i] p[i + 1] = dir) → SlP es f dir p
  | [], _ => trivial
  | [a], _ => trivial
  | a :: b :: q, h => ⟨(h 0 (by simp)).1, (h 0 (by simp)).2, SlP.of fun i hi => h (i + 1) (by simpa using hi)⟩
theorem PathTo.slp {x y : Str} {p : List Str} (h : PathTo (nbS es) (slOk f dir) x y p) : SlP es f dir p ∧ p.head? = some x ∧ p.getLast? = some y := by
  induction h with
  | one => exact ⟨trivial, rfl, rfl⟩
  | @snoc a b p q m o ih =>
    obtain ⟨i1, i2, i3⟩ := ih
    refine ⟨i1.snoc i3 (nbS_mem.mp m) (of_decide_eq_true o), ?_, ?_⟩
    · cases p with
      | nil => cases i2
      | cons c r => exact i2
    · simp only [List.getLast?_append, List.getLast?_singleton, Option.some_or]
end
end U

/-! cheapest paths: the plain law -/
namespace U
open PySem PySem.Spec PyProof.Rows L2 PySem.W
/-- what the steps of a path cost together -/
def ctF (w : Str → Str → Nat) : List Str → Nat
  | x :: y :: r => w x y + ctF w (y :: r)
  | _ => 0
section
variable {w : Str → Str → Nat}
theorem ctF_join : ∀ {p r : List Str} {x : Str}, p.getLast? = some x → ctF w (p ++ r) = ctF w p + ctF w (x :: r)
  | [], _, _, h => nomatch h
  | [a], r, x, h => by
    have : a = x := by simpa using h
    subst this
    show _ = 0 + _
    rw [Nat.zero_add]
    rfl
  | a :: b :: q, r, x, h => by
    have h' : (b :: q).getLast? = some x := by rw [List.getLast?_cons_cons] at h; exact h
    have ih := ctF_join (p := b :: q) (r := r) h'
    show w a b + ctF w (b :: q ++ r) = w a b + ctF w (b :: q) + _
    rw [ih]
    omega
theorem ctF_snoc {p : List Str} {x o : Str} (h : p.getLast? = some x) : ctF w (p ++ [o]) = ctF w p + w x o := by
  rw [ctF_join h]
  rfl
end
/-! ### ranks -/
def dRk (c : Nat) (p : List Str) : PyData := .tuple [.int c, .int p.length, .list (p.map PyData.str)]
def rl (w : Str → Str → Nat) (p q : List Str) : Bool := dataLt (dRk (ctF w p) p) (dRk (ctF w q) q)
section
variable {w : Str → Str → Nat} {p q r : List Str}
theorem rl_irrefl : rl w p p = false := lex_irrefl _
theorem rl_less (h : ctF w p < ctF w q ∨ (ctF w p = ctF w q ∧ p.length < q.length)) : rl w p q = true := by
  unfold rl dRk
  rw [dataLt_tuple]
  rcases h with h | ⟨e, h⟩
  · rw [dataLt_all_no (by simp [alike]) (by simp [PyData.eqv]; omega), dataLt_int]
    exact decide_eq_true (by omega)
  · rw [dataLt_all_yes (by simp [alike]) (by simp [PyData.eqv]; omega), dataLt_all_no (by simp [alike]) (by simp [PyData.eqv]; omega), dataLt_int]
    exact decide_eq_true (by omega)
theorem rl_cost (h : rl w p q = false) : ctF w q ≤ ctF w p := by
  by_cases z : ctF w p < ctF w q
  · rw [rl_less (.inl z)] at h
    cases h
  · omega
end
/-! ### all arrangements -/
/-! ### the paths found -/
structure ChS (ns : List Str) (es : List (Str × Str)) (w : Str → Str → Nat) (src ks : List Str) (P : Str → List Str) (qu : List Str) (pend : Str → Str → Prop) : Prop where
  nd : ks.Nodup
  inN : ∀ x ∈ ks, x ∈ ns
  sv : ∀ x ∈ src, x ∈ ks ∧ rl w [x] (P x) = false
  wk : ∀ x ∈ ks, Wk es (P x)
  hd : ∀ x ∈ ks, ∃ s ∈ src, (P x).head? = some s
  ls : ∀ x ∈ ks, (P x).getLast? = some x
  ndp : ∀ x ∈ ks, (P x).Nodup
  pin : ∀ x ∈ ks, ∀ y ∈ P x, y ∈ ns
  pre : ∀ x ∈ ks, ∀ a r, P x = a ++ r → ∀ z, a.getLast? = some z → z ∈ ks ∧ rl w a (P z) = false
  qin : ∀ x ∈ qu, x ∈ ks
  cl : ∀ x ∈ ks, ∀ o, Adj es x o → x ∈ qu ∨ pend x o ∨ (o ∈ ks ∧ rl w (P x ++ [o]) (P o) = false)
section
variable {ns : List Str} {es : List (Str × Str)} {f : Str → Int} {w : Str → Str → Nat} {src ks : List Str} {P : Str → List Str} {qu : List Str} {pend pend' : Str → Str → Prop}
theorem ChS.start (nd : src.Nodup) (hin : ∀ x ∈ src, x ∈ ns) : ChS ns es w src src (fun x => [x]) src (fun _ _ => False) := by
  refine ⟨nd, hin, fun x hx => ⟨hx, rl_irrefl⟩, fun _ _ => trivial, fun x hx => ⟨x, hx, rfl⟩, fun _ _ => rfl, fun x _ => by simp, fun x hx y hy => ?_, fun x hx a r e z hz => ?_, fun _ h => h, fun x hx o _ => .inl hx⟩
  · rw [List.mem_singleton.mp hy]
    exact hin x hx
  · cases a with
    | nil => cases hz
    | cons b a =>
      rw [List.cons_append] at e
      obtain ⟨rfl, e2⟩ := List.cons.inj e
      obtain ⟨rfl, rfl⟩ := List.append_eq_nil_iff.mp e2.symm
      cases hz
      exact ⟨hx, rl_irrefl⟩
theorem ChS.weak (c : ChS ns es w src ks P qu pend) {qu' : List Str} {pend' : Str → Str → Prop} (hq : ∀ x ∈ qu', x ∈ ks) (h : ∀ x ∈ ks, ∀ o, Adj es x o → (x ∈ qu ∨ pend x o) → x ∈ qu' ∨ pend' x o ∨ (o ∈ ks ∧ rl w (P x ++ [o]) (P o) = false)) : ChS ns es w src ks P qu' pend' :=
  ⟨c.nd, c.inN, c.sv, c.wk, c.hd, c.ls, c.ndp, c.pin, c.pre, hq, fun x hx o a => by
    rcases c.cl x hx o a with z | z | z
    · exact h x hx o a (.inl z)
    · exact h x hx o a (.inr z)
    · exact .inr (.inr z)⟩
/-- c is what the cheapest way from src to x costs -/
structure MinC (es : List (Str × Str)) (w : Str → Str → Nat) (src : List Str) (x : Str) (c : Nat) : Prop where
  ex : ∃ q, ∃ s ∈ src, Wk es q ∧ q.head? = some s ∧ q.getLast? = some x ∧ ctF w q = c
  le : ∀ q, ∀ s ∈ src, Wk es q → q.head? = some s → q.getLast? = some x → c ≤ ctF w q
theorem MinC.uniq {x : Str} {c d : Nat} (a : MinC es w src x c) (b : MinC es w src x d) : c = d := by
  obtain ⟨q, s, hs, h1, h2, h3, h4⟩ := a.ex
  obtain ⟨q', s', hs', h1', h2', h3', h4'⟩ := b.ex
  have := a.le q' s' hs' h1' h2' h3'
  have := b.le q s hs h1 h2 h3
  omega
/-- what is found at the end -/
theorem ChS.fin (c : ChS ns es w src ks P [] (fun _ _ => False)) : (∀ x ∈ ks, MinC es w src x (ctF w (P x))) ∧ ∀ q, ∀ s ∈ src, Wk es q → q.head? = some s → ∀ x, q.getLast? = some x → x ∈ ks := by
  have key : ∀ (r : List Str) (a : Str), a ∈ ks → Wk es (a :: r) → ∀ y, (a :: r).getLast? = some y → y ∈ ks ∧ ctF w (P y) ≤ ctF w (P a) + ctF w (a :: r) := by
    intro r
    induction r with
    | nil =>
      intro a ha _ y hy
      have : a = y := by simpa using hy
      subst this
      exact ⟨ha, Nat.le_add_right _ _⟩
    | cons b r ih =>
      intro a ha wk y hy
      rw [List.getLast?_cons_cons] at hy
      rcases c.cl a ha b wk.1 with h | h | ⟨h1, h2⟩
      · cases h
      · exact h.elim
      · obtain ⟨y1, y2⟩ := ih b h1 wk.2 y hy
        have k1 := rl_cost h2
        rw [ctF_snoc (c.ls a ha)] at k1
        refine ⟨y1, ?_⟩
        show _ ≤ ctF w (P a) + (w a b + ctF w (b :: r))
        omega
  have all : ∀ q, ∀ s ∈ src, Wk es q → q.head? = some s → ∀ x, q.getLast? = some x → x ∈ ks ∧ ctF w (P x) ≤ ctF w q := fun q s hs wk hq x hx => by
    cases q with
    | nil => cases hq
    | cons a r =>
      obtain rfl : a = s := Option.some.inj hq
      obtain ⟨s1, s2⟩ := c.sv a hs
      obtain ⟨y1, y2⟩ := key r a s1 wk x hx
      have := rl_cost s2
      have e0 : ctF w [a] = 0 := rfl
      exact ⟨y1, by omega⟩
  refine ⟨fun x hx => ⟨?_, fun q s hs wk hq hl => (all q s hs wk hq x hl).2⟩, fun q s hs wk hq x hl => (all q s hs wk hq x hl).1⟩
  obtain ⟨s, hs, e⟩ := c.hd x hx
  exact ⟨P x, s, hs, c.wk x hx, e, c.ls x hx, rfl⟩
end
end U

/-! data compared by <; kvG changed at a key; append to a long list -/
namespace U
open PySem PySem.Spec PyProof.Rows L2
end U

/-! k03: _law_compute_expected, _law_shortest_paths -/
namespace Law
open PySem PySem.Spec PyProof.Rows L2 U LamX
local macro_rules | `(tactic| wtm_at "rd1") => `(tactic| first
  | with_reducible refine rd_seq ?_
  | ((with_reducible refine rd_var (v := ?vv) ?hv ?_); (case hv => exact rfl))
  | with_reducible refine rd_c ?_
  | with_reducible refine rd_cons ?_
  | with_reducible refine rd_nil ?_
  | with_reducible refine rd_op ?_
  | with_reducible refine rd_asg ?_
  | with_reducible refine rd_name ?_
  | with_reducible refine rd_c1 ?_
  | with_reducible refine rd_cb ?_
  | with_reducible refine rd_test ?_
  | with_reducible refine rd_B ?_
  | with_reducible refine rd_bl ?_
  | with_reducible refine rd_if ?_
  | with_reducible refine rd_ret ?_
  | with_reducible refine rd_drop ?_
  | with_reducible refine rd_next ?_
  | with_reducible refine rd_addI ?_
  | with_reducible refine rd_ltI ?_
  | with_reducible refine rd_eqI ?_
  | with_reducible refine rd_neI ?_
  | with_reducible refine rd_eqS ?_
  | with_reducible refine rd_neS ?_
  | with_reducible refine rd_gtI ?_
  | with_reducible refine rd_geI ?_
  | with_reducible refine rd_leI ?_
  | with_reducible refine rd_ltS ?_
  | with_reducible refine rd_subI ?_
  | ((with_reducible refine rd_modI ?hc ?_); (case hc => first | decide | omega))
  | ((with_reducible refine rd_mulI ?hc ?_); (case hc => first | exact mul_bI | exact .inl (.inr (by decide)) | exact .inl (.inl (by decide)) | exact .inl (.inr (by omega)) | exact .inl (.inl (by omega))))
  | ((with_reducible refine rd_divI ?hc ?_); (case hc => first | decide | omega))
  | ((with_reducible refine rd_powI ?hc ?_); (case hc => exact ⟨by decide, by decide, by decide⟩))
  | with_reducible refine rd_lst ?_
  | with_reducible refine rd_tup ?_
  | ((with_reducible refine rd_sz ?hv ?_); (case hv => exact rfl))
  | with_reducible refine rd_and ?_
  | with_reducible refine rd_or ?_
  | with_reducible refine rd_not ?_
  | with_reducible refine rd_andV ?_
  | with_reducible refine rd_orV ?_
  | with_reducible refine rd_notV ?_
  | with_reducible refine rd_ifE ?_
  | with_reducible refine rd_T ?_
  | with_reducible refine rd_F ?_
  | with_reducible refine rd_chain ?_
  | with_reducible refine rd_is ?_
  | with_reducible refine rd_isNot ?_
  | with_reducible refine rd_absI ?_
  | with_reducible refine rd_maxI ?_
  | with_reducible refine rd_minI ?_
  | with_reducible refine rd_intI ?_
  | with_reducible refine rd_intB ?_
  | with_reducible refine rd_sub ?_
  | with_reducible refine rd_sl ?_
  | with_reducible refine rd_noPart ?_
  | with_reducible refine rd_part ?_
  | with_reducible refine rd_exI ?_
  | with_reducible refine rd_bm ?_
  | with_reducible refine rd_bm0 ?_
  | with_reducible refine rd_un ?_
  | with_reducible refine rd_neg ?_
  | with_reducible refine rd_c2 ?_
  | with_reducible refine rd_retN ?_
  | with_reducible refine rd_break ?_
  | with_reducible refine rd_cont ?_
  | with_reducible refine rd_for ?_
  | with_reducible refine rd_rng1 ?_
  | with_reducible refine rd_rng2 ?_
  | with_reducible refine rd_iList ?_
  | with_reducible refine rd_iTup ?_
  | with_reducible refine rd_iEnum ?_
  | ((with_reducible refine rd_forR ?h0 ?h1 ?_); (case h0 => omega); (case h1 => omega))
  | with_reducible refine rd_lc ?_
  | with_reducible refine rd_gcons ?_
  | with_reducible refine rd_gnil ?_
  | with_reducible refine rd_dget ?_
  | with_reducible refine rd_dput ?_
  | with_reducible refine rd_dnew ?_
  | with_reducible refine rd_dc ?_
  | with_reducible refine rd_iItems ?_
  | with_reducible refine rd_iKeys ?_
  | with_reducible refine rd_din ?_
  | with_reducible refine rd_lc2 ?_
  | with_reducible refine rd_cd ?_
  | with_reducible refine rd_par ?_
  | with_reducible refine rd_two ?_
  | with_reducible refine rd_reprB ?_
  | with_reducible refine rd_ck ?_
  | ((with_reducible refine rd_len ?hl ?_); (case hl => exact rfl))
  | with_reducible refine rd_nT ?_
  | with_reducible refine rd_nF ?_
  | with_reducible refine rd_dnin ?_
  | with_reducible refine rd_isB ?_
  | with_reducible refine rd_isNotB ?_
  | with_reducible refine rd_daug ?_
  | with_reducible refine rd_yesT ?_
  | ((with_reducible refine rd_wp ?hw ?_); (case hw => exact rfl)))
local macro_rules | `(tactic| wtm_at "rd") => `(tactic| repeat wtm_at "rd1")

/-- a list of lists of texts, none empty -/
structure LvAt (H : Hp) (l : Addr) (cs : List (Addr × List Str)) : Prop where
  li : H l = some (.lst (cs.map fun c => V.ref c.1))
  it : ∀ c ∈ cs, H c.1 = some (.lst (c.2.map V.str))
  ne : ∀ c ∈ cs, c.2 ≠ []
theorem LvAt.same {H H' : Hp} {l : Addr} {cs : List (Addr × List Str)} (h : LvAt H l cs) (s : Same H H') : LvAt H' l cs := ⟨s _ _ h.li, fun c hc => s _ _ (h.it c hc), h.ne⟩
theorem lv_no {cs : List (Addr × List Str)} {q : List Str} (n : q ≠ []) : (cs.map fun c => V.ref c.1) ≠ q.map V.str := fun e => by
  cases q with
  | nil => exact n rfl
  | cons z r =>
    cases cs with
    | nil => cases e
    | cons c r2 => exact nomatch (List.cons.inj e).1
theorem LvAt.off {H : Hp} {l D : Addr} {cs ds : List (Addr × List Str)} {o : HO} (h : LvAt H l cs) (hD : H D = some (.lst (ds.map fun c => V.ref c.1))) (n : l ≠ D) : LvAt (upd H D o) l cs :=
  ⟨at_upd n h.li, fun c hc => at_upd (ne_of (h.it c hc) hD fun z => lv_no (h.ne c hc) (HO.lst.inj z).symm) (h.it c hc), h.ne⟩
theorem LvAt.add {H : Hp} {l t : Addr} {cs : List (Addr × List Str)} {q : List Str} (h : LvAt H l cs) (ht : H t = some (.lst (q.map V.str))) (n : q ≠ []) : LvAt (upd H l (.lst ((cs.map fun c => V.ref c.1) ++ [.ref t]))) l (cs ++ [(t, q)]) := by
  refine ⟨by rw [upd_same, List.map_append]; rfl, fun c hc => ?_, fun c hc => ?_⟩
  · rcases List.mem_append.mp hc with hc | hc
    · exact at_upd (ne_of (h.it c hc) h.li fun z => lv_no (h.ne c hc) (HO.lst.inj z).symm) (h.it c hc)
    · rw [List.mem_singleton.mp hc]
      exact at_upd (ne_of ht h.li fun z => lv_no n (HO.lst.inj z).symm) ht
  · rcases List.mem_append.mp hc with hc | hc
    · exact h.ne c hc
    · rw [List.mem_singleton.mp hc]
      exact n
theorem LvAt.dict {H : Hp} {l d : Addr} {cs : List (Addr × List Str)} {kvs kvs' : List (Key × V)} (h : LvAt H l cs) (hd : H d = some (.dK kvs)) : LvAt (upd H d (.dK kvs')) l cs :=
  ⟨at_upd (ne_of h.li hd fun z => nomatch z) h.li, fun c hc => at_upd (ne_of (h.it c hc) hd fun z => nomatch z) (h.it c hc), h.ne⟩
theorem PathsAt.offR {H : Hp} {d q : Addr} {kp : List (Str × List Str)} {A : Str → Addr} {ds : List (Addr × List Str)} {o : HO} (h : PathsAt H d kp A) (hq : H q = some (.lst (ds.map fun c => V.ref c.1))) (ne : ∀ c ∈ kp, c.2 ≠ []) : PathsAt (upd H q o) d kp A :=
  ⟨at_upd (ne_of h.di hq fun z => nomatch z) h.di, fun c hc => at_upd (ne_of (h.li c hc) hq fun z => lv_no (ne c hc) (HO.lst.inj z).symm) (h.li c hc)⟩
def spShp : Sp := fun vs H Q _ => ∃ (g n e : Addr) (x : Str) (ns : List Str) (es : List (Addr × Str × Str)), vs = [.ref g, .str x] ∧ GrS H g n e ns es ∧ x ∈ ns ∧
  ∀ (d : Addr) (A : Str → Addr) (H' : Hp), Same H H' → PathsAt H' d (ptF (es.map (·.2)) x) A → Q (.ref d) H'
section
variable {P : Program} {w : World} {K : PySem.W.Frag} {mg : Str → Option Value} {base : Heap}
structure KBa (P : Program) (w : World) (K : PySem.W.Frag) (mg : Str → Option Value) (base : Heap) : Prop where
  _law_neighbors_of : Cal P w K mg base CX0 1 "_law_neighbors_of" spNbr
theorem ok_exp3 {f : Addr} {fd : FuncData} (F : Fun K "_law_compute_expected" "_law_compute_expected" s__law_compute_expected f fd) (B : Bt mg) (C : KBa P w K mg base) : FnG P w K mg base CX0 2 f fd ["_law_graph", "_law_candidate"] (spCkR K) := by
  refine fnG0 F sc__law_compute_expected (fun vs H Q E h => ?_) (fun cdv A outer s H vs Q E hr h => ?_)
  · obtain ⟨g, n, e, v, o, ns, es, rfl, _⟩ := h
    rfl
  · obtain ⟨g, n, e, v, oc, ns, es, rfl, gs, an, q⟩ := h
    have nd := sc__law_compute_expected.nd
    have hu := hr.u1
    refine ⟨_, (pss_cons (ps_if (PW.pt (pw_or (pt_not (pt_val (pe_callB (kIsi K rfl) (by rfl) B.isinstance bb_isinstance (pa_cons (pv 1) (pa_cons (pe_ty rfl B.list bb_list) pa_nil))))) (pw_or1 (pt_not (pt_chain uLe uLe pe_int (pe_callB (kLen K rfl) (by rfl) B.len bb_len (pa_cons (pv 1) pa_nil)) pe_int))))) (pss_one (ps_ret (pe_tup (pa_cons pe_non pa_nil)))) pss_nil)
  (pss_cons (ps_for PassesOwn.never rfl (pi_enum (by rfl) B.enumerate (pa_cons (pv 1) pa_nil)) (kg_tup (n := 2) K rfl rfl (pgs_cons (pg_name (i := 2) nd rfl (by first | exact Or.inl rfl | exact Or.inr rfl)) (pgs_cons (pg_name (i := 3) nd rfl (by first | exact Or.inl rfl | exact Or.inr rfl)) pgs_nil))) (pss_cons (ps_if (PW.pt (pw_or (pt_not (pt_val (pe_callB (kIsi K rfl) (by rfl) B.isinstance bb_isinstance (pa_cons (pv 3) (pa_cons (pe_ty rfl B.str bb_str) pa_nil))))) (pw_or1 (pt_cmpR (kNotIn K rfl) (pv 3) (pe_ix (kIx K rfl) (pv 0) pe_int (fun _ _ => rfl)) rfl)))) (pss_one (ps_ret (pe_tup (pa_cons (pv 2) pa_nil)))) pss_nil)
  (pss_one (ps_if (PW.pt (pw_and (pt_cmpR uGt (pv 2) pe_int (nomark _)) (pw_and1 (pt_cmpR (kNotIn K rfl) (pv 3) (pe_c C._law_neighbors_of hr (by decide) rfl (pa_cons (pv 0) (pa_cons (pe_ix (kIx K rfl) (pv 1) (pe_op uSub (pv 2) pe_int) (fun _ _ => rfl)) pa_nil))) rfl)))) (pss_one (ps_ret (pe_tup (pa_cons (pv 2) pa_nil)))) pss_nil))))
  (pss_one (ps_ret pe_str)))), ?_⟩
    wtm_at "rd"
    cases an with
    | odd ty nl =>
      refine rd_isi ty (t := .lst) (by decide +kernel) ?_
      rw [nl]
      wtm_at "rd"
      intro t ft
      exact q _ _ (Same.new ft) ⟨t, rfl, upd_same⟩
    | @lst pl us os hpl ul els =>
    refine rd_isi (ty_seqLD hpl) (t := .lst) (by decide +kernel) ?_
    rw [show isT Ty.lst Ty.lst = true from rfl]
    wtm_at "rd"
    refine rd_lenL hpl ?_
    wtm_at "rd"
    refine rd_split (fun c1 => ?_) (fun c1 => ?_)
    · wtm_at "rd"
      refine rd_nsplit (fun c2 => ?_) (fun c2 => ?_)
      · have ck : ckF ns (es.map (·.2)) (some os) = some none := by
          exact if_neg (by omega)
        rw [ck] at q
        wtm_at "rd"
        intro t ft
        exact q _ _ (Same.new ft) ⟨t, rfl, upd_same⟩
      have ck : ckF ns (es.map (·.2)) (some os) = (badF ns (es.map (·.2)) none os 0).map some := by
        exact if_pos (by omega)
      rw [ck] at q
      wtm_at "rd"
      refine rd_forE hpl ?_
      refine turnsW (walk_enum (K := K) (a := pl) (xs := us)) (fun i σ H' => (∃ u2 u3 : Option V, σ = [some (.ref g), some (.ref pl), u2, u3]) ∧ Same H H' ∧ ∃ pr : Option Str, badF ns (es.map (·.2)) none os 0 = badF ns (es.map (·.2)) pr (os.drop i) i ∧ ((i = 0 ∧ pr = none) ∨ ∃ j y, i = j + 1 ∧ pr = some y ∧ y ∈ ns ∧ us[j]? = some (.str y))) ⟨⟨_, _, rfl⟩, (fun b o h => h), none, rfl, .inl ⟨rfl, rfl⟩⟩ ?_ ?_ ?_
      · rintro i σ H' hi ⟨_, s, _⟩
        exact Same.seqLD s hpl
      · rintro i y σ H3 H4 hi ⟨⟨u2, u3, rfl⟩, s, pr, eb, alt⟩ ⟨T1, x1, y1, rfl, fT, rfl, e1, e2⟩
        have hx := Option.some.inj e1
        subst hx
        have e2 : us[i]? = some y1 := e2
        have hd : i < os.length := by omega
        have eo : os[i]? = some os[i] := List.getElem?_eq_getElem hd
        have s1 := s.trans (Same.new (o := .tup [.int (i : Int), y1]) fT)
        have hT := @upd_same H3 T1 (.tup [.int (i : Int), y1])
        generalize upd H3 T1 (.tup [.int (i : Int), y1]) = H5 at s1 hT
        have gs5 := gs.same s1
        have el := ElP.same (els i y1 _ e2 eo) s1
        have dr : os.drop i = os[i] :: os.drop (i + 1) := List.drop_eq_getElem_cons hd
        rw [dr] at eb
        generalize os[i] = o at *
        have fin : badF ns (es.map (·.2)) none os 0 = some i → ∀ {H6 : Hp}, Same H H6 → ∀ t, H6 t = none → Q (.ref t) (upd H6 t (.tup [.int (i : Int)])) := fun h {H6} s6 t ft => by
          refine q _ _ (s6.trans (Same.new ft)) ?_
          rw [h]
          exact ⟨t, rfl, upd_same⟩
        refine rd_unp (SqT.of hT) rfl ?_
        wtm_at "rd"
        cases o with
        | none =>
          obtain ⟨t, ty5, nst⟩ := el
          refine rd_isi ty5 (t := .str) (by decide +kernel) ?_
          rw [nst]
          wtm_at "rd"
          exact fin (by rw [eb, badF]) s1
        | some z =>
        have el : y1 = .str z := el
        subst el
        have bad : stepOk ns (es.map (·.2)) pr z = false → badF ns (es.map (·.2)) none os 0 = some i := fun h => by
          rw [eb, badF, if_neg (by rw [h]; exact Bool.false_ne_true)]
        refine rd_isi ty_str (t := .str) (by decide +kernel) ?_
        rw [show isT Ty.str Ty.str = true from rfl]
        wtm_at "rd"
        refine rd_ixT (SqT.of gs5.gr.top) (v := .ref n) rfl ?_
        refine rd_ninST (SqT.of gs5.gr.nodes) ?_
        by_cases zin : z ∈ ns
        · have good : stepOk ns (es.map (·.2)) pr z = true → badF ns (es.map (·.2)) none os 0 = badF ns (es.map (·.2)) (some z) (os.drop (i + 1)) (i + 1) := fun h => by
            rw [eb, badF, if_pos h]
          rw [decide_eq_true zin]
          wtm_at "rd"
          refine rd_split (fun c3 => ?_) (fun c3 => ?_)
          · obtain ⟨j, a, rfl, rfl, yin, uj⟩ : ∃ j y, i = j + 1 ∧ pr = some y ∧ y ∈ ns ∧ us[j]? = some (.str y) := by
              rcases alt with ⟨h, _⟩ | h
              · omega
              · exact h
            wtm_at "rd"
            refine rd_ixL (Same.seqLD s1 hpl) (v := .str a) (by
              rw [show (((j + 1 : Nat) : Int)) - 1 = ((j : Nat) : Int) from by omega]
              exact atI_nat uj) ?_
            wtm_at "rd"
            refine ⟨g, n, e, a, ns, es, rfl, gs5.gr, by have := gs.l3; omega, fun l7 ys H7 s7 fl7 hl7 py sy => ?_⟩
            obtain rfl : ys = nbS (es.map (·.2)) a := nbS_of gs.ok py sy
            have s6 := s1.trans s7
            refine rd_ninSL (SqL.of hl7) ?_
            wtm_at "rd"
            refine rd_nsplit (fun c2 => ?_) (fun c2 => ?_)
            · wtm_at "rd"
              refine fin (bad ?_) s6
              unfold stepOk
              rw [decide_eq_true zin, Bool.true_and]
              exact decide_eq_false c2
            · wtm_at "rd"
              refine ⟨⟨_, _, rfl⟩, s6, some z, good ?_, .inr ⟨_, z, rfl, rfl, zin, e2⟩⟩
              unfold stepOk
              rw [decide_eq_true zin, Bool.true_and]
              exact decide_eq_true c2
          · obtain ⟨rfl, rfl⟩ : i = 0 ∧ pr = none := by
              rcases alt with h | ⟨j, _, h, _⟩
              · exact h
              · omega
            wtm_at "rd"
            refine ⟨⟨_, _, rfl⟩, s1, some z, good ?_, .inr ⟨0, z, rfl, rfl, zin, e2⟩⟩
            unfold stepOk
            rw [decide_eq_true zin]
            rfl
        · rw [decide_eq_false zin]
          wtm_at "rd"
          refine fin (bad ?_) s1
          unfold stepOk
          rw [decide_eq_false zin]
          rfl
      · rintro σ H' ⟨⟨u2, u3, rfl⟩, s, pr, eb, _⟩
        wtm_at "rd"
        refine q _ H' s ?_
        rw [eb, List.drop_eq_nil_of_le (by omega), badF]
        rfl
    · have ck : ckF ns (es.map (·.2)) (some os) = some none := by
        exact if_neg (by omega)
      rw [ck] at q
      wtm_at "rd"
      intro t ft
      exact q _ _ (Same.new ft) ⟨t, rfl, upd_same⟩
/-- all steps are allowed -/
abbrev okA : Str → Str → Bool := fun _ _ => true
theorem ok_shp {f : Addr} {fd : FuncData} (F : Fun K "_law_shortest_paths" "_law_shortest_paths" s__law_shortest_paths f fd) (B : Bt mg) (C : KBa P w K mg base) : FnG P w K mg base CX0 2 f fd ["_law_graph", "_law_node"] spShp := by
  refine fnG0 F sc__law_shortest_paths (fun vs H Q E h => ?_) (fun cdv A outer s H vs Q E hr h => ?_)
  · obtain ⟨g, n, e, x, ns, es, rfl, _⟩ := h
    rfl
  · obtain ⟨g, n, e, x, ns, es, rfl, gs, hx, q⟩ := h
    have nd := sc__law_shortest_paths.nd
    have hu := hr.u1
    refine ⟨_, (pss_cons (ps_set (i := 2) nd rfl (by first | exact Or.inl rfl | exact Or.inr rfl) pe_dnewK)
  (pss_cons (ps_dput hu (pv 2) (pv 1) (pe_lst (pa_cons (pv 1) pa_nil)) rfl)
  (pss_cons (ps_set (i := 3) nd rfl (by first | exact Or.inl rfl | exact Or.inr rfl) (pe_lst (pa_cons (pe_lst (pa_cons (pv 1) pa_nil)) pa_nil)))
  (pss_cons (ps_while PassesOwn.never (pt_cmpR (kNe K rfl hr.u64) (pv 3) (pe_lst pa_nil) (nomark _)) (pss_cons (ps_set (i := 4) nd rfl (by first | exact Or.inl rfl | exact Or.inr rfl) (pe_lst pa_nil))
  (pss_cons (ps_for PassesOwn.never rfl (ki_list K rfl (pv 3)) (pg_name (i := 5) nd rfl (by first | exact Or.inl rfl | exact Or.inr rfl)) (pss_one (ps_set (i := 4) nd rfl (by first | exact Or.inl rfl | exact Or.inr rfl) (pe_op (kAdd K rfl) (pv 4) (pe_lc (own := [("_law_other", 6)]) rfl nd (ki_list K rfl (pe_c C._law_neighbors_of hr (by decide) rfl (pa_cons (pv 0) (pa_cons (pe_ix (kIx K rfl) (pv 5) (pe_un un_neg pe_int) (fun _ _ => rfl)) pa_nil)))) (blkOk_by (own := [("_law_other", 6)]) (N := nN__law_shortest_paths) (sc := defScope s__law_shortest_paths) (by decide +kernel)) (fun _ _ _ _ _ => (pg_name (i := 6) nd rfl (by first | exact Or.inl rfl | exact Or.inr rfl))) (fun _ _ _ _ _ => (pts_one (pt_cmp (pc_dnotin hu (pv 6) (pv 2))))) (fun _ _ _ _ _ => (pe_op (kAdd K rfl) (pv 5) (pe_lst (pa_cons (pv 6) pa_nil)))))))))
  (pss_cons (ps_set (i := 3) nd rfl (by first | exact Or.inl rfl | exact Or.inr rfl) (pe_lst pa_nil))
  (pss_one (ps_for PassesOwn.never rfl (ki_list K rfl (pe_callB (kSortLL K rfl hr.u64) (by rfl) B.sorted bb_sorted (pa_cons (pv 4) pa_nil))) (pg_name (i := 5) nd rfl (by first | exact Or.inl rfl | exact Or.inr rfl)) (pss_one (ps_if (pt_cmp (pc_dnotin hu (pe_ix (kIx K rfl) (pv 5) (pe_un un_neg pe_int) (fun _ _ => rfl)) (pv 2))) (pss_cons (ps_dput hu (pv 2) (pe_ix (kIx K rfl) (pv 5) (pe_un un_neg pe_int) (fun _ _ => rfl)) (pv 5) rfl)
  (pss_one (ps_expr (pe_bm PySem.F.plainAttrs_list PySem.F.slot_list_append PySem.F.type_list_append mt_append (pv 3) (pa_cons (pv 5) pa_nil))))) pss_nil))))))))
  (pss_one (ps_ret (pv 2))))))), ?_⟩
    have l2 := gs.l2
    have cl : ∀ a ∈ ns, ∀ b ∈ nbS (es.map (·.2)) a, b ∈ ns := fun a _ b hb => nbS_in gs.ok hb
    have asc := nbS_lt gs.ok
    have nbl := nbS_len gs.ok
    have dn : ∀ {i k : Nat} {A : List (Str × List Str)}, Lev (nbS (es.map (·.2))) okA x i k A [] → i ≤ 1000 → A = ptF (es.map (·.2)) x := fun a b => a.done b
    generalize ptF (es.map (·.2)) x = kp at *
    have sH : Same H H := fun b o h => h
    wtm_at "rd"
    intro d fd
    have s1 := same_add (o := .dK []) sH fd
    have hd := @upd_same H d (.dK [])
    generalize upd H d (.dK []) = H1 at *
    wtm_at "rd"
    intro a0 fa0
    have s2 := same_add (o := .lst [.str x]) s1 fa0
    have hd := at_upd (o := .lst [.str x]) (ne_of_none hd fa0) hd
    have ha0 := @upd_same H1 a0 (.lst [.str x])
    generalize upd H1 a0 (.lst [.str x]) = H2 at *
    wtm_at "rd"
    refine rd_dset hd (k := .inr x) rfl (by decide) ?_
    have s3 := same_put (o := .dK (putK [] (.inr x) (.ref a0))) s2 fd
    have pa0 : PathsAt (upd H2 d (.dK (putK [] (.inr x) (.ref a0)))) d [(x, [x])] (fun _ => a0) := ⟨upd_same, fun c hc => by
      rw [List.mem_singleton.mp hc]
      exact at_upd (ne_of ha0 hd fun z => nomatch z) ha0⟩
    generalize upd H2 d (.dK (putK [] (.inr x) (.ref a0))) = H2' at *
    wtm_at "rd"
    intro b0 fb0
    have s3 := same_add (o := .lst [.str x]) s3 fb0
    have pa0 := pa0.same (Same.new (o := .lst [.str x]) fb0)
    have hb0 := @upd_same H2' b0 (.lst [.str x])
    generalize upd H2' b0 (.lst [.str x]) = H2a at *
    wtm_at "rd"
    intro l0 fl0
    have s3 := same_add (o := .lst [.ref b0]) s3 fl0
    have pa0 := pa0.same (Same.new (o := .lst [.ref b0]) fl0)
    have hb0 := at_upd (o := .lst [.ref b0]) (ne_of_none hb0 fl0) hb0
    have hl0 := @upd_same H2a l0 (.lst [.ref b0])
    generalize upd H2a l0 (.lst [.ref b0]) = H3 at *
    clear ha0 hd s2 s1 fa0 fb0
    wtm_at "rd"
    refine ⟨fun m σ H' => ∃ (i k : Nat) (A L : List (Str × List Str)) (lv : List (Addr × List Str)) (l : Addr) (Af : Str → Addr) (u4 u5 u6 : Option V), m = ns.length + 1 - i ∧ Lev (nbS (es.map (·.2))) okA x i k A L ∧ σ = [some (.ref g), some (.str x), some (.ref d), some (.ref l), u4, u5, u6] ∧ Same H H' ∧ PathsAt H' d (A ++ L) Af ∧ LvAt H' l lv ∧ lv.map (·.2) = L.map (·.2),
      ⟨_, 0, 1, [], [(x, [x])], [(b0, [x])], l0, fun _ => a0, _, _, _, rfl, Lev.start, rfl, s3, pa0, ⟨hl0, fun c hc => by rw [List.mem_singleton.mp hc]; exact hb0, fun c hc => by rw [List.mem_singleton.mp hc]; exact fun z => nomatch z⟩, rfl⟩, ?_⟩
    rintro m σ H1 ⟨i, k, A, L, lv, l, Af, u4, u5, u6, rfl, lev, rfl, s, pa, lvA, em⟩
    have stn := stF_len (ok := okA) cl hx i
    have hin : ∀ c ∈ A ++ L, c.1 ∈ ns := fun c hc => reach_mem cl hx (stF_reach (i := i) (by rw [lev.st]; exact List.mem_map_of_mem hc))
    have ndk : (keysF (A ++ L)).Nodup := by
      rw [← lev.st]
      exact stF_nodup i
    rw [lev.st, List.length_append, lev.hi] at stn
    have elen : lv.length = L.length := by
      have := congrArg List.length em
      rwa [List.length_map, List.length_map] at this
    have lvin : ∀ c ∈ lv, ∀ y ∈ c.2, PyData.strOk y = true := fun c hc y hy => by
      have : c.2 ∈ L.map (·.2) := by
        rw [← em]
        exact List.mem_map_of_mem hc
      obtain ⟨w, hw, ew⟩ := List.mem_map.mp this
      rw [← ew] at hy
      exact (gs.ok.names.ok y (path_mem cl hx (stF_path i w (by rw [lev.st]; exact List.mem_append_right _ hw)) y hy)).sok
    wtm_at "rd"
    intro z fz
    have kz := Same.new (o := .lst []) fz
    have hz := @upd_same H1 z (.lst [])
    have s := s.trans kz
    have pa := pa.same kz
    have lvA := lvA.same kz
    generalize upd H1 z (.lst []) = H2 at *
    clear kz fz
    obtain ⟨can, dep⟩ := can_lls (cs := lv.map (·.2)) fun c hc => by
      obtain ⟨c', h1, rfl⟩ := List.mem_map.mp hc
      exact lvin c' h1
    refine rd_neNilD (SqL.of lvA.li) (dp_lls lvA.it) (SqL.of hz) can (by omega) ?_
    clear can dep lvin hz
    wtm_at "rd"
    refine rd_b (fun c0 => ?_) (fun c0 => ?_)
    rotate_left
    · -- no level is left
      have Ln : L = [] := by
        have : lv.isEmpty = true := by simpa using c0
        rw [List.isEmpty_iff.mp this] at elen
        exact List.length_eq_zero_iff.mp elen.symm
      subst Ln
      obtain rfl := dn lev (by omega)
      wtm_at "rd"
      refine q d Af _ s ?_
      rw [List.append_nil] at pa
      exact pa
    have L0 : L ≠ [] := fun z => by
      rw [z] at elen
      have : lv = [] := List.length_eq_zero_iff.mp elen
      rw [this] at c0
      simp at c0
    have Lp : 0 < L.length := by
      cases L with
      | nil => exact absurd rfl L0
      | cons _ _ => simp
    have afold := addN_app (X := A ++ L) (Y := []) (l := longF (nbS (es.map (·.2))) okA (keysF (A ++ L)) L) fun c hc => by
      obtain ⟨_, _, _, _, n, _⟩ := long_mem hc
      exact n
    refine ⟨fun σ' H' => ∃ (lv' : List (Addr × List Str)) (l' : Addr) (Af' : Str → Addr) (u4 u5 u6 : Option V), σ' = [some (.ref g), some (.str x), some (.ref d), some (.ref l'), u4, u5, u6] ∧ Same H H' ∧ PathsAt H' d ((A ++ L) ++ (longF (nbS (es.map (·.2))) okA (keysF (A ++ L)) L).foldl addN []) Af' ∧ LvAt H' l' lv' ∧ lv'.map (·.2) = ((longF (nbS (es.map (·.2))) okA (keysF (A ++ L)) L).foldl addN []).map (·.2),
      fun σ' H' ⟨lv', l', Af', u4, u5, u6, h1, h2, h3, h4, h5⟩ => ⟨ns.length + 1 - (i + L.length), by omega, i + L.length, k + 1, A ++ L, _, lv', l', Af', u4, u5, u6, rfl, lev.next asc, h1, h2, h3, h4, h5⟩, ?_⟩
    have lg := lev.long asc
    have lgl := long_len (adj := nbS (es.map (·.2))) (ok := okA) (F := keysF (A ++ L)) (L := L) (m := 100) fun c _ => Nat.le_trans (nbl _) l2
    have pne : ∀ c ∈ A ++ L, c.2 ≠ [] := fun c hc => path_ne (stF_path (ok := okA) (adj := nbS (es.map (·.2))) (root := x) i c (by rw [lev.st]; exact hc))
    have pin : ∀ c ∈ A ++ L, ∀ y ∈ c.2, y ∈ ns := fun c hc => path_mem cl hx (stF_path (ok := okA) (adj := nbS (es.map (·.2))) (root := x) i c (by rw [lev.st]; exact hc))
    have plen : ∀ c ∈ A ++ L, c.2.length ≤ i + 1 := fun c hc => stF_plen (ok := okA) (adj := nbS (es.map (·.2))) (root := x) i c (by rw [lev.st]; exact hc)
    have Lla := lev.la
    have eL : ∀ j (h : j < lv.length) (h2 : j < L.length), lv[j].2 = L[j].2 := fun j h h2 => by
      have : (lv.map (·.2))[j]? = (L.map (·.2))[j]? := by rw [em]
      rw [List.getElem?_map, List.getElem?_map, List.getElem?_eq_getElem h, List.getElem?_eq_getElem h2] at this
      exact Option.some.inj this
    have lfin : ∀ w ∈ longF (nbS (es.map (·.2))) okA (keysF (A ++ L)) L, w.2.length ≤ i + 2 ∧ (∀ y ∈ w.2, y ∈ ns) ∧ w.1 ∉ keysF (A ++ L) := fun w hw => by
      obtain ⟨c, hc, h1, _, h3, e⟩ := long_mem hw
      have hc := List.mem_append_right A hc
      rw [e]
      refine ⟨by rw [List.length_append, List.length_singleton]; have := plen c hc; omega, fun y hy => ?_, h3⟩
      rcases List.mem_append.mp hy with hy | hy
      · exact pin c hc y hy
      · rw [List.mem_singleton.mp hy]
        exact cl _ (hin c hc) _ h1
    have lfla : ∀ w ∈ longF (nbS (es.map (·.2))) okA (keysF (A ++ L)) L, w.2.getLast? = some w.1 := fun w hw => long_last hw
    have l100 : L.length ≤ 100 := by omega
    have hAL : A.length + L.length ≤ 100 := by
      have := lev.hi
      omega
    clear lev afold
    wtm_at "rd"
    intro D1 fD1
    have kD := Same.new (o := .lst []) fD1
    have s := s.trans kD
    have pa := pa.same kD
    have lvA := lvA.same kD
    have hD1 := @upd_same H2 D1 (.lst [])
    generalize upd H2 D1 (.lst []) = H3 at *
    clear kD
    wtm_at "rd"
    refine rd_forL (SqL.of lvA.li) ?_
    have lo0 : LvAt H3 D1 [] := ⟨hD1, (fun c h => nomatch h), fun c h => nomatch h⟩
    refine turnsL (K := K) (xs := lv.map fun c => V.ref c.1) (fun j σ H' => ∃ (lo : List (Addr × List Str)) (l2 : Addr) (u5 u6 : Option V), σ = [some (.ref g), some (.str x), some (.ref d), some (.ref l), some (.ref l2), u5, u6] ∧ Same H H' ∧ PathsAt H' d (A ++ L) Af ∧ LvAt H' l lv ∧ LvAt H' l2 lo ∧ lo.map (·.2) = (longF (nbS (es.map (·.2))) okA (keysF (A ++ L)) (L.take j)).map (·.2)) ⟨[], D1, _, _, rfl, s, pa, lvA, lo0, rfl⟩ ?_ ?_ ?_
    · rintro j σ H' hj ⟨_, _, _, _, rfl, _, _, lvA, _⟩
      exact SqL.of lvA.li
    · rintro j y σ H' hy ⟨lo, lA, u5, u6, rfl, s, pa, lvA, loA, em1⟩
      obtain ⟨hj, rfl⟩ : ∃ h : j < lv.length, y = .ref lv[j].1 := by
        have h := (List.getElem?_eq_some_iff.mp hy).1
        rw [List.length_map] at h
        rw [List.getElem?_map, List.getElem?_eq_getElem h] at hy
        exact ⟨h, (Option.some.inj hy).symm⟩
      have hjL : j < L.length := by omega
      have hcv := List.getElem_mem hj
      have ecv := eL j hj hjL
      have hcm := List.mem_append_right A (List.getElem_mem hjL)
      have la := Lla _ (List.getElem_mem hjL)
      have cn := hin _ hcm
      have cpl := plen _ hcm
      have lsn := long_snoc (adj := nbS (es.map (·.2))) (ok := okA) (F := keysF (A ++ L)) (L := L.take j) (c := L[j])
      rw [← take_snoc hjL] at lsn
      have lol : lo.length ≤ 10000 := by
        have h1 := congrArg List.length em1
        rw [List.length_map, List.length_map] at h1
        rw [h1]
        refine Nat.le_trans (long_len (m := 100) fun c _ => Nat.le_trans (nbl _) l2) ?_
        rw [List.length_take]
        have : min j L.length * 100 ≤ 100 * 100 := Nat.mul_le_mul (by omega) (Nat.le_refl _)
        omega
      rw [lsn, List.map_append, ← em1]
      clear lsn
      generalize L[j] = c at *
      have hc := lvA.it _ hcv
      rw [ecv] at hc
      generalize lv[j].1 = ca at *
      wtm_at "rd"
      refine rd_ixL (SqL.of hc) (at_last la) ?_
      wtm_at "rd"
      refine ⟨g, n, e, c.1, ns, es, rfl, (gs.same s).gr, by have := gs.l3; omega, fun l7 ys H7 s7 fl7 hl7 py sy => ?_⟩
      obtain rfl : ys = nbS (es.map (·.2)) c.1 := nbS_of gs.ok py sy
      have osl : (nbS (es.map (·.2)) c.1).length ≤ 100 := Nat.le_trans (nbl _) l2
      clear py sy
      generalize nbS (es.map (·.2)) c.1 = os at *
      have s := s.trans s7
      have pa := pa.same s7
      have lvA := lvA.same s7
      have loA := loA.same s7
      have hc := s7 _ _ hc
      refine rd_forL (SqL.of hl7) ?_
      intro D2 fD2
      refine lcL (K := K) (xs := os.map V.str) (fun k H' => ∃ items : List (Addr × List Str), Same H7 H' ∧ LvAt H' D2 items ∧ items.map (·.2) = (((os.take k).filter fun o => okA c.1 o && !decide (o ∈ keysF (A ++ L))).map fun o => (o, c.2 ++ [o])).map (·.2)) ⟨[], Same.new fD2, ⟨upd_same, (fun i h => nomatch h), fun i h => nomatch h⟩, rfl⟩ ?_ ?_ ?_
      · rintro k H' hk ⟨items, sb, _⟩
        exact SqL.of (sb _ _ hl7)
      · rintro k y H' hy ⟨items, sb, lvD, im⟩
        obtain ⟨hk, rfl⟩ := map_at hy
        have il : items.length ≤ 1000 := by
          have h1 := congrArg List.length im
          rw [List.length_map, List.length_map, List.length_map] at h1
          have := List.length_filter_le (fun o => okA c.1 o && !decide (o ∈ keysF (A ++ L))) (os.take k)
          rw [List.length_take] at this
          omega
        rw [take_snoc hk, List.filter_append, List.map_append, List.map_append, ← im]
        generalize os[k] = o at *
        wtm_at "rd"
        refine rd_din1 (.inl (sb _ _ pa.di)) (k := .inr o) rfl ?_
        by_cases mo : o ∈ keysF (A ++ L)
        · rw [kvG_val mo]
          refine ⟨false, rfl, ?_⟩
          wtm_at "rd"
          refine ⟨items, sb, lvD, ?_⟩
          rw [List.filter_cons, if_neg (by rw [decide_eq_true mo]; exact Bool.false_ne_true), List.filter_nil, List.map_nil, List.map_nil, List.append_nil]
        · rw [kvG_none mo]
          refine ⟨true, rfl, ?_⟩
          wtm_at "rd"
          intro t1 ft1
          have k1 := Same.new (o := .lst [.str o]) ft1
          have ht1 := @upd_same H' t1 (.lst [.str o])
          have hc := k1 _ _ (sb _ _ hc)
          have lvD := lvD.same k1
          generalize upd H' t1 (.lst [.str o]) = H8 at *
          refine rd_catL hc ht1 (by rw [List.length_map]; show _ + 1 ≤ 100000; omega) ?_
          intro t2 ft2
          have k2 := Same.new (o := .lst (c.2.map V.str ++ [.str o])) ft2
          have ht2 : (upd H8 t2 (.lst (c.2.map V.str ++ [.str o]))) t2 = some (.lst ((c.2 ++ [o]).map V.str)) := by
            rw [upd_same, List.map_append]
            rfl
          have k12 := k1.trans k2
          have lvD := lvD.same k2
          generalize upd H8 t2 (.lst (c.2.map V.str ++ [.str o])) = H9 at *
          refine rd_acc lvD.li (by rw [List.length_map]; omega) ?_
          refine ⟨items ++ [(t2, c.2 ++ [o])], same_put (sb.trans k12) fD2, lvD.add ht2 (by simp), ?_⟩
          rw [List.map_append, List.filter_cons, if_pos (by rw [decide_eq_false mo]; rfl)]
          rfl
      rintro H4 ⟨items, s4, lvD, im⟩
      rw [List.length_map, List.take_length] at im
      have il : items.length ≤ 1000 := by
        have h1 := congrArg List.length im
        rw [List.length_map, List.length_map, List.length_map] at h1
        have := List.length_filter_le (fun o => okA c.1 o && !decide (o ∈ keysF (A ++ L))) os
        omega
      have s := s.trans s4
      have pa := pa.same s4
      have lvA := lvA.same s4
      have loA := loA.same s4
      refine rd_catL loA.li lvD.li (by rw [List.length_map, List.length_map]; omega) ?_
      intro l2 fl2
      have k2 := Same.new (o := .lst ((lo.map fun c => V.ref c.1) ++ items.map fun c => V.ref c.1)) fl2
      have lo2 : LvAt (upd H4 l2 (.lst ((lo.map fun c => V.ref c.1) ++ items.map fun c => V.ref c.1))) l2 (lo ++ items) := ⟨by rw [upd_same, List.map_append], fun c hc => (List.mem_append.mp hc).elim (fun h => k2 _ _ (loA.it c h)) (fun h => k2 _ _ (lvD.it c h)), fun c hc => (List.mem_append.mp hc).elim (fun h => loA.ne c h) fun h => lvD.ne c h⟩
      wtm_at "rd"
      exact ⟨lo ++ items, l2, _, _, rfl, s.trans k2, pa.same k2, lvA.same k2, lo2, by rw [List.map_append, im]⟩
    rintro σ H5 ⟨lo, lA, u5, u6, rfl, s, pa, lvA, loA, em1⟩
    rw [List.length_map, elen, List.take_length] at em1
    clear lvA lo0 hD1 fD1 Lla eL plen pin elen em
    have noK : ∀ w ∈ longF (nbS (es.map (·.2))) okA (keysF (A ++ L)) L, w.1 ∉ keysF (A ++ L) := fun w hw => (lfin w hw).2.2
    generalize longF (nbS (es.map (·.2))) okA (keysF (A ++ L)) L = lf at *
    have lol : lo.length = lf.length := by
      have := congrArg List.length em1
      rwa [List.length_map, List.length_map] at this
    have lfl : lf.length ≤ 10000 := Nat.le_trans lgl (by have : L.length * 100 ≤ 100 * 100 := Nat.mul_le_mul l100 (Nat.le_refl _); omega)
    wtm_at "rd"
    intro D2 fD2
    have k2 := Same.new (o := .lst []) fD2
    have fD2H := new_of_same s fD2
    have s := s.trans k2
    have pa := pa.same k2
    have loA := loA.same k2
    have lw0 : LvAt (upd H5 D2 (.lst [])) D2 [] := ⟨upd_same, (fun c h => nomatch h), fun c h => nomatch h⟩
    generalize upd H5 D2 (.lst []) = H6 at *
    clear k2 fD2
    have pwo : lo.Pairwise fun a b => ltL a.2 b.2 = true := by
      have : (lo.map (·.2)).Pairwise fun p q => ltL p q = true := by
        rw [em1]
        exact List.pairwise_map.mpr lg
      exact List.pairwise_map.mp this
    wtm_at "rd"
    refine rd_sortLL (SqL.of loA.li) loA.it (by omega) pwo ?_
    intro S fS
    have k3 := Same.new (o := .lst (lo.map fun c => V.ref c.1)) fS
    have n2S : D2 ≠ S := ne_of_none lw0.li fS
    have loS : LvAt (upd H6 S (.lst (lo.map fun c => V.ref c.1))) S lo := ⟨upd_same, fun c hc => k3 _ _ (loA.it c hc), loA.ne⟩
    have s := s.trans k3
    have pa := pa.same k3
    have lw0 := lw0.same k3
    generalize upd H6 S (.lst (lo.map fun c => V.ref c.1)) = H7 at *
    clear k3 fS loA pwo lg
    have eo : ∀ j (h : j < lo.length) (h2 : j < lf.length), lo[j].2 = lf[j].2 := fun j h h2 => by
      have : (lo.map (·.2))[j]? = (lf.map (·.2))[j]? := by rw [em1]
      rw [List.getElem?_map, List.getElem?_map, List.getElem?_eq_getElem h, List.getElem?_eq_getElem h2] at this
      exact Option.some.inj this
    refine rd_forL (SqL.of loS.li) ?_
    refine turnsL (K := K) (xs := lo.map fun c => V.ref c.1) (fun j σ H' => ∃ (lw : List (Addr × List Str)) (Af : Str → Addr) (u5 u6 : Option V), σ = [some (.ref g), some (.str x), some (.ref d), some (.ref D2), some (.ref lA), u5, u6] ∧ Same H H' ∧ PathsAt H' d ((A ++ L) ++ (lf.take j).foldl addN []) Af ∧ LvAt H' S lo ∧ LvAt H' D2 lw ∧ lw.map (·.2) = ((lf.take j).foldl addN []).map (·.2)) ⟨[], Af, _, _, rfl, s, by rw [List.take_zero]; show PathsAt H7 d ((A ++ L) ++ []) Af; rw [List.append_nil]; exact pa, loS, lw0, rfl⟩ ?_ ?_ ?_
    · rintro j σ H' hj ⟨_, _, _, _, rfl, _, _, loS, _⟩
      exact SqL.of loS.li
    · rintro j y σ H' hy ⟨lw, Af, u5, u6, rfl, s, pa, loS, lwA, emw⟩
      obtain ⟨hj, rfl⟩ : ∃ h : j < lo.length, y = .ref lo[j].1 := by
        have h := (List.getElem?_eq_some_iff.mp hy).1
        rw [List.length_map] at h
        rw [List.getElem?_map, List.getElem?_eq_getElem h] at hy
        exact ⟨h, (Option.some.inj hy).symm⟩
      have hjL : j < lf.length := by omega
      have hc := loS.it _ (List.getElem_mem hj)
      have hne := loS.ne _ (List.getElem_mem hj)
      rw [eo j hj hjL] at hc hne
      have la := lfla _ (List.getElem_mem hjL)
      have noc := noK _ (List.getElem_mem hjL)
      have Wl : ((lf.take j).foldl addN []).length ≤ 10000 := by
        have h2 : ∀ (l kp : List (Str × List Str)), (l.foldl addN kp).length ≤ kp.length + l.length := fun l => by
          induction l with
          | nil => intro kp; exact Nat.le_refl _
          | cons c l ih =>
            intro kp
            have := ih (addN kp c)
            rw [List.foldl_cons]
            have h3 : (addN kp c).length ≤ kp.length + 1 := by
              unfold addN
              split
              · omega
              · rw [List.length_append]
                exact Nat.le_refl _
            rw [List.length_cons]
            omega
        have := h2 (lf.take j) []
        rw [List.length_take, List.length_nil] at this
        omega
      have lwl : lw.length ≤ 10000 := by
        have h1 := congrArg List.length emw
        rw [List.length_map, List.length_map] at h1
        omega
      have Wne : ∀ w ∈ (lf.take j).foldl addN [], w.2 ≠ [] := fun w hw => by
        have hm : w ∈ lf := List.mem_of_mem_take ((addN_sub hw).resolve_left fun z => nomatch z)
        intro z
        have := lfla w hm
        rw [z] at this
        cases this
      rw [take_snoc hjL, List.foldl_append]
      show _
      generalize (lf.take j).foldl addN [] = W at *
      generalize lf[j] = c at *
      generalize lo[j].1 = ca at *
      have kA : c.1 ∈ keysF ((A ++ L) ++ W) ↔ c.1 ∈ keysF W := by
        rw [keysF, List.map_append, List.mem_append]
        exact ⟨fun h => h.resolve_left noc, .inr⟩
      have pne2 : ∀ w ∈ (A ++ L) ++ W, w.2 ≠ [] := fun w hw => (List.mem_append.mp hw).elim (pne w) (Wne w)
      wtm_at "rd"
      refine rd_ixL (SqL.of hc) (at_last la) ?_
      wtm_at "rd"
      refine rd_din1 (.inl pa.di) (k := .inr c.1) rfl ?_
      by_cases mo : c.1 ∈ keysF ((A ++ L) ++ W)
      · rw [kvG_val mo]
        refine ⟨false, rfl, ?_⟩
        wtm_at "rd"
        have e : [c].foldl addN W = W := by
          show addN W c = W
          unfold addN
          rw [if_pos (kA.mp mo)]
        rw [e]
        exact ⟨lw, Af, _, _, rfl, s, pa, loS, lwA, emw⟩
      · rw [kvG_none mo]
        refine ⟨true, rfl, ?_⟩
        have e : [c].foldl addN W = W ++ [c] := by
          show addN W c = W ++ [c]
          unfold addN
          rw [if_neg fun z => mo (kA.mpr z)]
        rw [e, ← List.append_assoc]
        wtm_at "rd"
        refine rd_ixL (SqL.of hc) (at_last la) ?_
        wtm_at "rd"
        refine rd_dset pa.di (k := .inr c.1) rfl (by rw [List.length_map, keysF, List.length_map, List.length_append, List.length_append]; omega) ?_
        have pa2 := pa.put mo hc
        have lwA2 := lwA.dict (kvs' := putK (kvG (keysF ((A ++ L) ++ W)) fun n => .ref (Af n)) (.inr c.1) (.ref ca)) pa.di
        have loS2 := loS.dict (kvs' := putK (kvG (keysF ((A ++ L) ++ W)) fun n => .ref (Af n)) (.inr c.1) (.ref ca)) pa.di
        have hc2 := at_upd (o := .dK (putK (kvG (keysF ((A ++ L) ++ W)) fun n => .ref (Af n)) (.inr c.1) (.ref ca))) (ne_of hc pa.di fun z => nomatch z) hc
        have s2 := same_put (o := .dK (putK (kvG (keysF ((A ++ L) ++ W)) fun n => .ref (Af n)) (.inr c.1) (.ref ca))) s fd
        generalize upd H' d (.dK (putK (kvG (keysF ((A ++ L) ++ W)) fun n => .ref (Af n)) (.inr c.1) (.ref ca))) = H8 at *
        wtm_at "rd"
        refine rd_tyL lwA2.li ?_
        wtm_at "rd"
        refine rd_append lwA2.li (by rw [List.length_map]; omega) ?_
        refine ⟨lw ++ [(ca, c.2)], _, _, _, rfl, same_put s2 fD2H, pa2.offR lwA2.li (fun w hw => ?_), loS2.off lwA2.li (Ne.symm n2S), lwA2.add hc2 hne, by rw [List.map_append, List.map_append, emw]; rfl⟩
        rcases List.mem_append.mp hw with hw | hw
        · exact pne2 w hw
        · rw [List.mem_singleton.mp hw]
          exact hne
    rintro σ H8 ⟨lw, Af, u5, u6, rfl, s, pa, loS, lwA, emw⟩
    rw [List.length_map, lol, List.take_length] at emw pa
    exact ⟨lw, D2, Af, _, _, _, rfl, s, pa, lwA, emw⟩
end
end Law

/-! components as the laws find them -/
namespace Law
open PySem PySem.Spec PyProof.Rows L2 U
local macro_rules | `(tactic| wtm_at "rd1") => `(tactic| first
  | with_reducible refine rd_seq ?_
  | ((with_reducible refine rd_var (v := ?vv) ?hv ?_); (case hv => exact rfl))
  | with_reducible refine rd_c ?_
  | with_reducible refine rd_cons ?_
  | with_reducible refine rd_nil ?_
  | with_reducible refine rd_op ?_
  | with_reducible refine rd_asg ?_
  | with_reducible refine rd_name ?_
  | with_reducible refine rd_c1 ?_
  | with_reducible refine rd_cb ?_
  | with_reducible refine rd_test ?_
  | with_reducible refine rd_B ?_
  | with_reducible refine rd_bl ?_
  | with_reducible refine rd_if ?_
  | with_reducible refine rd_ret ?_
  | with_reducible refine rd_drop ?_
  | with_reducible refine rd_next ?_
  | with_reducible refine rd_addI ?_
  | with_reducible refine rd_ltI ?_
  | with_reducible refine rd_eqI ?_
  | with_reducible refine rd_neI ?_
  | with_reducible refine rd_eqS ?_
  | with_reducible refine rd_neS ?_
  | with_reducible refine rd_gtI ?_
  | with_reducible refine rd_geI ?_
  | with_reducible refine rd_leI ?_
  | with_reducible refine rd_ltS ?_
  | with_reducible refine rd_subI ?_
  | ((with_reducible refine rd_modI ?hc ?_); (case hc => first | decide | omega))
  | ((with_reducible refine rd_mulI ?hc ?_); (case hc => first | exact mul_bI | exact .inl (.inr (by decide)) | exact .inl (.inl (by decide)) | exact .inl (.inr (by omega)) | exact .inl (.inl (by omega))))
  | ((with_reducible refine rd_divI ?hc ?_); (case hc => first | decide | omega))
  | ((with_reducible refine rd_powI ?hc ?_); (case hc => exact ⟨by decide, by decide, by decide⟩))
  | with_reducible refine rd_lst ?_
  | with_reducible refine rd_tup ?_
  | ((with_reducible refine rd_sz ?hv ?_); (case hv => exact rfl))
  | with_reducible refine rd_and ?_
  | with_reducible refine rd_or ?_
  | with_reducible refine rd_not ?_
  | with_reducible refine rd_andV ?_
  | with_reducible refine rd_orV ?_
  | with_reducible refine rd_notV ?_
  | with_reducible refine rd_ifE ?_
  | with_reducible refine rd_T ?_
  | with_reducible refine rd_F ?_
  | with_reducible refine rd_chain ?_
  | with_reducible refine rd_is ?_
  | with_reducible refine rd_isNot ?_
  | with_reducible refine rd_absI ?_
  | with_reducible refine rd_maxI ?_
  | with_reducible refine rd_minI ?_
  | with_reducible refine rd_intI ?_
  | with_reducible refine rd_intB ?_
  | with_reducible refine rd_sub ?_
  | with_reducible refine rd_sl ?_
  | with_reducible refine rd_noPart ?_
  | with_reducible refine rd_part ?_
  | with_reducible refine rd_exI ?_
  | with_reducible refine rd_bm ?_
  | with_reducible refine rd_bm0 ?_
  | with_reducible refine rd_un ?_
  | with_reducible refine rd_neg ?_
  | with_reducible refine rd_c2 ?_
  | with_reducible refine rd_retN ?_
  | with_reducible refine rd_break ?_
  | with_reducible refine rd_cont ?_
  | with_reducible refine rd_for ?_
  | with_reducible refine rd_rng1 ?_
  | with_reducible refine rd_rng2 ?_
  | with_reducible refine rd_iList ?_
  | with_reducible refine rd_iTup ?_
  | with_reducible refine rd_iEnum ?_
  | ((with_reducible refine rd_forR ?h0 ?h1 ?_); (case h0 => omega); (case h1 => omega))
  | with_reducible refine rd_lc ?_
  | with_reducible refine rd_gcons ?_
  | with_reducible refine rd_gnil ?_
  | with_reducible refine rd_dget ?_
  | with_reducible refine rd_dput ?_
  | with_reducible refine rd_dnew ?_
  | with_reducible refine rd_dc ?_
  | with_reducible refine rd_iItems ?_
  | with_reducible refine rd_iKeys ?_
  | with_reducible refine rd_din ?_
  | with_reducible refine rd_lc2 ?_
  | with_reducible refine rd_cd ?_
  | with_reducible refine rd_par ?_
  | with_reducible refine rd_two ?_
  | with_reducible refine rd_reprB ?_
  | with_reducible refine rd_ck ?_
  | ((with_reducible refine rd_len ?hl ?_); (case hl => exact rfl))
  | with_reducible refine rd_nT ?_
  | with_reducible refine rd_nF ?_
  | with_reducible refine rd_dnin ?_
  | with_reducible refine rd_isB ?_
  | with_reducible refine rd_isNotB ?_
  | with_reducible refine rd_daug ?_
  | with_reducible refine rd_yesT ?_
  | ((with_reducible refine rd_wp ?hw ?_); (case hw => exact rfl)))
local macro_rules | `(tactic| wtm_at "rd") => `(tactic| repeat wtm_at "rd1")

section
variable {P : Program} {w : World} {K : PySem.W.Frag} {mg : Str → Option Value} {base : Heap}
end
end Law

/-! k04: graphs with more edges, basis cycles as the law finds them -/
namespace Law
open PySem PySem.Spec PyProof.Rows L2 U
local macro_rules | `(tactic| wtm_at "rd1") => `(tactic| first
  | with_reducible refine rd_seq ?_
  | ((with_reducible refine rd_var (v := ?vv) ?hv ?_); (case hv => exact rfl))
  | with_reducible refine rd_c ?_
  | with_reducible refine rd_cons ?_
  | with_reducible refine rd_nil ?_
  | with_reducible refine rd_op ?_
  | with_reducible refine rd_asg ?_
  | with_reducible refine rd_name ?_
  | with_reducible refine rd_c1 ?_
  | with_reducible refine rd_cb ?_
  | with_reducible refine rd_test ?_
  | with_reducible refine rd_B ?_
  | with_reducible refine rd_bl ?_
  | with_reducible refine rd_if ?_
  | with_reducible refine rd_ret ?_
  | with_reducible refine rd_drop ?_
  | with_reducible refine rd_next ?_
  | with_reducible refine rd_addI ?_
  | with_reducible refine rd_ltI ?_
  | with_reducible refine rd_eqI ?_
  | with_reducible refine rd_neI ?_
  | with_reducible refine rd_eqS ?_
  | with_reducible refine rd_neS ?_
  | with_reducible refine rd_gtI ?_
  | with_reducible refine rd_geI ?_
  | with_reducible refine rd_leI ?_
  | with_reducible refine rd_ltS ?_
  | with_reducible refine rd_subI ?_
  | ((with_reducible refine rd_modI ?hc ?_); (case hc => first | decide | omega))
  | ((with_reducible refine rd_mulI ?hc ?_); (case hc => first | exact mul_bI | exact .inl (.inr (by decide)) | exact .inl (.inl (by decide)) | exact .inl (.inr (by omega)) | exact .inl (.inl (by omega))))
  | ((with_reducible refine rd_divI ?hc ?_); (case hc => first | decide | omega))
  | ((with_reducible refine rd_powI ?hc ?_); (case hc => exact ⟨by decide, by decide, by decide⟩))
  | with_reducible refine rd_lst ?_
  | with_reducible refine rd_tup ?_
  | ((with_reducible refine rd_sz ?hv ?_); (case hv => exact rfl))
  | with_reducible refine rd_and ?_
  | with_reducible refine rd_or ?_
  | with_reducible refine rd_not ?_
  | with_reducible refine rd_andV ?_
  | with_reducible refine rd_orV ?_
  | with_reducible refine rd_notV ?_
  | with_reducible refine rd_ifE ?_
  | with_reducible refine rd_T ?_
  | with_reducible refine rd_F ?_
  | with_reducible refine rd_chain ?_
  | with_reducible refine rd_is ?_
  | with_reducible refine rd_isNot ?_
  | with_reducible refine rd_absI ?_
  | with_reducible refine rd_maxI ?_
  | with_reducible refine rd_minI ?_
  | with_reducible refine rd_intI ?_
  | with_reducible refine rd_intB ?_
  | with_reducible refine rd_sub ?_
  | with_reducible refine rd_sl ?_
  | with_reducible refine rd_noPart ?_
  | with_reducible refine rd_part ?_
  | with_reducible refine rd_exI ?_
  | with_reducible refine rd_bm ?_
  | with_reducible refine rd_bm0 ?_
  | with_reducible refine rd_un ?_
  | with_reducible refine rd_neg ?_
  | with_reducible refine rd_c2 ?_
  | with_reducible refine rd_retN ?_
  | with_reducible refine rd_break ?_
  | with_reducible refine rd_cont ?_
  | with_reducible refine rd_for ?_
  | with_reducible refine rd_rng1 ?_
  | with_reducible refine rd_rng2 ?_
  | with_reducible refine rd_iList ?_
  | with_reducible refine rd_iTup ?_
  | with_reducible refine rd_iEnum ?_
  | ((with_reducible refine rd_forR ?h0 ?h1 ?_); (case h0 => omega); (case h1 => omega))
  | with_reducible refine rd_lc ?_
  | with_reducible refine rd_gcons ?_
  | with_reducible refine rd_gnil ?_
  | with_reducible refine rd_dget ?_
  | with_reducible refine rd_dput ?_
  | with_reducible refine rd_dnew ?_
  | with_reducible refine rd_dc ?_
  | with_reducible refine rd_iItems ?_
  | with_reducible refine rd_iKeys ?_
  | with_reducible refine rd_din ?_
  | with_reducible refine rd_lc2 ?_
  | with_reducible refine rd_cd ?_
  | with_reducible refine rd_par ?_
  | with_reducible refine rd_two ?_
  | with_reducible refine rd_reprB ?_
  | with_reducible refine rd_ck ?_
  | ((with_reducible refine rd_len ?hl ?_); (case hl => exact rfl))
  | with_reducible refine rd_nT ?_
  | with_reducible refine rd_nF ?_
  | with_reducible refine rd_dnin ?_
  | with_reducible refine rd_isB ?_
  | with_reducible refine rd_isNotB ?_
  | with_reducible refine rd_daug ?_
  | with_reducible refine rd_yesT ?_
  | ((with_reducible refine rd_wp ?hw ?_); (case hw => exact rfl)))
local macro_rules | `(tactic| wtm_at "rd") => `(tactic| repeat wtm_at "rd1")

theorem rd_iEnumT {K : PySem.W.Frag} {ta : TA} {σ : L2.St} {H : Hp} {R : It → Hp → Prop} (h : ta σ H fun vs H1 => ∃ a xs, vs = [.ref a] ∧ SqT K H1 a xs ∧ R (Iet K a) H1) : iEnumT K ta σ H R := h
theorem cutV_drop {xs : List V} {i : Nat} (h : i ≤ xs.length) : cutV xs (some (i : Int)) none = xs.drop i := cutV_from h
def spMore : Sp := fun vs H Q _ => ∃ (p g n e : Addr) (ns : List Str) (es : List (Addr × Str × Str)), vs = [.ref p, .ref g] ∧ PoolAt H p ∧ GrS H g n e ns es ∧ ns.length ≤ 30 ∧
  ∀ (g2 e2 : Addr) (es2 : List (Addr × Str × Str)) (H' : Hp), Go p H H' → GrS H' g2 n e2 ns es2 → Q (.ref g2) H'
/-- the root paths stand at d, as the law lays them -/
structure PthAt (H : Hp) (d : Addr) (ks : List Str) (A : Str → Addr) (ns : List Str) (es : List (Str × Str)) : Prop where
  di : H d = some (.dK (kvG ks fun n => .ref (A n)))
  li : ∀ x ∈ ks, H (A x) = some (.lst ((pth (rtF ns es) x).map V.str))
theorem PthAt.same {H H' : Hp} {d : Addr} {ks : List Str} {A : Str → Addr} {ns : List Str} {es : List (Str × Str)} (h : PthAt H d ks A ns es) (s : Same H H') : PthAt H' d ks A ns es := ⟨s _ _ h.di, fun x hx => s _ _ (h.li x hx)⟩
theorem Go.grs {p : Addr} {H H' : Hp} {g n e : Addr} {ns : List Str} {es : List (Addr × Str × Str)} (hp : PoolAt H p) (b : Go p H H') (h : GrS H g n e ns es) : GrS H' g n e ns es := by
  obtain ⟨ys, hy⟩ := hp.isL
  exact ⟨h.gr.but hy b.but, h.ok, h.l2, h.l3⟩
section
variable {P : Program} {w : World} {K : PySem.W.Frag} {mg : Str → Option Value} {base : Heap}
structure E2a (P : Program) (w : World) (K : PySem.W.Frag) (mg : Str → Option Value) (base : Heap) : Prop where
  _law_draw : Cal P w K mg base CX0 1 "_law_draw" spDraw
theorem ok_more {f : Addr} {fd : FuncData} (F : Fun K "_law_with_more_edges" "_law_with_more_edges" s__law_with_more_edges f fd) (B : Bt mg) (C : E2a P w K mg base) : FnG P w K mg base CX0 2 f fd ["_law_pool_here", "_law_graph"] spMore := by
  refine fnG0 F sc__law_with_more_edges (fun vs H Q E h => ?_) (fun cdv A outer s H vs Q E hr h => ?_)
  · obtain ⟨p, g, n, e, ns, es, rfl, _⟩ := h
    rfl
  · obtain ⟨p, g, n, e, ns, es, rfl, hp, gs, nl, q⟩ := h
    have nd := sc__law_with_more_edges.nd
    have hu := hr.u1
    have hu65 : (A.deeper (envOfC "_law_with_more_edges" (defScope s__law_with_more_edges) s.heap.objs.size f cdv)).units + 65 < cLine := by
      have := hr.u100
      omega
    refine ⟨_, (pss_cons (ps_if (pt_cmpR uGt (pe_c C._law_draw hr (by decide) rfl (pa_cons (pv 0) (pa_cons pe_int pa_nil))) pe_int (nomark _)) (pss_one (ps_ret (pv 1))) pss_nil)
  (pss_cons (ps_set (i := 2) nd rfl (by first | exact Or.inl rfl | exact Or.inr rfl) (pe_callTy (kList K rfl rfl) (by rfl) B.list bb_list (pa_cons (pe_ix (kIx K rfl) (pv 1) pe_int (fun _ _ => rfl)) pa_nil)))
  (pss_cons (ps_for PassesOwn.never rfl (ki_enumT K rfl (by rfl) B.enumerate (pa_cons (pe_ix (kIx K rfl) (pv 1) pe_int (fun _ _ => rfl)) pa_nil)) (kg_tup (n := 2) K rfl rfl (pgs_cons (pg_name (i := 3) nd rfl (by first | exact Or.inl rfl | exact Or.inr rfl)) (pgs_cons (pg_name (i := 4) nd rfl (by first | exact Or.inl rfl | exact Or.inr rfl)) pgs_nil))) (pss_one (ps_for PassesOwn.never rfl (ki_tup K rfl (pe_slice (kSl K rfl) (pe_ix (kIx K rfl) (pv 1) pe_int (fun _ _ => rfl)) (po_some (pe_op (kAdd K rfl) (pv 3) pe_int)) po_none)) (pg_name (i := 5) nd rfl (by first | exact Or.inl rfl | exact Or.inr rfl)) (pss_one (ps_if (PW.pt (pw_and (pt_cmpR (kNinL K rfl hu65) (pe_tup (pa_cons (pv 4) (pa_cons (pv 5) pa_nil))) (pv 2) rfl) (pw_and1 (pt_cmpR (kEq K rfl hr.u64) (pe_c C._law_draw hr (by decide) rfl (pa_cons (pv 0) (pa_cons pe_int pa_nil))) pe_int (nomark _))))) (pss_one (ps_expr (pe_bm PySem.F.plainAttrs_list PySem.F.slot_list_append PySem.F.type_list_append mt_append (pv 2) (pa_cons (pe_tup (pa_cons (pv 4) (pa_cons (pv 5) pa_nil))) pa_nil)))) pss_nil)))))
  (pss_one (ps_ret (pe_tup (pa_cons (pe_ix (kIx K rfl) (pv 1) pe_int (fun _ _ => rfl)) (pa_cons (pe_callTy (kTuple K rfl) (by rfl) B.tuple bb_tuple (pa_cons (pe_callB (kSorted K rfl hr.u64) (by rfl) B.sorted bb_sorted (pa_cons (pv 2) pa_nil)) pa_nil)) pa_nil)))))))), ?_⟩
    have sok : ∀ x ∈ ns, PyData.strOk x = true := fun x hx => (gs.ok.names.ok x hx).sok
    have asc := gs.ok.names.asc
    wtm_at "rd"
    refine use_draw hp (by decide) (by decide) fun r H1 r0 r1 g1 => ?_
    wtm_at "rd"
    refine rd_split (fun c => ?_) (fun c => ?_)
    · wtm_at "rd"
      exact q g e es H1 g1 (Go.grs hp g1 gs)
    have gs1 := Go.grs hp g1 gs
    wtm_at "rd"
    refine rd_ixT (SqT.of gs1.gr.top) (v := .ref e) rfl ?_
    refine rd_listT (SqT.of gs1.gr.edges) ?_
    intro le fle
    have npl := g1.pool.ne fle
    have fle0 := g1.free _ fle
    have g2 := g1.new (o := .lst (es.map fun x => V.ref x.1)) fle
    have hle2 := @upd_same H1 le (.lst (es.map fun x => V.ref x.1))
    have gs2 := gs1.same (Same.new (o := .lst (es.map fun x => V.ref x.1)) fle)
    generalize upd H1 le (.lst (es.map fun x => V.ref x.1)) = H2 at g2 hle2 gs2
    wtm_at "rd"
    refine rd_iEnumT ?_
    wtm_at "rd"
    refine rd_ixT (SqT.of gs2.gr.top) (v := .ref n) rfl ?_
    wtm_at "rd"
    refine ⟨n, _, rfl, SqT.of gs2.gr.nodes, ?_⟩
    have bound : ∀ (xs : List (Addr × Str × Str)), (xs.map (·.2)).Nodup → (∀ x ∈ xs, sLt x.2.1 x.2.2 ∧ x.2.1 ∈ ns ∧ x.2.2 ∈ ns) → xs.length ≤ 900 := by
      intro xs h1 h2
      have := nodup_len h1 (ys := ns.flatMap fun a => ns.map fun b => (a, b)) fun y hy => by
        obtain ⟨x, hx, rfl⟩ := List.mem_map.mp hy
        exact List.mem_flatMap.mpr ⟨x.2.1, (h2 x hx).2.1, List.mem_map.mpr ⟨x.2.2, (h2 x hx).2.2, rfl⟩⟩
      have ln : ∀ (as bs : List Str), (as.flatMap fun a => bs.map fun b => (a, b)).length = as.length * bs.length := by
        intro as bs
        induction as with
        | nil => simp
        | cons a r ih => rw [List.flatMap_cons, List.length_append, ih, List.length_map, List.length_cons, Nat.succ_mul]; omega
      rw [ln, List.length_map] at this
      have : ns.length * ns.length ≤ 30 * 30 := Nat.mul_le_mul nl nl
      omega
    have step : ∀ {H' : Hp} {xs : List (Addr × Str × Str)} {T : Addr} {o : HO}, Go p H H' → H' T = none → H' le = some (.lst (xs.map fun x => V.ref x.1)) → (∀ x ∈ xs, H' x.1 = some (.tup [.str x.2.1, .str x.2.2])) → upd H' T o le = some (.lst (xs.map fun x => V.ref x.1)) ∧ ∀ x ∈ xs, upd H' T o x.1 = some (.tup [.str x.2.1, .str x.2.2]) :=
      fun go fT h1 h2 => ⟨at_upd (ne_of_none h1 fT) h1, fun x hx => at_upd (ne_of_none (h2 x hx) fT) (h2 x hx)⟩
    refine turnsW (walk_enumT (K := K) (a := n) (xs := ns.map V.str)) (fun i σ H' => ∃ (xs : List (Addr × Str × Str)) (u3 u4 u5 : Option V), σ = [some (.ref p), some (.ref g), some (.ref le), u3, u4, u5] ∧ Go p H H' ∧ H' le = some (.lst (xs.map fun x => V.ref x.1)) ∧
      (∀ x ∈ xs, H' x.1 = some (.tup [.str x.2.1, .str x.2.2])) ∧ (xs.map (·.2)).Nodup ∧ ∀ x ∈ xs, sLt x.2.1 x.2.2 ∧ x.2.1 ∈ ns ∧ x.2.2 ∈ ns) ⟨es, _, _, _, rfl, g2, hle2, gs2.gr.pairs, ascE_nodup gs.ok.asc, fun x hx => ⟨gs.ok.lt _ (List.mem_map_of_mem hx), gs.inE x hx⟩⟩ ?_ ?_ ?_
    · rintro i σ H' hi ⟨xs, u3, u4, u5, rfl, go, _⟩
      exact SqT.of (Go.grs hp go gs).gr.nodes
    · rintro i y σ H' H3 hi ⟨xs, u3, u4, u5, rfl, go, hle, pr, xnd, xin⟩ ⟨T, x1, y1, rfl, fT, rfl, e1, e2⟩
      have hx := Option.some.inj e1
      subst hx
      obtain ⟨hin, rfl⟩ := map_at e2
      obtain ⟨hle3, pr3⟩ := step (o := .tup [.int (i : Nat), .str ns[i]]) go fT hle pr
      have go3 := go.new (o := .tup [.int (i : Nat), .str ns[i]]) fT
      refine rd_unp (SqT.of upd_same) rfl ?_
      generalize upd H' T (.tup [.int (i : Nat), .str ns[i]]) = H3 at go3 hle3 pr3
      wtm_at "rd"
      have gs3 := Go.grs hp go3 gs
      refine rd_ixT (SqT.of gs3.gr.top) (v := .ref n) rfl ?_
      have ei : ((i : Nat) : Int) + 1 = ((i + 1 : Nat) : Int) := by omega
      wtm_at "rd"
      rw [ei]
      refine .inr ⟨n, _, rfl, SqT.of gs3.gr.nodes, fun ⟨z, _⟩ => ?_, fun _ t4 f4 => ?_⟩
      · rw [HT.sIx_nat, List.length_map] at z
        omega
      rw [cutV_drop (by rw [List.length_map]; omega), ← List.map_drop]
      obtain ⟨hle4, pr4⟩ := step (o := .tup ((ns.drop (i + 1)).map V.str)) go3 f4 hle3 pr3
      have go4 := go3.new (o := .tup ((ns.drop (i + 1)).map V.str)) f4
      have ht4 := @upd_same H3 t4 (.tup ((ns.drop (i + 1)).map V.str))
      generalize upd H3 t4 (.tup ((ns.drop (i + 1)).map V.str)) = H4 at go4 hle4 pr4 ht4
      refine rd_forT (SqT.of ht4) ?_
      have one : ∀ b ∈ ns.drop (i + 1), sLt ns[i] b := fun b hb => by
        obtain ⟨k, hk, rfl⟩ := List.mem_iff_getElem.mp hb
        rw [List.length_drop] at hk
        rw [List.getElem_drop]
        exact List.pairwise_iff_getElem.mp asc i (i + 1 + k) hin (by omega) (by omega)
      have hni := List.getElem_mem hin
      generalize ns[i] = a1 at *
      refine turnsT (K := K) (xs := (ns.drop (i + 1)).map V.str) (fun j σ H' => ∃ (xs : List (Addr × Str × Str)) (u5 : Option V), σ = [some (.ref p), some (.ref g), some (.ref le), some (.int (i : Nat)), some (.str a1), u5] ∧ Go p H H' ∧ H' t4 = some (.tup ((ns.drop (i + 1)).map V.str)) ∧ H' le = some (.lst (xs.map fun x => V.ref x.1)) ∧
        (∀ x ∈ xs, H' x.1 = some (.tup [.str x.2.1, .str x.2.2])) ∧ (xs.map (·.2)).Nodup ∧ ∀ x ∈ xs, sLt x.2.1 x.2.2 ∧ x.2.1 ∈ ns ∧ x.2.2 ∈ ns) ⟨xs, _, rfl, go4, ht4, hle4, pr4, xnd, xin⟩ ?_ ?_ ?_
      · rintro j σ H' hj ⟨xs, u5, rfl, go, ht, _⟩
        exact SqT.of ht
      · rintro j y σ H5 hy ⟨xs, u5, rfl, go5, ht5, hle5, pr5, xnd, xin⟩
        obtain ⟨hj, rfl⟩ := map_at hy
        have hb := List.getElem_mem hj
        have lt := one _ hb
        have hbn := List.mem_of_mem_drop hb
        generalize (ns.drop (i + 1))[j] = b1 at *
        wtm_at "rd"
        intro t6 f6
        obtain ⟨hle6, pr6⟩ := step (o := .tup [.str a1, .str b1]) go5 f6 hle5 pr5
        have go6 := go5.new (o := .tup [.str a1, .str b1]) f6
        have ht46 := at_upd (o := .tup [.str a1, .str b1]) (ne_of_none ht5 f6) ht5
        have ht6 := @upd_same H5 t6 (.tup [.str a1, .str b1])
        generalize upd H5 t6 (.tup [.str a1, .str b1]) = H6 at go6 hle6 pr6 ht46 ht6
        have bd := bound xs xnd xin
        have so2 : ∀ x ∈ xs.map (·.2), PyData.strOk x.1 = true ∧ PyData.strOk x.2 = true := fun x hx => by
          obtain ⟨z, hz, rfl⟩ := List.mem_map.mp hx
          exact ⟨sok _ (xin z hz).2.1, sok _ (xin z hz).2.2⟩
        wtm_at "rd"
        refine rd_ninLE (e := (a1, b1)) (SqT.of ht6) (SqL.of hle6) (fun x hx => SqT.of (pr6 x hx)) ⟨sok _ hni, sok _ hbn⟩ so2 ?_
        wtm_at "rd"
        refine rd_nsplit (fun c1 => ?_) (fun c1 => ?_)
        case refine_2 =>
          wtm_at "rd"
          exact ⟨xs, _, rfl, go6, ht46, hle6, pr6, xnd, xin⟩
        wtm_at "rd"
        refine use_draw go6.pool (by decide) (by decide) fun r2 H7 _ _ g7 => ?_
        have go7 := go6.trans g7
        have hle7 := g7.at hle6 (Ne.symm npl)
        have ht47 := g7.tup go6.pool ht46
        have pr7 : ∀ x ∈ xs, H7 x.1 = some (.tup [.str x.2.1, .str x.2.2]) := fun x hx => g7.tup go6.pool (pr6 x hx)
        wtm_at "rd"
        refine rd_split (fun c2 => ?_) (fun c2 => ?_)
        case refine_2 =>
          wtm_at "rd"
          exact ⟨xs, _, rfl, go7, ht47, hle7, pr7, xnd, xin⟩
        wtm_at "rd"
        refine rd_tyL hle7 ?_
        wtm_at "rd"
        intro t8 f8
        obtain ⟨hle8, pr8⟩ := step (o := .tup [.str a1, .str b1]) go7 f8 hle7 pr7
        have go8 := go7.new (o := .tup [.str a1, .str b1]) f8
        have ht48 := at_upd (o := .tup [.str a1, .str b1]) (ne_of_none ht47 f8) ht47
        have ht8 := @upd_same H7 t8 (.tup [.str a1, .str b1])
        have n8 : t8 ≠ le := Ne.symm (ne_of_none hle7 f8)
        generalize upd H7 t8 (.tup [.str a1, .str b1]) = H8 at go8 hle8 pr8 ht48 ht8
        wtm_at "rd"
        refine rd_append hle8 (by rw [List.length_map]; omega) ?_
        refine ⟨xs ++ [(t8, a1, b1)], _, rfl, go8.put fle0 npl, at_upd (ne_of ht48 hle8 (by intro z; cases z)) ht48, by rw [upd_same, List.map_append]; rfl, fun x hx => ?_, ?_, fun x hx => ?_⟩
        · rcases List.mem_append.mp hx with hx | hx
          · exact at_upd (ne_of (pr8 x hx) hle8 (by intro z; cases z)) (pr8 x hx)
          · rw [List.mem_singleton] at hx
            subst hx
            exact at_upd n8 ht8
        · rw [List.map_append, List.nodup_append]
          refine ⟨xnd, by simp, fun a ha b hb z => ?_⟩
          rw [List.map_cons, List.map_nil, List.mem_singleton] at hb
          rw [z, hb] at ha
          exact c1 ha
        · rcases List.mem_append.mp hx with hx | hx
          · exact xin x hx
          · rw [List.mem_singleton] at hx
            subst hx
            exact ⟨lt, hni, hbn⟩
      · rintro σ H' ⟨xs, u5, rfl, go, _, hle, pr, xnd, xin⟩
        exact ⟨xs, _, _, _, rfl, go, hle, pr, xnd, xin⟩
    · rintro σ H3 ⟨xs, u3, u4, u5, rfl, go3, hle3, pr3, xnd, xin⟩
      have gs3 := Go.grs hp go3 gs
      have bd := bound xs xnd xin
      wtm_at "rd"
      refine rd_ixT (SqT.of gs3.gr.top) (v := .ref n) rfl ?_
      wtm_at "rd"
      refine rd_sortE (SqL.of hle3) (fun x hx => SqT.of (pr3 x hx)) (by omega) ?_
      intro es2 pe se l4 f4
      have go4 := go3.new (o := .lst (es2.map fun x => V.ref x.1)) f4
      have s4 := Same.new (o := .lst (es2.map fun x => V.ref x.1)) f4
      have hl4 := @upd_same H3 l4 (.lst (es2.map fun x => V.ref x.1))
      generalize upd H3 l4 (.lst (es2.map fun x => V.ref x.1)) = H4 at go4 s4 hl4
      wtm_at "rd"
      refine rd_tupleL (SqL.of hl4) ?_
      intro e2 f5
      have go5 := go4.new (o := .tup (es2.map fun x => V.ref x.1)) f5
      have s5 := same_add (o := .tup (es2.map fun x => V.ref x.1)) s4 f5
      have he5 := @upd_same H4 e2 (.tup (es2.map fun x => V.ref x.1))
      generalize upd H4 e2 (.tup (es2.map fun x => V.ref x.1)) = H5 at go5 s5 he5
      wtm_at "rd"
      intro g2 f6
      have s6 := same_add (o := .tup [.ref n, .ref e2]) s5 f6
      have he6 := at_upd (o := .tup [.ref n, .ref e2]) (ne_of_none he5 f6) he5
      have pe2 : (es2.map (·.2)).Perm (xs.map (·.2)) := pe.map _
      refine q g2 e2 es2 _ (go5.new f6) ⟨⟨upd_same, s6 _ _ gs3.gr.nodes, he6, fun x hx => s6 _ _ (pr3 x (pe.mem_iff.mp hx))⟩, ⟨gs.ok.names, ?_, ?_, ?_⟩, gs.l2, by rw [pe.length_eq]; omega⟩
      · refine ascE_of_sorted ?_ (pe2.nodup_iff.mpr xnd)
        rw [List.pairwise_map]
        exact se
      · intro y hy
        obtain ⟨x, hx, rfl⟩ := List.mem_map.mp hy
        exact (xin x (pe.mem_iff.mp hx)).1
      · intro y hy
        obtain ⟨x, hx, rfl⟩ := List.mem_map.mp hy
        exact (xin x (pe.mem_iff.mp hx)).2
end
end Law

/-! xs += ys, lists -/
namespace U
open PySem PySem.Spec PyProof.Rows L2
section
variable {M : Model} {A : Around} {E : Value → Shared → Prop} {s : Shared}
end
end U

/-! k03: shortest_path, errors, variants, a long path -/
namespace Law
open PySem PySem.Spec PyProof.Rows L2 U LamX
local macro_rules | `(tactic| wtm_at "rd1") => `(tactic| first
  | with_reducible refine rd_seq ?_
  | ((with_reducible refine rd_var (v := ?vv) ?hv ?_); (case hv => exact rfl))
  | with_reducible refine rd_c ?_
  | with_reducible refine rd_cons ?_
  | with_reducible refine rd_nil ?_
  | with_reducible refine rd_op ?_
  | with_reducible refine rd_asg ?_
  | with_reducible refine rd_name ?_
  | with_reducible refine rd_c1 ?_
  | with_reducible refine rd_cb ?_
  | with_reducible refine rd_test ?_
  | with_reducible refine rd_B ?_
  | with_reducible refine rd_bl ?_
  | with_reducible refine rd_if ?_
  | with_reducible refine rd_ret ?_
  | with_reducible refine rd_drop ?_
  | with_reducible refine rd_next ?_
  | with_reducible refine rd_addI ?_
  | with_reducible refine rd_ltI ?_
  | with_reducible refine rd_eqI ?_
  | with_reducible refine rd_neI ?_
  | with_reducible refine rd_eqS ?_
  | with_reducible refine rd_neS ?_
  | with_reducible refine rd_gtI ?_
  | with_reducible refine rd_geI ?_
  | with_reducible refine rd_leI ?_
  | with_reducible refine rd_ltS ?_
  | with_reducible refine rd_subI ?_
  | ((with_reducible refine rd_modI ?hc ?_); (case hc => first | decide | omega))
  | ((with_reducible refine rd_mulI ?hc ?_); (case hc => first | exact mul_bI | exact .inl (.inr (by decide)) | exact .inl (.inl (by decide)) | exact .inl (.inr (by omega)) | exact .inl (.inl (by omega))))
  | ((with_reducible refine rd_divI ?hc ?_); (case hc => first | decide | omega))
  | ((with_reducible refine rd_powI ?hc ?_); (case hc => exact ⟨by decide, by decide, by decide⟩))
  | with_reducible refine rd_lst ?_
  | with_reducible refine rd_tup ?_
  | ((with_reducible refine rd_sz ?hv ?_); (case hv => exact rfl))
  | with_reducible refine rd_and ?_
  | with_reducible refine rd_or ?_
  | with_reducible refine rd_not ?_
  | with_reducible refine rd_andV ?_
  | with_reducible refine rd_orV ?_
  | with_reducible refine rd_notV ?_
  | with_reducible refine rd_ifE ?_
  | with_reducible refine rd_T ?_
  | with_reducible refine rd_F ?_
  | with_reducible refine rd_chain ?_
  | with_reducible refine rd_is ?_
  | with_reducible refine rd_isNot ?_
  | with_reducible refine rd_absI ?_
  | with_reducible refine rd_maxI ?_
  | with_reducible refine rd_minI ?_
  | with_reducible refine rd_intI ?_
  | with_reducible refine rd_intB ?_
  | with_reducible refine rd_sub ?_
  | with_reducible refine rd_sl ?_
  | with_reducible refine rd_noPart ?_
  | with_reducible refine rd_part ?_
  | with_reducible refine rd_exI ?_
  | with_reducible refine rd_bm ?_
  | with_reducible refine rd_bm0 ?_
  | with_reducible refine rd_un ?_
  | with_reducible refine rd_neg ?_
  | with_reducible refine rd_c2 ?_
  | with_reducible refine rd_retN ?_
  | with_reducible refine rd_break ?_
  | with_reducible refine rd_cont ?_
  | with_reducible refine rd_for ?_
  | with_reducible refine rd_rng1 ?_
  | with_reducible refine rd_rng2 ?_
  | with_reducible refine rd_iList ?_
  | with_reducible refine rd_iTup ?_
  | with_reducible refine rd_iEnum ?_
  | ((with_reducible refine rd_forR ?h0 ?h1 ?_); (case h0 => omega); (case h1 => omega))
  | with_reducible refine rd_lc ?_
  | with_reducible refine rd_gcons ?_
  | with_reducible refine rd_gnil ?_
  | with_reducible refine rd_dget ?_
  | with_reducible refine rd_dput ?_
  | with_reducible refine rd_dnew ?_
  | with_reducible refine rd_dc ?_
  | with_reducible refine rd_iItems ?_
  | with_reducible refine rd_iKeys ?_
  | with_reducible refine rd_din ?_
  | with_reducible refine rd_lc2 ?_
  | with_reducible refine rd_cd ?_
  | with_reducible refine rd_par ?_
  | with_reducible refine rd_two ?_
  | with_reducible refine rd_reprB ?_
  | with_reducible refine rd_ck ?_
  | ((with_reducible refine rd_len ?hl ?_); (case hl => exact rfl))
  | with_reducible refine rd_nT ?_
  | with_reducible refine rd_nF ?_
  | with_reducible refine rd_dnin ?_
  | with_reducible refine rd_isB ?_
  | with_reducible refine rd_isNotB ?_
  | with_reducible refine rd_daug ?_
  | with_reducible refine rd_yesT ?_
  | ((with_reducible refine rd_wp ?hw ?_); (case hw => exact rfl)))
local macro_rules | `(tactic| wtm_at "rd") => `(tactic| repeat wtm_at "rd1")

/-- a path of kp to t, or None -/
def PtV (H : Hp) (v : V) (kp : List (Str × List Str)) (t : Str) : Prop := (t ∉ keysF kp ∧ v = .non) ∨ ∃ a p, v = .ref a ∧ (t, p) ∈ kp ∧ H a = some (.lst (p.map V.str))
def spSPX (K : PySem.W.Frag) (CE : Addr) : Sp := fun vs H Q E => ∃ (g n e : Addr) (x y : V) (ns : List Str) (es : List (Addr × Str × Str)), vs = [.ref g, x, y] ∧ GrS H g n e ns es ∧
  ((∃ s t, x = .str s ∧ s ∈ ns ∧ y = .str t ∧ t ∈ ns ∧ ∀ (v : V) (H' : Hp), Same H H' → PtV H' v (ptF (es.map (·.2)) s) t → Q v H') ∨
   (NotN K H ns x ∧ FldE "node" CE x H E) ∨ (∃ s, x = .str s ∧ s ∈ ns ∧ NotN K H ns y ∧ FldE "node" CE y H E))
def spEr3 (K : PySem.W.Frag) : Sp := fun vs H Q _ => ∃ (g n e : Addr) (x y : V) (ns : List Str) (es : List (Addr × Str × Str)) (S : Str), vs = [.ref g, x, y] ∧ GrS H g n e ns es ∧
  ((NotN K H ns x ∧ Rp K H x S) ∨ (∃ s, x = .str s ∧ s ∈ ns ∧ NotN K H ns y ∧ Rp K H y S)) ∧ ∀ H' : Hp, Same H H' → Q (.str S) H'
/-- an element of a variant -/
def GdE (p : Addr) (H : Hp) (u : V) : Prop := u = .non ∨ (∃ s, u = .str s) ∨ (∃ i, u = .int i) ∨ ∃ a, u = .ref a ∧ a ≠ p ∧ ((∃ xs, H a = some (.lst xs)) ∨ (∃ xs, H a = some (.tup xs)) ∨ H a = some (.dK []))
theorem GdE.go {p : Addr} {H H' : Hp} {u : V} (h : GdE p H u) (g : Go p H H') : GdE p H' u := by
  rcases h with h | h | h | ⟨a, e, n, h⟩
  · exact .inl h
  · exact .inr (.inl h)
  · exact .inr (.inr (.inl h))
  · refine .inr (.inr (.inr ⟨a, e, n, ?_⟩))
    rcases h with ⟨xs, h⟩ | ⟨xs, h⟩ | h
    · exact .inl ⟨xs, g.at h n⟩
    · exact .inr (.inl ⟨xs, g.at h n⟩)
    · exact .inr (.inr (g.at h n))
theorem GdE.el {K : PySem.W.Frag} {p : Addr} {H : Hp} {u : V} (h : GdE p H u) : ∃ o, ElP K H u o := by
  rcases h with rfl | ⟨s, rfl⟩ | ⟨i, rfl⟩ | ⟨a, rfl, n, ⟨xs, h⟩ | ⟨xs, h⟩ | h⟩
  · exact ⟨none, _, ty_non, rfl⟩
  · exact ⟨some s, rfl⟩
  · exact ⟨none, _, ty_int, rfl⟩
  · exact ⟨none, _, ty_lst h, rfl⟩
  · exact ⟨none, _, ty_tup h, rfl⟩
  · exact ⟨none, _, ty_dK h, rfl⟩
/-- a variant -/
def GdC (p : Addr) (H : Hp) (v : V) : Prop := ∃ a, v = .ref a ∧ a ≠ p ∧ ((∃ us, H a = some (.lst us) ∧ ∀ u ∈ us, GdE p H u) ∨ ∃ us, H a = some (.tup us))
theorem GdC.go {p : Addr} {H H' : Hp} {u : V} (h : GdC p H u) (g : Go p H H') : GdC p H' u := by
  obtain ⟨a, e, n, h⟩ := h
  refine ⟨a, e, n, ?_⟩
  rcases h with ⟨us, h, k⟩ | ⟨us, h⟩
  · exact .inl ⟨us, g.at h n, fun u hu => (k u hu).go g⟩
  · exact .inr ⟨us, g.at h n⟩
theorem els_of {K : PySem.W.Frag} {H : Hp} : ∀ {us : List V}, (∀ u ∈ us, ∃ o, ElP K H u o) → ∃ os : List (Option Str), us.length = os.length ∧ ∀ (i : Nat) (u : V) (o : Option Str), us[i]? = some u → os[i]? = some o → ElP K H u o
  | [], _ => ⟨[], rfl, fun i u o h => by cases h⟩
  | u :: us, h => by
    obtain ⟨o, ho⟩ := h u List.mem_cons_self
    obtain ⟨os, l, k⟩ := els_of (us := us) fun w hw => h w (List.mem_cons_of_mem _ hw)
    refine ⟨o :: os, by rw [List.length_cons, List.length_cons, l], fun i w x h1 h2 => ?_⟩
    cases i with
    | zero =>
      cases h1
      cases h2
      exact ho
    | succ i => exact k i w x h1 h2
theorem GdC.cand {K : PySem.W.Frag} {p : Addr} {H : Hp} {v : V} (h : GdC p H v) : ∃ oc, CandP K H v oc := by
  obtain ⟨a, rfl, n, ⟨us, h, k⟩ | ⟨us, h⟩⟩ := h
  · obtain ⟨os, l, m⟩ := els_of (K := K) (H := H) (us := us) fun u hu => (k u hu).el
    exact ⟨some os, .lst (SqL.of h) l m⟩
  · exact ⟨none, .odd (ty_tup h) rfl⟩
theorem str_gd {p : Addr} {H : Hp} {q : List Str} : ∀ u ∈ q.map V.str, GdE p H u := fun u hu => by
  obtain ⟨s, _, rfl⟩ := List.mem_map.mp hu
  exact .inr (.inl ⟨s, rfl⟩)
theorem cutV_mem3 {xs : List V} {lo hi : Option Int} {v : V} (h : v ∈ cutV xs lo hi) : v ∈ xs := by
  unfold cutV at h
  exact List.mem_of_mem_drop (List.mem_of_mem_take h)
theorem cutV_len3 {xs : List V} {lo hi : Option Int} : (cutV xs lo hi).length ≤ xs.length := by
  unfold cutV
  rw [List.length_take, List.length_drop]
  omega
theorem rd_repL3 {H : Hp} {Q : VK} {l : Addr} {xs : List V} {m : Nat} (hl : H l = some (.lst xs)) (h1 : m ≤ 1000) (h2 : xs.length * m ≤ 300000) (h : ∀ p, H p = none → Q (.ref p) (upd H p (.lst (List.replicate m xs).flatten))) : rMulU (.ref l) (.int m) H Q := by
  refine ⟨l, m, xs, rfl, rfl, hl, by omega, by omega, ?_, fun p fp => ?_⟩
  · rw [Int.toNat_natCast]
    exact Nat.le_trans h2 (by decide)
  · rw [Int.toNat_natCast]
    exact h p fp
def spVar3 : Sp := fun vs H Q _ => ∃ (p g n e l : Addr) (ns q : List Str) (es : List (Addr × Str × Str)), vs = [.ref p, .ref g, .ref l] ∧ PoolAt H p ∧ GrS H g n e ns es ∧ 1 ≤ ns.length ∧ ns.length ≤ 100 ∧ H l = some (.lst (q.map V.str)) ∧ l ≠ p ∧ q.length ≤ 1001 ∧ ∀ (r : V) (H' : Hp), Go p H H' → GdC p H' r → Q r H'
def spLng : Sp := fun vs H Q _ => vs = [] ∧ ∀ H' : Hp, Same H H' → Q (.bl true) H'
section
variable {P : Program} {w : World} {K : PySem.W.Frag} {mg : Str → Option Value} {base : Heap}
structure KCa (P : Program) (w : World) (K : PySem.W.Frag) (mg : Str → Option Value) (base : Heap) (CE : Addr) : Prop where
  check_node : Cal P w K mg base (L2.CX P w) 3 "check_node" (spChkN K CE)
  paths_from : Cal P w K mg base CX0 2 "paths_from" spPathsFrom
theorem ok_spX {f : Addr} {fd : FuncData} {CE : Addr} (F : Fun K "shortest_path" "shortest_path" s_shortest_path f fd) (B : Bt mg) (C : KCa P w K mg base CE) : FnG P w K mg base (L2.CX P w) 4 f fd ["graph", "start", "end"] (spSPX K CE) := by
  refine fnG F sc_shortest_path (fun vs H Q E h => ?_) (fun cdv A outer s H vs Q E hr h => ?_)
  · obtain ⟨g, n, e, x, y, ns, es, rfl, _⟩ := h
    rfl
  · obtain ⟨g, n, e, x, y, ns, es, rfl, gs, alt⟩ := h
    have nd := sc_shortest_path.nd
    have hu := hr.u1
    refine ⟨_, (pss_cons (ps_expr (pe_cX C.check_node hr (by decide) rfl (takes_of rfl rfl rfl rfl) (pa_cons (pv 0) (pa_cons (pv 1) pa_nil))))
  (pss_cons (ps_expr (pe_cX C.check_node hr (by decide) rfl (takes_of rfl rfl rfl rfl) (pa_cons (pv 0) (pa_cons (pv 2) pa_nil))))
  (pss_one (ps_ret (pe_dget1 hu (pe_c C.paths_from hr (by decide) rfl (pa_cons (pv 0) (pa_cons (pv 1) pa_nil))) (pv 2) ⟨rfl, rfl, rfl, rfl⟩))))), ?_⟩
    wtm_at "rd"
    rcases alt with ⟨s, t, rfl, hx, rfl, hy, q⟩ | ⟨nn, er⟩ | ⟨s, rfl, hx, nn, er⟩
    · refine ⟨g, n, e, _, ns, es, rfl, gs.gr, .inl ⟨s, rfl, hx, ?_⟩⟩
      wtm_at "rd"
      refine ⟨g, n, e, _, ns, es, rfl, gs.gr, .inl ⟨t, rfl, hy, ?_⟩⟩
      wtm_at "rd"
      refine rd_dget1 ?_
      wtm_at "rd"
      refine ⟨g, n, e, s, ns, es, rfl, gs, hx, fun d A H1 s1 fd frA pa => ?_⟩
      refine ⟨d, rfl, .inl ⟨_, .inl pa.di⟩, ?_⟩
      wtm_at "rd"
      refine ⟨_, .inl ⟨_, .inr t, .inl pa.di, rfl, rfl⟩, ?_⟩
      by_cases m : t ∈ keysF (ptF (es.map (·.2)) s)
      · rw [kvG_val m]
        obtain ⟨p, h1, h2⟩ := lookup_some m
        exact q _ H1 s1 (.inr ⟨A t, p, rfl, h2, pa.li _ h2⟩)
      · rw [kvG_none m]
        exact q _ H1 s1 (.inl ⟨m, rfl⟩)
    · refine ⟨g, n, e, _, ns, es, rfl, gs.gr, .inr ⟨nn, fun d H' s' nd' hd => ?_⟩⟩
      wtm_at "rd"
      exact er d H' s' nd' hd
    · refine ⟨g, n, e, _, ns, es, rfl, gs.gr, .inl ⟨s, rfl, hx, ?_⟩⟩
      wtm_at "rd"
      refine ⟨g, n, e, _, ns, es, rfl, gs.gr, .inr ⟨nn, fun d H' s' nd' hd => ?_⟩⟩
      wtm_at "rd"
      exact er d H' s' nd' hd
structure KCb (P : Program) (w : World) (K : PySem.W.Frag) (mg : Str → Option Value) (base : Heap) (CE : Addr) : Prop where
  shortest_path : Cal P w K mg base (L2.CX P w) 4 "shortest_path" (spSPX K CE)
theorem ok_er3 {f : Addr} {fd : FuncData} {CE fI : Addr} (F : Fun K "_law_error_of" "_law_error_of" s__law_error_of f fd) (B : Bt mg) (C : KCb P w K mg base CE) (T : OwnB K mg "UnknownNode" "node" "KeyError" "LookupError.__new__" "KeyError.__init__" bmKE CE fI) : FnG P w K mg base CX0 5 f fd ["_law_graph", "_law_one", "_law_other"] (spEr3 K) := by
  refine fnG0 F sc__law_error_of (fun vs H Q E h => ?_) (fun cdv A outer s H vs Q E hr h => ?_)
  · obtain ⟨g, n, e, x, y, ns, es, S, rfl, _⟩ := h
    rfl
  · obtain ⟨g, n, e, x, y, ns, es, S, rfl, gs, alt, q⟩ := h
    have nd := sc__law_error_of.nd
    have hu := hr.u1
    refine ⟨_, (pss_cons (ps_set (i := 3) nd rfl (by first | exact Or.inl rfl | exact Or.inr rfl) pe_non)
  (pss_cons (ps_try_keep (i := 4) (Wout := fun _ _ _ _ => False) rfl rfl nd rfl rfl ⟨rfl, by decide, Or.inl T.gC⟩ L2.takes0 (fun W pn xe tk _ => pss_one (ps_expr (pe_cX C.shortest_path hr (by decide) rfl tk (pa_cons (pv 0) (pa_cons (pv 1) (pa_cons (pv 2) pa_nil)))))) (fun a pn => pss_one (ps_set (i := 3) nd rfl (Or.inl rfl) (pv 4))))
  (pss_one (ps_ret (pe_ifExp (pt_cmpR uIs (pv 3) pe_non (nomark _)) pe_non (pe_callB (kReprV K rfl hr.g hr.u64) (by rfl) B.repr bb_repr (pa_cons (pe_xk (pv 3)) pa_nil))))))), ?_⟩
    wtm_at "rd"
    rcases alt with ⟨nn, rp⟩ | ⟨s, rfl, hs, nn, rp⟩
    · refine ⟨g, n, e, x, y, ns, es, rfl, gs, .inr (.inl ⟨nn, fun d H' s' nd' hd => ⟨true, T.ex, (fun z => nomatch z), fun _ a na => ?_⟩⟩)⟩
      have k := Same.new (o := exk a (.ref CE) (some d)) na
      have ha := @upd_same H' a (exk a (.ref CE) (some d))
      have hd2 := k _ _ hd
      have s2 := s'.trans k
      generalize upd H' a (exk a (.ref CE) (some d)) = H2 at ha hd2 s2
      wtm_at "rd"
      refine rd_no (fun z => by cases z) ?_
      wtm_at "rd"
      refine rd_tXk2 ?_
      wtm_at "rd"
      refine ⟨a, CE, d, _, x, rfl, ha, T.xf, T.no, hd2, lk_1, ?_⟩
      wtm_at "rd"
      refine rd_reprV (rp.same s2) ?_
      exact q _ s2
    · refine ⟨g, n, e, _, y, ns, es, rfl, gs, .inr (.inr ⟨s, rfl, hs, nn, fun d H' s' nd' hd => ⟨true, T.ex, (fun z => nomatch z), fun _ a na => ?_⟩⟩)⟩
      have k := Same.new (o := exk a (.ref CE) (some d)) na
      have ha := @upd_same H' a (exk a (.ref CE) (some d))
      have hd2 := k _ _ hd
      have s2 := s'.trans k
      generalize upd H' a (exk a (.ref CE) (some d)) = H2 at ha hd2 s2
      wtm_at "rd"
      refine rd_no (fun z => by cases z) ?_
      wtm_at "rd"
      refine rd_tXk2 ?_
      wtm_at "rd"
      refine ⟨a, CE, d, _, y, rfl, ha, T.xf, T.no, hd2, lk_1, ?_⟩
      wtm_at "rd"
      refine rd_reprV (rp.same s2) ?_
      exact q _ s2
structure KCc (P : Program) (w : World) (K : PySem.W.Frag) (mg : Str → Option Value) (base : Heap) : Prop where
  _law_draw : Cal P w K mg base CX0 1 "_law_draw" spDraw
theorem ok_var3 {f : Addr} {fd : FuncData} (F : Fun K "_law_make_variant" "_law_make_variant" s__law_make_variant f fd) (B : Bt mg) (C : KCc P w K mg base) : FnG P w K mg base CX0 2 f fd ["_law_pool_here", "_law_graph", "_law_path"] spVar3 := by
  refine fnG0 F sc__law_make_variant (fun vs H Q E h => ?_) (fun cdv A outer s H vs Q E hr h => ?_)
  · obtain ⟨p, g, n, e, l, ns, q, es, rfl, _⟩ := h
    rfl
  · obtain ⟨p, g, n, e, l, ns, q, es, rfl, hp, gs, n1, n100, hl, nl, q200, k⟩ := h
    have nd := sc__law_make_variant.nd
    have hu := hr.u1
    refine ⟨_, (pss_cons (ps_set (i := 3) nd rfl (by first | exact Or.inl rfl | exact Or.inr rfl) (pe_c C._law_draw hr (by decide) rfl (pa_cons (pv 0) (pa_cons (pe_op (kAdd K rfl) (pe_callB (kLen K rfl) (by rfl) B.len bb_len (pa_cons (pv 2) pa_nil)) pe_int) pa_nil))))
  (pss_cons (ps_set (i := 4) nd rfl (by first | exact Or.inl rfl | exact Or.inr rfl) (pe_ix (kIx K rfl) (pe_lst (pa_cons pe_non (pa_cons pe_str (pa_cons pe_int (pa_cons (pe_lst (pa_cons pe_str pa_nil)) (pa_cons (pe_tup (pa_cons pe_str pa_nil)) (pa_cons (pe_ix (kIx K rfl) (pe_ix (kIx K rfl) (pv 1) pe_int (fun _ _ => rfl)) (pe_c C._law_draw hr (by decide) rfl (pa_cons (pv 0) (pa_cons (pe_callB (kLen K rfl) (by rfl) B.len bb_len (pa_cons (pe_ix (kIx K rfl) (pv 1) pe_int (fun _ _ => rfl)) pa_nil)) pa_nil))) (fun _ _ => rfl)) (pa_cons pe_dnewK pa_nil)))))))) (pe_c C._law_draw hr (by decide) rfl (pa_cons (pv 0) (pa_cons pe_int pa_nil))) (fun _ _ => rfl)))
  (pss_cons (ps_set (i := 5) nd rfl (by first | exact Or.inl rfl | exact Or.inr rfl) (pe_lst (pa_cons (pe_op (kAdd K rfl) (pe_op (kAdd K rfl) (pe_slice (kSl K rfl) (pv 2) po_none (po_some (pv 3))) (pe_lst (pa_cons (pv 4) pa_nil))) (pe_slice (kSl K rfl) (pv 2) (po_some (pv 3)) po_none)) (pa_cons (pe_op (kAdd K rfl) (pe_op (kAdd K rfl) (pe_slice (kSl K rfl) (pv 2) po_none (po_some (pv 3))) (pe_lst (pa_cons (pv 4) pa_nil))) (pe_slice (kSl K rfl) (pv 2) (po_some (pe_op (kAdd K rfl) (pv 3) pe_int)) po_none)) (pa_cons (pe_op (kAdd K rfl) (pe_slice (kSl K rfl) (pv 2) po_none (po_some (pv 3))) (pe_slice (kSl K rfl) (pv 2) (po_some (pe_op (kAdd K rfl) (pv 3) pe_int)) po_none)) pa_nil)))))
  (pss_one (ps_ret (pe_ix (kIx K rfl) (pe_op (kAdd K rfl) (pv 5) (pe_lst (pa_cons (pe_callTy (kTuple K rfl) (by rfl) B.tuple bb_tuple (pa_cons (pv 2) pa_nil)) (pa_cons (pe_revL (pv 2)) (pa_cons (pe_op uMul (pe_op (kAdd K rfl) (pv 2) (pe_revL (pv 2))) pe_int) pa_nil))))) (pe_c C._law_draw hr (by decide) rfl (pa_cons (pv 0) (pa_cons pe_int pa_nil))) (fun _ _ => rfl))))))), ?_⟩
    wtm_at "rd"
    refine rd_lenL (SqL.of hl) ?_
    rw [List.length_map]
    wtm_at "rd"
    refine use_draw hp (by omega) (by omega) fun r H1 r0 r1 g1 => ?_
    obtain ⟨at1, rfl⟩ : ∃ k : Nat, r = (k : Int) := ⟨r.toNat, by omega⟩
    have hl := g1.at hl nl
    have gs := Go.grs hp g1 gs
    have G := g1
    clear g1
    wtm_at "rd"
    intro z1 fz1
    have nz1 : z1 ≠ p := Ne.symm (G.pool.ne fz1)
    have kz1 := Go.of_same G.pool (Same.new (o := .lst [.str "a"]) fz1)
    have hz1 := @upd_same H1 z1 (.lst [.str "a"])
    have hl := kz1.at hl nl
    have gs := Go.grs G.pool kz1 gs
    have G := G.trans kz1
    generalize upd H1 z1 (.lst [.str "a"]) = H2 at *
    clear kz1 fz1
    wtm_at "rd"
    intro z2 fz2
    have nz2 : z2 ≠ p := Ne.symm (G.pool.ne fz2)
    have kz2 := Go.of_same G.pool (Same.new (o := .tup [.str "a"]) fz2)
    have hz2 := @upd_same H2 z2 (.tup [.str "a"])
    have hl := kz2.at hl nl
    have hz1 := kz2.at hz1 nz1
    have gs := Go.grs G.pool kz2 gs
    have G := G.trans kz2
    generalize upd H2 z2 (.tup [.str "a"]) = H3 at *
    clear kz2 fz2
    wtm_at "rd"
    refine rd_ixT (SqT.of gs.gr.top) (v := .ref n) rfl ?_
    wtm_at "rd"
    refine rd_ixT (SqT.of gs.gr.top) (v := .ref n) rfl ?_
    wtm_at "rd"
    refine rd_lenT (SqT.of gs.gr.nodes) ?_
    rw [List.length_map]
    wtm_at "rd"
    refine use_draw G.pool (by omega) (by omega) fun b H4 b0 b1 kb => ?_
    have hl := kb.at hl nl
    have hz1 := kb.at hz1 nz1
    have hz2 := kb.at hz2 nz2
    have gs := Go.grs G.pool kb gs
    have G := G.trans kb
    clear kb
    obtain ⟨jx, rfl⟩ : ∃ k : Nat, b = (k : Int) := ⟨b.toNat, by omega⟩
    have hjx : jx < ns.length := by omega
    wtm_at "rd"
    refine rd_ixT (SqT.of gs.gr.nodes) (v := .str ns[jx]) (atI_nat (by rw [List.getElem?_map, List.getElem?_eq_getElem hjx]; rfl)) ?_
    generalize ns[jx] = xx at *
    clear gs n1 n100 b0 b1 hjx
    wtm_at "rd"
    intro z3 fz3
    have nz3 : z3 ≠ p := Ne.symm (G.pool.ne fz3)
    have kz3 := Go.of_same G.pool (Same.new (o := .dK []) fz3)
    have hz3 := @upd_same H4 z3 (.dK [])
    have hl := kz3.at hl nl
    have hz1 := kz3.at hz1 nz1
    have hz2 := kz3.at hz2 nz2
    have G := G.trans kz3
    generalize upd H4 z3 (.dK []) = H5 at *
    clear kz3 fz3
    wtm_at "rd"
    intro z4 fz4
    have nz4 : z4 ≠ p := Ne.symm (G.pool.ne fz4)
    have kz4 := Go.of_same G.pool (Same.new (o := .lst [.non, .str "", .int 5, .ref z1, .ref z2, .str xx, .ref z3]) fz4)
    have hz4 := @upd_same H5 z4 (.lst [.non, .str "", .int 5, .ref z1, .ref z2, .str xx, .ref z3])
    have hl := kz4.at hl nl
    have hz1 := kz4.at hz1 nz1
    have hz2 := kz4.at hz2 nz2
    have hz3 := kz4.at hz3 nz3
    have G := G.trans kz4
    generalize upd H5 z4 (.lst [.non, .str "", .int 5, .ref z1, .ref z2, .str xx, .ref z3]) = H6 at *
    clear kz4 fz4
    wtm_at "rd"
    refine use_draw G.pool (by omega) (by omega) fun c H7 c0 c1 kc => ?_
    have hl := kc.at hl nl
    have hz1 := kc.at hz1 nz1
    have hz2 := kc.at hz2 nz2
    have hz3 := kc.at hz3 nz3
    have hz4 := kc.at hz4 nz4
    have G := G.trans kc
    clear kc
    have inv : ∃ u, atI [V.non, .str "", .int 5, .ref z1, .ref z2, .str xx, .ref z3] c = some u ∧ GdE p H7 u := by
      have : c = 0 ∨ c = 1 ∨ c = 2 ∨ c = 3 ∨ c = 4 ∨ c = 5 ∨ c = 6 := by omega
      rcases this with rfl | rfl | rfl | rfl | rfl | rfl | rfl
      · exact ⟨_, rfl, .inl rfl⟩
      · exact ⟨_, rfl, .inr (.inl ⟨_, rfl⟩)⟩
      · exact ⟨_, rfl, .inr (.inr (.inl ⟨_, rfl⟩))⟩
      · exact ⟨_, rfl, .inr (.inr (.inr ⟨_, rfl, nz1, .inl ⟨_, hz1⟩⟩))⟩
      · exact ⟨_, rfl, .inr (.inr (.inr ⟨_, rfl, nz2, .inr (.inl ⟨_, hz2⟩)⟩))⟩
      · exact ⟨_, rfl, .inr (.inl ⟨_, rfl⟩)⟩
      · exact ⟨_, rfl, .inr (.inr (.inr ⟨_, rfl, nz3, .inr (.inr hz3)⟩))⟩
    obtain ⟨u, eu, gi⟩ := inv
    wtm_at "rd"
    refine rd_ixL (SqL.of hz4) eu ?_
    clear eu hz1 hz2 hz3 hz4 nz1 nz2 nz3 nz4 c0 c1
    wtm_at "rd"
    refine rd_slL (SqL.of hl) ?_
    intro a1 fa1
    have na1 : a1 ≠ p := Ne.symm (G.pool.ne fa1)
    have ka1 := Go.of_same G.pool (Same.new (o := .lst (cutV (q.map V.str) none (some (at1 : Int)))) fa1)
    have ha1 := @upd_same H7 a1 (.lst (cutV (q.map V.str) none (some (at1 : Int))))
    have hl := ka1.at hl nl
    have gi := gi.go ka1
    have G := G.trans ka1
    generalize upd H7 a1 (.lst (cutV (q.map V.str) none (some (at1 : Int)))) = H8 at *
    clear ka1 fa1
    have ba1 := @cutV_len3 (q.map V.str) none (some (at1 : Int))
    have ma1 : ∀ w ∈ cutV (q.map V.str) none (some (at1 : Int)), GdE p H8 w := fun w hw => str_gd w (cutV_mem3 hw)
    rw [List.length_map] at ba1
    clear ma1
    wtm_at "rd"
    intro a2 fa2
    have na2 : a2 ≠ p := Ne.symm (G.pool.ne fa2)
    have ka2 := Go.of_same G.pool (Same.new (o := .lst [u]) fa2)
    have ha2 := @upd_same H8 a2 (.lst [u])
    have hl := ka2.at hl nl
    have ha1 := ka2.at ha1 na1
    have gi := gi.go ka2
    have G := G.trans ka2
    generalize upd H8 a2 (.lst [u]) = H9 at *
    clear ka2 fa2
    refine rd_catL ha1 ha2 (by first | omega | (simp only [List.length_append, List.length_map, List.length_cons, List.length_nil, List.length_reverse]; omega)) ?_
    intro a3 fa3
    have na3 : a3 ≠ p := Ne.symm (G.pool.ne fa3)
    have ka3 := Go.of_same G.pool (Same.new (o := .lst (cutV (q.map V.str) none (some (at1 : Int)) ++ [u])) fa3)
    have ha3 := @upd_same H9 a3 (.lst (cutV (q.map V.str) none (some (at1 : Int)) ++ [u]))
    have hl := ka3.at hl nl
    have ha1 := ka3.at ha1 na1
    have ha2 := ka3.at ha2 na2
    have gi := gi.go ka3
    have G := G.trans ka3
    generalize upd H9 a3 (.lst (cutV (q.map V.str) none (some (at1 : Int)) ++ [u])) = H10 at *
    clear ka3 fa3
    wtm_at "rd"
    refine rd_slL (SqL.of hl) ?_
    intro a4 fa4
    have na4 : a4 ≠ p := Ne.symm (G.pool.ne fa4)
    have ka4 := Go.of_same G.pool (Same.new (o := .lst (cutV (q.map V.str) (some (at1 : Int)) none)) fa4)
    have ha4 := @upd_same H10 a4 (.lst (cutV (q.map V.str) (some (at1 : Int)) none))
    have hl := ka4.at hl nl
    have ha1 := ka4.at ha1 na1
    have ha2 := ka4.at ha2 na2
    have ha3 := ka4.at ha3 na3
    have gi := gi.go ka4
    have G := G.trans ka4
    generalize upd H10 a4 (.lst (cutV (q.map V.str) (some (at1 : Int)) none)) = H11 at *
    clear ka4 fa4
    have ba4 := @cutV_len3 (q.map V.str) (some (at1 : Int)) none
    have ma4 : ∀ w ∈ cutV (q.map V.str) (some (at1 : Int)) none, GdE p H11 w := fun w hw => str_gd w (cutV_mem3 hw)
    rw [List.length_map] at ba4
    clear ma4
    refine rd_catL ha3 ha4 (by first | omega | (simp only [List.length_append, List.length_map, List.length_cons, List.length_nil, List.length_reverse]; omega)) ?_
    intro a5 fa5
    have na5 : a5 ≠ p := Ne.symm (G.pool.ne fa5)
    have ka5 := Go.of_same G.pool (Same.new (o := .lst ((cutV (q.map V.str) none (some (at1 : Int)) ++ [u]) ++ cutV (q.map V.str) (some (at1 : Int)) none)) fa5)
    have ha5 := @upd_same H11 a5 (.lst ((cutV (q.map V.str) none (some (at1 : Int)) ++ [u]) ++ cutV (q.map V.str) (some (at1 : Int)) none))
    have hl := ka5.at hl nl
    have ha1 := ka5.at ha1 na1
    have ha2 := ka5.at ha2 na2
    have ha3 := ka5.at ha3 na3
    have ha4 := ka5.at ha4 na4
    have gi := gi.go ka5
    have G := G.trans ka5
    generalize upd H11 a5 (.lst ((cutV (q.map V.str) none (some (at1 : Int)) ++ [u]) ++ cutV (q.map V.str) (some (at1 : Int)) none)) = H12 at *
    clear ka5 fa5
    have c1 : GdC p H12 (.ref a5) := ⟨a5, rfl, na5, .inl ⟨_, ha5, fun w hw => by
      simp only [List.mem_append, List.mem_singleton] at hw
      rcases hw with (hw | rfl) | hw
      · exact str_gd w (cutV_mem3 hw)
      · exact gi
      · exact str_gd w (cutV_mem3 hw)⟩⟩
    clear ha1 na1 ha2 na2 ha3 na3 ha4 na4 ha5 na5
    clear ba1 ba4
    wtm_at "rd"
    refine rd_slL (SqL.of hl) ?_
    intro b1 fb1
    have nb1 : b1 ≠ p := Ne.symm (G.pool.ne fb1)
    have kb1 := Go.of_same G.pool (Same.new (o := .lst (cutV (q.map V.str) none (some (at1 : Int)))) fb1)
    have hb1 := @upd_same H12 b1 (.lst (cutV (q.map V.str) none (some (at1 : Int))))
    have hl := kb1.at hl nl
    have gi := gi.go kb1
    have c1 := c1.go kb1
    have G := G.trans kb1
    generalize upd H12 b1 (.lst (cutV (q.map V.str) none (some (at1 : Int)))) = H13 at *
    clear kb1 fb1
    have bb1 := @cutV_len3 (q.map V.str) none (some (at1 : Int))
    have mb1 : ∀ w ∈ cutV (q.map V.str) none (some (at1 : Int)), GdE p H13 w := fun w hw => str_gd w (cutV_mem3 hw)
    rw [List.length_map] at bb1
    clear mb1
    wtm_at "rd"
    intro b2 fb2
    have nb2 : b2 ≠ p := Ne.symm (G.pool.ne fb2)
    have kb2 := Go.of_same G.pool (Same.new (o := .lst [u]) fb2)
    have hb2 := @upd_same H13 b2 (.lst [u])
    have hl := kb2.at hl nl
    have hb1 := kb2.at hb1 nb1
    have gi := gi.go kb2
    have c1 := c1.go kb2
    have G := G.trans kb2
    generalize upd H13 b2 (.lst [u]) = H14 at *
    clear kb2 fb2
    refine rd_catL hb1 hb2 (by first | omega | (simp only [List.length_append, List.length_map, List.length_cons, List.length_nil, List.length_reverse]; omega)) ?_
    intro b3 fb3
    have nb3 : b3 ≠ p := Ne.symm (G.pool.ne fb3)
    have kb3 := Go.of_same G.pool (Same.new (o := .lst (cutV (q.map V.str) none (some (at1 : Int)) ++ [u])) fb3)
    have hb3 := @upd_same H14 b3 (.lst (cutV (q.map V.str) none (some (at1 : Int)) ++ [u]))
    have hl := kb3.at hl nl
    have hb1 := kb3.at hb1 nb1
    have hb2 := kb3.at hb2 nb2
    have gi := gi.go kb3
    have c1 := c1.go kb3
    have G := G.trans kb3
    generalize upd H14 b3 (.lst (cutV (q.map V.str) none (some (at1 : Int)) ++ [u])) = H15 at *
    clear kb3 fb3
    wtm_at "rd"
    refine rd_slL (SqL.of hl) ?_
    intro b4 fb4
    have nb4 : b4 ≠ p := Ne.symm (G.pool.ne fb4)
    have kb4 := Go.of_same G.pool (Same.new (o := .lst (cutV (q.map V.str) (some ((at1 : Int) + 1)) none)) fb4)
    have hb4 := @upd_same H15 b4 (.lst (cutV (q.map V.str) (some ((at1 : Int) + 1)) none))
    have hl := kb4.at hl nl
    have hb1 := kb4.at hb1 nb1
    have hb2 := kb4.at hb2 nb2
    have hb3 := kb4.at hb3 nb3
    have gi := gi.go kb4
    have c1 := c1.go kb4
    have G := G.trans kb4
    generalize upd H15 b4 (.lst (cutV (q.map V.str) (some ((at1 : Int) + 1)) none)) = H16 at *
    clear kb4 fb4
    have bb4 := @cutV_len3 (q.map V.str) (some ((at1 : Int) + 1)) none
    have mb4 : ∀ w ∈ cutV (q.map V.str) (some ((at1 : Int) + 1)) none, GdE p H16 w := fun w hw => str_gd w (cutV_mem3 hw)
    rw [List.length_map] at bb4
    clear mb4
    refine rd_catL hb3 hb4 (by first | omega | (simp only [List.length_append, List.length_map, List.length_cons, List.length_nil, List.length_reverse]; omega)) ?_
    intro b5 fb5
    have nb5 : b5 ≠ p := Ne.symm (G.pool.ne fb5)
    have kb5 := Go.of_same G.pool (Same.new (o := .lst ((cutV (q.map V.str) none (some (at1 : Int)) ++ [u]) ++ cutV (q.map V.str) (some ((at1 : Int) + 1)) none)) fb5)
    have hb5 := @upd_same H16 b5 (.lst ((cutV (q.map V.str) none (some (at1 : Int)) ++ [u]) ++ cutV (q.map V.str) (some ((at1 : Int) + 1)) none))
    have hl := kb5.at hl nl
    have hb1 := kb5.at hb1 nb1
    have hb2 := kb5.at hb2 nb2
    have hb3 := kb5.at hb3 nb3
    have hb4 := kb5.at hb4 nb4
    have gi := gi.go kb5
    have c1 := c1.go kb5
    have G := G.trans kb5
    generalize upd H16 b5 (.lst ((cutV (q.map V.str) none (some (at1 : Int)) ++ [u]) ++ cutV (q.map V.str) (some ((at1 : Int) + 1)) none)) = H17 at *
    clear kb5 fb5
    have c2 : GdC p H17 (.ref b5) := ⟨b5, rfl, nb5, .inl ⟨_, hb5, fun w hw => by
      simp only [List.mem_append, List.mem_singleton] at hw
      rcases hw with (hw | rfl) | hw
      · exact str_gd w (cutV_mem3 hw)
      · exact gi
      · exact str_gd w (cutV_mem3 hw)⟩⟩
    clear hb1 nb1 hb2 nb2 hb3 nb3 hb4 nb4 hb5 nb5
    clear bb1 bb4
    wtm_at "rd"
    refine rd_slL (SqL.of hl) ?_
    intro d1 fd1
    have nd1 : d1 ≠ p := Ne.symm (G.pool.ne fd1)
    have kd1 := Go.of_same G.pool (Same.new (o := .lst (cutV (q.map V.str) none (some (at1 : Int)))) fd1)
    have hd1 := @upd_same H17 d1 (.lst (cutV (q.map V.str) none (some (at1 : Int))))
    have hl := kd1.at hl nl
    have gi := gi.go kd1
    have c1 := c1.go kd1
    have c2 := c2.go kd1
    have G := G.trans kd1
    generalize upd H17 d1 (.lst (cutV (q.map V.str) none (some (at1 : Int)))) = H18 at *
    clear kd1 fd1
    have bd1 := @cutV_len3 (q.map V.str) none (some (at1 : Int))
    have md1 : ∀ w ∈ cutV (q.map V.str) none (some (at1 : Int)), GdE p H18 w := fun w hw => str_gd w (cutV_mem3 hw)
    rw [List.length_map] at bd1
    clear md1
    wtm_at "rd"
    refine rd_slL (SqL.of hl) ?_
    intro d2 fd2
    have nd2 : d2 ≠ p := Ne.symm (G.pool.ne fd2)
    have kd2 := Go.of_same G.pool (Same.new (o := .lst (cutV (q.map V.str) (some ((at1 : Int) + 1)) none)) fd2)
    have hd2 := @upd_same H18 d2 (.lst (cutV (q.map V.str) (some ((at1 : Int) + 1)) none))
    have hl := kd2.at hl nl
    have hd1 := kd2.at hd1 nd1
    have gi := gi.go kd2
    have c1 := c1.go kd2
    have c2 := c2.go kd2
    have G := G.trans kd2
    generalize upd H18 d2 (.lst (cutV (q.map V.str) (some ((at1 : Int) + 1)) none)) = H19 at *
    clear kd2 fd2
    have bd2 := @cutV_len3 (q.map V.str) (some ((at1 : Int) + 1)) none
    have md2 : ∀ w ∈ cutV (q.map V.str) (some ((at1 : Int) + 1)) none, GdE p H19 w := fun w hw => str_gd w (cutV_mem3 hw)
    rw [List.length_map] at bd2
    clear md2
    refine rd_catL hd1 hd2 (by first | omega | (simp only [List.length_append, List.length_map, List.length_cons, List.length_nil, List.length_reverse]; omega)) ?_
    intro d3 fd3
    have nd3 : d3 ≠ p := Ne.symm (G.pool.ne fd3)
    have kd3 := Go.of_same G.pool (Same.new (o := .lst (cutV (q.map V.str) none (some (at1 : Int)) ++ cutV (q.map V.str) (some ((at1 : Int) + 1)) none)) fd3)
    have hd3 := @upd_same H19 d3 (.lst (cutV (q.map V.str) none (some (at1 : Int)) ++ cutV (q.map V.str) (some ((at1 : Int) + 1)) none))
    have hl := kd3.at hl nl
    have hd1 := kd3.at hd1 nd1
    have hd2 := kd3.at hd2 nd2
    have gi := gi.go kd3
    have c1 := c1.go kd3
    have c2 := c2.go kd3
    have G := G.trans kd3
    generalize upd H19 d3 (.lst (cutV (q.map V.str) none (some (at1 : Int)) ++ cutV (q.map V.str) (some ((at1 : Int) + 1)) none)) = H20 at *
    clear kd3 fd3
    have c3 : GdC p H20 (.ref d3) := ⟨d3, rfl, nd3, .inl ⟨_, hd3, fun w hw => by
      simp only [List.mem_append, List.mem_singleton] at hw
      rcases hw with hw | hw
      · exact str_gd w (cutV_mem3 hw)
      · exact str_gd w (cutV_mem3 hw)⟩⟩
    clear hd1 nd1 hd2 nd2 hd3 nd3
    clear bd1 bd2
    wtm_at "rd"
    intro e1 fe1
    have ne1 : e1 ≠ p := Ne.symm (G.pool.ne fe1)
    have ke1 := Go.of_same G.pool (Same.new (o := .lst [.ref a5, .ref b5, .ref d3]) fe1)
    have he1 := @upd_same H20 e1 (.lst [.ref a5, .ref b5, .ref d3])
    have hl := ke1.at hl nl
    have gi := gi.go ke1
    have c1 := c1.go ke1
    have c2 := c2.go ke1
    have c3 := c3.go ke1
    have G := G.trans ke1
    generalize upd H20 e1 (.lst [.ref a5, .ref b5, .ref d3]) = H21 at *
    clear ke1 fe1
    wtm_at "rd"
    refine rd_tupleL (SqL.of hl) ?_
    intro e2 fe2
    have ne2 : e2 ≠ p := Ne.symm (G.pool.ne fe2)
    have ke2 := Go.of_same G.pool (Same.new (o := .tup (q.map V.str)) fe2)
    have he2 := @upd_same H21 e2 (.tup (q.map V.str))
    have hl := ke2.at hl nl
    have he1 := ke2.at he1 ne1
    have gi := gi.go ke2
    have c1 := c1.go ke2
    have c2 := c2.go ke2
    have c3 := c3.go ke2
    have G := G.trans ke2
    generalize upd H21 e2 (.tup (q.map V.str)) = H22 at *
    clear ke2 fe2
    have c4 : GdC p H22 (.ref e2) := ⟨e2, rfl, ne2, .inr ⟨_, he2⟩⟩
    clear he2 ne2
    wtm_at "rd"
    refine rd_revL ?_
    wtm_at "rd"
    refine ⟨l, _, rfl, SqL.of hl, ?_⟩
    intro e3 fe3
    have ne3 : e3 ≠ p := Ne.symm (G.pool.ne fe3)
    have ke3 := Go.of_same G.pool (Same.new (o := .lst (q.map V.str).reverse) fe3)
    have he3 := @upd_same H22 e3 (.lst (q.map V.str).reverse)
    have hl := ke3.at hl nl
    have he1 := ke3.at he1 ne1
    have gi := gi.go ke3
    have c1 := c1.go ke3
    have c2 := c2.go ke3
    have c3 := c3.go ke3
    have c4 := c4.go ke3
    have G := G.trans ke3
    generalize upd H22 e3 (.lst (q.map V.str).reverse) = H23 at *
    clear ke3 fe3
    have c5 : GdC p H23 (.ref e3) := ⟨e3, rfl, ne3, .inl ⟨_, he3, fun w hw => str_gd w (List.mem_reverse.mp hw)⟩⟩
    clear he3 ne3
    wtm_at "rd"
    refine rd_revL ?_
    wtm_at "rd"
    refine ⟨l, _, rfl, SqL.of hl, ?_⟩
    intro e4 fe4
    have ne4 : e4 ≠ p := Ne.symm (G.pool.ne fe4)
    have ke4 := Go.of_same G.pool (Same.new (o := .lst (q.map V.str).reverse) fe4)
    have he4 := @upd_same H23 e4 (.lst (q.map V.str).reverse)
    have hl := ke4.at hl nl
    have he1 := ke4.at he1 ne1
    have gi := gi.go ke4
    have c1 := c1.go ke4
    have c2 := c2.go ke4
    have c3 := c3.go ke4
    have c4 := c4.go ke4
    have c5 := c5.go ke4
    have G := G.trans ke4
    generalize upd H23 e4 (.lst (q.map V.str).reverse) = H24 at *
    clear ke4 fe4
    refine rd_catL hl he4 (by simp only [List.length_append, List.length_map, List.length_reverse]; omega) ?_
    intro e5 fe5
    have ne5 : e5 ≠ p := Ne.symm (G.pool.ne fe5)
    have ke5 := Go.of_same G.pool (Same.new (o := .lst (q.map V.str ++ (q.map V.str).reverse)) fe5)
    have he5 := @upd_same H24 e5 (.lst (q.map V.str ++ (q.map V.str).reverse))
    have hl := ke5.at hl nl
    have he1 := ke5.at he1 ne1
    have he4 := ke5.at he4 ne4
    have gi := gi.go ke5
    have c1 := c1.go ke5
    have c2 := c2.go ke5
    have c3 := c3.go ke5
    have c4 := c4.go ke5
    have c5 := c5.go ke5
    have G := G.trans ke5
    generalize upd H24 e5 (.lst (q.map V.str ++ (q.map V.str).reverse)) = H25 at *
    clear ke5 fe5
    wtm_at "rd"
    refine rd_repL3 (m := 2) he5 (by decide) (by simp only [List.length_append, List.length_map, List.length_reverse]; omega) ?_
    intro e6 fe6
    have ne6 : e6 ≠ p := Ne.symm (G.pool.ne fe6)
    have ke6 := Go.of_same G.pool (Same.new (o := .lst (List.replicate 2 (q.map V.str ++ (q.map V.str).reverse)).flatten) fe6)
    have he6 := @upd_same H25 e6 (.lst (List.replicate 2 (q.map V.str ++ (q.map V.str).reverse)).flatten)
    have hl := ke6.at hl nl
    have he1 := ke6.at he1 ne1
    have he4 := ke6.at he4 ne4
    have he5 := ke6.at he5 ne5
    have gi := gi.go ke6
    have c1 := c1.go ke6
    have c2 := c2.go ke6
    have c3 := c3.go ke6
    have c4 := c4.go ke6
    have c5 := c5.go ke6
    have G := G.trans ke6
    generalize upd H25 e6 (.lst (List.replicate 2 (q.map V.str ++ (q.map V.str).reverse)).flatten) = H26 at *
    clear ke6 fe6
    have c6 : GdC p H26 (.ref e6) := ⟨e6, rfl, ne6, .inl ⟨_, he6, fun w hw => by
      obtain ⟨y, hy, hw⟩ := List.mem_flatten.mp hw
      rw [List.eq_of_mem_replicate hy] at hw
      exact (List.mem_append.mp hw).elim (str_gd w) fun h => str_gd w (List.mem_reverse.mp h)⟩⟩
    clear he4 ne4 he5 ne5 he6 ne6
    wtm_at "rd"
    intro e7 fe7
    have ne7 : e7 ≠ p := Ne.symm (G.pool.ne fe7)
    have ke7 := Go.of_same G.pool (Same.new (o := .lst [.ref e2, .ref e3, .ref e6]) fe7)
    have he7 := @upd_same H26 e7 (.lst [.ref e2, .ref e3, .ref e6])
    have hl := ke7.at hl nl
    have he1 := ke7.at he1 ne1
    have gi := gi.go ke7
    have c1 := c1.go ke7
    have c2 := c2.go ke7
    have c3 := c3.go ke7
    have c4 := c4.go ke7
    have c5 := c5.go ke7
    have c6 := c6.go ke7
    have G := G.trans ke7
    generalize upd H26 e7 (.lst [.ref e2, .ref e3, .ref e6]) = H27 at *
    clear ke7 fe7
    refine rd_catL he1 he7 (by show 3 + 3 ≤ 100000; omega) ?_
    intro e8 fe8
    have ne8 : e8 ≠ p := Ne.symm (G.pool.ne fe8)
    have ke8 := Go.of_same G.pool (Same.new (o := .lst ([.ref a5, .ref b5, .ref d3] ++ [.ref e2, .ref e3, .ref e6])) fe8)
    have he8 := @upd_same H27 e8 (.lst ([.ref a5, .ref b5, .ref d3] ++ [.ref e2, .ref e3, .ref e6]))
    have hl := ke8.at hl nl
    have he1 := ke8.at he1 ne1
    have he7 := ke8.at he7 ne7
    have gi := gi.go ke8
    have c1 := c1.go ke8
    have c2 := c2.go ke8
    have c3 := c3.go ke8
    have c4 := c4.go ke8
    have c5 := c5.go ke8
    have c6 := c6.go ke8
    have G := G.trans ke8
    generalize upd H27 e8 (.lst ([.ref a5, .ref b5, .ref d3] ++ [.ref e2, .ref e3, .ref e6])) = H28 at *
    clear ke8 fe8
    clear he1 he7 ne1 ne7
    wtm_at "rd"
    refine use_draw G.pool (by omega) (by omega) fun d H29 d0 d1 kd => ?_
    have hl := kd.at hl nl
    have he8 := kd.at he8 ne8
    have gi := gi.go kd
    have c1 := c1.go kd
    have c2 := c2.go kd
    have c3 := c3.go kd
    have c4 := c4.go kd
    have c5 := c5.go kd
    have c6 := c6.go kd
    have G := G.trans kd
    clear kd
    have fin : ∃ v, atI [V.ref a5, .ref b5, .ref d3, .ref e2, .ref e3, .ref e6] d = some v ∧ GdC p H29 v := by
      have : d = 0 ∨ d = 1 ∨ d = 2 ∨ d = 3 ∨ d = 4 ∨ d = 5 := by omega
      rcases this with rfl | rfl | rfl | rfl | rfl | rfl
      · exact ⟨_, rfl, c1⟩
      · exact ⟨_, rfl, c2⟩
      · exact ⟨_, rfl, c3⟩
      · exact ⟨_, rfl, c4⟩
      · exact ⟨_, rfl, c5⟩
      · exact ⟨_, rfl, c6⟩
    obtain ⟨v, ev, gv⟩ := fin
    wtm_at "rd"
    refine rd_ixL (SqL.of he8) ev ?_
    exact k v _ G gv
end
end Law

/-! k03: the long path, the law -/
namespace Law
open PySem PySem.Spec PyProof.Rows L2 U LamX
local macro_rules | `(tactic| wtm_at "rd1") => `(tactic| first
  | with_reducible refine rd_seq ?_
  | ((with_reducible refine rd_var (v := ?vv) ?hv ?_); (case hv => exact rfl))
  | with_reducible refine rd_c ?_
  | with_reducible refine rd_cons ?_
  | with_reducible refine rd_nil ?_
  | with_reducible refine rd_op ?_
  | with_reducible refine rd_asg ?_
  | with_reducible refine rd_name ?_
  | with_reducible refine rd_c1 ?_
  | with_reducible refine rd_cb ?_
  | with_reducible refine rd_test ?_
  | with_reducible refine rd_B ?_
  | with_reducible refine rd_bl ?_
  | with_reducible refine rd_if ?_
  | with_reducible refine rd_ret ?_
  | with_reducible refine rd_drop ?_
  | with_reducible refine rd_next ?_
  | with_reducible refine rd_addI ?_
  | with_reducible refine rd_ltI ?_
  | with_reducible refine rd_eqI ?_
  | with_reducible refine rd_neI ?_
  | with_reducible refine rd_eqS ?_
  | with_reducible refine rd_neS ?_
  | with_reducible refine rd_gtI ?_
  | with_reducible refine rd_geI ?_
  | with_reducible refine rd_leI ?_
  | with_reducible refine rd_ltS ?_
  | with_reducible refine rd_subI ?_
  | ((with_reducible refine rd_modI ?hc ?_); (case hc => first | decide | omega))
  | ((with_reducible refine rd_mulI ?hc ?_); (case hc => first | exact mul_bI | exact .inl (.inr (by decide)) | exact .inl (.inl (by decide)) | exact .inl (.inr (by omega)) | exact .inl (.inl (by omega))))
  | ((with_reducible refine rd_divI ?hc ?_); (case hc => first | decide | omega))
  | ((with_reducible refine rd_powI ?hc ?_); (case hc => exact ⟨by decide, by decide, by decide⟩))
  | with_reducible refine rd_lst ?_
  | with_reducible refine rd_tup ?_
  | ((with_reducible refine rd_sz ?hv ?_); (case hv => exact rfl))
  | with_reducible refine rd_and ?_
  | with_reducible refine rd_or ?_
  | with_reducible refine rd_not ?_
  | with_reducible refine rd_andV ?_
  | with_reducible refine rd_orV ?_
  | with_reducible refine rd_notV ?_
  | with_reducible refine rd_ifE ?_
  | with_reducible refine rd_T ?_
  | with_reducible refine rd_F ?_
  | with_reducible refine rd_chain ?_
  | with_reducible refine rd_is ?_
  | with_reducible refine rd_isNot ?_
  | with_reducible refine rd_absI ?_
  | with_reducible refine rd_maxI ?_
  | with_reducible refine rd_minI ?_
  | with_reducible refine rd_intI ?_
  | with_reducible refine rd_intB ?_
  | with_reducible refine rd_sub ?_
  | with_reducible refine rd_sl ?_
  | with_reducible refine rd_noPart ?_
  | with_reducible refine rd_part ?_
  | with_reducible refine rd_exI ?_
  | with_reducible refine rd_bm ?_
  | with_reducible refine rd_bm0 ?_
  | with_reducible refine rd_un ?_
  | with_reducible refine rd_neg ?_
  | with_reducible refine rd_c2 ?_
  | with_reducible refine rd_retN ?_
  | with_reducible refine rd_break ?_
  | with_reducible refine rd_cont ?_
  | with_reducible refine rd_for ?_
  | with_reducible refine rd_rng1 ?_
  | with_reducible refine rd_rng2 ?_
  | with_reducible refine rd_iList ?_
  | with_reducible refine rd_iTup ?_
  | with_reducible refine rd_iEnum ?_
  | ((with_reducible refine rd_forR ?h0 ?h1 ?_); (case h0 => omega); (case h1 => omega))
  | with_reducible refine rd_lc ?_
  | with_reducible refine rd_gcons ?_
  | with_reducible refine rd_gnil ?_
  | with_reducible refine rd_dget ?_
  | with_reducible refine rd_dput ?_
  | with_reducible refine rd_dnew ?_
  | with_reducible refine rd_dc ?_
  | with_reducible refine rd_iItems ?_
  | with_reducible refine rd_iKeys ?_
  | with_reducible refine rd_din ?_
  | with_reducible refine rd_lc2 ?_
  | with_reducible refine rd_cd ?_
  | with_reducible refine rd_par ?_
  | with_reducible refine rd_two ?_
  | with_reducible refine rd_reprB ?_
  | with_reducible refine rd_ck ?_
  | ((with_reducible refine rd_len ?hl ?_); (case hl => exact rfl))
  | with_reducible refine rd_nT ?_
  | with_reducible refine rd_nF ?_
  | with_reducible refine rd_dnin ?_
  | with_reducible refine rd_isB ?_
  | with_reducible refine rd_isNotB ?_
  | with_reducible refine rd_daug ?_
  | with_reducible refine rd_yesT ?_
  | ((with_reducible refine rd_wp ?hw ?_); (case hw => exact rfl)))
local macro_rules | `(tactic| wtm_at "rd") => `(tactic| repeat wtm_at "rd1")

def posD : Option Nat → PyData
  | none => .none
  | some i => .int (i : Int)
theorem dp_pos {K : PySem.W.Frag} {H : Hp} : ∀ {r : Option Nat}, Dp K H (posV r) (posD r)
  | none => .non
  | some i => .int i
theorem shp_pos : ∀ {r : Option Nat}, SeqAt.shaped (.tuple [posD r]) = true
  | none => rfl
  | some i => shaped_of (by simp [posD, PyData.canLay0, PyData.canLayAll0]) (by simp [posD, PyData.depth, PyData.depthAll])
theorem rd_neRs {K : PySem.W.Frag} {H : Hp} {Q : VK} {u v : V} {r : Option (Option Nat)} (h1 : RsV H u r) (h2 : RsV H v r) (h : Q (.bl false) H) : rNeU K u v H Q := by
  cases r with
  | none =>
    have h1 : u = .str "good" := h1
    have h2 : v = .str "good" := h2
    subst h1
    subst h2
    exact rd_neS (by rw [decide_eq_true rfl]; exact h)
  | some p =>
    obtain ⟨a, rfl, ha⟩ := h1
    obtain ⟨b, rfl, hb⟩ := h2
    exact rd_neSame (.tup (SqT.of ha) (.cons dp_pos .nil)) (.tup (SqT.of hb) (.cons dp_pos .nil)) shp_pos h
theorem rd_neRN {K : PySem.W.Frag} {H : Hp} {Q : VK} {u : V} {b : Addr} (h1 : RsV H u (some none)) (hb : H b = some (.tup [.non])) (h : Q (.bl false) H) : rNeU K u (.ref b) H Q :=
  rd_neRs (r := some none) h1 ⟨b, rfl, hb⟩ h
theorem rd_eqRN {K : PySem.W.Frag} {H : Hp} {Q : VK} {u : V} {b : Addr} (h1 : RsV H u (some none)) (hb : H b = some (.tup [.non])) (h : Q (.bl true) H) : rEqU K u (.ref b) H Q := by
  obtain ⟨a, rfl, ha⟩ := h1
  exact rd_eqSame (.tup (SqT.of ha) (.cons dp_pos .nil)) (.tup (SqT.of hb) (.cons (d := posD none) .non .nil)) (shp_pos (r := none)) h
theorem rd_neRG {K : PySem.W.Frag} {H : Hp} {Q : VK} {u : V} (h1 : RsV H u none) (h : Q (.bl false) H) : rNeU K u (.str "good") H Q :=
  rd_neRs (r := none) h1 rfl h
theorem rd_neNN3 {K : PySem.W.Frag} {H : Hp} {Q : VK} (h : Q (.bl false) H) : rNeU K .non .non H Q := h
/-- a, b, a, b, .. -/
def abF (m : Nat) : List Str := (List.replicate m (["a", "b"] : List Str)).flatten
theorem abF_s (m : Nat) : abF (m + 1) = ("a" : Str) :: ("b" : Str) :: abF m := rfl
theorem abF_len : ∀ m, (abF m).length = 2 * m
  | 0 => rfl
  | m + 1 => by
    rw [abF_s, List.length_cons, List.length_cons, abF_len m]
    omega
theorem abF_in : ∀ m, ∀ y ∈ abF m, y ∈ (["a", "b"] : List Str)
  | 0, y, h => by cases h
  | m + 1, y, h => by
    rw [abF_s] at h
    simp only [List.mem_cons] at h
    rcases h with rfl | rfl | h
    · exact List.mem_cons_self
    · exact List.mem_cons_of_mem _ List.mem_cons_self
    · exact abF_in m y h
theorem abF_wk : ∀ m, Wk [("a", "b")] (abF m)
  | 0 => trivial
  | 1 => ⟨.inl List.mem_cons_self, trivial⟩
  | m + 2 => by
    have ih := abF_wk (m + 1)
    rw [abF_s] at ih
    rw [abF_s, abF_s]
    exact ⟨.inl List.mem_cons_self, .inr List.mem_cons_self, ih⟩
theorem pair_ok : GrOk ["a", "b"] [("a", "b")] := by
  refine ⟨⟨?_, ?_⟩, ?_, ?_, ?_⟩
  · show (["a", "b"] : List Str).Pairwise sLt
    decide +kernel
  · intro y hy
    simp only [List.mem_cons, List.not_mem_nil, or_false] at hy
    rcases hy with rfl | rfl <;> exact ⟨by decide, by decide, by decide⟩
  · show ([("a", "b")] : List (Str × Str)).Pairwise eLt
    decide +kernel
  · decide +kernel
  · decide +kernel
theorem one_ok : GrOk ["a"] [] := by
  refine ⟨⟨?_, ?_⟩, ?_, ?_, ?_⟩
  · show (["a"] : List Str).Pairwise sLt
    decide +kernel
  · intro y hy
    simp only [List.mem_cons, List.not_mem_nil, or_false] at hy
    rcases hy with rfl
    exact ⟨by decide, by decide, by decide⟩
  · exact List.Pairwise.nil
  · exact fun y hy => nomatch hy
  · exact fun y hy => nomatch hy
theorem ab_vals (m : Nat) : (List.replicate m ([.str "a", .str "b"] : List V)).flatten = (abF m).map V.str := by
  unfold abF
  rw [List.map_flatten, List.map_replicate]
  rfl
theorem els_strs {K : PySem.W.Frag} {H : Hp} {q : List Str} : ∀ (i : Nat) (u : V) (o : Option Str), (q.map V.str)[i]? = some u → (q.map some)[i]? = some o → ElP K H u o := fun i u o h1 h2 => by
  rw [List.getElem?_map] at h1 h2
  cases e : q[i]? with
  | none => rw [e] at h1; cases h1
  | some y =>
    rw [e] at h1 h2
    cases h1
    cases h2
    exact rfl
theorem cand_strs {K : PySem.W.Frag} {H : Hp} {a : Addr} {q : List Str} (h : H a = some (.lst (q.map V.str))) : CandP K H (.ref a) (some (q.map some)) := .lst (SqL.of h) (by rw [List.length_map, List.length_map]) els_strs
theorem pt_len3 {ns : List Str} {es : List (Str × Str)} (gok : GrOk ns es) (l : ns.length ≤ 900) {x y : Str} {p : List Str} (hx : x ∈ ns) (h : (y, p) ∈ ptF es x) : p.length ≤ ns.length + 1 := by
  have e : stF (nbS es) okA x ns.length = ptF es x := stF_done (stF_len (fun a _ b hb => nbS_in gok hb) hx _) (by omega)
  rw [← e] at h
  exact stF_plen _ _ h
theorem pt_all {ns : List Str} {es : List (Str × Str)} (gok : GrOk ns es) (l : ns.length ≤ 900) {x : Str} (hx : x ∈ ns) (c : Str × List Str) (hc : c ∈ ptF es x) : (∀ y ∈ c.2, y ∈ ns) ∧ c.2.length ≤ 901 ∧ Wk es c.2 ∧ 1 ≤ c.2.length := by
  have h1 := stF_path _ _ hc
  have h1 : PathTo (nbS es) okA x c.1 c.2 := h1
  have h2 := pt_len3 gok l hx (y := c.1) (p := c.2) hc
  have h3 := path_ne h1
  refine ⟨path_mem (fun a _ b hb => nbS_in gok hb) hx h1, by omega, h1.wk.1, ?_⟩
  cases h : c.2 with
  | nil => exact absurd h h3
  | cons _ _ => simp
theorem pt_self {es : List (Str × Str)} {x : Str} : x ∈ keysF (ptF es x) := by
  obtain ⟨r, h⟩ := stF_root (adj := nbS es) (ok := okA) (root := x) 1000
  have e : ptF es x = (x, [x]) :: r := h
  rw [e]
  exact List.mem_cons_self
section
variable {P : Program} {w : World} {K : PySem.W.Frag} {mg : Str → Option Value} {base : Heap}
structure KDa (P : Program) (w : World) (K : PySem.W.Frag) (mg : Str → Option Value) (base : Heap) : Prop where
  _law_check_result : Cal P w K mg base CX0 4 "_law_check_result" (spCkR K)
theorem ok_lng {f : Addr} {fd : FuncData} (F : Fun K "_law_long_holds" "_law_long_holds" s__law_long_holds f fd) (B : Bt mg) (C : KDa P w K mg base) : FnG P w K mg base CX0 5 f fd [] spLng := by
  refine fnG0 F sc__law_long_holds (fun vs H Q E h => ?_) (fun cdv A outer s H vs Q E hr h => ?_)
  · obtain ⟨rfl, _⟩ := h
    rfl
  · obtain ⟨rfl, q⟩ := h
    have nd := sc__law_long_holds.nd
    have hu := hr.u1
    refine ⟨_, (pss_cons (ps_set (i := 0) nd rfl (by first | exact Or.inl rfl | exact Or.inr rfl) (pe_tup (pa_cons (pe_tup (pa_cons pe_str (pa_cons pe_str pa_nil))) (pa_cons (pe_tup (pa_cons (pe_tup (pa_cons pe_str (pa_cons pe_str pa_nil))) pa_nil)) pa_nil))))
  (pss_cons (ps_if (pt_cmpR (kNe K rfl hr.u64) (pe_c C._law_check_result hr (by decide) rfl (pa_cons (pv 0) (pa_cons (pe_op uMul (pe_lst (pa_cons pe_str (pa_cons pe_str pa_nil))) pe_int) pa_nil))) pe_str (nomark _)) (pss_one (ps_ret pe_bl)) pss_nil)
  (pss_one (ps_ret (pe_cmpR (kEq K rfl hr.u64) (pe_c C._law_check_result hr (by decide) rfl (pa_cons (pv 0) (pa_cons (pe_op (kAdd K rfl) (pe_op uMul (pe_lst (pa_cons pe_str (pa_cons pe_str pa_nil))) pe_int) (pe_lst (pa_cons pe_str pa_nil))) pa_nil))) (pe_tup (pa_cons pe_non pa_nil)) (nomark _)))))), ?_⟩
    have sH : Same H H := fun b o h => h
    wtm_at "rd"
    intro n fn
    have kn := Same.new (o := .tup [.str "a", .str "b"]) fn
    have hn := @upd_same H n (.tup [.str "a", .str "b"])
    have sH := sH.trans kn
    generalize upd H n (.tup [.str "a", .str "b"]) = H1 at hn sH
    clear kn fn
    wtm_at "rd"
    intro t ft
    have kt := Same.new (o := .tup [.str "a", .str "b"]) ft
    have ht := @upd_same H1 t (.tup [.str "a", .str "b"])
    have hn := kt _ _ hn
    have sH := sH.trans kt
    generalize upd H1 t (.tup [.str "a", .str "b"]) = H2 at ht hn sH
    clear kt ft
    wtm_at "rd"
    intro e fe
    have ke := Same.new (o := .tup [.ref t]) fe
    have he := @upd_same H2 e (.tup [.ref t])
    have hn := ke _ _ hn
    have ht := ke _ _ ht
    have sH := sH.trans ke
    generalize upd H2 e (.tup [.ref t]) = H3 at he hn ht sH
    clear ke fe
    wtm_at "rd"
    intro g fg
    have kg := Same.new (o := .tup [.ref n, .ref e]) fg
    have hg := @upd_same H3 g (.tup [.ref n, .ref e])
    have hn := kg _ _ hn
    have ht := kg _ _ ht
    have he := kg _ _ he
    have sH := sH.trans kg
    generalize upd H3 g (.tup [.ref n, .ref e]) = H4 at hg hn ht he sH
    clear kg fg
    have gs : GrS H4 g n e ["a", "b"] [(t, "a", "b")] := ⟨⟨hg, hn, he, fun x hx => by rw [List.mem_singleton.mp hx]; exact ht⟩, pair_ok, by decide, by show 1 ≤ 1000; decide⟩
    clear hn ht he hg
    wtm_at "rd"
    intro l0 fl0
    have k0 := Same.new (o := .lst [.str "a", .str "b"]) fl0
    have h0 := @upd_same H4 l0 (.lst [.str "a", .str "b"])
    have gs := gs.same k0
    have sH := sH.trans k0
    generalize upd H4 l0 (.lst [.str "a", .str "b"]) = H5 at *
    wtm_at "rd"
    refine rd_repL3 (m := 500) h0 (by decide) (by show 2 * 500 ≤ _; decide) ?_
    rw [ab_vals 500]
    have lab := abF_len 500
    have gd := badF_good (i := 0) (pr := none) (abF_in 500) (abF_wk 500) (fun y z h => nomatch h)
    generalize abF 500 = ab at *
    intro l1 fl1
    have k1 := Same.new (o := .lst (ab.map V.str)) fl1
    have h1 := @upd_same H5 l1 (.lst (ab.map V.str))
    have gs := gs.same k1
    have sH := sH.trans k1
    generalize upd H5 l1 (.lst (ab.map V.str)) = H6 at *
    wtm_at "rd"
    refine ⟨g, n, e, _, _, _, _, rfl, gs, cand_strs h1, fun u H7 s7 rs => ?_⟩
    have ck : ckF ["a", "b"] [("a", "b")] (some (ab.map some)) = none := by
      have e1 : ckF ["a", "b"] [("a", "b")] (some (ab.map some)) = (badF ["a", "b"] [("a", "b")] none (ab.map some) 0).map some := if_pos (by rw [List.length_map]; omega)
      rw [e1, gd]
      rfl
    have rs : RsV H7 u (ckF ["a", "b"] [("a", "b")] (some (ab.map some))) := rs
    rw [ck] at rs
    have gs := gs.same s7
    have sH := sH.trans s7
    wtm_at "rd"
    refine rd_neRG rs ?_
    wtm_at "rd"
    try refine rd_F ?_
    wtm_at "rd"
    intro l2 fl2
    have k2 := Same.new (o := .lst [.str "a", .str "b"]) fl2
    have h2 := @upd_same H7 l2 (.lst [.str "a", .str "b"])
    have gs := gs.same k2
    have sH := sH.trans k2
    generalize upd H7 l2 (.lst [.str "a", .str "b"]) = H8 at *
    wtm_at "rd"
    refine rd_repL3 (m := 500) h2 (by decide) (by show 2 * 500 ≤ _; decide) ?_
    rw [ab_vals 500]
    have lab5 := abF_len 500
    generalize abF 500 = ab5 at *
    intro l3 fl3
    have k3 := Same.new (o := .lst (ab5.map V.str)) fl3
    have h3 := @upd_same H8 l3 (.lst (ab5.map V.str))
    have gs := gs.same k3
    have sH := sH.trans k3
    generalize upd H8 l3 (.lst (ab5.map V.str)) = H9 at *
    wtm_at "rd"
    intro l4 fl4
    have k4 := Same.new (o := .lst [.str "a"]) fl4
    have h4 := @upd_same H9 l4 (.lst [.str "a"])
    have h3 := k4 _ _ h3
    have gs := gs.same k4
    have sH := sH.trans k4
    generalize upd H9 l4 (.lst [.str "a"]) = HA at *
    refine rd_catL h3 h4 (by rw [List.length_map]; show _ + 1 ≤ 100000; omega) ?_
    intro l5 fl5
    have k5 := Same.new (o := .lst (ab5.map V.str ++ [.str "a"])) fl5
    have h5 : upd HA l5 (.lst (ab5.map V.str ++ [.str "a"])) l5 = some (.lst ((ab5 ++ [("a" : Str)]).map V.str)) := by
      rw [upd_same, List.map_append]
      rfl
    have gs := gs.same k5
    have sH := sH.trans k5
    generalize upd HA l5 (.lst (ab5.map V.str ++ [.str "a"])) = HB at *
    wtm_at "rd"
    refine ⟨g, n, e, _, _, _, _, rfl, gs, cand_strs h5, fun u2 HC sC rs2 => ?_⟩
    have ck2 : ckF ["a", "b"] [("a", "b")] (some ((ab5 ++ [("a" : Str)]).map some)) = some none := if_neg (by rw [List.length_map, List.length_append, List.length_singleton]; omega)
    have rs2 : RsV HC u2 (ckF ["a", "b"] [("a", "b")] (some ((ab5 ++ [("a" : Str)]).map some))) := rs2
    rw [ck2] at rs2
    have sH := sH.trans sC
    wtm_at "rd"
    intro l6 fl6
    refine rd_eqRN (rs2.same (Same.new fl6)) upd_same ?_
    exact q _ (sH.trans (Same.new fl6))
end
end Law

/-! k03's law -/
namespace Law
open PySem PySem.Spec PyProof.Rows L2 U LamX
local macro_rules | `(tactic| wtm_at "rd1") => `(tactic| first
  | with_reducible refine rd_seq ?_
  | ((with_reducible refine rd_var (v := ?vv) ?hv ?_); (case hv => exact rfl))
  | with_reducible refine rd_c ?_
  | with_reducible refine rd_cons ?_
  | with_reducible refine rd_nil ?_
  | with_reducible refine rd_op ?_
  | with_reducible refine rd_asg ?_
  | with_reducible refine rd_name ?_
  | with_reducible refine rd_c1 ?_
  | with_reducible refine rd_cb ?_
  | with_reducible refine rd_test ?_
  | with_reducible refine rd_B ?_
  | with_reducible refine rd_bl ?_
  | with_reducible refine rd_if ?_
  | with_reducible refine rd_ret ?_
  | with_reducible refine rd_drop ?_
  | with_reducible refine rd_next ?_
  | with_reducible refine rd_addI ?_
  | with_reducible refine rd_ltI ?_
  | with_reducible refine rd_eqI ?_
  | with_reducible refine rd_neI ?_
  | with_reducible refine rd_eqS ?_
  | with_reducible refine rd_neS ?_
  | with_reducible refine rd_gtI ?_
  | with_reducible refine rd_geI ?_
  | with_reducible refine rd_leI ?_
  | with_reducible refine rd_ltS ?_
  | with_reducible refine rd_subI ?_
  | ((with_reducible refine rd_modI ?hc ?_); (case hc => first | decide | omega))
  | ((with_reducible refine rd_mulI ?hc ?_); (case hc => first | exact mul_bI | exact .inl (.inr (by decide)) | exact .inl (.inl (by decide)) | exact .inl (.inr (by omega)) | exact .inl (.inl (by omega))))
  | ((with_reducible refine rd_divI ?hc ?_); (case hc => first | decide | omega))
  | ((with_reducible refine rd_powI ?hc ?_); (case hc => exact ⟨by decide, by decide, by decide⟩))
  | with_reducible refine rd_lst ?_
  | with_reducible refine rd_tup ?_
  | ((with_reducible refine rd_sz ?hv ?_); (case hv => exact rfl))
  | with_reducible refine rd_and ?_
  | with_reducible refine rd_or ?_
  | with_reducible refine rd_not ?_
  | with_reducible refine rd_andV ?_
  | with_reducible refine rd_orV ?_
  | with_reducible refine rd_notV ?_
  | with_reducible refine rd_ifE ?_
  | with_reducible refine rd_T ?_
  | with_reducible refine rd_F ?_
  | with_reducible refine rd_chain ?_
  | with_reducible refine rd_is ?_
  | with_reducible refine rd_isNot ?_
  | with_reducible refine rd_absI ?_
  | with_reducible refine rd_maxI ?_
  | with_reducible refine rd_minI ?_
  | with_reducible refine rd_intI ?_
  | with_reducible refine rd_intB ?_
  | with_reducible refine rd_sub ?_
  | with_reducible refine rd_sl ?_
  | with_reducible refine rd_noPart ?_
  | with_reducible refine rd_part ?_
  | with_reducible refine rd_exI ?_
  | with_reducible refine rd_bm ?_
  | with_reducible refine rd_bm0 ?_
  | with_reducible refine rd_un ?_
  | with_reducible refine rd_neg ?_
  | with_reducible refine rd_c2 ?_
  | with_reducible refine rd_retN ?_
  | with_reducible refine rd_break ?_
  | with_reducible refine rd_cont ?_
  | with_reducible refine rd_for ?_
  | with_reducible refine rd_rng1 ?_
  | with_reducible refine rd_rng2 ?_
  | with_reducible refine rd_iList ?_
  | with_reducible refine rd_iTup ?_
  | with_reducible refine rd_iEnum ?_
  | ((with_reducible refine rd_forR ?h0 ?h1 ?_); (case h0 => omega); (case h1 => omega))
  | with_reducible refine rd_lc ?_
  | with_reducible refine rd_gcons ?_
  | with_reducible refine rd_gnil ?_
  | with_reducible refine rd_dget ?_
  | with_reducible refine rd_dput ?_
  | with_reducible refine rd_dnew ?_
  | with_reducible refine rd_dc ?_
  | with_reducible refine rd_iItems ?_
  | with_reducible refine rd_iKeys ?_
  | with_reducible refine rd_din ?_
  | with_reducible refine rd_lc2 ?_
  | with_reducible refine rd_cd ?_
  | with_reducible refine rd_par ?_
  | with_reducible refine rd_two ?_
  | with_reducible refine rd_reprB ?_
  | with_reducible refine rd_ck ?_
  | ((with_reducible refine rd_len ?hl ?_); (case hl => exact rfl))
  | with_reducible refine rd_nT ?_
  | with_reducible refine rd_nF ?_
  | with_reducible refine rd_dnin ?_
  | with_reducible refine rd_isB ?_
  | with_reducible refine rd_isNotB ?_
  | with_reducible refine rd_daug ?_
  | with_reducible refine rd_yesT ?_
  | ((with_reducible refine rd_wp ?hw ?_); (case hw => exact rfl)))
local macro_rules | `(tactic| wtm_at "rd") => `(tactic| repeat wtm_at "rd1")

theorem cand_plusB {K : PySem.W.Frag} {H : Hp} {ns : List Str} {x : Str} (nm : ∀ y ∈ ns, IsName y) (hx : IsName x) : Cand K H ns (.str (x ++ Str.ofString "B")) := by
  have app : (x ++ Str.ofString "B").cps.toList = x.cps.toList ++ [66] := str_app1
  refine cand_str (fun z => ?_) (fun c hc => ?_) ?_
  · have := ((nm _ z).ch 66 (by rw [app]; simp)).1
    omega
  · rw [app] at hc
    rcases List.mem_append.mp hc with hc | hc
    · have := (hx.ch c hc).2
      omega
    · rw [List.mem_singleton] at hc
      omega
  · have h1 : (x ++ Str.ofString "B").length = (x ++ Str.ofString "B").cps.toList.length := by simp [Str.length]
    have h2 : x.cps.toList.length = x.length := by simp [Str.length]
    have := hx.hi
    rw [h1, app, List.length_append, h2]
    show _ + 1 ≤ 100
    omega
def spLaw (K : PySem.W.Frag) : Sp := fun vs H Q _ => ∃ (a : Addr) (nums : List Int), vs = [.ref a] ∧ SqL K H a (nums.map V.int) ∧ nums.length ≤ 63 ∧ ∀ H' : Hp, Q (.bl true) H'
section
variable {P : Program} {w : World} {K : PySem.W.Frag} {mg : Str → Option Value} {base : Heap}
structure N3c (P : Program) (w : World) (K : PySem.W.Frag) (mg : Str → Option Value) (base : Heap) (CE : Addr) : Prop where
  _law_long_holds : Cal P w K mg base CX0 5 "_law_long_holds" spLng
  _law_pool : Cal P w K mg base CX0 1 "_law_pool" (spPool K)
  _law_draw_graph : Cal P w K mg base CX0 3 "_law_draw_graph" spGraph
  _law_with_more_edges : Cal P w K mg base CX0 2 "_law_with_more_edges" spMore
  _law_shortest_paths : Cal P w K mg base CX0 2 "_law_shortest_paths" spShp
  _law_check_result : Cal P w K mg base CX0 4 "_law_check_result" (spCkR K)
  _law_compute_expected : Cal P w K mg base CX0 2 "_law_compute_expected" (spCkR K)
  _law_shuffle : Cal P w K mg base CX0 2 "_law_shuffle" (spShuf K)
  _law_make_variant : Cal P w K mg base CX0 2 "_law_make_variant" spVar3
  _law_error_of : Cal P w K mg base CX0 5 "_law_error_of" (spEr3 K)
  shortest_path : Cal P w K mg base (L2.CX P w) 4 "shortest_path" (spSPX K CE)
theorem ok_law {f : Addr} {fd : FuncData} {CE : Addr} (F : Fun K "law" "law" s_law f fd) (B : Bt mg) (C : N3c P w K mg base CE) : FnG P w K mg base CX0 6 f fd ["_law_script"] (spLaw K) := by
  refine fnG0 F sc_law (fun vs H Q E h => ?_) (fun cdv A outer s H vs Q E hr h => ?_)
  · obtain ⟨a, nums, rfl, _⟩ := h
    rfl
  · obtain ⟨a, nums, rfl, hs, hl, q⟩ := h
    have nd := sc_law.nd
    have hu := hr.u1
    refine ⟨_, (pss_cons (ps_if (pt_not (pt_val (pe_cG0 C._law_long_holds hr (by decide) rfl pass0))) (pss_one (ps_ret pe_bl)) pss_nil)
  (pss_cons (ps_for PassesOwn.never rfl (ki_list K rfl (pe_lst (pa_cons pe_non (pa_cons (pe_tup pa_nil) (pa_cons (pe_lst pa_nil) (pa_cons pe_str (pa_cons pe_dnewK (pa_cons pe_int pa_nil)))))))) (pg_name (i := 1) nd rfl (by first | exact Or.inl rfl | exact Or.inr rfl)) (pss_one (ps_if (pt_cmpR (kNe K rfl hr.u64) (pe_c C._law_check_result hr (by decide) rfl (pa_cons (pe_tup (pa_cons (pe_tup (pa_cons pe_str pa_nil)) (pa_cons (pe_tup pa_nil) pa_nil))) (pa_cons (pv 1) pa_nil))) (pe_tup (pa_cons pe_non pa_nil)) (nomark _)) (pss_one (ps_ret pe_bl)) pss_nil)))
  (pss_cons (ps_for PassesOwn.never rfl (pi_range1 rfl B.range (pa_cons (pe_callB (cMax rfl) (by rfl) B.max bb_max (pa_cons pe_int (pa_cons (pe_callB (cMin rfl) (by rfl) B.min bb_min (pa_cons pe_int (pa_cons (pe_callB (kLen K rfl) (by rfl) B.len bb_len (pa_cons (pv 0) pa_nil)) pa_nil))) pa_nil))) pa_nil)) (pg_name (i := 2) nd rfl (by first | exact Or.inl rfl | exact Or.inr rfl)) (pss_cons (ps_set (i := 3) nd rfl (by first | exact Or.inl rfl | exact Or.inr rfl) (pe_c C._law_pool hr (by decide) rfl (pa_cons (pv 0) (pa_cons (pv 2) pa_nil))))
  (pss_cons (ps_asg (pe_c C._law_draw_graph hr (by decide) rfl (pa_cons (pv 3) (pa_cons pe_int pa_nil))) (kg_tup (n := 2) K rfl rfl (pgs_cons (pg_name (i := 4) nd rfl (by first | exact Or.inl rfl | exact Or.inr rfl)) (pgs_cons (pg_name (i := 5) nd rfl (by first | exact Or.inl rfl | exact Or.inr rfl)) pgs_nil))))
  (pss_cons (ps_set (i := 4) nd rfl (by first | exact Or.inl rfl | exact Or.inr rfl) (pe_c C._law_with_more_edges hr (by decide) rfl (pa_cons (pv 3) (pa_cons (pv 4) pa_nil))))
  (pss_cons (ps_for PassesOwn.never rfl (ki_tup K rfl (pe_ix (kIx K rfl) (pv 4) pe_int (fun _ _ => rfl))) (pg_name (i := 6) nd rfl (by first | exact Or.inl rfl | exact Or.inr rfl)) (pss_cons (ps_set (i := 7) nd rfl (by first | exact Or.inl rfl | exact Or.inr rfl) (pe_c C._law_shortest_paths hr (by decide) rfl (pa_cons (pv 4) (pa_cons (pv 6) pa_nil))))
  (pss_cons (ps_for PassesOwn.never rfl (ki_tup K rfl (pe_ix (kIx K rfl) (pv 4) pe_int (fun _ _ => rfl))) (pg_name (i := 8) nd rfl (by first | exact Or.inl rfl | exact Or.inr rfl)) (pss_cons (ps_set (i := 9) nd rfl (by first | exact Or.inl rfl | exact Or.inr rfl) (pe_cG C.shortest_path hr (by decide) rfl passL (pa_cons (pv 4) (pa_cons (pv 6) (pa_cons (pv 8) pa_nil)))))
  (pss_cons (ps_if (pt_cmpR (kNe K rfl hr.u64) (pv 9) (pe_dget1 hu (pv 7) (pv 8) ⟨rfl, rfl, rfl, rfl⟩) (nomark _)) (pss_one (ps_ret pe_bl)) pss_nil)
  (pss_one (ps_if (PW.pt (pw_and (pt_cmpR uIsNot (pv 9) pe_non (nomark _)) (pw_and1 (pt_cmpR (kNe K rfl hr.u64) (pe_c C._law_check_result hr (by decide) rfl (pa_cons (pv 4) (pa_cons (pv 9) pa_nil))) pe_str (nomark _))))) (pss_one (ps_ret pe_bl)) pss_nil)))))
  (pss_one (ps_for PassesOwn.never rfl (pi_range1 rfl B.range (pa_cons pe_int pa_nil)) (pg_name (i := 10) nd rfl (by first | exact Or.inl rfl | exact Or.inr rfl)) (pss_cons (ps_set (i := 11) nd rfl (by first | exact Or.inl rfl | exact Or.inr rfl) (pe_c C._law_make_variant hr (by decide) rfl (pa_cons (pv 3) (pa_cons (pv 4) (pa_cons (pe_dget hu (pv 7) (pe_ix (kIx K rfl) (pe_c C._law_shuffle hr (by decide) rfl (pa_cons (pv 3) (pa_cons (pe_callB (call_sortedD rfl) (by rfl) B.sorted bb_sorted (pa_cons (pv 7) pa_nil)) pa_nil))) pe_int (fun _ _ => rfl)) (fun _ _ => rfl)) pa_nil)))))
  (pss_one (ps_if (pt_cmpR (kNe K rfl hr.u64) (pe_c C._law_check_result hr (by decide) rfl (pa_cons (pv 4) (pa_cons (pv 11) pa_nil))) (pe_c C._law_compute_expected hr (by decide) rfl (pa_cons (pv 4) (pa_cons (pv 11) pa_nil))) (nomark _)) (pss_one (ps_ret pe_bl)) pss_nil))))))))
  (pss_one (ps_for PassesOwn.never rfl (ki_list K rfl (pe_lst (pa_cons pe_non (pa_cons pe_str (pa_cons (pe_lst (pa_cons pe_str pa_nil)) (pa_cons (pe_op (kAdd K rfl) (pe_ix (kIx K rfl) (pe_ix (kIx K rfl) (pv 4) pe_int (fun _ _ => rfl)) pe_int (fun _ _ => rfl)) pe_str) pa_nil)))))) (pg_name (i := 12) nd rfl (by first | exact Or.inl rfl | exact Or.inr rfl)) (pss_cons (ps_if (pt_cmpR (kNe K rfl hr.u64) (pe_c C._law_error_of hr (by decide) rfl (pa_cons (pv 4) (pa_cons (pv 12) (pa_cons pe_non pa_nil)))) (pe_callB (kReprV K rfl hr.g hr.u64) (by rfl) B.repr bb_repr (pa_cons (pv 12) pa_nil)) (nomark _)) (pss_one (ps_ret pe_bl)) pss_nil)
  (pss_one (ps_if (pt_cmpR (kNe K rfl hr.u64) (pe_c C._law_error_of hr (by decide) rfl (pa_cons (pv 4) (pa_cons (pe_ix (kIx K rfl) (pe_ix (kIx K rfl) (pv 4) pe_int (fun _ _ => rfl)) pe_int (fun _ _ => rfl)) (pa_cons (pv 12) pa_nil)))) (pe_callB (kReprV K rfl hr.g hr.u64) (by rfl) B.repr bb_repr (pa_cons (pv 12) pa_nil)) (nomark _)) (pss_one (ps_ret pe_bl)) pss_nil))))))))))
  (pss_one (ps_ret pe_bl))))), ?_⟩
    have sH : Same H H := fun b o h => h
    wtm_at "rd"
    refine ⟨rfl, fun H1 s1 => ?_⟩
    have sH := sH.trans s1
    wtm_at "rd"
    try refine rd_F ?_
    wtm_at "rd"
    intro z1 fz1
    have kz1 := Same.new (o := .tup []) fz1
    have hz1 := @upd_same H1 z1 (.tup [])
    have sH := sH.trans kz1
    generalize upd H1 z1 (.tup []) = H2 at hz1 sH
    clear kz1 fz1
    wtm_at "rd"
    intro z2 fz2
    have kz2 := Same.new (o := .lst []) fz2
    have hz2 := @upd_same H2 z2 (.lst [])
    have hz1 := kz2 _ _ hz1
    have sH := sH.trans kz2
    generalize upd H2 z2 (.lst []) = H3 at hz2 hz1 sH
    clear kz2 fz2
    wtm_at "rd"
    intro z3 fz3
    have kz3 := Same.new (o := .dK []) fz3
    have hz3 := @upd_same H3 z3 (.dK [])
    have hz1 := kz3 _ _ hz1
    have hz2 := kz3 _ _ hz2
    have sH := sH.trans kz3
    generalize upd H3 z3 (.dK []) = H4 at hz3 hz1 hz2 sH
    clear kz3 fz3
    wtm_at "rd"
    intro z4 fz4
    have kz4 := Same.new (o := .lst [.non, .ref z1, .ref z2, .str "", .ref z3, .int 5]) fz4
    have hz4 := @upd_same H4 z4 (.lst [.non, .ref z1, .ref z2, .str "", .ref z3, .int 5])
    have hz1 := kz4 _ _ hz1
    have hz2 := kz4 _ _ hz2
    have hz3 := kz4 _ _ hz3
    have sH := sH.trans kz4
    generalize upd H4 z4 (.lst [.non, .ref z1, .ref z2, .str "", .ref z3, .int 5]) = H5 at hz4 hz1 hz2 hz3 sH
    clear kz4 fz4
    have six : ∀ v ∈ [V.non, .ref z1, .ref z2, .str "", .ref z3, .int 5], ∃ oc, CandP K H5 v oc ∧ ckF ["a"] [] oc = some none := fun v hv => by
      simp only [List.mem_cons, List.not_mem_nil, or_false] at hv
      rcases hv with rfl | rfl | rfl | rfl | rfl | rfl
      · exact ⟨none, .odd ty_non rfl, rfl⟩
      · exact ⟨none, .odd (ty_tup hz1) rfl, rfl⟩
      · exact ⟨some [], .lst (us := []) (SqL.of hz2) rfl (fun i u o h => by cases h), rfl⟩
      · exact ⟨none, .odd ty_str rfl, rfl⟩
      · exact ⟨none, .odd (ty_dK hz3) rfl, rfl⟩
      · exact ⟨none, .odd ty_int rfl, rfl⟩
    generalize [V.non, .ref z1, .ref z2, .str "", .ref z3, .int 5] = six0 at *
    clear hz1 hz2 hz3 s1
    refine rd_forL (SqL.of hz4) ?_
    refine turnsL (K := K) (xs := six0) (fun j σ H' => (∃ us : List (Option V), us.length = 12 ∧ σ = some (.ref a) :: us) ∧ Same H5 H') ⟨⟨_, rfl, rfl⟩, fun _ _ h => h⟩ ?_ ?_ ?_
    · rintro j σ H' hj ⟨_, s⟩
      exact SqL.of (s _ _ hz4)
    · rintro j y σ H' hy ⟨⟨us, lu, rfl⟩, s⟩
      obtain ⟨u1, u2, u3, u4, u5, u6, u7, u8, u9, u10, u11, u12, rfl⟩ : ∃ u1 u2 u3 u4 u5 u6 u7 u8 u9 u10 u11 u12, us = [u1, u2, u3, u4, u5, u6, u7, u8, u9, u10, u11, u12] := by
        match us, lu with
        | [u1, u2, u3, u4, u5, u6, u7, u8, u9, u10, u11, u12], _ => exact ⟨_, _, _, _, _, _, _, _, _, _, _, _, rfl⟩
      obtain ⟨oc, cd, ck⟩ := six y (List.mem_of_getElem? hy)
      wtm_at "rd"
      intro n1 fn1
      have kn1 := Same.new (o := .tup [.str "a"]) fn1
      have hn1 := @upd_same H' n1 (.tup [.str "a"])
      have s := s.trans kn1
      generalize upd H' n1 (.tup [.str "a"]) = H6 at hn1 s
      clear kn1 fn1
      wtm_at "rd"
      intro e1 fe1
      have ke1 := Same.new (o := .tup []) fe1
      have he1 := @upd_same H6 e1 (.tup [])
      have hn1 := ke1 _ _ hn1
      have s := s.trans ke1
      generalize upd H6 e1 (.tup []) = H7 at he1 hn1 s
      clear ke1 fe1
      wtm_at "rd"
      have s7 := s
      intro g1 fg1
      have kg1 := Same.new (o := .tup [.ref n1, .ref e1]) fg1
      have hg1 := @upd_same H7 g1 (.tup [.ref n1, .ref e1])
      have hn1 := kg1 _ _ hn1
      have he1 := kg1 _ _ he1
      have s := s.trans kg1
      generalize upd H7 g1 (.tup [.ref n1, .ref e1]) = H8 at hg1 hn1 he1 s
      clear kg1 fg1
      wtm_at "rd"
      refine ⟨g1, n1, e1, y, oc, ["a"], [], rfl, ⟨⟨hg1, hn1, he1, fun x hx => nomatch hx⟩, one_ok, by decide, by decide⟩, CandP.same cd s, fun u H9 s9 rs => ?_⟩
      have rs : RsV H9 u (ckF ["a"] [] oc) := rs
      rw [ck] at rs
      have s := s.trans s9
      wtm_at "rd"
      intro t1 ft1
      have kt1 := Same.new (o := .tup [.non]) ft1
      have ht1 := @upd_same H9 t1 (.tup [.non])
      have rs := rs.same kt1
      have s := s.trans kt1
      generalize upd H9 t1 (.tup [.non]) = HA at ht1 rs s
      clear kt1 ft1
      refine rd_neRN rs ht1 ?_
      wtm_at "rd"
      exact ⟨⟨_, rfl, rfl⟩, s⟩
    rintro σ H6 ⟨⟨us, lu, rfl⟩, s⟩
    have sH := sH.trans s
    have hs6 := Same.sqL sH hs
    clear six hz4 s
    obtain ⟨u1, u2, u3, u4, u5, u6, u7, u8, u9, u10, u11, u12, rfl⟩ : ∃ u1 u2 u3 u4 u5 u6 u7 u8 u9 u10 u11 u12, us = [u1, u2, u3, u4, u5, u6, u7, u8, u9, u10, u11, u12] := by
      match us, lu with
      | [u1, u2, u3, u4, u5, u6, u7, u8, u9, u10, u11, u12], _ => exact ⟨_, _, _, _, _, _, _, _, _, _, _, _, rfl⟩
    wtm_at "rd"
    refine rd_lenL hs6 ?_
    rw [List.length_map]
    wtm_at "rd"
    refine turnsR (fun i σ H' => (∃ us : List (Option V), us.length = 12 ∧ σ = some (.ref a) :: us) ∧ SqL K H' a (nums.map V.int)) ⟨⟨_, rfl, rfl⟩, hs6⟩ ?_ ?_
    · rintro i σ H0 hi ⟨⟨us, lu, rfl⟩, hs⟩
      have hi : i < 64 := by omega
      obtain ⟨u1, u2, u3, u4, u5, u6, u7, u8, u9, u10, u11, u12, rfl⟩ : ∃ u1 u2 u3 u4 u5 u6 u7 u8 u9 u10 u11 u12, us = [u1, u2, u3, u4, u5, u6, u7, u8, u9, u10, u11, u12] := by
        match us, lu with
        | [u1, u2, u3, u4, u5, u6, u7, u8, u9, u10, u11, u12], _ => exact ⟨_, _, _, _, _, _, _, _, _, _, _, _, rfl⟩
      wtm_at "rd"
      refine ⟨a, nums, i, by rw [Int.zero_add], hs, by omega, fun p big seed np pok => ?_⟩
      have hp : PoolAt (upd H0 p (poolO big seed)) p := ⟨big, seed, upd_same, pok⟩
      have keep : ∀ {H' : Hp}, Go p (upd H0 p (poolO big seed)) H' → SqL K H' a (nums.map V.int) := fun {H'} g => seqL_keep hs np ((But.new np).trans g.but)
      generalize upd H0 p (poolO big seed) = H1 at hp keep
      wtm_at "rd"
      refine use_graphB hp (by decide) (by decide) fun t g0 n e0 st ns ord es0 f H2 g2 ht gst n1 n9 _ _ _ => ?_
      refine rd_unp (SqT.of ht) rfl ?_
      wtm_at "rd"
      refine ⟨p, g0, n, e0, ns, es0, rfl, g2.pool, gst.grs, by omega, fun g e es H3 g3 gs => ?_⟩
      have keep3 : ∀ {H' : Hp}, Go p H3 H' → SqL K H' a (nums.map V.int) := fun {H'} s => keep ((g2.trans g3).trans s)
      have hp3 := g3.pool
      have l1 : ns.length ≤ 900 := by omega
      have nm := gs.ok.names.ok
      have sok : ∀ x ∈ ns, PyData.strOk x = true := fun x hx => (nm x hx).sok
      have cl : ∀ a ∈ ns, ∀ b ∈ nbS (es.map (·.2)) a, b ∈ ns := fun a _ b hb => nbS_in gs.ok hb
      clear keep g2 g3 gst ht hp
      wtm_at "rd"
      refine rd_ixT (SqT.of gs.gr.top) (v := .ref n) rfl ?_
      refine rd_forT (SqT.of gs.gr.nodes) ?_
      refine turnsT (K := K) (xs := ns.map V.str) (fun j σ H' => ∃ u6 u7 u8 u9 u10 u11 u12 : Option V, σ = [some (.ref a), u1, some (.int (0 + (i : Int))), some (.ref p), some (.ref g), some (.ref st), u6, u7, u8, u9, u10, u11, u12] ∧ Go p H3 H') ⟨_, _, _, _, _, _, _, rfl, Go.refl hp3⟩ ?_ ?_ ?_
      · rintro j σ H' hj ⟨u6, u7, u8, u9, u10, u11, u12, rfl, go⟩
        exact SqT.of (Go.grs hp3 go gs).gr.nodes
      · rintro j y σ H4 hy ⟨u6, u7, u8, u9, u10, u11, u12, rfl, go4⟩
        obtain ⟨hj, rfl⟩ := map_at hy
        have hx := List.getElem_mem hj
        generalize ns[j] = x at *
        have gs4 := Go.grs hp3 go4 gs
        wtm_at "rd"
        refine ⟨g, n, e, x, ns, es, rfl, gs4, hx, fun d A H5 s5 pa => ?_⟩
        have pk := pt_all gs.ok l1 hx
        have xin := pt_self (es := es.map (·.2)) (x := x)
        have kin : ∀ y ∈ keysF (ptF (es.map (·.2)) x), y ∈ ns := fun y hy => pt_in gs.ok hx hy
        have klen : (ptF (es.map (·.2)) x).length ≤ ns.length := pt_len gs.ok hx
        have go5 := go4.trans (Go.of_same go4.pool s5)
        have gs5 := gs4.same s5
        generalize hkp : ptF (es.map (·.2)) x = kp at *
        wtm_at "rd"
        refine rd_ixT (SqT.of gs5.gr.top) (v := .ref n) rfl ?_
        refine rd_forT (SqT.of gs5.gr.nodes) ?_
        refine turnsT (K := K) (xs := ns.map V.str) (fun j σ H' => ∃ u8 u9 : Option V, σ = [some (.ref a), u1, some (.int (0 + (i : Int))), some (.ref p), some (.ref g), some (.ref st), some (.str x), some (.ref d), u8, u9, u10, u11, u12] ∧ Same H5 H') ⟨_, _, rfl, fun _ _ h => h⟩ ?_ ?_ ?_
        · rintro j σ H' hj ⟨u8, u9, rfl, s⟩
          exact SqT.of (s _ _ gs5.gr.nodes)
        · rintro j y σ H6 hy ⟨u8, u9, rfl, s6⟩
          obtain ⟨hj, rfl⟩ := map_at hy
          have hz := List.getElem_mem hj
          generalize ns[j] = z at *
          have gs6 := gs5.same s6
          have pa6 := pa.same s6
          wtm_at "rd"
          refine ⟨g, n, e, _, _, ns, es, rfl, gs6, .inl ⟨x, z, rfl, hx, rfl, hz, fun v H7 s7 pv => ?_⟩⟩
          rw [hkp] at pv
          have s57 := s6.trans s7
          have pa7 := pa6.same s7
          have gs7 := gs6.same s7
          wtm_at "rd"
          refine rd_dget1 ?_
          wtm_at "rd"
          refine ⟨d, rfl, .inl ⟨_, .inl pa7.di⟩, ?_⟩
          wtm_at "rd"
          refine ⟨_, .inl ⟨_, .inr z, .inl pa7.di, rfl, rfl⟩, ?_⟩
          rcases pv with ⟨nz, rfl⟩ | ⟨av, pth, rfl, hm, hv⟩
          · rw [kvG_none nz]
            refine rd_neNN3 ?_
            wtm_at "rd"
            refine rd_nno rfl ?_
            wtm_at "rd"
            exact ⟨_, _, rfl, s57⟩
          · have mz : z ∈ keysF kp := List.mem_map_of_mem hm
            rw [kvG_val mz]
            have ha := pa7.li _ hm
            obtain ⟨k1, k2, k3, k4⟩ := pk _ hm
            have k2 : pth.length ≤ 901 := k2
            have k4 : 1 ≤ pth.length := k4
            refine rd_neSL (SqL.of hv) (SqL.of ha) (fun y hy => sok y (k1 y hy)) (fun y hy => sok y (k1 y hy)) ?_
            wtm_at "rd"
            refine rd_nno rfl ?_
            wtm_at "rd"
            refine rd_nyes (fun z => nomatch z) ?_
            wtm_at "rd"
            refine ⟨g, n, e, _, _, ns, es, rfl, gs7, cand_strs hv, fun u H8 s8 rs => ?_⟩
            have ck : ckF ns (es.map (·.2)) (some (pth.map some)) = none := by
              have e1 : ckF ns (es.map (·.2)) (some (pth.map some)) = (badF ns (es.map (·.2)) none (pth.map some) 0).map some := if_pos (by rw [List.length_map]; omega)
              rw [e1, badF_good (pr := none) k1 k3 (fun y z (h : none = some y) => nomatch h)]
              rfl
            rw [ck] at rs
            wtm_at "rd"
            refine rd_neRG rs ?_
            wtm_at "rd"
            exact ⟨_, _, rfl, s57.trans s8⟩
        rintro σ H6 ⟨u8, u9, rfl, s6⟩
        have go6 := go5.trans (Go.of_same go5.pool s6)
        have pa6 := pa.same s6
        clear pa go5 s6 gs5
        wtm_at "rd"
        refine turnsR (fun k σ H' => (∃ u10 u11 : Option V, σ = [some (.ref a), u1, some (.int (0 + (i : Int))), some (.ref p), some (.ref g), some (.ref st), some (.str x), some (.ref d), u8, u9, u10, u11, u12]) ∧ Go p H3 H' ∧ PathsAt H' d kp A) ⟨⟨_, _, rfl⟩, go6, pa6⟩ ?_ ?_
        · rintro k σ H7 hk ⟨⟨u10, u11, rfl⟩, go7, pa7⟩
          wtm_at "rd"
          refine ⟨d, _, keysF kp, rfl, .inl pa7.di, (by rw [List.map_map]; rfl), (by rw [List.length_map]; omega), fun ys l8 pm srt f8 => ?_⟩
          have yin : ∀ y ∈ ys, y ∈ keysF kp := fun y hy => pm.mem_iff.mp hy
          have k8 := Same.new (o := .lst (ys.map V.str)) f8
          have h8 := @upd_same H7 l8 (.lst (ys.map V.str))
          have go8 := go7.trans (Go.of_same go7.pool k8)
          have pa8 := pa7.same k8
          generalize upd H7 l8 (.lst (ys.map V.str)) = H8 at *
          have yl : ys.length ≤ 900 := by
            have := pm.length_eq
            rw [List.length_map] at this
            omega
          wtm_at "rd"
          refine ⟨p, l8, ys, rfl, go8.pool, h8, fun y hy => sok y (kin y (yin y hy)), by omega, fun l9 zs H9 g9 _ h9 pz => ?_⟩
          have go9 := go8.trans g9
          have off : ∀ c ∈ kp, A c.1 ≠ p := fun c hc => go8.pool.off (pa8.li c hc)
          have pa9 : PathsAt H9 d kp A := ⟨g9.at pa8.di (go8.pool.offD pa8.di), fun c hc => g9.at (pa8.li c hc) (off c hc)⟩
          obtain ⟨z, hz0, hzk⟩ : ∃ z, zs[0]? = some z ∧ z ∈ keysF kp := by
            have hxz : x ∈ zs := pz.mem_iff.mpr (pm.mem_iff.mpr xin)
            cases zs with
            | nil => cases hxz
            | cons z r => exact ⟨z, rfl, yin z (pz.mem_iff.mp List.mem_cons_self)⟩
          wtm_at "rd"
          refine rd_ixL (SqL.of h9) (v := .str z) (atI_nat (j := 0) (by rw [List.getElem?_map, hz0]; rfl)) ?_
          wtm_at "rd"
          refine rd_dat (.inl pa9.di) (kvG_val hzk) rfl ?_
          obtain ⟨pth, _, hm⟩ := lookup_some hzk
          have ha := pa9.li _ hm
          obtain ⟨k1, k2, k3, k4⟩ := pk _ hm
          have k2 : pth.length ≤ 901 := k2
          wtm_at "rd"
          refine ⟨p, g, n, e, A z, ns, pth, es, rfl, go9.pool, Go.grs hp3 go9 gs, n1, by omega, ha, go9.pool.off ha, by omega, fun r HA gA gd => ?_⟩
          have goA := go9.trans gA
          obtain ⟨oc, cd⟩ := gd.cand (K := K)
          have paA : PathsAt HA d kp A := ⟨gA.at pa9.di (go9.pool.offD pa9.di), fun c hc => gA.at (pa9.li c hc) (go9.pool.off (pa9.li c hc))⟩
          have gsA := Go.grs hp3 goA gs
          wtm_at "rd"
          refine ⟨g, n, e, r, oc, ns, es, rfl, gsA, cd, fun u HB sB rs => ?_⟩
          wtm_at "rd"
          refine ⟨g, n, e, r, oc, ns, es, rfl, gsA.same sB, CandP.same cd sB, fun u2 HC sC rs2 => ?_⟩
          refine rd_neRs (rs.same sC) rs2 ?_
          have sBC := sB.trans sC
          wtm_at "rd"
          exact ⟨⟨_, _, rfl⟩, goA.trans (Go.of_same goA.pool sBC), paA.same sBC⟩
        · rintro σ H7 ⟨⟨u10, u11, rfl⟩, go7, _⟩
          wtm_at "rd"
          exact ⟨_, _, _, _, _, _, _, rfl, go7⟩
      · rintro σ H4 ⟨u6, u7, u8, u9, u10, u11, u12, rfl, go4⟩
        have gs4 := Go.grs hp3 go4 gs
        obtain ⟨x0, hx0, x0in⟩ : ∃ x0, ns[0]? = some x0 ∧ x0 ∈ ns := by
          cases ns with
          | nil => exact absurd n1 (by decide)
          | cons x0 nr => exact ⟨x0, rfl, List.mem_cons_self⟩
        have sD : Same H4 H4 := fun b o h => h
        wtm_at "rd"
        intro tb ftb
        have ktb := Same.new (o := .lst [.str "a"]) ftb
        have htb := @upd_same H4 tb (.lst [.str "a"])
        have gs4 := gs4.same ktb
        have sD := sD.trans ktb
        generalize upd H4 tb (.lst [.str "a"]) = H5 at htb gs4 sD
        clear ktb ftb
        wtm_at "rd"
        refine rd_ixT (SqT.of gs4.gr.top) (v := .ref n) rfl ?_
        wtm_at "rd"
        refine rd_ixT (SqT.of gs4.gr.nodes) (v := .str x0) (atI_nat (j := 0) (by rw [List.getElem?_map, hx0]; rfl)) ?_
        wtm_at "rd"
        have nm0 := nm x0 x0in
        refine rd_addS (Nat.le_trans (Nat.add_le_add nm0.hi (by decide : (Str.ofString "B").length ≤ 1)) (by decide)) ?_
        wtm_at "rd"
        intro tl ftl
        have ktl := Same.new (o := .lst [.non, .str "", .ref tb, .str (x0 ++ "B")]) ftl
        have htl := @upd_same H5 tl (.lst [.non, .str "", .ref tb, .str (x0 ++ "B")])
        have htb := ktl _ _ htb
        have gs4 := gs4.same ktl
        have sD := sD.trans ktl
        generalize upd H5 tl (.lst [.non, .str "", .ref tb, .str (x0 ++ "B")]) = H6 at htl htb gs4 sD
        clear ktl ftl
        have cand : ∀ y ∈ [V.non, .str "", .ref tb, .str (x0 ++ "B")], Cand K H6 ns y := by
          intro y hy
          simp only [List.mem_cons, List.not_mem_nil, or_false] at hy
          rcases hy with rfl | rfl | rfl | rfl
          · exact cand_non
          · exact cand_str (fun z => absurd (nm _ z).lo (by decide)) (by decide) (by decide)
          · exact cand_lst1 htb ⟨by decide, by decide, by decide⟩
          · exact cand_plusB nm nm0
        generalize [V.non, .str "", .ref tb, .str (x0 ++ "B")] = ys at htl cand
        refine rd_forL (SqL.of htl) ?_
        refine turnsL (K := K) (xs := ys) (fun j σ H' => (∃ u12 : Option V, σ = [some (.ref a), u1, some (.int (0 + (i : Int))), some (.ref p), some (.ref g), some (.ref st), u6, u7, u8, u9, u10, u11, u12]) ∧ Same H6 H') ⟨⟨_, rfl⟩, fun _ _ h => h⟩ ?_ ?_ ?_
        · rintro j σ H' hj ⟨_, s⟩
          exact SqL.of (s _ _ htl)
        · rintro j y σ H' hy ⟨⟨u12, rfl⟩, s6⟩
          obtain ⟨nn, S, rp⟩ := (cand y (List.mem_of_getElem? hy)).same s6
          have gs7 := gs4.same s6
          wtm_at "rd"
          refine ⟨g, n, e, y, .non, ns, es, S, rfl, gs7, .inl ⟨nn, rp⟩, fun H8 s8 => ?_⟩
          wtm_at "rd"
          refine rd_reprV (rp.same s8) ?_
          wtm_at "rd"
          refine rd_nno rfl ?_
          wtm_at "rd"
          have gs8 := gs7.same s8
          refine rd_ixT (SqT.of gs8.gr.top) (v := .ref n) rfl ?_
          wtm_at "rd"
          refine rd_ixT (SqT.of gs8.gr.nodes) (v := .str x0) (atI_nat (j := 0) (by rw [List.getElem?_map, hx0]; rfl)) ?_
          wtm_at "rd"
          refine ⟨g, n, e, _, y, ns, es, S, rfl, gs8, .inr ⟨x0, rfl, x0in, nn.same s8, rp.same s8⟩, fun H9 s9 => ?_⟩
          wtm_at "rd"
          refine rd_reprV ((rp.same s8).same s9) ?_
          wtm_at "rd"
          refine rd_nno rfl ?_
          wtm_at "rd"
          exact ⟨⟨_, rfl⟩, (s6.trans s8).trans s9⟩
        · rintro σ H' ⟨⟨u12, rfl⟩, s6⟩
          wtm_at "rd"
          exact ⟨⟨_, rfl, rfl⟩, keep3 (go4.trans (Go.of_same go4.pool (sD.trans s6)))⟩
    · rintro σ H' ⟨⟨us, lu, rfl⟩, hs⟩
      wtm_at "rd"
      exact q H'
end
end Law

/-! the law's own head, one table of code objects tracked -/
namespace U
open PySem PySem.Spec PyProof.Rows L2 LamX
end U
namespace U
open PySem PySem.Spec PyProof.Rows L2
end U

namespace Law
open PySem PySem.Spec PyProof.Rows L2 U
theorem all_mk {l : PySem.W.OpenLaw} {w : World} {K : PySem.W.Frag} {h : Heap} {mg : Str → Option Value} {fa : Addr} (X : K.In h) (G : h.Ns mainGlobals mg) (hfa : mg "law" = some (.ref fa))
    {od0 an0 : Option Addr} {sl0 : Array (Option Value)} {f0 : Addr} {oc0 kV0 dc0 pm0 cd0 ct0 : Value}
    {od1 an1 : Option Addr} {sl1 : Array (Option Value)} {f1 : Addr} {oc1 kV1 dc1 pm1 cd1 ct1 : Value}
    {od2 an2 : Option Addr} {sl2 : Array (Option Value)} {f2 : Addr} {oc2 kV2 dc2 pm2 cd2 ct2 : Value}
    {od3 an3 : Option Addr} {sl3 : Array (Option Value)} {f3 : Addr} {oc3 kV3 dc3 pm3 cd3 ct3 : Value}
    {od4 an4 : Option Addr} {sl4 : Array (Option Value)} {f4 : Addr} {oc4 kV4 dc4 pm4 cd4 ct4 : Value}
    {od5 an5 : Option Addr} {sl5 : Array (Option Value)} {f5 : Addr} {oc5 kV5 dc5 pm5 cd5 ct5 : Value}
    {od6 an6 : Option Addr} {sl6 : Array (Option Value)} {f6 : Addr} {oc6 kV6 dc6 pm6 cd6 ct6 : Value}
    {od7 an7 : Option Addr} {sl7 : Array (Option Value)} {f7 : Addr} {oc7 kV7 dc7 pm7 cd7 ct7 : Value}
    {od8 an8 : Option Addr} {sl8 : Array (Option Value)} {f8 : Addr} {oc8 kV8 dc8 pm8 cd8 ct8 : Value}
    {od9 an9 : Option Addr} {sl9 : Array (Option Value)} {f9 : Addr} {oc9 kV9 dc9 pm9 cd9 ct9 : Value}
    {od10 an10 : Option Addr} {sl10 : Array (Option Value)} {f10 : Addr} {oc10 kV10 dc10 pm10 cd10 ct10 : Value}
    {od11 an11 : Option Addr} {sl11 : Array (Option Value)} {f11 : Addr} {oc11 kV11 dc11 pm11 cd11 ct11 : Value}
    {od12 an12 : Option Addr} {sl12 : Array (Option Value)} {f12 : Addr} {oc12 kV12 dc12 pm12 cd12 ct12 : Value}
    {od13 an13 : Option Addr} {sl13 : Array (Option Value)} {f13 : Addr} {oc13 kV13 dc13 pm13 cd13 ct13 : Value}
    {od14 an14 : Option Addr} {sl14 : Array (Option Value)} {f14 : Addr} {oc14 kV14 dc14 pm14 cd14 ct14 : Value}
    {od15 an15 : Option Addr} {sl15 : Array (Option Value)} {f15 : Addr} {oc15 kV15 dc15 pm15 cd15 ct15 : Value}
    {od16 an16 : Option Addr} {sl16 : Array (Option Value)} {f16 : Addr} {oc16 kV16 dc16 pm16 cd16 ct16 : Value}
    {od17 an17 : Option Addr} {sl17 : Array (Option Value)} {f17 : Addr} {oc17 kV17 dc17 pm17 cd17 ct17 : Value}
    {od18 an18 : Option Addr} {sl18 : Array (Option Value)} {f18 : Addr} {oc18 kV18 dc18 pm18 cd18 ct18 : Value}
    {od19 an19 : Option Addr} {sl19 : Array (Option Value)} {f19 : Addr} {oc19 kV19 dc19 pm19 cd19 ct19 : Value}
    {od20 an20 : Option Addr} {sl20 : Array (Option Value)} {f20 : Addr} {oc20 kV20 dc20 pm20 cd20 ct20 : Value}
    {od21 an21 : Option Addr} {sl21 : Array (Option Value)} {f21 : Addr} {oc21 kV21 dc21 pm21 cd21 ct21 : Value}
    {od22 an22 : Option Addr} {sl22 : Array (Option Value)} {f22 : Addr} {oc22 kV22 dc22 pm22 cd22 ct22 : Value}
    {tk0 : Tok}
    {CB : Addr}
    {CE0 fE0 : Addr} {nmE0 qE0 : Str} {NE0 : Addr} {bsE0 : List Value} {snE0 : List Str} {subE0 : List Value} {abE0 : Bool} {colE0 : Option Bool} {ddE0 : Option Addr} {mA0 mB0 mC0 mD0 mE0 : Option Value} {odE0 anE0 : Option Addr} {slE0 : Array (Option Value)} {ocE0 kVE0 dcE0 pmE0 cdE0 ctE0 : Value}
    {CQ0 fQ0 : Addr} {nmQ0 qQ0 : Str} {NQ0 : Addr} {bsQ0 : List Value} {snQ0 : List Str} {subQ0 : List Value} {abQ0 : Bool} {colQ0 : Option Bool} {ddQ0 : Option Addr} {maQ0 mbQ0 mcQ0 mdQ0 meQ0 : Option Value} {odQ0 anQ0 : Option Addr} {slQ0 : Array (Option Value)} {ocQ0 kVQ0 dcQ0 pmQ0 cdQ0 ctQ0 : Value}
    (a0 : PySem.W.nsIn K mainGlobals "has_node" = some (some (.ref f0))) (l0 : K.lookup f0 = some ⟨oc0, od0, .func (PySem.W.fnOf "has_node" "has_node" (defArgs s_has_node) (defBody s_has_node) (defScope s_has_node) .none kV0 dc0 pm0 an0 cd0 ct0), sl0⟩) (c0 : PySem.W.codeIn K cd0 "has_node" = true) (k0 : PySem.W.keepIn K (.ref f0) = true)
    (a1 : PySem.W.nsIn K mainGlobals "check_node" = some (some (.ref f1))) (l1 : K.lookup f1 = some ⟨oc1, od1, .func (PySem.W.fnOf "check_node" "check_node" (defArgs s_check_node) (defBody s_check_node) (defScope s_check_node) .none kV1 dc1 pm1 an1 cd1 ct1), sl1⟩) (c1 : PySem.W.codeIn K cd1 "check_node" = true) (k1 : PySem.W.keepIn K (.ref f1) = true)
    (a2 : PySem.W.nsIn K mainGlobals "edge_of" = some (some (.ref f2))) (l2 : K.lookup f2 = some ⟨oc2, od2, .func (PySem.W.fnOf "edge_of" "edge_of" (defArgs s_edge_of) (defBody s_edge_of) (defScope s_edge_of) .none kV2 dc2 pm2 an2 cd2 ct2), sl2⟩) (c2 : PySem.W.codeIn K cd2 "edge_of" = true) (k2 : PySem.W.keepIn K (.ref f2) = true)
    (a3 : PySem.W.nsIn K mainGlobals "adjacency" = some (some (.ref f3))) (l3 : K.lookup f3 = some ⟨oc3, od3, .func (PySem.W.fnOf "adjacency" "adjacency" (defArgs s_adjacency) (defBody s_adjacency) (defScope s_adjacency) .none kV3 dc3 pm3 an3 cd3 ct3), sl3⟩) (c3 : PySem.W.codeIn K cd3 "adjacency" = true) (k3 : PySem.W.keepIn K (.ref f3) = true)
    (a4 : PySem.W.nsIn K mainGlobals "check_path" = some (some (.ref f4))) (l4 : K.lookup f4 = some ⟨oc4, od4, .func (PySem.W.fnOf "check_path" "check_path" (defArgs s_check_path) (defBody s_check_path) (defScope s_check_path) .none kV4 dc4 pm4 an4 cd4 ct4), sl4⟩) (c4 : PySem.W.codeIn K cd4 "check_path" = true) (k4 : PySem.W.keepIn K (.ref f4) = true)
    (a5 : PySem.W.nsIn K mainGlobals "paths_from" = some (some (.ref f5))) (l5 : K.lookup f5 = some ⟨oc5, od5, .func (PySem.W.fnOf "paths_from" "paths_from" (defArgs s_paths_from) (defBody s_paths_from) (defScope s_paths_from) .none kV5 dc5 pm5 an5 cd5 ct5), sl5⟩) (c5 : PySem.W.codeIn K cd5 "paths_from" = true) (k5 : PySem.W.keepIn K (.ref f5) = true)
    (a6 : PySem.W.nsIn K mainGlobals "shortest_path" = some (some (.ref f6))) (l6 : K.lookup f6 = some ⟨oc6, od6, .func (PySem.W.fnOf "shortest_path" "shortest_path" (defArgs s_shortest_path) (defBody s_shortest_path) (defScope s_shortest_path) .none kV6 dc6 pm6 an6 cd6 ct6), sl6⟩) (c6 : PySem.W.codeIn K cd6 "shortest_path" = true) (k6 : PySem.W.keepIn K (.ref f6) = true)
    (a7 : PySem.W.nsIn K mainGlobals "_law_pool" = some (some (.ref f7))) (l7 : K.lookup f7 = some ⟨oc7, od7, .func (PySem.W.fnOf "_law_pool" "_law_pool" (defArgs s__law_pool) (defBody s__law_pool) (defScope s__law_pool) .none kV7 dc7 pm7 an7 cd7 ct7), sl7⟩) (c7 : PySem.W.codeIn K cd7 "_law_pool" = true) (k7 : PySem.W.keepIn K (.ref f7) = true)
    (a8 : PySem.W.nsIn K mainGlobals "_law_draw" = some (some (.ref f8))) (l8 : K.lookup f8 = some ⟨oc8, od8, .func (PySem.W.fnOf "_law_draw" "_law_draw" (defArgs s__law_draw) (defBody s__law_draw) (defScope s__law_draw) .none kV8 dc8 pm8 an8 cd8 ct8), sl8⟩) (c8 : PySem.W.codeIn K cd8 "_law_draw" = true) (k8 : PySem.W.keepIn K (.ref f8) = true)
    (a9 : PySem.W.nsIn K mainGlobals "_law_draw_names" = some (some (.ref f9))) (l9 : K.lookup f9 = some ⟨oc9, od9, .func (PySem.W.fnOf "_law_draw_names" "_law_draw_names" (defArgs s__law_draw_names) (defBody s__law_draw_names) (defScope s__law_draw_names) .none kV9 dc9 pm9 an9 cd9 ct9), sl9⟩) (c9 : PySem.W.codeIn K cd9 "_law_draw_names" = true) (k9 : PySem.W.keepIn K (.ref f9) = true)
    (a10 : PySem.W.nsIn K mainGlobals "_law_shuffle" = some (some (.ref f10))) (l10 : K.lookup f10 = some ⟨oc10, od10, .func (PySem.W.fnOf "_law_shuffle" "_law_shuffle" (defArgs s__law_shuffle) (defBody s__law_shuffle) (defScope s__law_shuffle) .none kV10 dc10 pm10 an10 cd10 ct10), sl10⟩) (c10 : PySem.W.codeIn K cd10 "_law_shuffle" = true) (k10 : PySem.W.keepIn K (.ref f10) = true)
    (a11 : PySem.W.nsIn K mainGlobals "_law_edge_of" = some (some (.ref f11))) (l11 : K.lookup f11 = some ⟨oc11, od11, .func (PySem.W.fnOf "_law_edge_of" "_law_edge_of" (defArgs s__law_edge_of) (defBody s__law_edge_of) (defScope s__law_edge_of) .none kV11 dc11 pm11 an11 cd11 ct11), sl11⟩) (c11 : PySem.W.codeIn K cd11 "_law_edge_of" = true) (k11 : PySem.W.keepIn K (.ref f11) = true)
    (a12 : PySem.W.nsIn K mainGlobals "_law_wants_edge" = some (some (.ref f12))) (l12 : K.lookup f12 = some ⟨oc12, od12, .func (PySem.W.fnOf "_law_wants_edge" "_law_wants_edge" (defArgs s__law_wants_edge) (defBody s__law_wants_edge) (defScope s__law_wants_edge) .none kV12 dc12 pm12 an12 cd12 ct12), sl12⟩) (c12 : PySem.W.codeIn K cd12 "_law_wants_edge" = true) (k12 : PySem.W.keepIn K (.ref f12) = true)
    (a13 : PySem.W.nsIn K mainGlobals "_law_draw_graph" = some (some (.ref f13))) (l13 : K.lookup f13 = some ⟨oc13, od13, .func (PySem.W.fnOf "_law_draw_graph" "_law_draw_graph" (defArgs s__law_draw_graph) (defBody s__law_draw_graph) (defScope s__law_draw_graph) .none kV13 dc13 pm13 an13 cd13 ct13), sl13⟩) (c13 : PySem.W.codeIn K cd13 "_law_draw_graph" = true) (k13 : PySem.W.keepIn K (.ref f13) = true)
    (a14 : PySem.W.nsIn K mainGlobals "_law_neighbors_of" = some (some (.ref f14))) (l14 : K.lookup f14 = some ⟨oc14, od14, .func (PySem.W.fnOf "_law_neighbors_of" "_law_neighbors_of" (defArgs s__law_neighbors_of) (defBody s__law_neighbors_of) (defScope s__law_neighbors_of) .none kV14 dc14 pm14 an14 cd14 ct14), sl14⟩) (c14 : PySem.W.codeIn K cd14 "_law_neighbors_of" = true) (k14 : PySem.W.keepIn K (.ref f14) = true)
    (a15 : PySem.W.nsIn K mainGlobals "_law_shortest_paths" = some (some (.ref f15))) (l15 : K.lookup f15 = some ⟨oc15, od15, .func (PySem.W.fnOf "_law_shortest_paths" "_law_shortest_paths" (defArgs s__law_shortest_paths) (defBody s__law_shortest_paths) (defScope s__law_shortest_paths) .none kV15 dc15 pm15 an15 cd15 ct15), sl15⟩) (c15 : PySem.W.codeIn K cd15 "_law_shortest_paths" = true) (k15 : PySem.W.keepIn K (.ref f15) = true)
    (a16 : PySem.W.nsIn K mainGlobals "_law_check_result" = some (some (.ref f16))) (l16 : K.lookup f16 = some ⟨oc16, od16, .func (PySem.W.fnOf "_law_check_result" "_law_check_result" (defArgs s__law_check_result) (defBody s__law_check_result) (defScope s__law_check_result) .none kV16 dc16 pm16 an16 cd16 ct16), sl16⟩) (c16 : PySem.W.codeIn K cd16 "_law_check_result" = true) (k16 : PySem.W.keepIn K (.ref f16) = true)
    (a17 : PySem.W.nsIn K mainGlobals "_law_compute_expected" = some (some (.ref f17))) (l17 : K.lookup f17 = some ⟨oc17, od17, .func (PySem.W.fnOf "_law_compute_expected" "_law_compute_expected" (defArgs s__law_compute_expected) (defBody s__law_compute_expected) (defScope s__law_compute_expected) .none kV17 dc17 pm17 an17 cd17 ct17), sl17⟩) (c17 : PySem.W.codeIn K cd17 "_law_compute_expected" = true) (k17 : PySem.W.keepIn K (.ref f17) = true)
    (a18 : PySem.W.nsIn K mainGlobals "_law_error_of" = some (some (.ref f18))) (l18 : K.lookup f18 = some ⟨oc18, od18, .func (PySem.W.fnOf "_law_error_of" "_law_error_of" (defArgs s__law_error_of) (defBody s__law_error_of) (defScope s__law_error_of) .none kV18 dc18 pm18 an18 cd18 ct18), sl18⟩) (c18 : PySem.W.codeIn K cd18 "_law_error_of" = true) (k18 : PySem.W.keepIn K (.ref f18) = true)
    (a19 : PySem.W.nsIn K mainGlobals "_law_make_variant" = some (some (.ref f19))) (l19 : K.lookup f19 = some ⟨oc19, od19, .func (PySem.W.fnOf "_law_make_variant" "_law_make_variant" (defArgs s__law_make_variant) (defBody s__law_make_variant) (defScope s__law_make_variant) .none kV19 dc19 pm19 an19 cd19 ct19), sl19⟩) (c19 : PySem.W.codeIn K cd19 "_law_make_variant" = true) (k19 : PySem.W.keepIn K (.ref f19) = true)
    (a20 : PySem.W.nsIn K mainGlobals "_law_long_holds" = some (some (.ref f20))) (l20 : K.lookup f20 = some ⟨oc20, od20, .func (PySem.W.fnOf "_law_long_holds" "_law_long_holds" (defArgs s__law_long_holds) (defBody s__law_long_holds) (defScope s__law_long_holds) .none kV20 dc20 pm20 an20 cd20 ct20), sl20⟩) (c20 : PySem.W.codeIn K cd20 "_law_long_holds" = true) (k20 : PySem.W.keepIn K (.ref f20) = true)
    (a21 : PySem.W.nsIn K mainGlobals "_law_with_more_edges" = some (some (.ref f21))) (l21 : K.lookup f21 = some ⟨oc21, od21, .func (PySem.W.fnOf "_law_with_more_edges" "_law_with_more_edges" (defArgs s__law_with_more_edges) (defBody s__law_with_more_edges) (defScope s__law_with_more_edges) .none kV21 dc21 pm21 an21 cd21 ct21), sl21⟩) (c21 : PySem.W.codeIn K cd21 "_law_with_more_edges" = true) (k21 : PySem.W.keepIn K (.ref f21) = true)
    (a22 : PySem.W.nsIn K mainGlobals "law" = some (some (.ref f22))) (l22 : K.lookup f22 = some ⟨oc22, od22, .func (PySem.W.fnOf "law" "law" (defArgs s_law) (defBody s_law) (defScope s_law) .none kV22 dc22 pm22 an22 cd22 ct22), sl22⟩) (c22 : PySem.W.codeIn K cd22 "law" = true) (k22 : PySem.W.keepIn K (.ref f22) = true)
    (z0 : PySem.W.nsIn K mainGlobals "len" = some none)
    (z1 : PySem.W.nsIn K mainGlobals "abs" = some none)
    (z2 : PySem.W.nsIn K mainGlobals "max" = some none)
    (z3 : PySem.W.nsIn K mainGlobals "min" = some none)
    (z4 : PySem.W.nsIn K mainGlobals "sorted" = some none)
    (z5 : PySem.W.nsIn K mainGlobals "isinstance" = some none)
    (z6 : PySem.W.nsIn K mainGlobals "int" = some none)
    (z7 : PySem.W.nsIn K mainGlobals "list" = some none)
    (z8 : PySem.W.nsIn K mainGlobals "tuple" = some none)
    (z9 : PySem.W.nsIn K mainGlobals "str" = some none)
    (z10 : PySem.W.nsIn K mainGlobals "range" = some none)
    (z11 : PySem.W.nsIn K mainGlobals "enumerate" = some none)
    (z12 : PySem.W.nsIn K mainGlobals "dict" = some none)
    (z13 : PySem.W.nsIn K mainGlobals "sum" = some none)
    (z14 : PySem.W.nsIn K mainGlobals "all" = some none)
    (z15 : PySem.W.nsIn K mainGlobals "any" = some none)
    (z16 : PySem.W.nsIn K mainGlobals "repr" = some none)
    (z17 : PySem.W.nsIn K mainGlobals "set" = some none)
    (z18 : PySem.W.nsIn K mainGlobals "zip" = some none)
    (z19 : PySem.W.nsIn K mainGlobals "reversed" = some none)
    (z20 : PySem.W.nsIn K mainGlobals "bool" = some none)
    (w0 : PySem.W.nsIn K mainGlobals "MAX_PATH" = some (some (.int 1000 tk0)))
    (y0 : PySem.W.nsIn K mainGlobals "InputError" = some (some (.ref CB))) (y1 : PySem.W.keepIn K (.ref CB) = true) (y2 : PySem.W.subIn K (.ref CB) (.type "BaseException") = some true) (y3 : PySem.W.typeIn K (.ref CB) = some (.type "type")) (y4 : PySem.W.isClsIn K CB = true)
    (y5 : PySem.W.specialIn K (.ref CB) "__getattribute__" = some (some (.builtin "type.__getattribute__"))) (y6 : PySem.W.readsIn K CB (.type "type") = true) (y7 : PySem.W.findCls K (.ref CB) (.type "type") "__init__" = some (.val (.builtin "ValueError.__init__")))
    (xa0 : PySem.W.nsIn K mainGlobals "InvalidPath" = some (some (.ref CE0))) (xb0 : K.lookup CE0 = some (excClassObj nmE0 qE0 CE0 NE0 bsE0 [.ref CB, .type "ValueError", .type "Exception", .type "BaseException", .type "object"] true snE0 subE0 abE0 colE0 ddE0 mA0 mB0 mC0 mD0 mE0 "ValueError.__new__")) (xc0 : PySem.W.findIn K (.ref CE0) "__setattr__" = some (some (.builtin "object.__setattr__"))) (xd0 : PySem.W.findIn K (.ref CE0) "__getattribute__" = some (some (.builtin "BaseException.__getattribute__"))) (xe0 : PySem.W.findIn K (.ref CE0) "__getattr__" = some none) (xf0 : PySem.W.findIn K (.ref CE0) "position" = some none) (xg0 : PySem.W.findIn K (.ref CE0) "__init__" = some (some (.ref fE0))) (xh0 : PySem.W.typeIn K (.ref fE0) = some (.type "function")) (xi0 : K.lookup fE0 = some ⟨ocE0, odE0, .func (PySem.W.fnOf "__init__" "InvalidPath.__init__" (defArgs s_InvalidPath_init) (defBody s_InvalidPath_init) (defScope s_InvalidPath_init) .none kVE0 dcE0 pmE0 anE0 cdE0 ctE0), slE0⟩) (xj0 : PySem.W.codeIn K cdE0 "InvalidPath.__init__" = true) (xk0 : PySem.W.keepIn K (.ref fE0) = true) (xl0 : PySem.W.keepIn K (.ref CE0) = true) (xm0 : PySem.W.subIn K (.ref CE0) (.type "BaseException") = some true) (xn0 : PySem.W.typeIn K (.ref CE0) = some (.type "type")) (xo0 : PySem.W.hasDictIn K CE0 = true) (xp0 : PySem.W.isClsIn K CE0 = true) (xq0 : PySem.W.subIn K (.ref CE0) (.ref CE0) = some true) (xr0 : PySem.W.subIn K (.ref CE0) (.ref CB) = some true)
    (xu0 : PySem.W.findIn K (.ref CE0) "__class__" = some (some (.builtin "object.__class__"))) (xv0 : PySem.W.specialIn K (.builtin "object.__class__") "__get__" = some (some (.builtin "getset_descriptor.__get__"))) (xw0 : PySem.W.takesIn K (.builtin "object.__class__") = some true) (xx0 : PySem.W.mroIn K CE0 (.type "object") = some true)
    (qa0 : PySem.W.nsIn K mainGlobals "UnknownNode" = some (some (.ref CQ0))) (qb0 : K.lookup CQ0 = some (excClassObj nmQ0 qQ0 CQ0 NQ0 bsQ0 bmKE true snQ0 subQ0 abQ0 colQ0 ddQ0 maQ0 mbQ0 mcQ0 mdQ0 meQ0 "LookupError.__new__")) (qc0 : PySem.W.findIn K (.ref CQ0) "__setattr__" = some (some (.builtin "object.__setattr__"))) (qd0 : PySem.W.findIn K (.ref CQ0) "__getattribute__" = some (some (.builtin "BaseException.__getattribute__"))) (qe0 : PySem.W.findIn K (.ref CQ0) "__getattr__" = some none) (qf0 : PySem.W.findIn K (.ref CQ0) "node" = some none) (qg0 : PySem.W.findIn K (.ref CQ0) "__init__" = some (some (.ref fQ0))) (qh0 : PySem.W.typeIn K (.ref fQ0) = some (.type "function")) (qi0 : K.lookup fQ0 = some ⟨ocQ0, odQ0, .func (PySem.W.fnOf "__init__" "UnknownNode.__init__" (defArgs s_UnknownNode_init) (defBody s_UnknownNode_init) (defScope s_UnknownNode_init) .none kVQ0 dcQ0 pmQ0 anQ0 cdQ0 ctQ0), slQ0⟩) (qj0 : PySem.W.codeIn K cdQ0 "UnknownNode.__init__" = true) (qk0 : PySem.W.keepIn K (.ref fQ0) = true) (ql0 : PySem.W.keepIn K (.ref CQ0) = true) (qm0 : PySem.W.subIn K (.ref CQ0) (.type "BaseException") = some true) (qn0 : PySem.W.typeIn K (.ref CQ0) = some (.type "type")) (qo0 : PySem.W.hasDictIn K CQ0 = true) (qp0 : PySem.W.isClsIn K CQ0 = true) (qq0 : PySem.W.subIn K (.ref CQ0) (.ref CQ0) = some true) (qs0 : PySem.W.nsIn K mainGlobals "KeyError" = some none) (qt0 : PySem.W.findCls K (.type "KeyError") (.type "type") "__init__" = some (.val (.builtin "KeyError.__init__"))) :
    ∃ fd : FuncData, (∀ (s : Shared) (u : Value), BindsTo s fd ⟨[u], []⟩ [("_law_script", u)]) ∧ ∀ base : Heap, K.In base → base.Ns mainGlobals mg → FnG l.prog w K mg base CX0 6 fa fd ["_law_script"] (spLaw K) := by
  have e := hfa.symm.trans (PySem.W.mg_of X G a22)
  cases e
  have n_len := PySem.W.mg_none_of X G z0
  have n_abs := PySem.W.mg_none_of X G z1
  have n_max := PySem.W.mg_none_of X G z2
  have n_min := PySem.W.mg_none_of X G z3
  have n_sorted := PySem.W.mg_none_of X G z4
  have n_isinstance := PySem.W.mg_none_of X G z5
  have n_int := PySem.W.mg_none_of X G z6
  have n_list := PySem.W.mg_none_of X G z7
  have n_tuple := PySem.W.mg_none_of X G z8
  have n_str := PySem.W.mg_none_of X G z9
  have n_range := PySem.W.mg_none_of X G z10
  have n_enumerate := PySem.W.mg_none_of X G z11
  have n_dict := PySem.W.mg_none_of X G z12
  have n_sum := PySem.W.mg_none_of X G z13
  have n_all := PySem.W.mg_none_of X G z14
  have n_any := PySem.W.mg_none_of X G z15
  have n_repr := PySem.W.mg_none_of X G z16
  have n_set := PySem.W.mg_none_of X G z17
  have n_zip := PySem.W.mg_none_of X G z18
  have n_reversed := PySem.W.mg_none_of X G z19
  have n_bool := PySem.W.mg_none_of X G z20
  have B : Bt mg := { len := n_len, abs := n_abs, max := n_max, min := n_min, sorted := n_sorted, isinstance := n_isinstance, int := n_int, list := n_list, tuple := n_tuple, str := n_str, range := n_range, enumerate := n_enumerate, dict := n_dict, sum := n_sum, all := n_all, any := n_any, repr := n_repr, set := n_set, zip := n_zip, reversed := n_reversed }
  have g_MAX_PATH : ∃ u, mg "MAX_PATH" = some u ∧ RelV (.int 1000) u := ⟨_, PySem.W.mg_of X G w0, ⟨_, rfl⟩⟩
  have F0 := fun_mk (st := s_has_node) l0 c0 k0
  have b0 := F0.binds (ps := ["graph", "candidate"]) fun _ _ _ _ _ _ us hl => match us, hl with | [_, _], _ => rfl
  have F1 := fun_mk (st := s_check_node) l1 c1 k1
  have b1 := F1.binds (ps := ["graph", "candidate"]) fun _ _ _ _ _ _ us hl => match us, hl with | [_, _], _ => rfl
  have F2 := fun_mk (st := s_edge_of) l2 c2 k2
  have b2 := F2.binds (ps := ["first", "second"]) fun _ _ _ _ _ _ us hl => match us, hl with | [_, _], _ => rfl
  have F3 := fun_mk (st := s_adjacency) l3 c3 k3
  have b3 := F3.binds (ps := ["graph"]) fun _ _ _ _ _ _ us hl => match us, hl with | [_], _ => rfl
  have F4 := fun_mk (st := s_check_path) l4 c4 k4
  have b4 := F4.binds (ps := ["graph", "candidate"]) fun _ _ _ _ _ _ us hl => match us, hl with | [_, _], _ => rfl
  have F5 := fun_mk (st := s_paths_from) l5 c5 k5
  have b5 := F5.binds (ps := ["graph", "node"]) fun _ _ _ _ _ _ us hl => match us, hl with | [_, _], _ => rfl
  have F6 := fun_mk (st := s_shortest_path) l6 c6 k6
  have b6 := F6.binds (ps := ["graph", "start", "end"]) fun _ _ _ _ _ _ us hl => match us, hl with | [_, _, _], _ => rfl
  have F7 := fun_mk (st := s__law_pool) l7 c7 k7
  have b7 := F7.binds (ps := ["_law_script", "_law_k"]) fun _ _ _ _ _ _ us hl => match us, hl with | [_, _], _ => rfl
  have F8 := fun_mk (st := s__law_draw) l8 c8 k8
  have b8 := F8.binds (ps := ["_law_pool_here", "_law_many"]) fun _ _ _ _ _ _ us hl => match us, hl with | [_, _], _ => rfl
  have F9 := fun_mk (st := s__law_draw_names) l9 c9 k9
  have b9 := F9.binds (ps := ["_law_pool_here", "_law_many"]) fun _ _ _ _ _ _ us hl => match us, hl with | [_, _], _ => rfl
  have F10 := fun_mk (st := s__law_shuffle) l10 c10 k10
  have b10 := F10.binds (ps := ["_law_pool_here", "_law_some"]) fun _ _ _ _ _ _ us hl => match us, hl with | [_, _], _ => rfl
  have F11 := fun_mk (st := s__law_edge_of) l11 c11 k11
  have b11 := F11.binds (ps := ["_law_one", "_law_other"]) fun _ _ _ _ _ _ us hl => match us, hl with | [_, _], _ => rfl
  have F12 := fun_mk (st := s__law_wants_edge) l12 c12 k12
  have b12 := F12.binds (ps := ["_law_pool_here", "_law_kind", "_law_at", "_law_position", "_law_many"]) fun _ _ _ _ _ _ us hl => match us, hl with | [_, _, _, _, _], _ => rfl
  have F13 := fun_mk (st := s__law_draw_graph) l13 c13 k13
  have b13 := F13.binds (ps := ["_law_pool_here", "_law_most"]) fun _ _ _ _ _ _ us hl => match us, hl with | [_, _], _ => rfl
  have F14 := fun_mk (st := s__law_neighbors_of) l14 c14 k14
  have b14 := F14.binds (ps := ["_law_graph", "_law_node"]) fun _ _ _ _ _ _ us hl => match us, hl with | [_, _], _ => rfl
  have F15 := fun_mk (st := s__law_shortest_paths) l15 c15 k15
  have b15 := F15.binds (ps := ["_law_graph", "_law_node"]) fun _ _ _ _ _ _ us hl => match us, hl with | [_, _], _ => rfl
  have F16 := fun_mk (st := s__law_check_result) l16 c16 k16
  have b16 := F16.binds (ps := ["_law_graph", "_law_candidate"]) fun _ _ _ _ _ _ us hl => match us, hl with | [_, _], _ => rfl
  have F17 := fun_mk (st := s__law_compute_expected) l17 c17 k17
  have b17 := F17.binds (ps := ["_law_graph", "_law_candidate"]) fun _ _ _ _ _ _ us hl => match us, hl with | [_, _], _ => rfl
  have F18 := fun_mk (st := s__law_error_of) l18 c18 k18
  have b18 := F18.binds (ps := ["_law_graph", "_law_one", "_law_other"]) fun _ _ _ _ _ _ us hl => match us, hl with | [_, _, _], _ => rfl
  have F19 := fun_mk (st := s__law_make_variant) l19 c19 k19
  have b19 := F19.binds (ps := ["_law_pool_here", "_law_graph", "_law_path"]) fun _ _ _ _ _ _ us hl => match us, hl with | [_, _, _], _ => rfl
  have F20 := fun_mk (st := s__law_long_holds) l20 c20 k20
  have b20 := F20.binds (ps := []) fun _ _ _ _ _ _ us hl => match us, hl with | [], _ => rfl
  have F21 := fun_mk (st := s__law_with_more_edges) l21 c21 k21
  have b21 := F21.binds (ps := ["_law_pool_here", "_law_graph"]) fun _ _ _ _ _ _ us hl => match us, hl with | [_, _], _ => rfl
  have F22 := fun_mk (st := s_law) l22 c22 k22
  have b22 := F22.binds (ps := ["_law_script"]) fun _ _ _ _ _ _ us hl => match us, hl with | [_], _ => rfl
  have own0 := own_mk (x := "InvalidPath") (f := "position") (PySem.W.mg_of X G xa0) (PySem.W.mg_of X G y0) xb0 xc0 xd0 xe0 xf0 xg0 xh0 xl0 xm0 xn0 xo0 xp0 xq0 y1 y2 y3 y4 xr0 y5 y6 y7
  have FE0 := fun_mk (st := s_InvalidPath_init) xi0 xj0 xk0
  have bE0 := FE0.binds (ps := ["self", "position"]) fun _ _ _ _ _ _ us hl => match us, hl with | [_, _], _ => rfl
  have ownB0 := ownB_mk (x := "UnknownNode") (f := "node") (B := "KeyError") (newId := "LookupError.__new__") (initId := "KeyError.__init__") (bmB := bmKE) (PySem.W.mg_of X G qa0) (PySem.W.mg_none_of X G qs0) qb0 (by decide +kernel) qc0 qd0 qe0 qf0 qg0 qh0 ql0 qm0 qn0 qo0 qp0 qq0 qt0
  have FQ0 := fun_mk (st := s_UnknownNode_init) qi0 qj0 qk0
  have bQ0 := FQ0.binds (ps := ["self", "node"]) fun _ _ _ _ _ _ us hl => match us, hl with | [_, _], _ => rfl
  have isP0 : IsP K mg CE0 CB := ⟨⟨xd0, xe0, xm0, xo0, xu0, xv0, xw0, xx0⟩, PySem.W.mg_of X G y0, PySem.W.mg_of X G xa0, kit_refT xp0 xn0 xq0, exm_sub xm0 y2 y4 y3 xr0⟩
  refine ⟨PySem.W.fnOf "law" "law" (defArgs s_law) (defBody s_law) (defScope s_law) .none kV22 dc22 pm22 an22 cd22 ct22, fun s v => .of_eq rfl, fun base _ _ => ?_⟩
  have err0 : ErrX l.prog w K mg base "InvalidPath" "position" CE0 CB := ⟨⟨_, _, own0, ok_initIP FE0 own0, bE0⟩⟩
  have errB0 : ErrB l.prog w K mg base "UnknownNode" "node" "KeyError" "LookupError.__new__" "KeyError.__init__" bmKE CQ0 := ⟨bas_KE, ⟨_, _, ownB0, ok_initN FQ0 ownB0, bQ0⟩⟩
  have c_has_node : Cal l.prog w K mg base (CX0) 1 "has_node" (spHasV K) := ⟨⟨_, _, _, ok_hasV F0 B, PySem.W.mg_of X G a0, k0, b0⟩⟩
  have c_check_node : Cal l.prog w K mg base (L2.CX l.prog w) 3 "check_node" (spChkN K CQ0) := ⟨⟨_, _, _, ok_chkN F1 B ⟨c_has_node⟩ errB0, PySem.W.mg_of X G a1, k1, b1⟩⟩
  have c_edge_of : Cal l.prog w K mg base (CX0) 1 "edge_of" (spEdgeOf) := ⟨⟨_, _, _, ok_edgeK F2 B, PySem.W.mg_of X G a2, k2, b2⟩⟩
  have c_adjacency : Cal l.prog w K mg base (CX0) 1 "adjacency" (spAdj) := ⟨⟨_, _, _, ok_adj F3 B, PySem.W.mg_of X G a3, k3, b3⟩⟩
  have c_check_path : Cal l.prog w K mg base (L2.CX l.prog w) 3 "check_path" (spCkPX K CE0) := ⟨⟨_, _, _, ok_ckPX F4 B ⟨c_has_node, c_edge_of, g_MAX_PATH⟩ err0, PySem.W.mg_of X G a4, k4, b4⟩⟩
  have c_paths_from : Cal l.prog w K mg base (CX0) 2 "paths_from" (spPathsFrom) := ⟨⟨_, _, _, ok_paths_from F5 B ⟨c_adjacency⟩, PySem.W.mg_of X G a5, k5, b5⟩⟩
  have c_shortest_path : Cal l.prog w K mg base (L2.CX l.prog w) 4 "shortest_path" (spSPX K CQ0) := ⟨⟨_, _, _, ok_spX F6 B ⟨c_check_node, c_paths_from⟩, PySem.W.mg_of X G a6, k6, b6⟩⟩
  have c__law_pool : Cal l.prog w K mg base (CX0) 1 "_law_pool" (spPool K) := ⟨⟨_, _, _, ok_pool F7 B, PySem.W.mg_of X G a7, k7, b7⟩⟩
  have c__law_draw : Cal l.prog w K mg base (CX0) 1 "_law_draw" (spDraw) := ⟨⟨_, _, _, ok_draw F8 B, PySem.W.mg_of X G a8, k8, b8⟩⟩
  have c__law_draw_names : Cal l.prog w K mg base (CX0) 2 "_law_draw_names" (spNames) := ⟨⟨_, _, _, ok_names F9 B ⟨c__law_draw⟩, PySem.W.mg_of X G a9, k9, b9⟩⟩
  have c__law_shuffle : Cal l.prog w K mg base (CX0) 2 "_law_shuffle" (spShuf K) := ⟨⟨_, _, _, ok_shuffle F10 B ⟨c__law_draw⟩, PySem.W.mg_of X G a10, k10, b10⟩⟩
  have c__law_edge_of : Cal l.prog w K mg base (CX0) 1 "_law_edge_of" (spEdgeOf) := ⟨⟨_, _, _, ok_edge_of F11 B, PySem.W.mg_of X G a11, k11, b11⟩⟩
  have c__law_wants_edge : Cal l.prog w K mg base (CX0) 2 "_law_wants_edge" (spWants) := ⟨⟨_, _, _, ok_wants F12 B ⟨c__law_draw⟩, PySem.W.mg_of X G a12, k12, b12⟩⟩
  have c__law_draw_graph : Cal l.prog w K mg base (CX0) 3 "_law_draw_graph" (spGraph) := ⟨⟨_, _, _, ok_draw_graph F13 B ⟨c__law_draw, c__law_draw_names, c__law_shuffle, c__law_edge_of, c__law_wants_edge⟩, PySem.W.mg_of X G a13, k13, b13⟩⟩
  have c__law_neighbors_of : Cal l.prog w K mg base (CX0) 1 "_law_neighbors_of" (spNbr) := ⟨⟨_, _, _, ok_nbr F14 B, PySem.W.mg_of X G a14, k14, b14⟩⟩
  have c__law_shortest_paths : Cal l.prog w K mg base (CX0) 2 "_law_shortest_paths" (spShp) := ⟨⟨_, _, _, ok_shp F15 B ⟨c__law_neighbors_of⟩, PySem.W.mg_of X G a15, k15, b15⟩⟩
  have c__law_check_result : Cal l.prog w K mg base (CX0) 4 "_law_check_result" (spCkR K) := ⟨⟨_, _, _, ok_ckR F16 B ⟨c_check_path⟩ own0 isP0, PySem.W.mg_of X G a16, k16, b16⟩⟩
  have c__law_compute_expected : Cal l.prog w K mg base (CX0) 2 "_law_compute_expected" (spCkR K) := ⟨⟨_, _, _, ok_exp3 F17 B ⟨c__law_neighbors_of⟩, PySem.W.mg_of X G a17, k17, b17⟩⟩
  have c__law_error_of : Cal l.prog w K mg base (CX0) 5 "_law_error_of" (spEr3 K) := ⟨⟨_, _, _, ok_er3 F18 B ⟨c_shortest_path⟩ ownB0, PySem.W.mg_of X G a18, k18, b18⟩⟩
  have c__law_make_variant : Cal l.prog w K mg base (CX0) 2 "_law_make_variant" (spVar3) := ⟨⟨_, _, _, ok_var3 F19 B ⟨c__law_draw⟩, PySem.W.mg_of X G a19, k19, b19⟩⟩
  have c__law_long_holds : Cal l.prog w K mg base (CX0) 5 "_law_long_holds" (spLng) := ⟨⟨_, _, _, ok_lng F20 B ⟨c__law_check_result⟩, PySem.W.mg_of X G a20, k20, b20⟩⟩
  have c__law_with_more_edges : Cal l.prog w K mg base (CX0) 2 "_law_with_more_edges" (spMore) := ⟨⟨_, _, _, ok_more F21 B ⟨c__law_draw⟩, PySem.W.mg_of X G a21, k21, b21⟩⟩
  exact ok_law F22 B ⟨c__law_long_holds, c__law_pool, c__law_draw_graph, c__law_with_more_edges, c__law_shortest_paths, c__law_check_result, c__law_compute_expected, c__law_shuffle, c__law_make_variant, c__law_error_of, c_shortest_path⟩
theorem walk {l : PySem.W.OpenLaw} {q : Program} {loose : List Str} {XP : (Str → Option Value) → Heap → Prop} {YP : World → Heap → Prop} {d : DefRec} {K : Params → PySem.W.Frag} (hn : l.most = some 63) (hdf : d.params.defaults = [])
    (hY : ∀ (w : World) (h : Heap), YP w h → (K w.params).In h)
    (F : ∀ (w : World) (mg : Str → Option Value) (fa : Addr) (h : Heap), (K w.params).In h → h.Ns mainGlobals mg → mg d.name = some (.ref fa) →
      ∃ fd : FuncData, (∀ (s : Shared) (u : Value), BindsTo s fd ⟨[u], []⟩ [("_law_script", u)]) ∧ ∀ base : Heap, (K w.params).In base → base.Ns mainGlobals mg → FnG l.prog w (K w.params) mg base CX0 6 fa fd ["_law_script"] (spLaw (K w.params))) :
    PySem.W.WalkO q loose XP YP l.row.toRowW d [] (fun f vs => PySem.call f vs) :=
  walk_G (n := 63) (k := 6) (x := "_law_script") (sp := spLaw) hn (by decide) hdf ⟨rfl, by decide, by decide⟩ hY F fun K H a ns hl _ _ hS => ⟨a, ns, rfl, hS, hl, fun _ => rfl⟩
end Law
open PySem PySem.W PyProof.Rows
set_option maxRecDepth 100000 in
set_option maxHeartbeats 0 in
theorem PySem.Challenge.cw_threeturned_k03_shortest_paths_holds : PySem.Challenge.rw_threeturned_k03_shortest_paths.Holds := by
  w_on; o_law; k_head; (case hw => w_witness2)
  k_fill
  refine Law.walk (l := PySem.Challenge.rw_threeturned_k03_shortest_paths) rfl rfl (fun w h Y => PySem.W.kIn_of Y) ?F
  case F =>
    intro w mg fa h KX G hmg
    refine' Law.all_mk KX G hmg ?a0 ?l0 ?c0 ?k0 ?a1 ?l1 ?c1 ?k1 ?a2 ?l2 ?c2 ?k2 ?a3 ?l3 ?c3 ?k3 ?a4 ?l4 ?c4 ?k4 ?a5 ?l5 ?c5 ?k5 ?a6 ?l6 ?c6 ?k6 ?a7 ?l7 ?c7 ?k7 ?a8 ?l8 ?c8 ?k8 ?a9 ?l9 ?c9 ?k9 ?a10 ?l10 ?c10 ?k10 ?a11 ?l11 ?c11 ?k11 ?a12 ?l12 ?c12 ?k12 ?a13 ?l13 ?c13 ?k13 ?a14 ?l14 ?c14 ?k14 ?a15 ?l15 ?c15 ?k15 ?a16 ?l16 ?c16 ?k16 ?a17 ?l17 ?c17 ?k17 ?a18 ?l18 ?c18 ?k18 ?a19 ?l19 ?c19 ?k19 ?a20 ?l20 ?c20 ?k20 ?a21 ?l21 ?c21 ?k21 ?a22 ?l22 ?c22 ?k22 ?z0 ?z1 ?z2 ?z3 ?z4 ?z5 ?z6 ?z7 ?z8 ?z9 ?z10 ?z11 ?z12 ?z13 ?z14 ?z15 ?z16 ?z17 ?z18 ?z19 ?z20 ?w0 ?y0 ?y1 ?y2 ?y3 ?y4 ?y5 ?y6 ?y7 ?xa0 ?xb0 ?xc0 ?xd0 ?xe0 ?xf0 ?xg0 ?xh0 ?xi0 ?xj0 ?xk0 ?xl0 ?xm0 ?xn0 ?xo0 ?xp0 ?xq0 ?xr0 ?xu0 ?xv0 ?xw0 ?xx0 ?qa0 ?qb0 ?qc0 ?qd0 ?qe0 ?qf0 ?qg0 ?qh0 ?qi0 ?qj0 ?qk0 ?ql0 ?qm0 ?qn0 ?qo0 ?qp0 ?qq0 ?qs0 ?qt0
    (case a0 => k_is); (case l0 => k_is); (case c0 => k_is); (case k0 => k_is)
    (case a1 => k_is); (case l1 => k_is); (case c1 => k_is); (case k1 => k_is)
    (case a2 => k_is); (case l2 => k_is); (case c2 => k_is); (case k2 => k_is)
    (case a3 => k_is); (case l3 => k_is); (case c3 => k_is); (case k3 => k_is)
    (case a4 => k_is); (case l4 => k_is); (case c4 => k_is); (case k4 => k_is)
    (case a5 => k_is); (case l5 => k_is); (case c5 => k_is); (case k5 => k_is)
    (case a6 => k_is); (case l6 => k_is); (case c6 => k_is); (case k6 => k_is)
    (case a7 => k_is); (case l7 => k_is); (case c7 => k_is); (case k7 => k_is)
    (case a8 => k_is); (case l8 => k_is); (case c8 => k_is); (case k8 => k_is)
    (case a9 => k_is); (case l9 => k_is); (case c9 => k_is); (case k9 => k_is)
    (case a10 => k_is); (case l10 => k_is); (case c10 => k_is); (case k10 => k_is)
    (case a11 => k_is); (case l11 => k_is); (case c11 => k_is); (case k11 => k_is)
    (case a12 => k_is); (case l12 => k_is); (case c12 => k_is); (case k12 => k_is)
    (case a13 => k_is); (case l13 => k_is); (case c13 => k_is); (case k13 => k_is)
    (case a14 => k_is); (case l14 => k_is); (case c14 => k_is); (case k14 => k_is)
    (case a15 => k_is); (case l15 => k_is); (case c15 => k_is); (case k15 => k_is)
    (case a16 => k_is); (case l16 => k_is); (case c16 => k_is); (case k16 => k_is)
    (case a17 => k_is); (case l17 => k_is); (case c17 => k_is); (case k17 => k_is)
    (case a18 => k_is); (case l18 => k_is); (case c18 => k_is); (case k18 => k_is)
    (case a19 => k_is); (case l19 => k_is); (case c19 => k_is); (case k19 => k_is)
    (case a20 => k_is); (case l20 => k_is); (case c20 => k_is); (case k20 => k_is)
    (case a21 => k_is); (case l21 => k_is); (case c21 => k_is); (case k21 => k_is)
    (case a22 => k_is); (case l22 => k_is); (case c22 => k_is); (case k22 => k_is)
    (case z0 => k_is); (case z1 => k_is); (case z2 => k_is); (case z3 => k_is)
    (case z4 => k_is); (case z5 => k_is); (case z6 => k_is); (case z7 => k_is)
    (case z8 => k_is); (case z9 => k_is); (case z10 => k_is); (case z11 => k_is)
    (case z12 => k_is); (case z13 => k_is); (case z14 => k_is); (case z15 => k_is)
    (case z16 => k_is); (case z17 => k_is); (case z18 => k_is); (case z19 => k_is)
    (case z20 => k_is); (case w0 => k_is); (case y0 => k_is); (case y1 => k_is)
    (case y2 => k_is); (case y3 => k_is); (case y4 => k_is); (case y5 => k_is)
    (case y6 => k_is); (case y7 => k_is); (case xa0 => k_is); (case xb0 => k_is)
    (case xc0 => k_is); (case xd0 => k_is); (case xe0 => k_is); (case xf0 => k_is)
    (case xg0 => k_is); (case xh0 => k_is); (case xi0 => k_is); (case xj0 => k_is)
    (case xk0 => k_is); (case xl0 => k_is); (case xm0 => k_is); (case xn0 => k_is)
    (case xo0 => k_is); (case xp0 => k_is); (case xq0 => k_is); (case xr0 => k_is)
    (case xu0 => k_is); (case xv0 => k_is); (case xw0 => k_is); (case xx0 => k_is)
    (case qa0 => k_is); (case qb0 => k_is); (case qc0 => k_is); (case qd0 => k_is)
    (case qe0 => k_is); (case qf0 => k_is); (case qg0 => k_is); (case qh0 => k_is)
    (case qi0 => k_is); (case qj0 => k_is); (case qk0 => k_is); (case ql0 => k_is)
    (case qm0 => k_is); (case qn0 => k_is); (case qo0 => k_is); (case qp0 => k_is)
    (case qq0 => k_is); (case qs0 => k_is); (case qt0 => k_is)

