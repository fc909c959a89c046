import PyProof.Rows.All
import Wide.All
import OpenK.AllK
import Wide.FinOn
import HandS.ForMost
import HandS.Exc
import HandS.EndBits
import HandS.Wide
import HandS.Codes
import HandS.TupAny
import HandS.IsInst
import HandS.Walk
import HandS.Flow
import HandS.SetKeys
import HandS.SortKw
import HandS.Style
import KE.SortData
import HandS.More
import HandS.DictComp
import PySem.Challenge.RW_threeturned_k60_whole_first_states
import HandS.Defaults
import HandS.Deep
import PyProof.RowDictHeap
import PyProof.ReprRoads
import PyProof.ReprBulk
import HandS.Finally
import PyProof.DictUpdate
import HandS.ExcInit
import HandS.ExcIs
import HandS.ExcField
import PyProof.P3In
import KE.KDictCopyH
import PyProof.SumWalkG
import PyProof.ListOps
import HandS.Nested
import KE.GoesEnum
import KE.GoesMore
import HandS.Text
import PyProof.Rows.RegReprOcc
import KE.KExcInit
import HandS.DeepEq
import PyProof.NeKinds
import HandS.WordsExc
import HandS.Lambda
import KE.DataMinKey
import HandS.EndTab
set_option Elab.async false
set_option linter.all false
set_option maxRecDepth 100000
set_option maxHeartbeats 4000000
/-! calls with room and with nothing being shown (guards known) -/
namespace U
open PySem PySem.Spec PyProof.Rows L2

/-- room for k calls, and no repr is under way -/
structure Rm (k : Nat) (A : Around) : Prop where
  r : Room k A
  g : A.guards = some []
theorem Rm.mono {j k : Nat} {A : Around} (h : Rm k A) (hj : j ≤ k) : Rm j A := ⟨h.r.mono hj, h.g⟩
theorem Rm.deeper {k : Nat} {A : Around} (h : Rm (k + 1) A) (env : Env) : Rm k (A.deeper env) := ⟨h.r.deeper env, h.g⟩
theorem Rm.u1 {k : Nat} {A : Around} (h : Rm k A) : A.units + 1 < cLine := by
  have z := h.r.un
  omega
theorem Rm.u64 {k : Nat} {A : Around} (h : Rm k A) : A.units + 64 < cLine := h.r.units
theorem Rm.u0 {k : Nat} {A : Around} (h : Rm k A) : A.units < cLine := by
  have z := h.r.un
  omega
theorem Rm.u100 {k : Nat} {A : Around} (h : Rm k A) : A.units + 150 < cLine := by
  have z := h.r.un
  omega

/-- the def at f keeps the promise sp -/
structure FnG (P : Program) (w : World) (K : PySem.W.Frag) (mg : Str → Option Value) (base : Heap) (CX : CXT) (k : Nat) (f : Addr) (fd : FuncData) (ps : List Str) (sp : Sp) : Prop where
  len : ∀ vs H Q E, sp vs H Q E → vs.length = ps.length
  go : ∀ (A : Around) (outer : List Env) (s : Shared) (H : Hp) (args : Args) (us : List Value) (vs : List V) (Q : VK) (E : XK), Rm k A →
    Env0 P w K mg base A outer s H → BindsTo s fd args (ps.zip us) → Vals vs us → sp vs H Q E → codeAny (model P w) A (.call (.ref f) args) (CR CX outer P w H s Q E) s
/-- room ran out of is no way: L2's own promise serves -/
theorem FnG.of {P : Program} {w : World} {K : PySem.W.Frag} {mg : Str → Option Value} {base : Heap} {CX : CXT} {k : Nat} {f : Addr} {fd : FuncData} {ps : List Str} {sp : Sp} (F : FnOk P w K mg base CX k f fd ps sp) : FnG P w K mg base CX k f fd ps sp :=
  ⟨F.len, fun A outer s H args us vs Q E hr => F.run A outer s H args us vs Q E hr.r⟩

section
variable {P : Program} {w : World} {K : PySem.W.Frag} {mg : Str → Option Value} {base : Heap} {CX : CXT}
/-- a def by its body -/
theorem fnG {x qual : Str} {st : Stmt} {f : Addr} {fd : FuncData} {N ps : List Str} {k : Nat} {sp : Sp} (F : Fun K x qual st f fd) (S : FnScope N ps (defScope st)) (len : ∀ vs H Q E, sp vs H Q E → vs.length = ps.length)
    (body : ∀ (cdv : Value) (A : Around) (outer : List Env) (s : Shared) (H : Hp) (vs : List V) (Q : VK) (E : XK), Rm k (A.deeper (envOfC qual (defScope st) s.heap.objs.size f cdv)) → sp vs H Q E →
      ∃ t, PSs (cxOf CX P w K mg base N qual (defScope st) f cdv A outer s H E) (defBody st) t ∧ t { nx := fun _ H' => Q .non H', rt := Q } (start N vs) H) :
    FnG P w K mg base CX (k + 1) f fd ps sp := by
  obtain ⟨oc, od, kV, doc, pm, an, cdv, ct, osl, rfl, lk, hcd⟩ := F.ex
  refine ⟨len, fun A outer s H args us vs Q E room e0 bd rel want => ?_⟩
  have count := len _ _ _ _ want
  have kin : K.In s.heap := e0.mod.kin.keeps fun b o e => (e0.bs b o e).1
  have kinds : ∀ y ∈ ps.zip us, (defScope st).names.lookup y.1 = some .local ∨ ((defScope st).names.lookup y.1 = some .cell ∧ ((cellsFrom (s.heap.objs.size + 1) (defScope st).names []).lookup y.1).isSome = true) := by
    rintro ⟨n, v⟩ hy
    cases S.par n (List.of_mem_zip hy).1 with
    | inl q => exact .inl q
    | inr q => exact .inr ⟨q, PySem.W.cellsFrom_some _ _ _ (.inl q)⟩
  apply codeAny_call_function room.r.depth (kin _ _ lk) rfl S.co S.gen rfl (PySem.W.codeRec_of kin hcd) (bd _ _ _ _ _)
  apply wpAny_newFunctionEnv_cells S.kind kinds
  intro env he s1 x
  subst he
  have lim : s.heap.NoLimit := e0.mod.nolimit.keeps fun b o e => (e0.bs b o e).1
  refine ⟨lim.keeps x.toInCall.keep, codeAny_func ?_⟩
  obtain ⟨t, ht, want'⟩ := body cdv A outer s H vs Q E (room.deeper _) want
  have I := inv_start (CX := CX) (P := P) (w := w) (K := K) (mg := mg) (base := base) (E := E) S room.r.hd e0 count rel x
  refine wpAny_mono (ht.run [] s1 (start N vs) H _ I want') ?_ fun e s' hs => hs
  intro fl s' hs
  cases fl with
  | ret u =>
    obtain ⟨v, σ', H', J, rv, q⟩ := hs
    exact ⟨v, H', J.os, J.bare, J.base, J.hok, rv, q⟩
  | next =>
    obtain ⟨σ', H', J, q⟩ := hs
    exact ⟨V.non, H', J.os, J.bare, J.base, J.hok, rfl, q⟩
  | brk => exact hs.elim fun _ z => z.elim fun _ z => z.2.elim
  | cont => exact hs.elim fun _ z => z.elim fun _ z => z.2.elim
/-- a def that no exception leaves -/
theorem fnG0 {x qual : Str} {st : Stmt} {f : Addr} {fd : FuncData} {N ps : List Str} {k : Nat} {sp : Sp} (F : Fun K x qual st f fd) (S : FnScope N ps (defScope st)) (len : ∀ vs H Q E, sp vs H Q E → vs.length = ps.length)
    (body : ∀ (cdv : Value) (A : Around) (outer : List Env) (s : Shared) (H : Hp) (vs : List V) (Q : VK) (E : XK), Rm k (A.deeper (envOfC qual (defScope st) s.heap.objs.size f cdv)) → sp vs H Q E →
      ∃ t, PSs (cxOf CX0 P w K mg base N qual (defScope st) f cdv A outer s H E).nox (defBody st) t ∧ t { nx := fun _ H' => Q .non H', rt := Q } (start N vs) H) :
    FnG P w K mg base CX0 (k + 1) f fd ps sp := fnG F S len fun cdv A outer s H vs Q E hr h => by
  obtain ⟨t, p, q⟩ := body cdv A outer s H vs Q E hr h
  exact ⟨t, p.nox, q⟩
/-- a def that may be called by its global name -/
structure Cal (P : Program) (w : World) (K : PySem.W.Frag) (mg : Str → Option Value) (base : Heap) (CX : CXT) (k : Nat) (x : Str) (sp : Sp) : Prop where
  ex : ∃ (f : Addr) (fd : FuncData) (ps : List Str), FnG P w K mg base CX k f fd ps sp ∧ mg x = some (.ref f) ∧ PySem.W.keepIn K (.ref f) = true ∧ Binds K fd ps []
end

section
variable {X : Cx} {CX : L2.CXT} {k j : Nat} {f : Addr} {fd : FuncData} {ps : List Str} {sp : Sp} {E : XK} {x : Str} {p pos : Pos} {e : Expr} {es : List Expr} {t : TA}
theorem callG {pins : List (Addr × Obj)} {σ : L2.St} {H : Hp} {s : Shared} {Q : VK} {us : List Value} {vs : List V} (F : FnG X.prog X.w X.K X.mg X.base CX k f fd ps sp) (hr : Rm k X.A) (hb : Binds X.K fd ps []) (hx : Passes CX X E)
    (I : Inv X pins σ H s) (r : Vals vs us) (h : sp vs H Q E) : wpAny (model X.prog X.w) X.A (call (.ref f) us) (EP X pins σ Q) X.xe s := by
  have count : us.length = ps.length := r.length ▸ F.len _ _ _ _ h
  have bd := hb s us I.kIn (by rw [List.append_nil]; exact count)
  rw [List.append_nil] at bd
  refine wpAny_call (codeAny_mono (F.go X.A X.stack s H ⟨us, []⟩ us vs Q E hr I.env0 bd r h) ?_)
  intro res s' hq
  cases res with
  | error er => exact hx pins σ H s er s' I hq
  | ok fl =>
    cases fl with
    | ret u => exact I.after hq
    | next => exact hq.elim
    | brk => exact hq.elim
    | cont => exact hq.elim
/-- f(..): the promise -/
def tC1 (sp : Sp) (E : XK) (t : TA) : TE := fun σ H Q => t σ H fun vs H1 => sp vs H1 Q E
theorem pe_cG (c : Cal X.prog X.w X.K X.mg X.base CX k x sp) (hr : Rm j X.A) (hk : k ≤ j) (hg : Gl X x) (hx : Passes CX X E) (ha : PA X (e :: es) t)
    (hdb : (x == ("__debug__" : Str)) = false := by decide) (he : starEach (e :: es) X.env = (false, eval e X.env) :: starEach es X.env := by rfl) (hpl : (backTo pos (starEach es X.env)).any (·.1) = false := by rfl) :
    PE X (.Call (.Name x p) (e :: es) [] pos) (tC1 sp E t) := by
  obtain ⟨f, fd, ps, F, hm, kp, b⟩ := c.ex
  refine ⟨fun pins s σ H Q I h => wpAny_Call_Name_kw (ld_glob I hg hm ?_ hdb)⟩
  refine PySem.W.callWith_K (h₀ := X.base) I.ok.mod.kin kp (thn (ha.run pos pins s σ H _ I h) ?_) he hpl
  rintro us s1 ⟨vs, H1, I1, r, q⟩
  exact ⟨I1.kIn, callG F (hr.mono hk) b hx I1 r q⟩
/-- f() -/
theorem pe_cG0 (c : Cal X.prog X.w X.K X.mg X.base CX k x sp) (hr : Rm j X.A) (hk : k ≤ j) (hg : Gl X x) (hx : Passes CX X E)
    (hdb : (x == ("__debug__" : Str)) = false := by decide) : PE X (.Call (.Name x p) [] [] pos) (tC1 sp E tNil) := by
  obtain ⟨f, fd, ps, F, hm, kp, b⟩ := c.ex
  refine ⟨fun pins s σ H Q I h => wpAny_Call_Name_kw (ld_glob I hg hm ?_ hdb)⟩
  exact PySem.W.callWith_K0 I.kIn kp (callG (us := []) F (hr.mono hk) b hx I .nil h)
theorem pe_c (c : Cal X.prog X.w X.K X.mg X.base CX0 k x sp) (hr : Rm j X.A) (hk : k ≤ j) (hg : Gl X x) (ha : PA X (e :: es) t)
    (hdb : (x == ("__debug__" : Str)) = false := by decide) (he : starEach (e :: es) X.env = (false, eval e X.env) :: starEach es X.env := by rfl) (hpl : (backTo pos (starEach es X.env)).any (·.1) = false := by rfl) :
    PE X (.Call (.Name x p) (e :: es) [] pos) (tC1 sp E0 t) := pe_cG c hr hk hg pass0 ha hdb he hpl
/-- .. what is raised is wished for at the caller's slots -/
def tC2 (sp : Sp) (W : WX) (t : TA) : TE := fun σ H Q => t σ H fun vs H1 => sp vs H1 Q fun cls d H' => W cls d σ H'
theorem pe_cX {W : WX} (c : Cal X.prog X.w X.K X.mg X.base (L2.CX X.prog X.w) k x sp) (hr : Rm j X.A) (hk : k ≤ j) (hg : Gl X x) (tk : Takes X W) (ha : PA X (e :: es) t)
    (hdb : (x == ("__debug__" : Str)) = false := by decide) (he : starEach (e :: es) X.env = (false, eval e X.env) :: starEach es X.env := by rfl) (hpl : (backTo pos (starEach es X.env)).any (·.1) = false := by rfl) :
    PE X (.Call (.Name x p) (e :: es) [] pos) (tC2 sp W t) := by
  obtain ⟨f, fd, ps, F, hm, kp, b⟩ := c.ex
  refine ⟨fun pins s σ H Q I h => wpAny_Call_Name_kw (ld_glob I hg hm ?_ hdb)⟩
  refine PySem.W.callWith_K (h₀ := X.base) I.ok.mod.kin kp (thn (ha.run pos pins s σ H _ I h) ?_) he hpl
  rintro us s1 ⟨vs, H1, I1, r, q⟩
  refine ⟨I1.kIn, ?_⟩
  have count : us.length = ps.length := r.length ▸ F.len _ _ _ _ q
  have bd := b s1 us I1.kIn (by rw [List.append_nil]; exact count)
  rw [List.append_nil] at bd
  refine wpAny_call (codeAny_mono (F.go X.A X.stack s1 H1 ⟨us, []⟩ us vs _ _ (hr.mono hk) I1.env0 bd r q) ?_)
  intro res s' hq
  cases res with
  | error er => exact tk er s' (XE.of_call I1 (fun cls d H' z => z) hq)
  | ok fl =>
    cases fl with
    | ret u => exact I1.after hq
    | next => exact hq.elim
    | brk => exact hq.elim
    | cont => exact hq.elim
end

/-! ### the law's own head -/
theorem law_G {P : Program} {w : World} {K : PySem.W.Frag} {mg mb : Str → Option Value} {k : Nat} {fa a : Addr} {fd : FuncData} {x : Str} {sp : Sp} {s₁ : Shared} {vs : List Value} {ns : List Int}
    (KX : K.In s₁.heap) (hns : s₁.heap.Ns mainGlobals mg) (hb : s₁.heap.Ns builtinsNs mb) (hbb : ∀ x : Str, x ≠ "__name__" → mb x = bootBuiltins x) (hlim : s₁.heap.NoLimit) (hg : s₁.gens = #[])
    (ha : s₁.heap.get? a = some { cls := .type "list", data := .seq vs.toArray }) (hi : IntsAre vs ns) (hl : ns.length ≤ sizeLine) (hr : Room k callerA)
    (F : ∀ base : Heap, K.In base → base.Ns mainGlobals mg → FnG P w K mg base CX0 k fa fd [x] sp) (hbind : ∀ (s : Shared) (u : Value), BindsTo s fd ⟨[u], []⟩ [(x, u)])
    (hsp : ∀ H : Hp, Only H → SqL K H a (ns.map V.int) → sp [.ref a] H (fun v _ => v = .bl true) fun _ _ _ => False) :
    codeAny (model P w) callerA (.call (.ref fa) ⟨[.ref a], []⟩) (fun r s' => r = .ok (.ret (.bool true)) ∧ OldK s₁.heap s'.heap ∧ s'.os = s₁.os ∧ AllBare s'.gens) s₁ := by
  /- the promise as L2's head asks it: of room alone; it asks it of callerA alone -/
  have Z : ∀ base : Heap, K.In base → base.Ns mainGlobals mg → ∀ (outer : List Env) (s : Shared) (H : Hp) (args : Args) (us : List Value) (vs : List V) (Q : VK) (E : XK),
      Env0 P w K mg base callerA outer s H → BindsTo s fd args ([x].zip us) → Vals vs us → sp vs H Q E → codeAny (model P w) callerA (.call (.ref fa) args) (CR CX0 outer P w H s Q E) s :=
    fun base h1 h2 outer s H args us vs Q E e b r q => (F base h1 h2).go callerA outer s H args us vs Q E ⟨hr, rfl⟩ e b r q
  have rv := vals_ints hi
  have lenV := hi.length
  have main : ∀ H : Hp, Only H → SqL K H a (ns.map V.int) → HOk P w H s₁.heap → (∀ b, H b ≠ none → b = a) → (H a ≠ none → K.lookup a = none) →
      codeAny (model P w) callerA (.call (.ref fa) ⟨[.ref a], []⟩) (fun r s' => r = .ok (.ret (.bool true)) ∧ OldK s₁.heap s'.heap ∧ s'.os = s₁.os ∧ AllBare s'.gens) s₁ := by
    intro H only seq ok only_a own
    have free_dict : ∀ {b : Addr} {o : Obj} {es : Array DictEntry} {ep : Nat}, s₁.heap.get? b = some o → o.data = .dict es ep → H b = none := by
      intro b o es ep e d
      cases q : H b with
      | none => rfl
      | some u =>
        obtain rfl : b = a := only_a b (by rw [q]; simp)
        obtain rfl := Option.some.inj (ha.symm.trans e)
        cases d
    have stays : ∀ {b : Addr} {m : Str → Option Value}, s₁.heap.Ns b m → (hidT s₁.heap H).Ns b m := by
      rintro b m ⟨o, es, ep, e, d, r⟩
      exact ⟨o, es, ep, hidT_get e (free_dict e d), d, r⟩
    have kin : K.In (hidT s₁.heap H) := by
      intro b o e
      refine hidT_get (KX b o e) ?_
      cases q : H b with
      | none => rfl
      | some u =>
        obtain rfl : b = a := only_a b (by rw [q]; simp)
        rw [own (by rw [q]; simp)] at e
        cases e
    have md : Mod K mg (hidT s₁.heap H) := ⟨kin, stays hns, ⟨mb, stays hb, hbb⟩, by
      obtain ⟨mc, h1, h2⟩ := hlim
      exact ⟨mc, stays h1, h2⟩⟩
    have e0 : Env0 P w K mg (hidT s₁.heap H) callerA [] s₁ H := ⟨rfl, md, fun b o e => of_hidT e, Nat.le_of_eq (hidT_size _ _), trivial, fun b z => (List.not_mem_nil z).elim, ok, .of_eq hg⟩
    refine codeAny_mono (Z _ kin (stays hns) [] s₁ H ⟨[.ref a], []⟩ [.ref a] [.ref a] _ _ e0 (hbind s₁ (.ref a)) (.cons rfl .nil) (hsp H only seq)) ?_
    intro r s' h
    cases r with
    | error e => exact h.elim
    | ok fl =>
      cases fl with
      | next => exact h.elim
      | brk => exact h.elim
      | cont => exact h.elim
      | ret u =>
        obtain ⟨v, H', os, bare, un, ok', r', q⟩ := h
        have q' : v = .bl true := q
        subst q'
        obtain rfl : u = Value.bool true := r'
        refine ⟨rfl, OldK.of_keep ?_, os, bare⟩
        intro b o e
        cases q : H b with
        | none => exact un.keep b o e q (fun z => (List.not_mem_nil z).elim) (fun z => (List.not_mem_nil z).elim)
        | some u =>
          rcases only b with z | ⟨ob, xs, z⟩
          · rw [q] at z; cases z
          · obtain ⟨e1, _⟩ := ok b _ z
            obtain ⟨e2, _⟩ := ok' b _ (un.frzs b ob _ z)
            exact (Option.some.inj (e1.symm.trans e)) ▸ e2
  cases hk : K.lookup a with
  | some o =>
    obtain rfl := Option.some.inj (ha.symm.trans (KX a o hk))
    refine main (fun _ => none) (fun _ => .inl rfl) (.inr ⟨_, vs.toArray, _, hk, rfl, rfl, rfl, ?_, by simpa using rv⟩) (fun b u z => nomatch z) (fun b z => (z rfl).elim) fun z => (z rfl).elim
    rw [List.size_toArray, lenV]
    exact hl
  | none =>
    refine main (fun b => if b = a then some (.frz { cls := .type "list", data := .seq vs.toArray } (.lst (ns.map V.int))) else none) (fun b => ?_) (.inl (.inr ⟨_, if_pos rfl⟩)) (fun b u z => ?_) (fun b z => ?_) fun _ => hk
    · by_cases hb : b = a
      · exact .inr ⟨_, _, if_pos hb⟩
      · exact .inl (if_neg hb)
    · by_cases hb : b = a
      · subst hb
        obtain rfl := Option.some.inj ((if_pos rfl).symm.trans z)
        exact ⟨ha, by rw [List.length_map]; exact hl, vs, _, rv, ha⟩
      · exact nomatch (if_neg hb).symm.trans z
    · by_cases hb : b = a
      · exact hb
      · exact absurd (if_neg hb) z
theorem walk_G {l : PySem.W.OpenLaw} {n k : Nat} {q : Program} {loose : List Str} {XP : (Str → Option Value) → Heap → Prop} {YP : World → Heap → Prop} {d : DefRec} {K : Params → PySem.W.Frag} {sp : PySem.W.Frag → Sp} {x : Str}
    (hn : l.most = some n) (hn2 : n ≤ sizeLine) (hdf : d.params.defaults = []) (hr : Room k callerA)
    (hY : ∀ (w : World) (h : Heap), YP w h → (K w.params).In h)
    (F : ∀ (w : World) (mg : Str → Option Value) (fa : Addr) (h : Heap), (K w.params).In h → h.Ns mainGlobals mg → mg d.name = some (.ref fa) →
      ∃ fd : FuncData, (∀ (s : Shared) (u : Value), BindsTo s fd ⟨[u], []⟩ [(x, u)]) ∧
        ∀ base : Heap, (K w.params).In base → base.Ns mainGlobals mg → FnG l.prog w (K w.params) mg base CX0 k fa fd [x] (sp (K w.params)))
    (hsp : ∀ (K : PySem.W.Frag) (H : Hp) (a : Addr) (ns : List Int), ns.length ≤ n → (∀ z ∈ ns, Builtin.Int.intBits z ≤ 1048576) → Only H → SqL K H a (ns.map V.int) → sp K [.ref a] H (fun v _ => v = .bl true) fun _ _ _ => False) :
    PySem.W.WalkO q loose XP YP l.row.toRowW d [] (fun f vs => PySem.call f vs) := by
  refine Att.attach_callB hn hdf ?_
  intro w s₀ s₁ mg mb fa o pm cd doc a vs ns G Y ho hd hcd hmg hobj hints hlen bits hg
  obtain ⟨fd, hb, hF⟩ := F w mg fa _ (hY w _ Y) G.T.g hmg
  exact law_G (hY w _ Y) G.T.g G.T.b G.T.builtins G.T.nolimit hg hobj hints (Nat.le_trans hlen hn2) hr hF hb fun H only seq => hsp _ H a ns hlen bits only seq
end U

/-! operators by the values that come: one rule an operator -/
namespace U
open PySem PySem.Spec PyProof.Rows L2
section
variable {X : Cx}

/-! ### names of the world -/
theorem bb_len : bootBuiltins "len" = some (.builtin "len") := by decide +kernel
theorem bb_abs : bootBuiltins "abs" = some (.builtin "abs") := by decide +kernel
theorem bb_sorted : bootBuiltins "sorted" = some (.builtin "sorted") := by decide +kernel
theorem bb_sum : bootBuiltins "sum" = some (.builtin "sum") := by decide +kernel
theorem bb_all : bootBuiltins "all" = some (.builtin "all") := by decide +kernel
theorem bb_isinstance : bootBuiltins "isinstance" = some (.builtin "isinstance") := by decide +kernel
theorem bb_repr : bootBuiltins "repr" = some (.builtin "repr") := by decide +kernel
theorem bb_list : bootBuiltins "list" = some (.type "list") := by decide +kernel
theorem bb_tuple : bootBuiltins "tuple" = some (.type "tuple") := by decide +kernel
theorem bb_dict : bootBuiltins "dict" = some (.type "dict") := by decide +kernel
theorem bb_str : bootBuiltins "str" = some (.type "str") := by decide +kernel
theorem pe_ty {x : Str} {T : String} {pos : Pos} (hg : Gl X x) (hm : X.mg x = none) (hv : bootBuiltins x = some (.type T)) (hn : x ≠ "__name__" := by decide) (hd : (x == ("__debug__" : Str)) = false := by decide) :
    PE X (.Name x pos) (tC (.ty T)) := pe_bltn hg hm hv rfl hn hd
theorem pe_gl {x : Str} {v : V} {pos : Pos} (hg : Gl X x) (h : ∃ u, X.mg x = some u ∧ RelV v u) (hd : (x == ("__debug__" : Str)) = false := by decide) : PE X (.Name x pos) (tC v) := by
  obtain ⟨u, hm, r⟩ := h
  exact pe_glob hg hm r hd

/-! ### + - * % // ** -/
/-- what is wanted where a new list, a new tuple comes -/
def nL (xs : List V) (H : Hp) (Q : VK) : Prop := ∀ p, H p = none → Q (.ref p) (upd H p (.lst xs))
def nT (xs : List V) (H : Hp) (Q : VK) : Prop := ∀ p, H p = none → Q (.ref p) (upd H p (.tup xs))
def rAddU (K : PySem.W.Frag) : R2 := fun x y H Q => match x, y with
  | .int i, .int j => Q (.int (i + j)) H
  | .str a, .str b => a.length + b.length ≤ sizeLine ∧ Q (.str (a ++ b)) H
  | .ref a, .ref b => (∃ xs ys, H a = some (.lst xs) ∧ H b = some (.lst ys) ∧ xs.length + ys.length ≤ sizeLine ∧ nL (xs ++ ys) H Q) ∨ rCatA K (.ref a) (.ref b) H Q
  | _, _ => False
theorem uAdd : OpR X (binaryOp .Add) (rAddU X.K) := by
  intro pins s σ H x y v u Q I rx ry h
  cases x <;> cases y <;> first | exact h.elim | skip
  · exact op_add pins s σ H _ _ v u Q I rx ry ⟨_, _, rfl, rfl, h⟩
  · exact op_add_str pins s σ H _ _ v u Q I rx ry ⟨_, _, rfl, rfl, h⟩
  · rcases h with ⟨xs, ys, h1, h2, h3, h4⟩ | h
    · exact op_cat pins s σ H _ _ v u Q I rx ry ⟨_, _, _, _, rfl, rfl, h1, h2, h3, h4⟩
    · exact op_catA pins s σ H _ _ v u Q I rx ry h
def rSubU : R2 := fun x y H Q => match x, y with
  | .int i, .int j => Q (.int (i - j)) H
  | _, _ => False
theorem uSub : OpR X (binaryOp .Sub) rSubU := by
  intro pins s σ H x y v u Q I rx ry h
  cases x <;> cases y <;> first | exact h.elim | exact op_sub pins s σ H _ _ v u Q I rx ry ⟨_, _, rfl, rfl, h⟩
/-- a text k times -/
def timesS (z : Str) (k : Int) : Str := ⟨((List.replicate k.toNat z.cps.toList).flatten).toArray⟩
theorem timesS_one (z : Str) : timesS z 1 = z := by
  unfold timesS
  simp
theorem timesS_neg {z : Str} {k : Int} (h : k < 1) : timesS z k = Str.empty := by
  unfold timesS
  have e : k.toNat = 0 := by omega
  rw [e]
  rfl
theorem fold_rep (a : Array Nat) : ∀ (n : Nat) (acc : Array Nat), (List.replicate n a).foldl (· ++ ·) acc = acc ++ ((List.replicate n a.toList).flatten).toArray
  | 0, acc => by simp
  | n + 1, acc => by
    rw [List.replicate_succ, List.foldl_cons, fold_rep a n, List.replicate_succ, List.flatten_cons]
    apply Array.ext'
    simp
theorem timesS_nil {z : Str} {k : Int} (h : z.length = 0) : timesS z k = z := by
  obtain ⟨a⟩ := z
  have e : a = #[] := Array.size_eq_zero_iff.mp h
  subst e
  unfold timesS
  have : (List.replicate k.toNat ([] : List Nat)).flatten = [] := by
    rw [List.flatten_eq_nil_iff]
    intro l hl
    exact List.eq_of_mem_replicate hl
  show (⟨((List.replicate k.toNat ([] : List Nat)).flatten).toArray⟩ : Str) = ⟨#[]⟩
  rw [this]
def rMulU : R2 := fun x y H Q => match x, y with
  | .int i, .int j => (CMul i j ∨ CMulW i j) ∧ Q (.int (i * j)) H
  | .str z, .int k => (0 ≤ k ∧ k ≤ 1000 ∧ z.length ≤ 1000) ∧ Q (.str (timesS z k)) H
  | .ref l, .int k => rRep (.ref l) (.int k) H Q
  | _, _ => False
theorem uMul : OpR X (binaryOp .Mult) rMulU := by
  intro pins s σ H x y v u Q I rx ry h
  cases x <;> cases y <;> first | exact h.elim | skip
  · obtain ⟨c | c, h⟩ := h
    · exact op_mul pins s σ H _ _ v u Q I rx ry ⟨_, _, rfl, rfl, c, h⟩
    · exact op_mulW pins s σ H _ _ v u Q I rx ry ⟨_, _, rfl, rfl, c, h⟩
  · rename_i z k
    obtain ⟨⟨h0, h1, hz⟩, q⟩ := h
    obtain ⟨t, rfl⟩ := rx
    obtain ⟨t', rfl⟩ := ry
    have hl : z.length * k.toNat ≤ 1000 * 1000 := Nat.mul_le_mul hz (by omega)
    refine P.mul_str ?_ ?_ ?_ ?_
    · have a : ¬ k < -(2 ^ 63) := by omega
      have b : ¬ k ≥ 2 ^ 63 := by omega
      rw [decide_eq_false a, decide_eq_false b]
      rfl
    · intro _ _ bad
      have : (z.length : Int) ≤ 1000 := by omega
      have e : (1000 : Int) ≤ (2 ^ 63 - 1) / k := by
        rw [Int.le_ediv_iff_mul_le (by omega)]
        have : (1000 : Int) * k ≤ 1000 * 1000 := Int.mul_le_mul_of_nonneg_left h1 (by decide)
        omega
      omega
    · intro _ _
      unfold Builtin.Str.tooLong
      have : z.length * k.toNat ≤ sizeLine := Nat.le_trans hl (by decide)
      simp
      exact this
    · split
      · rename_i hk
        rw [timesS_neg hk] at q
        exact ⟨by decide, ⟨.str Str.empty, H, I.tok _, ⟨_, rfl⟩, q⟩⟩
      · split
        · rename_i hk hc
          have e : timesS z k = z := by
            rcases (Bool.or_eq_true _ _).mp hc with c | c
            · have : k = 1 := by simpa using c
              rw [this, timesS_one]
            · exact timesS_nil (by simpa using c)
          rw [e] at q
          exact ⟨.str z, H, I.tok _, ⟨_, rfl⟩, q⟩
        · have e : (⟨(List.replicate k.toNat z.cps).foldl (· ++ ·) #[]⟩ : Str) = timesS z k := by
            rw [fold_rep]
            unfold timesS
            congr 1
            simp
          rw [e]
          refine ⟨?_, ⟨.str (timesS z k), H, I.tok _, ⟨_, rfl⟩, q⟩⟩
          have : (timesS z k).length = k.toNat * z.length := by
            unfold timesS Str.length
            simp
          rw [this, Nat.mul_comm]
          exact Nat.le_trans hl (by decide)
  · exact op_rep pins s σ H _ _ v u Q I rx ry h
def rModU : R2 := fun x y H Q => match x, y with
  | .int i, .int j => 0 < j ∧ Q (.int (i % j)) H
  | _, _ => False
theorem uMod : OpR X (binaryOp .Mod) rModU := by
  intro pins s σ H x y v u Q I rx ry h
  cases x <;> cases y <;> first | exact h.elim | exact op_mod pins s σ H _ _ v u Q I rx ry ⟨_, _, rfl, rfl, h.1, h.2⟩
def rDivU : R2 := fun x y H Q => match x, y with
  | .int i, .int j => (0 < j ∧ j < 1073741824) ∧ Q (.int (i / j)) H
  | _, _ => False
theorem uDiv : OpR X (binaryOp .FloorDiv) rDivU := by
  intro pins s σ H x y v u Q I rx ry h
  cases x <;> cases y <;> first | exact h.elim | exact op_fdiv pins s σ H _ _ v u Q I rx ry ⟨_, _, rfl, rfl, h.1, h.2⟩
def rPowU : R2 := fun x y H Q => match x, y with
  | .int i, .int j => CPow i j ∧ Q (.int (i ^ j.toNat)) H
  | _, _ => False
theorem uPow : OpR X (binaryOp .Pow) rPowU := by
  intro pins s σ H x y v u Q I rx ry h
  cases x <;> cases y <;> first | exact h.elim | exact op_pow pins s σ H _ _ v u Q I rx ry ⟨_, _, rfl, rfl, h.1, h.2⟩

/-! ### < <= > >= -/
def rLtU : R2 := fun x y H Q => match x, y with
  | .int i, .int j => Q (.bl (decide (i < j))) H
  | .str a, .str b => Q (.bl (decide (a.cps.toList < b.cps.toList))) H
  | _, _ => False
theorem uLt : OpR X (compareOp .Lt) rLtU := by
  intro pins s σ H x y v u Q I rx ry h
  cases x <;> cases y <;> first | exact h.elim | exact op_lt pins s σ H _ _ v u Q I rx ry ⟨_, _, rfl, rfl, h⟩ | exact op_lt_str pins s σ H _ _ v u Q I rx ry ⟨_, _, rfl, rfl, h⟩
def rLeU : R2 := fun x y H Q => match x, y with
  | .int i, .int j => Q (.bl (decide (i ≤ j))) H
  | _, _ => False
def rGtU : R2 := fun x y H Q => match x, y with
  | .int i, .int j => Q (.bl (decide (j < i))) H
  | _, _ => False
theorem uGt : OpR X (compareOp .Gt) rGtU := by
  intro pins s σ H x y v u Q I rx ry h
  cases x <;> cases y <;> first | exact h.elim | exact op_gt pins s σ H _ _ v u Q I rx ry ⟨_, _, rfl, rfl, h⟩
def rGeU : R2 := fun x y H Q => match x, y with
  | .int i, .int j => Q (.bl (decide (j ≤ i))) H
  | _, _ => False
theorem uGe : OpR X (compareOp .GtE) rGeU := by
  intro pins s σ H x y v u Q I rx ry h
  cases x <;> cases y <;> first | exact h.elim | exact op_ge pins s σ H _ _ v u Q I rx ry ⟨_, _, rfl, rfl, h⟩

/-! ### == != is, is not -/
/-- == of any two: what is told of them is data -/
def eqB (x y : V) : Option Bool := match x, y with
  | .int i, .int j => some (decide (i = j))
  | .str a, .str b => some (decide (a = b))
  | .bl a, .bl b => some (decide (a = b))
  | .non, .non => some true
  | .int _, .str _ => some false
  | .str _, .int _ => some false
  | .non, .str _ => some false
  | .str _, .non => some false
  | .non, .int _ => some false
  | .int _, .non => some false
  | .bl _, .str _ => some false
  | .str _, .bl _ => some false
  | .bl _, .non => some false
  | .non, .bl _ => some false
  | _, _ => none
theorem eqB_scal {x y : V} {b : Bool} (h : eqB x y = some b) : scal x y = true ∧ decide (x = y) = b := by
  cases x <;> cases y <;> simp_all [eqB, scal]
def rEqU (K : PySem.W.Frag) : R2 := fun x y H Q => match eqB x y with
  | some b => Q (.bl b) H
  | none => rEqD K x y H Q
def rNeU (K : PySem.W.Frag) : R2 := fun x y H Q => match eqB x y with
  | some b => Q (.bl (!b)) H
  | none => rNeD K x y H Q
theorem uEq' (hu : X.A.units + 64 < cLine) : OpR X (compareOp .Eq) (rEqU X.K) := by
  intro pins s σ H x y v u Q I rx ry h
  unfold rEqU at h
  cases e : eqB x y with
  | some b =>
    rw [e] at h
    obtain ⟨z1, z2⟩ := eqB_scal e
    exact op_eq pins s σ H _ _ v u Q I rx ry ⟨z1, by rw [z2]; exact h⟩
  | none =>
    rw [e] at h
    exact op_eqD hu pins s σ H _ _ v u Q I rx ry h
theorem uNe' (hu : X.A.units + 64 < cLine) : OpR X (compareOp .NotEq) (rNeU X.K) := by
  intro pins s σ H x y v u Q I rx ry h
  unfold rNeU at h
  cases e : eqB x y with
  | some b =>
    rw [e] at h
    obtain ⟨z1, z2⟩ := eqB_scal e
    exact op_ne pins s σ H _ _ v u Q I rx ry ⟨z1, by rw [z2]; exact h⟩
  | none =>
    rw [e] at h
    exact op_neD hu pins s σ H _ _ v u Q I rx ry h
def rIsU : R2 := fun x y H Q => match y with
  | .non => Q (.bl (decide (x = .non))) H
  | .bl b => ∃ a, x = .bl a ∧ Q (.bl (decide (a = b))) H
  | _ => False
theorem uIs : OpR X (compareOp .Is) rIsU := by
  intro pins s σ H x y v u Q I rx ry h
  cases y <;> first | exact h.elim | exact op_isN pins s σ H _ _ v u Q I rx ry ⟨rfl, h⟩ | skip
  obtain ⟨a, rfl, h⟩ := h
  exact op_isBl pins s σ H _ _ v u Q I rx ry ⟨_, _, rfl, rfl, h⟩
def rIsNotU : R2 := fun x y H Q => match y with
  | .non => Q (.bl (!decide (x = .non))) H
  | .bl b => ∃ a, x = .bl a ∧ Q (.bl (!decide (a = b))) H
  | _ => False
theorem uIsNot : OpR X (compareOp .IsNot) rIsNotU := by
  intro pins s σ H x y v u Q I rx ry h
  cases y <;> first | exact h.elim | exact op_notN pins s σ H _ _ v u Q I rx ry ⟨rfl, h⟩ | skip
  obtain ⟨a, rfl, h⟩ := h
  exact op_notBl pins s σ H _ _ v u Q I rx ry ⟨_, _, rfl, rfl, h⟩

/-! ### in, not in: lists and tuples -/
def rInU (K : PySem.W.Frag) : R2 := fun x y H Q => match y with
  | .ref p => ∃ xs, (SqL K H p xs ∨ SqT K H p xs) ∧ ((flatV x = true ∧ xs.all flatV = true ∧ Q (.bl (inV x xs)) H))
  | _ => False
theorem uIn : OpR X (compareOp .In) (rInU X.K) := by
  intro pins s σ H x y v u Q I rx ry h
  cases y <;> first | exact h.elim | skip
  obtain ⟨xs, h1, h2, h3, h4⟩ := h
  exact op_in_seq pins s σ H _ _ v u Q I rx ry ⟨_, xs, rfl, h1, h2, h3, h4⟩
def rNotInU (K : PySem.W.Frag) : R2 := fun x y H Q => match y with
  | .ref p => ∃ xs, (SqL K H p xs ∨ SqT K H p xs) ∧ ((flatV x = true ∧ xs.all flatV = true ∧ Q (.bl (!inV x xs)) H))
  | _ => False
theorem uNotIn : OpR X (compareOp .NotIn) (rNotInU X.K) := by
  intro pins s σ H x y v u Q I rx ry h
  cases y <;> first | exact h.elim | skip
  obtain ⟨xs, h1, h2, h3, h4⟩ := h
  exact op_notIn_seq pins s σ H _ _ v u Q I rx ry ⟨_, xs, rfl, h1, h2, h3, h4⟩

/-! ### o[i], o[a:b] -/
def rIxU (K : PySem.W.Frag) : R2 := fun x y H Q => match x, y with
  | .str z, .int i => z.length ≤ sizeLine ∧ ∃ c, atI z.cps.toList i = some c ∧ Q (.str ⟨#[c]⟩) H
  | .ref p, .int i => ∃ xs, (SqL K H p xs ∨ SqT K H p xs) ∧ ∃ v, atI xs i = some v ∧ Q v H
  | _, _ => False
theorem uIx : IxR X (rIxU X.K) := by
  intro a b pins s σ H x y v u Q I rx ry h hs
  cases x <;> cases y <;> first | exact h.elim | skip
  · obtain ⟨h1, c, h2, h3⟩ := h
    exact ix_str a b pins s σ H _ _ v u Q I rx ry ⟨_, _, c, rfl, rfl, h1, h2, h3⟩ hs
  · obtain ⟨xs, h1 | h1, w', h2, h3⟩ := h
    · exact ix_list a b pins s σ H _ _ v u Q I rx ry ⟨_, xs, _, w', rfl, rfl, h1, h2, h3⟩ hs
    · exact ix_tup a b pins s σ H _ _ v u Q I rx ry ⟨_, xs, _, w', rfl, rfl, h1, h2, h3⟩ hs
end
end U

/-! slices, built-in functions by the values that come -/
namespace U
open PySem PySem.Spec PyProof.Rows L2
section
variable {X : Cx}
/-! ### slices -/
def rSlU (K : PySem.W.Frag) : V → Option Int → Option Int → Hp → VK → Prop := fun x lo hi H Q => match x with
  | .str z => z.length ≤ sizeLine ∧ Q (.str (cutS z lo hi)) H
  | .ref a => (∃ xs, SqL K H a xs ∧ nL (cutV xs lo hi) H Q) ∨ rSlA K (.ref a) lo hi H Q
  | _ => False
theorem uSl : SlR X (rSlU X.K) := by
  intro pins s σ H x v vl vu lo hi sl Q I rx hs pl pu h
  cases x <;> first | exact h.elim | skip
  · exact sl_str pins s σ H _ v vl vu lo hi sl Q I rx hs pl pu ⟨_, rfl, h.1, h.2⟩
  · rcases h with ⟨xs, h1, h2⟩ | h
    · exact sl_list pins s σ H _ v vl vu lo hi sl Q I rx hs pl pu ⟨_, xs, rfl, h1, h2⟩
    · exact sl_tupA pins s σ H _ v vl vu lo hi sl Q I rx hs pl pu h

/-! ### len, abs, max, min, int, list, tuple -/
def rLenU (K : PySem.W.Frag) : List V → Hp → VK → Prop := fun xs H Q => match xs with
  | [.str z] => z.length ≤ sizeLine ∧ Q (.int z.length) H
  | [.ref p] => (∃ ys, (SqL K H p ys ∨ SqT K H p ys) ∧ Q (.int ys.length) H) ∨ ∃ kvs, H p = some (.dK kvs) ∧ Q (.int kvs.length) H
  | _ => False
theorem cLen : CallR X (.builtin "len") (rLenU X.K) := by
  intro pins s σ H xs us Q I r h
  match xs, h with
  | [.str z], h => exact call_len_str pins s σ H _ us Q I r ⟨z, rfl, h.1, h.2⟩
  | [.ref p], .inl ⟨ys, h1, h2⟩ => exact call_len_seq pins s σ H _ us Q I r ⟨p, ys, rfl, h1, h2⟩
  | [.ref p], .inr ⟨kvs, h1, h2⟩ => exact call_lenD pins s σ H _ us Q I r ⟨p, kvs, rfl, h1, h2⟩
def rAbsU : List V → Hp → VK → Prop := fun xs H Q => match xs with
  | [.int i] => Q (.int (i.natAbs : Int)) H
  | _ => False
theorem cAbs : CallR X (.builtin "abs") rAbsU := by
  intro pins s σ H xs us Q I r h
  match xs, h with
  | [.int i], h =>
    refine call_abs pins s σ H _ us Q I r ⟨i, rfl, ?_⟩
    have e : (if i < 0 then -i else i) = (i.natAbs : Int) := by split <;> omega
    rw [e]
    exact h
def rMaxU : List V → Hp → VK → Prop := fun xs H Q => match xs with
  | [.int i, .int j] => Q (.int (max i j)) H
  | _ => False
def rMinU : List V → Hp → VK → Prop := fun xs H Q => match xs with
  | [.int i, .int j] => Q (.int (min i j)) H
  | _ => False
def bToI (k : Bool) : Int := if k then 1 else 0
def rIntU : List V → Hp → VK → Prop := fun xs H Q => match xs with
  | [.int i] => Q (.int i) H
  | [.bl k] => Q (.int (bToI k)) H
  | _ => False
def rListU (K : PySem.W.Frag) : List V → Hp → VK → Prop := fun xs H Q => match xs with
  | [.ref p] => (∃ ys, (SqL K H p ys ∨ SqT K H p ys) ∧ nL ys H Q) ∨ ∃ kvs : List (Key × V), Rd H p (.dK kvs) ∧ nL (kvs.map fun kv => kV kv.1) H Q
  | _ => False
theorem cList (hc : X.calm = true) : CallR X (.type "list") (rListU X.K) := by
  intro pins s σ H xs us Q I r h
  match xs, h with
  | [.ref p], .inl ⟨ys, h1, h2⟩ => exact call_list_of pins s σ H _ us Q I r ⟨p, ys, rfl, h1, h2⟩
  | [.ref p], .inr ⟨kvs, h1, h2⟩ => exact call_listD hc pins s σ H _ us Q I r ⟨p, kvs, rfl, h1, h2⟩
def rTupleU (K : PySem.W.Frag) : List V → Hp → VK → Prop := fun xs H Q => match xs with
  | [.ref p] => (∃ ys, SqL K H p ys ∧ nT ys H Q) ∨ ((∃ ys, SqT K H p ys) ∧ Q (.ref p) H)
  | _ => False
theorem cTuple : CallR X (.type "tuple") (rTupleU X.K) := by
  intro pins s σ H xs us Q I r h
  match xs, h with
  | [.ref p], .inl ⟨ys, h1, h2⟩ => exact call_tuple_of pins s σ H _ us Q I r ⟨p, ys, rfl, .inl ⟨h1, h2⟩⟩
  | [.ref p], .inr ⟨⟨ys, h1⟩, h2⟩ => exact call_tuple_of pins s σ H _ us Q I r ⟨p, ys, rfl, .inr ⟨h1, h2⟩⟩
def rDictU : List V → Hp → VK → Prop := fun xs H Q => match xs with
  | [.ref p] => ∃ kvs : List (Key × V), Rd H p (.dK kvs) ∧ ∀ d, H d = none → Q (.ref d) (upd H d (.dK kvs))
  | _ => False
theorem cDict : CallR X (.type "dict") rDictU := by
  intro pins s σ H xs us Q I r h
  match xs, h with
  | [.ref p], ⟨kvs, h1, h2⟩ => exact call_dictD pins s σ H _ us Q I r ⟨p, kvs, rfl, h1, h2⟩

def rAllU (K : PySem.W.Frag) : List V → Hp → VK → Prop := fun xs H Q => match xs with
  | [.ref p] => ∃ bs : List Bool, SqL K H p (bs.map V.bl) ∧ Q (.bl (bs.all id)) H
  | _ => False
theorem cAll (hc : X.calm = true) : CallR X (.builtin "all") (rAllU X.K) := by
  intro pins s σ H xs us Q I r h
  match xs, h with
  | [.ref p], ⟨bs, h1, h2⟩ => exact cr_all hc pins s σ H _ us Q I r ⟨p, bs, rfl, h1, h2⟩
/-! ### sorted -/
/-- a < b, of data -/
abbrev dLt (a b : PyData) : Bool := PySem.W.dataLt a b
/-- a list of what may be sorted -/
structure Sorts (K : PySem.W.Frag) (H : Hp) (bs : List (V × PyData)) : Prop where
  dat : ∀ b ∈ bs, Dp K H b.1 b.2
  alk : PySem.W.AllAlike (bs.map (·.2))
  srt : PySem.W.Sortable (bs.map (·.2))
  dep : ∀ b ∈ bs, b.2.depth ≤ 50
  len : bs.length ≤ 100000
def rSortU (K : PySem.W.Frag) : List V → Hp → VK → Prop := fun xs H Q => match xs with
  | [.ref p] => ∃ bs : List (V × PyData), SqL K H p (bs.map (·.1)) ∧ Sorts K H bs ∧
      ∀ cs : List (V × PyData), cs.Perm bs → cs.Pairwise (fun a b => dLt b.2 a.2 = false) → nL (cs.map (·.1)) H Q
  | _ => False
theorem each_vals : ∀ {bs : List (V × PyData)} {us : List Value}, Vals (bs.map (·.1)) us → PySem.W.EachIs (fun u b => RelV b.1 u) us bs
  | [], _, r => by
    cases r
    exact .nil
  | b :: bs, _, r => by
    cases r with
    | cons r1 r2 => exact .cons r1 (each_vals r2)
theorem vals_each : ∀ {bs : List (V × PyData)} {us : List Value}, PySem.W.EachIs (fun u b => RelV b.1 u) us bs → Vals (bs.map (·.1)) us
  | [], _, r => by
    cases r
    exact .nil
  | b :: bs, _, r => by
    cases r with
    | cons r1 r2 => exact .cons r1 (vals_each r2)
theorem each_reads {pins : List (Addr × Obj)} {σ : L2.St} {H : Hp} {s : Shared} (I : Inv X pins σ H s) : ∀ {bs : List (V × PyData)} {us : List Value}, (∀ b ∈ bs, Dp X.K H b.1 b.2) → Vals (bs.map (·.1)) us → PySem.W.EachIs (fun u b => ∃ as, Reads s.heap u b.2 as) us bs
  | [], _, _, r => by
    cases r
    exact .nil
  | b :: bs, _, h, r => by
    cases r with
    | cons r1 r2 => exact .cons (Dp.reads I _ _ _ (h b List.mem_cons_self) r1) (each_reads I (fun c hc => h c (List.mem_cons_of_mem _ hc)) r2)
theorem cSorted (hu : X.A.units + 64 < cLine) : CallR X (.builtin "sorted") (rSortU X.K) := by
  intro pins s σ H xs us Q I r h
  match xs, h with
  | [.ref p], ⟨bs, hs, S, q⟩ =>
    cases r with
    | cons r rr =>
      cases rr
      cases r
      obtain ⟨its, rv, pl, hz⟩ := I.list hs
      have e1 := each_vals rv
      have hb : ∀ b, b ∈ bs → X.A.units + 2 + b.2.depth < cLine := fun b hb => by
        have := S.dep b hb
        omega
      refine PySem.W.sorted_data (vs := its) (bs := bs) (enc := fun b : V × PyData => b.2) (R := fun u b => RelV b.1 u) pl.isList e1 (each_reads I S.dat rv) S.alk S.srt ?_ hb ?_
      · rw [List.length_map] at hz
        exact hz
      · intro out ol oe
        have perm : (bs.mergeSort (PySem.W.dataLe false fun b : V × PyData => b.2)).Perm bs := List.mergeSort_perm _ _
        have srt : (bs.mergeSort (PySem.W.dataLe false fun b : V × PyData => b.2)).Pairwise (fun a b => dLt b.2 a.2 = false) :=
          (PySem.W.sort_pairwise (PySem.W.sortLe_total _ _ _) bs).imp fun {a b} z => by
            have z' : (!dLt b.2 a.2) = true := z
            simpa using z'
        generalize bs.mergeSort (PySem.W.dataLe false fun b : V × PyData => b.2) = cs at perm srt oe
        have rv2 := vals_each oe
        have hfr : s.heap.objs.size ≤ s.heap.objs.size + 1 := Nat.le_succ _
        obtain ⟨e, he⟩ := sortedAll_at s.heap its out.toArray
        have new : ObjOk X.prog X.w (upd H (s.heap.objs.size + 1) (.lst (cs.map (·.1)))) (sortedAll s.heap its out.toArray) (s.heap.objs.size + 1) (.lst (cs.map (·.1))) :=
          ⟨by rw [List.length_map, perm.length_eq]; rw [List.length_map] at hz; exact hz, out, e, rv2, he⟩
        exact ⟨.ref (s.heap.objs.size + 1), _, I.laid (t' := s.toks) (fun b u z => sortedAll_old z) hfr new, rfl, q cs perm srt _ (I.hok.fresh hfr)⟩

/-! ### isinstance of built-in classes -/
inductive Ty where
  | non | bl | int | str | lst | tup | dct
  deriving DecidableEq
def Ty.nm : Ty → String
  | .non => "NoneType"
  | .bl => "bool"
  | .int => "int"
  | .str => "str"
  | .lst => "list"
  | .tup => "tuple"
  | .dct => "dict"
def isT (a b : Ty) : Bool := decide (a = b) || (decide (a = .bl) && decide (b = .int))
theorem isT_ok (a b : Ty) (hb : b ≠ .non) : kitB a.nm b.nm = some (isT a b) := by
  cases a <;> cases b <;> first | exact absurd rfl hb | decide +kernel
/-- a value's class -/
def TyIs (K : PySem.W.Frag) (H : Hp) (x : V) (a : Ty) : Prop := TyX K H x (.type a.nm)
def tyOf : String → Option Ty
  | "bool" => some .bl
  | "int" => some .int
  | "str" => some .str
  | "list" => some .lst
  | "tuple" => some .tup
  | "dict" => some .dct
  | _ => none
theorem tyOf_ok {n : String} {t : Ty} (h : tyOf n = some t) : n = t.nm ∧ t ≠ .non := by
  unfold tyOf at h
  split at h <;> first | (cases h; exact ⟨rfl, by decide⟩) | cases h
def rIsiU (K : PySem.W.Frag) : List V → Hp → VK → Prop := fun xs H Q => match xs with
  | [x, .ty n] => ∃ a t, TyIs K H x a ∧ tyOf n = some t ∧ Q (.bl (isT a t)) H
  | _ => False
theorem cIsi : CallR X (.builtin "isinstance") (rIsiU X.K) := by
  intro pins s σ H xs us Q I r h
  match xs, h with
  | [x, .ty n], ⟨a, t, h1, h2, h3⟩ =>
    obtain ⟨e, hn⟩ := tyOf_ok h2
    exact call_isi pins s σ H _ us Q I r ⟨x, _, _, _, _, rfl, .ty n, h1, kit_ty (by rw [e]; exact isT_ok a t hn), h3⟩
theorem ty_str {K : PySem.W.Frag} {H : Hp} {x : Str} : TyIs K H (.str x) .str := .base (.str x)
theorem ty_int {K : PySem.W.Frag} {H : Hp} {x : Int} : TyIs K H (.int x) .int := .base (.int x)
theorem ty_non {K : PySem.W.Frag} {H : Hp} : TyIs K H .non .non := .base .non
theorem ty_lst {K : PySem.W.Frag} {H : Hp} {a : Addr} {xs : List V} (h : H a = some (.lst xs)) : TyIs K H (.ref a) .lst := .base (.lst h)
theorem ty_tup {K : PySem.W.Frag} {H : Hp} {a : Addr} {xs : List V} (h : H a = some (.tup xs)) : TyIs K H (.ref a) .tup := .base (.tup h)
theorem ty_dK {K : PySem.W.Frag} {H : Hp} {a : Addr} {kvs : List (Key × V)} (h : H a = some (.dK kvs)) : TyIs K H (.ref a) .dct := .base (.dK h)
theorem ty_seqT {K : PySem.W.Frag} {H : Hp} {a : Addr} {xs : List V} (h : SqT K H a xs) : TyIs K H (.ref a) .tup := by
  rcases h with (h | ⟨o, h⟩) | ⟨o, its, n, h1, h2, _⟩
  · exact ty_tup h
  · exact .fTuple h
  · exact .kTuple h1 h2
end
end U
namespace U
open PySem PySem.Spec PyProof.Rows L2
/-! the rules with the fragment told: they serve within a comprehension's block -/
section
variable {X : Cx} (K : PySem.W.Frag) (hK : X.K = K)
include hK
theorem kAdd : OpR X (binaryOp .Add) (rAddU K) := hK ▸ uAdd
theorem kEq (hu : X.A.units + 64 < cLine) : OpR X (compareOp .Eq) (rEqU K) := hK ▸ uEq' hu
theorem kNe (hu : X.A.units + 64 < cLine) : OpR X (compareOp .NotEq) (rNeU K) := hK ▸ uNe' hu
theorem kIn : OpR X (compareOp .In) (rInU K) := hK ▸ uIn
theorem kNotIn : OpR X (compareOp .NotIn) (rNotInU K) := hK ▸ uNotIn
theorem kIx : IxR X (rIxU K) := hK ▸ uIx
theorem kSl : SlR X (rSlU K) := hK ▸ uSl
theorem kLen : CallR X (.builtin "len") (rLenU K) := hK ▸ cLen
theorem kList (hc : X.calm = true) : CallR X (.type "list") (rListU K) := hK ▸ cList hc
theorem kTuple : CallR X (.type "tuple") (rTupleU K) := hK ▸ cTuple
theorem kAll (hc : X.calm = true) : CallR X (.builtin "all") (rAllU K) := hK ▸ cAll hc
theorem kSorted (hu : X.A.units + 64 < cLine) : CallR X (.builtin "sorted") (rSortU K) := hK ▸ cSorted hu
theorem kIsi : CallR X (.builtin "isinstance") (rIsiU K) := hK ▸ cIsi
theorem ki_list {tg l : Expr} {tl : TE} (hl : PE X l tl) : PI X tg l (iList K tl) := hK ▸ pi_list hl
theorem ki_tup {tg l : Expr} {tl : TE} (hl : PE X l tl) : PI X tg l (iTup K tl) := hK ▸ pi_tup hl
theorem kg_tup {pos : Pos} {es : List Expr} {k : Nat} {t : TGs} {n : Nat} (hc : X.calm = true) (h : PGs X es t)
    (hn : (assignEach es X.env).length = n := by rfl) (hst : (assignEach es X.env).findIdx? (·.1) = none := by rfl) : PG X (.Tuple es k pos) (gTup K n t) := hK ▸ pg_tup hc h hn hst
end
end U

/-! the readings, step by step: one lemma a form, one word for all that need no thought -/
namespace U
open PySem PySem.Spec PyProof.Rows L2
section
variable {σ : L2.St} {H : Hp} {Q : VK} {D : Ends} {v x y : V} {i j : Int} {a b : Str} {ta tb tc te : TE} {t u : TS} {K : PySem.W.Frag}
theorem rd_seq (h : t { D with nx := u D } σ H) : tSeq t u D σ H := h
theorem rd_var {n : Nat} (e : σ[n]? = some (some v)) (h : Q v H) : tVar n σ H Q := ⟨v, e, h⟩
theorem rd_c (h : Q v H) : tC v σ H Q := h
theorem rd_asg {g : TG} (h : te σ H fun x H1 => g x σ H1 D.nx) : tAsg te g D σ H := h
theorem rd_name {n : Nat} {Q : L2.St → Hp → Prop} (h : Q (σ.set n (some v)) H) : gName n v σ H Q := h
theorem rd_ret (h : te σ H D.rt) : tRet te D σ H := h
theorem rd_retN (h : D.rt .non H) : tRetN D σ H := h
theorem rd_drop (h : te σ H fun _ H1 => D.nx σ H1) : tDrop te D σ H := h
theorem rd_next (h : D.nx σ H) : tNext D σ H := h
theorem rd_if {c : TT} (h : c σ H fun b H1 => if b = true then t D σ H1 else u D σ H1) : tIfS c t u D σ H := h
theorem rd_break (h : D.bk σ H) : tBreak D σ H := h
theorem rd_cont (h : D.ct σ H) : tCont D σ H := h
theorem rd_op {r : R2} (h : ta σ H fun x H1 => tb σ H1 fun y H2 => r x y H2 Q) : tOp r ta tb σ H Q := h
theorem rd_test {Q : Bool → Hp → Prop} (h : te σ H fun x H1 => ∃ k, x = .bl k ∧ Q k H1) : tTest te σ H Q := h
theorem rd_B {Q : Bool → Hp → Prop} (h : te σ H fun x H1 => ∃ k, x = .bl k ∧ Q k H1) : tB te σ H Q := h
theorem rd_bl {Q : Bool → Prop} {k : Bool} (h : Q k) : ∃ c, V.bl k = .bl c ∧ Q c := ⟨k, rfl, h⟩
theorem rd_chain {r r' : R2} (h : ta σ H fun x H1 => tb σ H1 fun y H2 => r x y H2 fun z H3 => ∃ k, z = .bl k ∧ (if k = true then tc σ H3 fun w' H4 => r' y w' H4 Q else Q (.bl false) H3)) : tChain r r' ta tb tc σ H Q := h
theorem rd_nil {Q : List V → Hp → Prop} (h : Q [] H) : tNil σ H Q := h
theorem rd_cons {tr : TA} {Q : List V → Hp → Prop} (h : ta σ H fun x H1 => tr σ H1 fun xs H2 => Q (x :: xs) H2) : tCons ta tr σ H Q := h
theorem rd_cb {r : List V → Hp → VK → Prop} {tr : TA} (h : tr σ H fun vs H1 => r vs H1 Q) : tCB r tr σ H Q := h
theorem rd_c1 {sp : Sp} {E : XK} {tr : TA} (h : tr σ H fun vs H1 => sp vs H1 Q E) : tC1 sp E tr σ H Q := h
theorem rd_c2 {sp : Sp} {W : WX} {tr : TA} (h : tr σ H fun vs H1 => sp vs H1 Q fun cls d H' => W cls d σ H') : tC2 sp W tr σ H Q := h
theorem rd_lst {tr : TA} (h : tr σ H fun xs H1 => xs.length ≤ sizeLine ∧ nL xs H1 Q) : tLst tr σ H Q := h
theorem rd_tup {tr : TA} (h : tr σ H fun xs H1 => xs.length ≤ sizeLine ∧ nT xs H1 Q) : tTup tr σ H Q := h
theorem rd_sz {xs : List V} {P : Prop} (h : Nat.ble xs.length 1000 = true) (q : P) : xs.length ≤ sizeLine ∧ P :=
  ⟨Nat.le_trans (Nat.le_of_ble_eq_true h) (by decide), q⟩
theorem rd_addI (h : Q (.int (i + j)) H) : rAddU K (.int i) (.int j) H Q := h
theorem rd_subI (h : Q (.int (i - j)) H) : rSubU (.int i) (.int j) H Q := h
theorem rd_mulI (c : CMul i j ∨ CMulW i j) (h : Q (.int (i * j)) H) : rMulU (.int i) (.int j) H Q := ⟨c, h⟩
theorem rd_modI (c : 0 < j) (h : Q (.int (i % j)) H) : rModU (.int i) (.int j) H Q := ⟨c, h⟩
theorem rd_divI (c : 0 < j ∧ j < 1073741824) (h : Q (.int (i / j)) H) : rDivU (.int i) (.int j) H Q := ⟨c, h⟩
theorem rd_addS (c : a.length + b.length ≤ sizeLine) (h : Q (.str (a ++ b)) H) : rAddU K (.str a) (.str b) H Q := ⟨c, h⟩
theorem rd_ltI (h : Q (.bl (decide (i < j))) H) : rLtU (.int i) (.int j) H Q := h
theorem rd_ltS (h : Q (.bl (decide (a.cps.toList < b.cps.toList))) H) : rLtU (.str a) (.str b) H Q := h
theorem rd_leI (h : Q (.bl (decide (i ≤ j))) H) : rLeU (.int i) (.int j) H Q := h
theorem rd_gtI (h : Q (.bl (decide (j < i))) H) : rGtU (.int i) (.int j) H Q := h
theorem rd_geI (h : Q (.bl (decide (j ≤ i))) H) : rGeU (.int i) (.int j) H Q := h
theorem rd_eqI (h : Q (.bl (decide (i = j))) H) : rEqU K (.int i) (.int j) H Q := h
theorem rd_eqS (h : Q (.bl (decide (a = b))) H) : rEqU K (.str a) (.str b) H Q := h
theorem rd_neI (h : Q (.bl (!decide (i = j))) H) : rNeU K (.int i) (.int j) H Q := h
theorem rd_neS (h : Q (.bl (!decide (a = b))) H) : rNeU K (.str a) (.str b) H Q := h
theorem rd_is (h : Q (.bl (decide (x = .non))) H) : rIsU x .non H Q := h
theorem rd_isNot (h : Q (.bl (!decide (x = .non))) H) : rIsNotU x .non H Q := h
theorem rd_absI (h : Q (.int (i.natAbs : Int)) H) : rAbsU [.int i] H Q := h
theorem rd_maxI (h : Q (.int (max i j)) H) : rMaxU [.int i, .int j] H Q := h
theorem rd_minI (h : Q (.int (min i j)) H) : rMinU [.int i, .int j] H Q := h
theorem rd_intI (h : Q (.int i) H) : rIntU [.int i] H Q := h
theorem rd_intB {k : Bool} (h : Q (.int (bToI k)) H) : rIntU [.bl k] H Q := h
theorem rd_neg {g : Int → Int} (h : Q (.int (g i)) H) : rU (fun i => .int (g i)) (.int i) H Q := ⟨i, rfl, h⟩
theorem rd_sub {to ti : TE} {t : TSet} {Q : L2.St → Hp → Prop} (h : to σ H fun o H1 => ti σ H1 fun i H2 => t o i v H2 fun H3 => Q σ H3) : gSub to ti t v σ H Q := h
theorem rd_and {t u : TT} {Q : Bool → Hp → Prop} (h : t σ H fun c H1 => if c = true then u σ H1 Q else Q false H1) : tAnd t u σ H Q := h
theorem rd_or {t u : TT} {Q : Bool → Hp → Prop} (h : t σ H fun c H1 => if c = true then Q true H1 else u σ H1 Q) : tOr t u σ H Q := h
theorem rd_not {t : TT} {Q : Bool → Hp → Prop} (h : t σ H fun c H1 => Q (!c) H1) : tNot t σ H Q := h
theorem rd_andV (h : ta σ H fun x H1 => ∃ c, x = .bl c ∧ if c = true then tb σ H1 Q else Q (.bl false) H1) : tAndV ta tb σ H Q := h
theorem rd_orV (h : ta σ H fun x H1 => ∃ c, x = .bl c ∧ if c = true then Q (.bl true) H1 else tb σ H1 Q) : tOrV ta tb σ H Q := h
theorem rd_notV (h : ta σ H fun x H1 => ∃ c, x = .bl c ∧ Q (.bl (!c)) H1) : tNotV ta σ H Q := h
theorem rd_ifE {t : TT} (h : t σ H fun c H1 => if c = true then ta σ H1 Q else tb σ H1 Q) : tIf t ta tb σ H Q := h
theorem rd_T {A B : Prop} (h : A) : if true = true then A else B := by
  rw [if_pos rfl]
  exact h
theorem rd_F {A B : Prop} (h : B) : if false = true then A else B := by
  rw [if_neg Bool.false_ne_true]
  exact h
/-- a test that is known -/
theorem rd_yes {c : Prop} {_ : Decidable c} {A B : Prop} (hc : c) (h : A) : if decide c = true then A else B := by
  rw [if_pos (decide_eq_true hc)]
  exact h
theorem rd_no {c : Prop} {_ : Decidable c} {A B : Prop} (hc : ¬ c) (h : B) : if decide c = true then A else B := by
  rw [if_neg (by rw [decide_eq_false hc]; exact Bool.false_ne_true)]
  exact h
theorem rd_nyes {c : Prop} {_ : Decidable c} {A B : Prop} (hc : ¬ c) (h : A) : if (!decide c) = true then A else B := by
  rw [if_pos (by rw [decide_eq_false hc]; rfl)]
  exact h
theorem rd_nno {c : Prop} {_ : Decidable c} {A B : Prop} (hc : c) (h : B) : if (!decide c) = true then A else B := by
  rw [if_neg (by rw [decide_eq_true hc]; exact Bool.false_ne_true)]
  exact h
theorem rd_split {c : Prop} {_ : Decidable c} {A B : Prop} (h1 : c → A) (h2 : ¬ c → B) : if decide c = true then A else B := by
  by_cases h : c
  · exact rd_yes h (h1 h)
  · exact rd_no h (h2 h)
theorem rd_nsplit {c : Prop} {_ : Decidable c} {A B : Prop} (h1 : ¬ c → A) (h2 : c → B) : if (!decide c) = true then A else B := by
  by_cases h : c
  · exact rd_nno h (h2 h)
  · exact rd_nyes h (h1 h)
theorem rd_b {c : Bool} {A B : Prop} (h1 : c = true → A) (h2 : c = false → B) : if c = true then A else B := by
  cases c with
  | true => exact rd_T (h1 rfl)
  | false => exact rd_F (h2 rfl)
/-- an item of a list, a tuple -/
theorem rd_ixL {p : Addr} {xs : List V} (hs : SqL K H p xs) (hv : atI xs i = some v) (h : Q v H) : rIxU K (.ref p) (.int i) H Q := ⟨xs, .inl hs, v, hv, h⟩
theorem rd_ixT {p : Addr} {xs : List V} (hs : SqT K H p xs) (hv : atI xs i = some v) (h : Q v H) : rIxU K (.ref p) (.int i) H Q := ⟨xs, .inr hs, v, hv, h⟩
theorem rd_ixS {c : Nat} (hz : a.length ≤ 100000) (hv : atI a.cps.toList i = some c) (h : Q (.str ⟨#[c]⟩) H) : rIxU K (.str a) (.int i) H Q := ⟨Nat.le_trans hz (by decide), c, hv, h⟩
theorem rd_lenL {p : Addr} {xs : List V} (hs : SqL K H p xs) (h : Q (.int xs.length) H) : rLenU K [.ref p] H Q := .inl ⟨xs, .inl hs, h⟩
theorem rd_lenT {p : Addr} {xs : List V} (hs : SqT K H p xs) (h : Q (.int xs.length) H) : rLenU K [.ref p] H Q := .inl ⟨xs, .inr hs, h⟩
theorem rd_lenD {p : Addr} {kvs : List (Key × V)} (hs : H p = some (.dK kvs)) (h : Q (.int kvs.length) H) : rLenU K [.ref p] H Q := .inr ⟨kvs, hs, h⟩
theorem rd_setL {p : Addr} {xs : List V} {n : Nat} {Q : Hp → Prop} (hs : H p = some (.lst xs)) (hi : ixN xs.length i = some n) (h : Q (upd H p (.lst (xs.set n v)))) : rSetL (.ref p) (.int i) v H Q := ⟨p, xs, i, n, rfl, rfl, hs, hi, h⟩
theorem rd_listT {p : Addr} {xs : List V} (hs : SqT K H p xs) (h : nL xs H Q) : rListU K [.ref p] H Q := .inl ⟨xs, .inr hs, h⟩
theorem rd_tupleL {p : Addr} {xs : List V} (hs : SqL K H p xs) (h : nT xs H Q) : rTupleU K [.ref p] H Q := .inl ⟨xs, hs, h⟩
theorem rd_slL {lo hi : Option Int} {p : Addr} {xs : List V} (hs : SqL K H p xs) (h : nL (cutV xs lo hi) H Q) : rSlU K (.ref p) lo hi H Q := .inl ⟨xs, hs, h⟩
theorem rd_sl {tl th : TO} {r : V → Option Int → Option Int → Hp → VK → Prop} (h : te σ H fun x H1 => tl σ H1 fun lo H2 => th σ H2 fun hi H3 => r x lo hi H3 Q) : tSl r te tl th σ H Q := h
theorem rd_noPart {Q : Option Int → Hp → Prop} (h : Q none H) : tNoPart σ H Q := h
theorem rd_part {Q : Option Int → Hp → Prop} (h : te σ H fun x H1 => ∃ i, x = .int i ∧ Q (some i) H1) : tPart te σ H Q := h
theorem rd_exI {Q : Int → Prop} (h : Q i) : ∃ k, V.int i = .int k ∧ Q k := ⟨i, rfl, h⟩
theorem rd_bm {T : String} {r : V → List V → Hp → VK → Prop} {tr : TA} (h : te σ H fun x H1 => tyV K T x H1 ∧ tr σ H1 fun xs H2 => r x xs H2 Q) : tBM K T r te tr σ H Q := h
theorem rd_bm0 {T : String} {r : V → List V → Hp → VK → Prop} (h : te σ H fun x H1 => tyV K T x H1 ∧ r x [] H1 Q) : tBM0 K T r te σ H Q := h
theorem rd_tyL {p : Addr} {xs : List V} {P : Prop} (hs : H p = some (.lst xs)) (h : P) : tyV K "list" (.ref p) H ∧ P := ⟨.inl ⟨rfl, xs, .inl (.inl hs)⟩, h⟩
theorem rd_append {p : Addr} {xs : List V} (hs : H p = some (.lst xs)) (hz : xs.length < 100000) (h : Q .non (upd H p (.lst (xs ++ [v])))) : rAppend (.ref p) [v] H Q :=
  ⟨p, xs, v, rfl, rfl, hs, Nat.lt_of_lt_of_le hz (by decide), h⟩
theorem mul_bI {i : Int} {b : Bool} : CMul i (bToI b) ∨ CMulW i (bToI b) := .inl (.inr (by cases b <;> decide))
theorem rd_powI (c : CPow i j) (h : Q (.int (i ^ j.toNat)) H) : rPowU (.int i) (.int j) H Q := ⟨c, h⟩
/-! heaps -/
theorem new_ne {p q : Addr} {o : HO} (h : upd H p o q = none) : q ≠ p := fun e => by
  rw [e, upd_same] at h
  cases h
theorem new_old {p q : Addr} {o : HO} (h : upd H p o q = none) : H q = none := by
  rw [upd_ne (new_ne h)] at h
  exact h
theorem at_upd {p q : Addr} {o u : HO} (n : q ≠ p) (h : H q = some u) : upd H p o q = some u := (upd_ne n).trans h
theorem no_upd {p q : Addr} {o : HO} (n : q ≠ p) (h : H q = none) : upd H p o q = none := (upd_ne n).trans h
/-- all that is tracked stays, but the object at p -/
def But (p : Addr) (H H' : Hp) : Prop := ∀ b o, b ≠ p → H b = some o → H' b = some o
theorem But.refl {p : Addr} : But p H H := fun _ _ _ h => h
theorem But.trans {p : Addr} {H1 H2 : Hp} (a : But p H H1) (b : But p H1 H2) : But p H H2 := fun c o n h => b c o n (a c o n h)
theorem But.of_same {p : Addr} {H1 : Hp} (a : Same H H1) : But p H H1 := fun c o _ h => a c o h
theorem But.upd {p : Addr} {o : HO} : But p H (upd H p o) := fun _ _ n h => at_upd n h
theorem But.new {p q : Addr} {o : HO} (h : H q = none) : But p H (L2.upd H q o) := fun _ _ _ e => at_upd (ne_of_none e h) e
theorem Same.new {q : Addr} {o : HO} (h : H q = none) : Same H (L2.upd H q o) := fun _ _ e => at_upd (ne_of_none e h) e
theorem But.free {p q : Addr} {H1 : Hp} (a : But p H H1) (n : q ≠ p) (h : H1 q = none) : H q = none := by
  cases e : H q with
  | none => rfl
  | some o =>
    rw [a q o n e] at h
    cases h
theorem new_of_same {q : Addr} {H1 : Hp} (a : Same H H1) (h : H1 q = none) : H q = none := a.free h
theorem Same.seqT {H' : Hp} {a : Addr} {xs : List V} (e : Same H H') (h : SqT K H a xs) : SqT K H' a xs := by
  rcases h with (h | ⟨o, h⟩) | h
  · exact .inl (.inl (e _ _ h))
  · exact .inl (.inr ⟨o, e _ _ h⟩)
  · exact .inr h
theorem But.seqT {p : Addr} {H' : Hp} {a : Addr} {xs : List V} (e : But p H H') (n : ∃ ys, H p = some (.lst ys)) (h : SqT K H a xs) : SqT K H' a xs := by
  obtain ⟨ys, hy⟩ := n
  rcases h with (h | ⟨o, h⟩) | h
  · exact .inl (.inl (e _ _ (ne_of h hy (by intro z; cases z)) h))
  · exact .inl (.inr ⟨o, e _ _ (ne_of h hy (by intro z; cases z)) h⟩)
  · exact .inr h
theorem rd_un {r : V → Hp → VK → Prop} (h : ta σ H fun x H1 => r x H1 Q) : tUn r ta σ H Q := h
end
local macro_rules | `(tactic| wtm_at "rd1") => `(tactic| first
  | with_reducible refine rd_seq ?_
  | ((with_reducible refine rd_var (v := ?vv) ?hv ?_); (case hv => exact rfl))
  | with_reducible refine rd_c ?_
  | with_reducible refine rd_cons ?_
  | with_reducible refine rd_nil ?_
  | with_reducible refine rd_op ?_
  | with_reducible refine rd_asg ?_
  | with_reducible refine rd_name ?_
  | with_reducible refine rd_c1 ?_
  | with_reducible refine rd_cb ?_
  | with_reducible refine rd_test ?_
  | with_reducible refine rd_B ?_
  | with_reducible refine rd_bl ?_
  | with_reducible refine rd_if ?_
  | with_reducible refine rd_ret ?_
  | with_reducible refine rd_drop ?_
  | with_reducible refine rd_next ?_
  | with_reducible refine rd_addI ?_
  | with_reducible refine rd_ltI ?_
  | with_reducible refine rd_eqI ?_
  | with_reducible refine rd_neI ?_
  | with_reducible refine rd_eqS ?_
  | with_reducible refine rd_neS ?_
  | with_reducible refine rd_gtI ?_
  | with_reducible refine rd_geI ?_
  | with_reducible refine rd_leI ?_
  | with_reducible refine rd_ltS ?_
  | with_reducible refine rd_subI ?_
  | ((with_reducible refine rd_modI ?hc ?_); (case hc => first | decide | omega))
  | ((with_reducible refine rd_mulI ?hc ?_); (case hc => first | exact mul_bI | exact .inl (.inr (by decide)) | exact .inl (.inl (by decide)) | exact .inl (.inr (by omega)) | exact .inl (.inl (by omega))))
  | ((with_reducible refine rd_divI ?hc ?_); (case hc => first | decide | omega))
  | ((with_reducible refine rd_powI ?hc ?_); (case hc => exact ⟨by decide, by decide, by decide⟩))
  | with_reducible refine rd_lst ?_
  | with_reducible refine rd_tup ?_
  | ((with_reducible refine rd_sz ?hv ?_); (case hv => exact rfl))
  | with_reducible refine rd_and ?_
  | with_reducible refine rd_or ?_
  | with_reducible refine rd_not ?_
  | with_reducible refine rd_andV ?_
  | with_reducible refine rd_orV ?_
  | with_reducible refine rd_notV ?_
  | with_reducible refine rd_ifE ?_
  | with_reducible refine rd_T ?_
  | with_reducible refine rd_F ?_
  | with_reducible refine rd_chain ?_
  | with_reducible refine rd_is ?_
  | with_reducible refine rd_isNot ?_
  | with_reducible refine rd_absI ?_
  | with_reducible refine rd_maxI ?_
  | with_reducible refine rd_minI ?_
  | with_reducible refine rd_intI ?_
  | with_reducible refine rd_intB ?_
  | with_reducible refine rd_sub ?_
  | with_reducible refine rd_sl ?_
  | with_reducible refine rd_noPart ?_
  | with_reducible refine rd_part ?_
  | with_reducible refine rd_exI ?_
  | with_reducible refine rd_bm ?_
  | with_reducible refine rd_bm0 ?_
  | with_reducible refine rd_un ?_
  | with_reducible refine rd_neg ?_
  | with_reducible refine rd_c2 ?_
  | with_reducible refine rd_retN ?_
  | with_reducible refine rd_break ?_
  | with_reducible refine rd_cont ?_)
local macro_rules | `(tactic| wtm_at "rd") => `(tactic| repeat wtm_at "rd1")
end U

/-! texts in order, names -/
namespace U
open PySem PySem.Spec PyProof.Rows L2
/-- the order of texts -/
def sLt (a b : Str) : Prop := a.cps.toList < b.cps.toList
instance (a b : Str) : Decidable (sLt a b) := inferInstanceAs (Decidable (a.cps.toList < b.cps.toList))
theorem str_ext {a b : Str} (h : a.cps.toList = b.cps.toList) : a = b := by
  obtain ⟨x⟩ := a
  obtain ⟨y⟩ := b
  have e : x = y := Array.toList_inj.mp h
  rw [e]
theorem sLt_irrefl (a : Str) : ¬ sLt a a := List.lt_irrefl _
theorem sLt_trans {a b c : Str} (h : sLt a b) (h' : sLt b c) : sLt a c := List.lt_trans h h'
theorem sLt_asymm {a b : Str} (h : sLt a b) : ¬ sLt b a := fun h' => sLt_irrefl a (sLt_trans h h')
theorem sLt_total {a b : Str} (h : ¬ sLt b a) (n : a ≠ b) : sLt a b := by
  have h1 : a.cps.toList ≤ b.cps.toList := List.not_lt.mp h
  rcases List.le_iff_lt_or_eq.mp h1 with z | z
  · exact z
  · exact absurd (str_ext z) n
theorem sLt_tri (a b : Str) : sLt a b ∨ a = b ∨ sLt b a := by
  by_cases h : sLt b a
  · exact .inr (.inr h)
  · by_cases e : a = b
    · exact .inr (.inl e)
    · exact .inl (sLt_total h e)
/-- strictly upwards -/
abbrev Asc (xs : List Str) : Prop := xs.Pairwise sLt
theorem asc_nodup {xs : List Str} (h : Asc xs) : xs.Nodup := by
  refine List.Pairwise.imp ?_ h
  intro a b z e
  subst e
  exact sLt_irrefl _ z
theorem asc_of_sorted {xs : List Str} (h : xs.Pairwise fun a b => ¬ sLt b a) (n : xs.Nodup) : Asc xs := by
  have z : xs.Pairwise fun a b => ¬ sLt b a ∧ a ≠ b := List.Pairwise.and h n
  exact z.imp fun {a b} q => sLt_total q.1 q.2
/-- an edge's order -/
def eLt (a b : Str × Str) : Prop := sLt a.1 b.1 ∨ (a.1 = b.1 ∧ sLt a.2 b.2)
instance (a b : Str × Str) : Decidable (eLt a b) := inferInstanceAs (Decidable (_ ∨ _))
theorem eLt_irrefl (a : Str × Str) : ¬ eLt a a := fun h => h.elim (sLt_irrefl _) fun z => sLt_irrefl _ z.2
theorem eLt_trans {a b c : Str × Str} (h : eLt a b) (h' : eLt b c) : eLt a c := by
  rcases h with h | ⟨e, h⟩
  · rcases h' with h' | ⟨e', h'⟩
    · exact .inl (sLt_trans h h')
    · exact .inl (e' ▸ h)
  · rcases h' with h' | ⟨e', h'⟩
    · exact .inl (e ▸ h')
    · exact .inr ⟨e.trans e', sLt_trans h h'⟩
theorem eLt_asymm {a b : Str × Str} (h : eLt a b) : ¬ eLt b a := fun h' => eLt_irrefl a (eLt_trans h h')
theorem eLt_total {a b : Str × Str} (h : ¬ eLt b a) (n : a ≠ b) : eLt a b := by
  rcases sLt_tri a.1 b.1 with z | z | z
  · exact .inl z
  · rcases sLt_tri a.2 b.2 with y | y | y
    · exact .inr ⟨z, y⟩
    · exact absurd (Prod.ext z y) n
    · exact absurd (.inr ⟨z.symm, y⟩) h
  · exact absurd (.inl z) h
abbrev AscE (xs : List (Str × Str)) : Prop := xs.Pairwise eLt
theorem ascE_nodup {xs : List (Str × Str)} (h : AscE xs) : xs.Nodup := by
  refine List.Pairwise.imp ?_ h
  intro a b z e
  subst e
  exact eLt_irrefl _ z
theorem ascE_of_sorted {xs : List (Str × Str)} (h : xs.Pairwise fun a b => ¬ eLt b a) (n : xs.Nodup) : AscE xs := by
  have z : xs.Pairwise fun a b => ¬ eLt b a ∧ a ≠ b := List.Pairwise.and h n
  exact z.imp fun {a b} q => eLt_total q.1 q.2

section
variable {K : PySem.W.Frag} {H : Hp} {Q : VK} {p : Addr}
theorem perm_of_map {α β : Type} {f : α → β} : ∀ {l : List β} {xs : List α}, l.Perm (xs.map f) → ∃ ys : List α, ys.Perm xs ∧ l = ys.map f := by
  intro l xs h
  generalize hm : xs.map f = m at h
  induction h generalizing xs with
  | nil =>
    cases xs with
    | nil => exact ⟨[], .nil, rfl⟩
    | cons _ _ => cases hm
  | cons x hp ih =>
    cases xs with
    | nil => cases hm
    | cons a as =>
      injection hm with h1 h2
      obtain ⟨ys, py, e⟩ := ih h2
      exact ⟨a :: ys, py.cons a, by rw [e, List.map_cons, h1]⟩
  | swap x y l =>
    cases xs with
    | nil => cases hm
    | cons a as =>
      cases as with
      | nil => cases hm
      | cons b bs =>
        injection hm with h1 h2
        injection h2 with h2 h3
        exact ⟨b :: a :: bs, .swap a b bs, by rw [List.map_cons, List.map_cons, h1, h2, h3]⟩
  | trans _ _ ih1 ih2 =>
    obtain ⟨ys, py, e⟩ := ih2 hm
    obtain ⟨zs, pz, e'⟩ := ih1 e.symm
    exact ⟨zs, pz.trans py, e'⟩
/-- sorted(a list of texts) -/
theorem rd_sortS {xs : List Str} (hs : SqL K H p (xs.map V.str)) (hl : xs.length ≤ 100000) (k : ∀ ys : List Str, ys.Perm xs → ys.Pairwise (fun a b => ¬ sLt b a) → nL (ys.map V.str) H Q) : rSortU K [.ref p] H Q := by
  refine ⟨xs.map fun x => (V.str x, PyData.str x), ?_, ⟨?_, ?_, ?_, ?_, ?_⟩, ?_⟩
  · rw [List.map_map]
    exact hs
  · intro b hb
    obtain ⟨x, _, rfl⟩ := List.mem_map.mp hb
    exact .str x
  · rw [List.map_map]
    exact PySem.W.AllAlike.of (enc := PyData.str) fun a b => by simp [PySem.W.alike]
  · rw [List.map_map]
    exact PySem.W.Sortable.others (enc := PyData.str) fun b => ⟨by simp, by simp⟩
  · intro b hb
    obtain ⟨x, _, rfl⟩ := List.mem_map.mp hb
    simp [PyData.depth]
  · rw [List.length_map]
    omega
  · intro cs pc sc
    obtain ⟨ys, py, rfl⟩ := perm_of_map pc
    rw [List.map_map]
    refine k ys py ?_
    rw [List.pairwise_map] at sc
    refine sc.imp fun {a b} z h => ?_
    have z' : PySem.W.dataLt (PyData.str b) (PyData.str a) = false := z
    rw [PySem.W.dataLt_str] at z'
    exact of_decide_eq_false z' h
/-- sorted(a list of pairs of texts): e is the pair's place, then the two -/
theorem rd_sortE {xs : List (Addr × Str × Str)} (hs : SqL K H p (xs.map fun e => V.ref e.1)) (ht : ∀ e ∈ xs, SqT K H e.1 [.str e.2.1, .str e.2.2]) (hl : xs.length ≤ 100000)
    (k : ∀ ys : List (Addr × Str × Str), ys.Perm xs → ys.Pairwise (fun a b => ¬ eLt b.2 a.2) → nL (ys.map fun e => V.ref e.1) H Q) : rSortU K [.ref p] H Q := by
  refine ⟨xs.map fun e => (V.ref e.1, PyData.tuple [.str e.2.1, .str e.2.2]), ?_, ⟨?_, ?_, ?_, ?_, ?_⟩, ?_⟩
  · rw [List.map_map]
    exact hs
  · intro b hb
    obtain ⟨x, hx, rfl⟩ := List.mem_map.mp hb
    exact .tup (ht x hx) (.cons (.str _) (.cons (.str _) .nil))
  · rw [List.map_map]
    exact PySem.W.AllAlike.of (enc := fun e : Addr × Str × Str => PyData.tuple [.str e.2.1, .str e.2.2]) fun a b => by simp [PySem.W.alike, PySem.W.alikeAll]
  · rw [List.map_map]
    exact PySem.W.Sortable.tuples (enc := fun e : Addr × Str × Str => PyData.tuple [.str e.2.1, .str e.2.2]) fun b => ⟨_, _, rfl⟩
  · intro b hb
    obtain ⟨x, _, rfl⟩ := List.mem_map.mp hb
    simp [PyData.depth, PyData.depthAll]
  · rw [List.length_map]
    omega
  · intro cs pc sc
    obtain ⟨ys, py, rfl⟩ := perm_of_map pc
    rw [List.map_map]
    refine k ys py ?_
    rw [List.pairwise_map] at sc
    refine sc.imp fun {a b} z h => ?_
    have z' : PySem.W.dataLt (PyData.tuple [.str b.2.1, .str b.2.2]) (PyData.tuple [.str a.2.1, .str a.2.2]) = false := z
    rw [PySem.W.dataLt_pair (by simp [PySem.W.alike]) (by simp [PySem.W.alike]), PySem.W.dataLt_str, PySem.W.dataLt_str] at z'
    simp only [PyData.eqv, beq_iff_eq] at z'
    rcases h with h | ⟨e, h⟩
    · have n : ¬ b.2.1 = a.2.1 := fun e => sLt_irrefl _ (by rw [e] at h; exact h)
      rw [if_neg n] at z'
      exact of_decide_eq_false z' h
    · rw [if_pos e] at z'
      have n : ¬ b.2.2 = a.2.2 := fun e => sLt_irrefl _ (by rw [e] at h; exact h)
      rw [if_neg n] at z'
      exact of_decide_eq_false z' h
end
end U

/-! names as the laws draw them -/
namespace U
open PySem PySem.Spec PyProof.Rows L2
/-- 1 to 8 small letters -/
structure IsName (z : Str) : Prop where
  lo : 1 ≤ z.length
  hi : z.length ≤ 8
  ch : ∀ c ∈ z.cps.toList, 97 ≤ c ∧ c ≤ 122
theorem letters_at {i : Int} (h0 : 0 ≤ i) (h1 : i < 26) : atI (Str.ofString "abcdefghijklmnopqrstuvwxyz").cps.toList i = some (97 + i.toNat) := by
  obtain ⟨n, rfl⟩ : ∃ n : Nat, i = (n : Int) := ⟨i.toNat, by omega⟩
  have all : ∀ n : Fin 26, (Str.ofString "abcdefghijklmnopqrstuvwxyz").cps.toList[(n : Nat)]? = some (97 + (n : Nat)) := by decide +kernel
  have hn : n < 26 := by omega
  rw [Int.toNat_natCast]
  exact atI_nat (all ⟨n, hn⟩)
theorem letters_len : (Str.ofString "abcdefghijklmnopqrstuvwxyz").length ≤ 100000 := by decide +kernel
theorem pick4 {a b c d r : Int} (h0 : 0 ≤ r) (h1 : r < 4) : ∃ v, atI [V.int a, .int b, .int c, .int d] r = some (.int v) ∧ (v = a ∨ v = b ∨ v = c ∨ v = d) := by
  have : r = 0 ∨ r = 1 ∨ r = 2 ∨ r = 3 := by omega
  rcases this with rfl | rfl | rfl | rfl
  · exact ⟨a, rfl, .inl rfl⟩
  · exact ⟨b, rfl, .inr (.inl rfl)⟩
  · exact ⟨c, rfl, .inr (.inr (.inl rfl))⟩
  · exact ⟨d, rfl, .inr (.inr (.inr rfl))⟩
/-- names, strictly upwards -/
structure Names (ys : List Str) : Prop where
  asc : Asc ys
  ok : ∀ y ∈ ys, IsName y
/-- names, each once, in any order -/
structure NamesU (ys : List Str) : Prop where
  nd : ys.Nodup
  ok : ∀ y ∈ ys, IsName y
theorem Names.u {ys : List Str} (h : Names ys) : NamesU ys := ⟨asc_nodup h.asc, h.ok⟩
theorem NamesU.perm {xs ys : List Str} (h : NamesU xs) (p : ys.Perm xs) : NamesU ys := ⟨p.nodup_iff.mpr h.nd, fun y hy => h.ok y (p.mem_iff.mp hy)⟩
/-! slices of a text -/
end U

/-! loops, dictionaries, unpacking: their readings by steps -/
namespace U
open PySem PySem.Spec PyProof.Rows L2
/-- what a loop over J asks -/
def ForB (J : It) (g : TG) (tb : TS) (D : Ends) (σ : L2.St) (H : Hp) : Prop := ∃ W : Nat → Nat → L2.St → Hp → Prop, (∃ m, W 0 m σ H) ∧ ∀ i m σ H, W i m σ H →
  (J.stop i H ∧ D.nx σ H) ∨ (J.go i H ∧ ∃ N : L2.St → Hp → Prop, (∀ σ' H', N σ' H' → ∃ m', m' < m ∧ W (i + 1) m' σ' H') ∧ ∀ x H', J.yld i H x H' → g x σ H' fun σ2 H2 => tb { D with nx := N, ct := N, bk := D.nx } σ2 H2)
def LcB (J : It) (g : TG) (tt : TT) (te : TE) (vs : List Nat) (σ : L2.St) (H1 : Hp) (D : Addr) (Qd : Hp → Prop) : Prop := ∃ W : Nat → Nat → Hp → Prop, (∃ m, W 0 m (upd H1 D (.lst []))) ∧ ∀ i m H, W i m H →
  (J.stop i H ∧ Qd H) ∨ (J.go i H ∧ ∃ Nx : Hp → Prop, (∀ H', Nx H' → ∃ m', m' < m ∧ W (i + 1) m' H') ∧ ∀ x H', J.yld i H x H' → g x (wipe σ vs) H' fun σ2 H2 => wipe σ2 vs = wipe σ vs ∧ tt σ2 H2 fun b H3 =>
    if b = true then te σ2 H3 fun y H4 => ∃ acc, H4 D = some (.lst acc) ∧ acc.length < sizeLine ∧ Nx (upd H4 D (.lst (acc ++ [y]))) else Nx H3)
section
variable {σ : L2.St} {H : Hp} {Q : VK} {D : Ends} {v x y : V} {i j : Int} {ta tb tc te td ty tv : TE} {t u : TS} {K : PySem.W.Frag} {g : TG} {wi : TI} {R : It → Hp → Prop} {tr : TA}
theorem rd_for (h : wi σ H fun J H1 => ForB J g t D σ H1) : tFor wi g t D σ H := h
theorem rd_rng1 (h : tr σ H fun vs H1 => ∃ j : Int, vs = [.int j] ∧ -(2 ^ 62) ≤ j ∧ j < 2 ^ 62 ∧ R (Itr 0 j.toNat) H1) : iRng1 tr σ H R := h
theorem rd_rng2 (h : tr σ H fun vs H1 => ∃ i j : Int, vs = [.int i, .int j] ∧ (-(2 ^ 62) ≤ i ∧ i < 2 ^ 62 ∧ -(2 ^ 62) ≤ j ∧ j < 2 ^ 62) ∧ R (Itr i (j - i).toNat) H1) : iRng2 tr σ H R := h
theorem rd_iList (h : te σ H fun x H1 => ∃ a, x = .ref a ∧ (∃ xs, SqL K H1 a xs) ∧ R (Itl K a) H1) : iList K te σ H R := h
theorem rd_iTup (h : te σ H fun x H1 => ∃ a, x = .ref a ∧ (∃ xs, SqT K H1 a xs) ∧ R (Itt K a) H1) : iTup K te σ H R := h
theorem rd_iEnum (h : tr σ H fun vs H1 => ∃ a xs, vs = [.ref a] ∧ SqL K H1 a xs ∧ R (Ite K a) H1) : iEnum K tr σ H R := h
theorem rd_forL {p : Addr} {xs : List V} {R : Addr → Prop} (hs : SqL K H p xs) (h : R p) : ∃ a, V.ref p = .ref a ∧ (∃ xs, SqL K H a xs) ∧ R a := ⟨p, rfl, ⟨xs, hs⟩, h⟩
theorem rd_forT {p : Addr} {xs : List V} {R : Addr → Prop} (hs : SqT K H p xs) (h : R p) : ∃ a, V.ref p = .ref a ∧ (∃ xs, SqT K H a xs) ∧ R a := ⟨p, rfl, ⟨xs, hs⟩, h⟩
theorem rd_forR {R : Int → Prop} (h0 : -(2 ^ 62) ≤ j) (h1 : j < 2 ^ 62) (h : R j) : ∃ k : Int, [V.int j] = [.int k] ∧ -(2 ^ 62) ≤ k ∧ k < 2 ^ 62 ∧ R k := ⟨j, rfl, h0, h1, h⟩
theorem turnsR {lo : Int} {n : Nat} (Pv : Nat → L2.St → Hp → Prop) (h0 : Pv 0 σ H) (hs : ∀ i σ H, i < n → Pv i σ H → g (.int (lo + i)) σ H fun σ2 H2 => t { D with nx := Pv (i + 1), ct := Pv (i + 1), bk := D.nx } σ2 H2)
    (hd : ∀ σ H, Pv n σ H → D.nx σ H) : ForB (Itr lo n) g t D σ H := for_range Pv h0 hs hd
theorem turnsL {a : Addr} {xs : List V} (Pv : Nat → L2.St → Hp → Prop) (h0 : Pv 0 σ H) (hl : ∀ i σ H, i ≤ xs.length → Pv i σ H → SqL K H a xs)
    (hs : ∀ i x σ H, xs[i]? = some x → Pv i σ H → g x σ H fun σ2 H2 => t { D with nx := Pv (i + 1), ct := Pv (i + 1), bk := D.nx } σ2 H2) (hd : ∀ σ H, Pv xs.length σ H → D.nx σ H) : ForB (Itl K a) g t D σ H := for_list Pv h0 hl hs hd
theorem turnsT {a : Addr} {xs : List V} (Pv : Nat → L2.St → Hp → Prop) (h0 : Pv 0 σ H) (hl : ∀ i σ H, i ≤ xs.length → Pv i σ H → SqT K H a xs)
    (hs : ∀ i x σ H, xs[i]? = some x → Pv i σ H → g x σ H fun σ2 H2 => t { D with nx := Pv (i + 1), ct := Pv (i + 1), bk := D.nx } σ2 H2) (hd : ∀ σ H, Pv xs.length σ H → D.nx σ H) : ForB (Itt K a) g t D σ H := for_tup Pv h0 hl hs hd
theorem rd_lc {tt : TT} {vs : List Nat} (h : wi σ H fun J H1 => ∀ D, H1 D = none → LcB J g tt te vs σ H1 D fun H2 => Q (.ref D) H2) : tLc wi g tt te vs σ H Q := h
theorem lcT {a : Addr} {xs : List V} {tt : TT} {vs : List Nat} {D : Addr} {Qd : Hp → Prop} (Pv : Nat → Hp → Prop) (h0 : Pv 0 (upd H D (.lst []))) (hl : ∀ i H, i ≤ xs.length → Pv i H → SqT K H a xs)
    (hs : ∀ i x H, xs[i]? = some x → Pv i H → g x (wipe σ vs) H fun σ2 H2 => wipe σ2 vs = wipe σ vs ∧ tt σ2 H2 fun b H3 =>
      if b = true then te σ2 H3 fun y H4 => ∃ acc, H4 D = some (.lst acc) ∧ acc.length < sizeLine ∧ Pv (i + 1) (upd H4 D (.lst (acc ++ [y]))) else Pv (i + 1) H3) (hd : ∀ H, Pv xs.length H → Qd H) : LcB (Itt K a) g tt te vs σ H D Qd := lc_tup Pv h0 hl hs hd
theorem lcL {a : Addr} {xs : List V} {tt : TT} {vs : List Nat} {D : Addr} {Qd : Hp → Prop} (Pv : Nat → Hp → Prop) (h0 : Pv 0 (upd H D (.lst []))) (hl : ∀ i H, i ≤ xs.length → Pv i H → SqL K H a xs)
    (hs : ∀ i x H, xs[i]? = some x → Pv i H → g x (wipe σ vs) H fun σ2 H2 => wipe σ2 vs = wipe σ vs ∧ tt σ2 H2 fun b H3 =>
      if b = true then te σ2 H3 fun y H4 => ∃ acc, H4 D = some (.lst acc) ∧ acc.length < sizeLine ∧ Pv (i + 1) (upd H4 D (.lst (acc ++ [y]))) else Pv (i + 1) H3) (hd : ∀ H, Pv xs.length H → Qd H) : LcB (Itl K a) g tt te vs σ H D Qd := lc_list Pv h0 hl hs hd
theorem lcR {lo : Int} {n : Nat} {tt : TT} {vs : List Nat} {D : Addr} {Qd : Hp → Prop} (Pv : Nat → Hp → Prop) (h0 : Pv 0 (upd H D (.lst [])))
    (hs : ∀ i H, i < n → Pv i H → g (.int (lo + i)) (wipe σ vs) H fun σ2 H2 => wipe σ2 vs = wipe σ vs ∧ tt σ2 H2 fun b H3 =>
      if b = true then te σ2 H3 fun y H4 => ∃ acc, H4 D = some (.lst acc) ∧ acc.length < sizeLine ∧ Pv (i + 1) (upd H4 D (.lst (acc ++ [y]))) else Pv (i + 1) H3) (hd : ∀ H, Pv n H → Qd H) : LcB (Itr lo n) g tt te vs σ H D Qd := lc_range Pv h0 hs hd
/-- unpacking -/
theorem rd_unp {n : Nat} {ts : TGs} {p : Addr} {xs : List V} {Q : L2.St → Hp → Prop} (hs : SqT K H p xs) (hl : xs.length = n) (h : ts xs σ H Q) : gTup K n ts (.ref p) σ H Q := ⟨p, xs, rfl, hs, hl, h⟩
theorem rd_gcons {tg : TG} {u : TGs} {vr : List V} {Q : L2.St → Hp → Prop} (h : tg v σ H fun σ1 H1 => u vr σ1 H1 Q) : gCons tg u (v :: vr) σ H Q := ⟨v, vr, rfl, h⟩
theorem rd_gnil {Q : L2.St → Hp → Prop} (h : Q σ H) : gNil [] σ H Q := ⟨rfl, h⟩
/-- dictionaries -/
theorem rd_dget (h : td σ H fun x H1 => ty σ H1 fun y H2 => ∃ a v, x = .ref a ∧ DGet H2 a y (some v) ∧ Q v H2) : tDGet td ty σ H Q := h
theorem rd_dat {p : Addr} {kvs : List (Key × V)} {k : Key} (hs : Rd H p (.dK kvs)) (hv : valV kvs k = some v) {R : V → Prop} (hy : y = kV k) (h : R v) : ∃ a v, V.ref p = .ref a ∧ DGet H a y (some v) ∧ R v := ⟨p, v, rfl, .inl ⟨kvs, k, hs, hy, hv.symm⟩, h⟩
theorem rd_dput (h : tv σ H fun v H1 => td σ H1 fun x H2 => ty σ H2 fun y H3 => ∃ a H4, x = .ref a ∧ DPut H3 a y v H4 ∧ D.nx σ H4) : sDPut td ty tv D σ H := h
end
end U

/-! lists of texts as data -/
namespace U
open PySem PySem.Spec PyProof.Rows L2
theorem IsName.sok {z : Str} (h : IsName z) : PyData.strOk z = true := by
  unfold PyData.strOk
  rw [Array.all_eq_true_iff_forall_mem]
  intro x hx
  have := h.ch x (by simpa using hx)
  rw [decide_eq_true_eq]
  omega
section
variable {K : PySem.W.Frag} {H : Hp} {Q : VK} {p q : Addr}
theorem dp_strs : ∀ (xs : List Str), DpAll K H (xs.map V.str) (xs.map PyData.str)
  | [] => .nil
  | x :: xs => .cons (.str x) (dp_strs xs)
theorem can_strs : ∀ {xs : List Str}, (∀ x ∈ xs, PyData.strOk x = true) → PyData.canLayAll0 (xs.map PyData.str) = true
  | [], _ => by simp [PyData.canLayAll0]
  | x :: xs, h => by
    rw [List.map_cons, PyData.canLayAll0, PyData.canLay0, h x List.mem_cons_self, can_strs fun y hy => h y (List.mem_cons_of_mem _ hy)]
    rfl
theorem dep_strs : ∀ {xs : List Str}, PyData.depthAll (xs.map PyData.str) = 0
  | [] => by simp [PyData.depthAll]
  | x :: xs => by
    rw [List.map_cons, PyData.depthAll, dep_strs, PyData.depth]
    rfl
theorem shp_strs {xs : List Str} (h : ∀ x ∈ xs, PyData.strOk x = true) : SeqAt.shaped (.list (xs.map PyData.str)) = true := by
  unfold SeqAt.shaped
  rw [PyData.canLay0, can_strs h, PyData.depth, dep_strs]
  rfl
end
end U

/-! graphs and states as the laws draw them -/
namespace U
open PySem PySem.Spec PyProof.Rows L2
/-- the two names, the lower first -/
def eOf (a b : Str) : Str × Str := if sLt a b then (a, b) else (b, a)
theorem eOf_cases (a b : Str) : eOf a b = (a, b) ∨ eOf a b = (b, a) := by
  unfold eOf
  split
  · exact .inl rfl
  · exact .inr rfl
/-- the state's pairs -/
abbrev kvsOf (ws : List (Str × Int)) : List (Key × V) := ws.map fun p => (Sum.inr p.1, V.int p.2)
/-- the number of the node n -/
def numOf (ws : List (Str × Int)) (n : Str) : Int := (ws.lookup n).getD 0
theorem val_kvs : ∀ {ws : List (Str × Int)} {n : Str}, n ∈ ws.map (·.1) → valV (kvsOf ws) (.inr n) = some (.int (numOf ws n))
  | p :: ws, n, h => by
    by_cases e : n = p.1
    · subst e
      rw [kvsOf, List.map_cons, valV_pos rfl]
      unfold numOf
      rw [List.lookup_cons_self]
      rfl
    · have e' : ¬ (Sum.inr p.1 : Key) = Sum.inr n := fun z => e (Sum.inr.inj z).symm
      rw [kvsOf, List.map_cons, valV_neg e']
      have : n ∈ ws.map (·.1) := by
        rcases List.mem_cons.mp h with z | z
        · exact absurd z e
        · exact z
      have r := val_kvs this
      rw [kvsOf] at r
      rw [r]
      unfold numOf
      rw [List.lookup_cons, show (n == p.1) = false from beq_eq_false_iff_ne.mpr e]
theorem num_mem : ∀ {ws : List (Str × Int)} {n : Str}, n ∈ ws.map (·.1) → (n, numOf ws n) ∈ ws
  | p :: ws, n, h => by
    unfold numOf
    rw [List.lookup_cons]
    by_cases e : n = p.1
    · rw [show (n == p.1) = true from beq_iff_eq.mpr e]
      subst e
      exact List.mem_cons_self
    · rw [show (n == p.1) = false from beq_eq_false_iff_ne.mpr e]
      have : n ∈ ws.map (·.1) := by
        rcases List.mem_cons.mp h with z | z
        · exact absurd z e
        · exact z
      exact List.mem_cons_of_mem _ (num_mem this)
/-- a state: each name once, in the order ord, a number of 0, 1, 2 -/
structure StOk (ord : List Str) (ws : List (Str × Int)) : Prop where
  key : ws.map (·.1) = ord
  num : ∀ p ∈ ws, 0 ≤ p.2 ∧ p.2 < 3
theorem StOk.at {ord : List Str} {ws : List (Str × Int)} (h : StOk ord ws) {n : Str} (hn : n ∈ ord) : 0 ≤ numOf ws n ∧ numOf ws n < 3 := h.num _ (num_mem (by rw [h.key]; exact hn))
theorem StOk.val {ord : List Str} {ws : List (Str × Int)} (h : StOk ord ws) {n : Str} (hn : n ∈ ord) : valV (kvsOf ws) (.inr n) = some (.int (numOf ws n)) := val_kvs (by rw [h.key]; exact hn)
/-- the edges as they are found: at turn i, j -/
structure EdgesIn (ord : List Str) (f : Str → Int) (i j : Nat) (es : List (Addr × Str × Str)) : Prop where
  nd : (es.map (·.2)).Nodup
  of : ∀ e ∈ es, ∃ i' j', ∃ (hi : i' < ord.length) (hj : j' < ord.length), j' < i' ∧ (i' < i ∨ (i' = i ∧ j' < j)) ∧ e.2 = eOf ord[i'] ord[j'] ∧ f ord[i'] ≠ f ord[j']
theorem EdgesIn.step {ord : List Str} {f : Str → Int} {i j i2 j2 : Nat} {es : List (Addr × Str × Str)} (h : EdgesIn ord f i j es) (c : i < i2 ∨ (i = i2 ∧ j ≤ j2)) : EdgesIn ord f i2 j2 es :=
  ⟨h.nd, fun e he => by
    obtain ⟨i', j', hi, hj, h1, h2, h3⟩ := h.of e he
    exact ⟨i', j', hi, hj, h1, by omega, h3⟩⟩
/-- a graph: names upwards, edges upwards, each with its lower name first -/
structure GrOk (ns : List Str) (es : List (Str × Str)) : Prop where
  names : Names ns
  asc : AscE es
  lt : ∀ e ∈ es, sLt e.1 e.2
  mem : ∀ e ∈ es, e.1 ∈ ns ∧ e.2 ∈ ns
/-- the graph stands at g -/
structure GrAt (H : Hp) (g n e : Addr) (ns : List Str) (es : List (Addr × Str × Str)) : Prop where
  top : H g = some (.tup [.ref n, .ref e])
  nodes : H n = some (.tup (ns.map V.str))
  edges : H e = some (.tup (es.map fun x => V.ref x.1))
  pairs : ∀ x ∈ es, H x.1 = some (.tup [.str x.2.1, .str x.2.2])
theorem map_at {α : Type} {f : α → V} {xs : List α} {i : Nat} {x : V} (h : (xs.map f)[i]? = some x) : ∃ hi : i < xs.length, x = f xs[i] := by
  rw [List.getElem?_map] at h
  by_cases hi : i < xs.length
  · rw [List.getElem?_eq_getElem hi] at h
    exact ⟨hi, (Option.some.inj h).symm⟩
  · rw [List.getElem?_eq_none (by omega)] at h
    cases h
theorem StOk.nil : StOk [] [] := ⟨rfl, fun _ h => nomatch h⟩
theorem StOk.not {ord : List Str} {ws : List (Str × Int)} {i : Nat} (h : StOk (ord.take i) ws) (nd : ord.Nodup) (hi : i < ord.length) : ord[i] ∉ ws.map (·.1) := by
  rw [h.key]
  intro hm
  obtain ⟨j, hj, e⟩ := List.mem_iff_getElem.mp hm
  rw [List.length_take] at hj
  have e' : ord[j] = ord[i] := by rw [← e, List.getElem_take]
  have z := List.pairwise_iff_getElem.mp (List.nodup_iff_pairwise_ne.mp nd)
  exact z j i (by omega) hi (by omega) e'
section
variable {K : PySem.W.Frag} {H : Hp} {Q : VK} {p q : Addr} {σ : L2.St}
theorem rd_dnew (h : ∀ d, H d = none → Q (.ref d) (upd H d (.dK []))) : tDNewK σ H Q := h
theorem rd_dset {kvs : List (Key × V)} {k : Key} {y v : V} {R : Hp → Prop} (hs : H p = some (.dK kvs)) (hy : y = kV k) (hl : kvs.length < 100000) (h : R (upd H p (.dK (putK kvs k v)))) :
    ∃ a H4, V.ref p = .ref a ∧ DPut H a y v H4 ∧ R H4 := ⟨p, _, rfl, .inl ⟨kvs, k, hs, hy, Nat.lt_of_lt_of_le hl (by decide), rfl⟩, h⟩
end
end U

/-! comprehensions, locks, statements that are never reached: their readings -/
namespace U
open PySem PySem.Spec PyProof.Rows L2
def tCK (sp : Sp) (np nk : Nat) (E : XK) (t tk : TA) : TE := fun σ H Q => t σ H fun vs H1 => vs.length = np ∧ tk σ H1 fun zs H2 => zs.length = nk ∧ sp (vs ++ zs) H2 Q E
theorem ps_dead {X : Cx} {st : Stmt} : PS X st (fun _ _ _ => False) := ⟨fun _ _ _ _ _ _ h => h.elim⟩
def DcB (J : It) (g : TG) (tt : TT) (tk tv : TE) (vs : List Nat) (σ : L2.St) (H1 : Hp) (D : Addr) (Qd : Hp → Prop) : Prop := ∃ W : Nat → Nat → Hp → Prop, (∃ m, W 0 m (upd H1 D (.dK []))) ∧ ∀ i m H, W i m H →
  (J.stop i H ∧ Qd H) ∨ (J.go i H ∧ ∃ Nx : Hp → Prop, (∀ H', Nx H' → ∃ m', m' < m ∧ W (i + 1) m' H') ∧ ∀ x H', J.yld i H x H' → g x (wipe σ vs) H' fun σ2 H2 => wipe σ2 vs = wipe σ vs ∧ tt σ2 H2 fun b H3 =>
    if b = true then tk σ2 H3 fun y H4 => tv σ2 H4 fun z H5 => ∃ kvs k, y = kV k ∧ H5 D = some (.dK kvs) ∧ kvs.length < sizeLine ∧ Nx (upd H5 D (.dK (putK kvs k z))) else Nx H3)
section
variable {σ : L2.St} {H : Hp} {Q : VK} {D : Ends} {te td ty tv : TE} {t : TS} {g : TG} {wi : TI} {R : It → Hp → Prop} {tt : TT} {vs : List Nat} {L : Addr} {Qd : Hp → Prop} {J : It} {n : Nat} {G : Hp → Prop} {Y : Nat → Hp → V → Hp → Prop} {K : PySem.W.Frag}
theorem lcW (w : Walk J n G Y) (Pv : Nat → Hp → Prop) (h0 : Pv 0 (upd H L (.lst []))) (hG : ∀ i H, i ≤ n → Pv i H → G H)
    (hs : ∀ i x H H', i < n → Pv i H → Y i H x H' → g x (wipe σ vs) H' fun σ2 H2 => wipe σ2 vs = wipe σ vs ∧ tt σ2 H2 fun b H3 =>
      if b = true then te σ2 H3 fun y H4 => ∃ acc, H4 L = some (.lst acc) ∧ acc.length < sizeLine ∧ Pv (i + 1) (upd H4 L (.lst (acc ++ [y]))) else Pv (i + 1) H3) (hd : ∀ H, Pv n H → Qd H) : LcB J g tt te vs σ H L Qd := lc_it w Pv h0 hG hs hd
theorem rd_dc {tk : TE} (h : wi σ H fun J H1 => ∀ D, H1 D = none → DcB J g tt tk tv vs σ H1 D fun H2 => Q (.ref D) H2) : tDc wi g tt tk tv vs σ H Q := h
theorem rd_iItems (h : td σ H fun x H1 => ∃ d o kvs, x = .ref d ∧ H1 d = some (.frz o (.dK kvs)) ∧ R (Iti d o kvs) H1) : iItems td σ H R := h
theorem rd_iKeys (h : td σ H fun x H1 => ∃ d o, x = .ref d ∧ ((∃ kvs, H1 d = some (.frz o (.dK kvs)) ∧ R (Itk d o kvs) H1) ∨ ∃ kvs, H1 d = some (.frz o (.dT kvs)) ∧ R (Itkt d o kvs) H1)) : iKeys td σ H R := h
theorem rd_wp {vs : List Nat} {σ1 σ2 : L2.St} {P : Prop} (e : wipe σ1 vs = wipe σ2 vs) (h : P) : wipe σ1 vs = wipe σ2 vs ∧ P := ⟨e, h⟩
theorem rd_yesT {Q : Bool → Hp → Prop} (h : Q true H) : tYes σ H Q := h
theorem rd_acc {L : Addr} {acc : List V} {R : List V → Prop} (hL : H L = some (.lst acc)) (hz : acc.length < 100000) (h : R acc) : ∃ acc, H L = some (.lst acc) ∧ acc.length < sizeLine ∧ R acc := ⟨acc, hL, Nat.lt_of_lt_of_le hz (by decide), h⟩
theorem inV_int {v : Int} {xs : List Int} : inV (.int v) (xs.map V.int) = decide (v ∈ xs) := by
  induction xs with
  | nil => rfl
  | cons x xs ih =>
    unfold inV at ih ⊢
    rw [List.map_cons, List.any_cons, ih]
    simp only [eqV, List.mem_cons, Bool.decide_or]
    congr 1
    exact decide_eq_decide.mpr ⟨Eq.symm, Eq.symm⟩
theorem inV_str {v : Str} {xs : List Str} : inV (.str v) (xs.map V.str) = decide (v ∈ xs) := by
  induction xs with
  | nil => rfl
  | cons x xs ih =>
    unfold inV at ih ⊢
    rw [List.map_cons, List.any_cons, ih]
    simp only [eqV, List.mem_cons, Bool.decide_or]
    congr 1
    exact decide_eq_decide.mpr ⟨Eq.symm, Eq.symm⟩
theorem flat_int {xs : List Int} : (xs.map V.int).all flatV = true := by
  rw [List.all_eq_true]
  intro x hx
  obtain ⟨i, _, rfl⟩ := List.mem_map.mp hx
  rfl
theorem flat_str {xs : List Str} : (xs.map V.str).all flatV = true := by
  rw [List.all_eq_true]
  intro x hx
  obtain ⟨i, _, rfl⟩ := List.mem_map.mp hx
  rfl
theorem rd_ninIL {p : Addr} {v : Int} {xs : List Int} (hs : SqL K H p (xs.map V.int)) (h : Q (.bl (!decide (v ∈ xs))) H) : rNotInU K (.int v) (.ref p) H Q := ⟨_, .inl hs, rfl, flat_int, by rw [inV_int]; exact h⟩
theorem rd_inST {p : Addr} {v : Str} {xs : List Str} (hs : SqT K H p (xs.map V.str)) (h : Q (.bl (decide (v ∈ xs))) H) : rInU K (.str v) (.ref p) H Q := ⟨_, .inr hs, rfl, flat_str, by rw [inV_str]; exact h⟩
theorem rd_ninST {p : Addr} {v : Str} {xs : List Str} (hs : SqT K H p (xs.map V.str)) (h : Q (.bl (!decide (v ∈ xs))) H) : rNotInU K (.str v) (.ref p) H Q := ⟨_, .inr hs, rfl, flat_str, by rw [inV_str]; exact h⟩
theorem rd_catL {p q : Addr} {xs ys : List V} (h1 : H p = some (.lst xs)) (h2 : H q = some (.lst ys)) (hz : xs.length + ys.length ≤ 100000) (h : nL (xs ++ ys) H Q) : rAddU K (.ref p) (.ref q) H Q := .inl ⟨xs, ys, h1, h2, Nat.le_trans hz (by decide), h⟩
theorem GrAt.same {H' : Hp} {g n e : Addr} {ns : List Str} {es : List (Addr × Str × Str)} (h : GrAt H g n e ns es) (s : Same H H') : GrAt H' g n e ns es :=
  ⟨s _ _ h.top, s _ _ h.nodes, s _ _ h.edges, fun x hx => s _ _ (h.pairs x hx)⟩
theorem GrAt.but {H' : Hp} {p g n e : Addr} {ys : List V} {ns : List Str} {es : List (Addr × Str × Str)} (h : GrAt H g n e ns es) (hp : H p = some (.lst ys)) (b : But p H H') : GrAt H' g n e ns es := by
  have k : ∀ {a : Addr} {xs : List V}, H a = some (.tup xs) → H' a = some (.tup xs) := fun {a xs} ha => b _ _ (ne_of ha hp (by intro z; cases z)) ha
  exact ⟨k h.top, k h.nodes, k h.edges, fun x hx => k (h.pairs x hx)⟩
theorem But.dK {H' : Hp} {p d : Addr} {ys : List V} {kvs : List (Key × V)} (b : But p H H') (hp : H p = some (.lst ys)) (h : H d = some (.dK kvs)) : H' d = some (.dK kvs) := b _ _ (ne_of h hp (by intro z; cases z)) h
theorem But.tup {H' : Hp} {p d : Addr} {ys xs : List V} (b : But p H H') (hp : H p = some (.lst ys)) (h : H d = some (.tup xs)) : H' d = some (.tup xs) := b _ _ (ne_of h hp (by intro z; cases z)) h
theorem same_put {H1 : Hp} {a : Addr} {o : HO} (s : Same H H1) (n : H a = none) : Same H (upd H1 a o) := fun c u h => at_upd (ne_of_none h n) (s c u h)
theorem same_add {H1 : Hp} {a : Addr} {o : HO} (s : Same H H1) (n : H1 a = none) : Same H (upd H1 a o) := fun c u h => at_upd (ne_of_none (s c u h) n) (s c u h)
/-- xs != [], whatever data -/
theorem rd_neNilD {p q : Addr} {xs : List V} {ds : List PyData} (hp : SqL K H p xs) (hd : DpAll K H xs ds) (hq : SqL K H q []) (ok : PyData.canLayAll0 ds = true) (dep : PyData.depthAll ds ≤ 60) (h : Q (.bl (!xs.isEmpty)) H) : rNeU K (.ref p) (.ref q) H Q := by
  refine ⟨_, _, .lst hp hd, .lst hq .nil, ?_, by decide, ?_⟩
  · unfold SeqAt.shaped
    rw [PyData.canLay0, ok, PyData.depth, decide_eq_true (by omega)]
    rfl
  · have : PyData.eqv (.list ds) (.list []) = xs.isEmpty := by
      cases hd with
      | nil => simp [PyData.eqv, PyData.eqvAll]
      | cons _ _ => simp [PyData.eqv, PyData.eqvAll]
    rw [this]
    exact h
theorem rd_isi {x : V} {n : String} {a t : Ty} (h1 : TyIs K H x a) (h2 : tyOf n = some t) (h : Q (.bl (isT a t)) H) : rIsiU K [x, .ty n] H Q := ⟨a, t, h1, h2, h⟩
theorem rd_din (h : ty σ H fun y H1 => td σ H1 fun x H2 => ∃ a o, x = .ref a ∧ DGet H2 a y o ∧ Q (.bl o.isSome) H2) : tDIn ty td σ H Q := h
theorem rd_dnin (h : ty σ H fun y H1 => td σ H1 fun x H2 => ∃ a o, x = .ref a ∧ DGet H2 a y o ∧ Q (.bl (!o.isSome)) H2) : tDNotIn ty td σ H Q := h
theorem rd_din1 {p : Addr} {kvs : List (Key × V)} {k : Key} {y : V} {R : Option V → Prop} (hs : Rd H p (.dK kvs)) (hy : y = kV k) (h : R (valV kvs k)) : ∃ a o, V.ref p = .ref a ∧ DGet H a y o ∧ R o := ⟨p, _, rfl, .inl ⟨kvs, k, hs, hy, rfl⟩, h⟩
theorem rd_nT {A B : Prop} (h : B) : if (!true) = true then A else B := h
theorem rd_nF {A B : Prop} (h : A) : if (!false) = true then A else B := h
/-- repr of a truth value -/
def shB (b : Bool) : Str := if b then "True" else "False"
def rReprU : List V → Hp → VK → Prop := fun xs H Q => match xs with
  | [.bl b] => Q (.str (shB b)) H
  | _ => False
theorem rd_reprB {b : Bool} (h : Q (.str (shB b)) H) : rReprU [.bl b] H Q := h
theorem rd_ck {sp : Sp} {E : XK} {np nk : Nat} {t tk : TA} (h : t σ H fun vs H1 => vs.length = np ∧ tk σ H1 fun zs H2 => zs.length = nk ∧ sp (vs ++ zs) H2 Q E) : tCK sp np nk E t tk σ H Q := h
theorem rd_len {vs : List V} {k : Nat} {P : Prop} (e : vs.length = k) (h : P) : vs.length = k ∧ P := ⟨e, h⟩
theorem rd_par {i j : Nat} {ta : TA} (h : ta σ H fun vs H1 => ∃ v w, vs = [v, w] ∧ D.nx ((σ.set i (some v)).set j (some w)) H1) : tPar i j ta D σ H := h
theorem rd_two {v w' : V} {R : V → V → Prop} (h : R v w') : ∃ x y, [v, w'] = [x, y] ∧ R x y := ⟨v, w', rfl, h⟩
theorem rd_allL {p : Addr} {bs : List Bool} (hs : SqL K H p (bs.map V.bl)) (h : Q (.bl (bs.all id)) H) : rAllU K [.ref p] H Q := ⟨bs, hs, h⟩
theorem rd_isB {a b : Bool} (h : Q (.bl (decide (a = b))) H) : rIsU (.bl a) (.bl b) H Q := ⟨a, rfl, h⟩
theorem rd_isNotB {a b : Bool} (h : Q (.bl (!decide (a = b))) H) : rIsNotU (.bl a) (.bl b) H Q := ⟨a, rfl, h⟩
theorem rd_daug {rd : V → V → Hp → VK → Prop} (h : td σ H fun x H1 => ty σ H1 fun y H2 => ∃ a v, x = .ref a ∧ DGet H2 a y (some v) ∧
  tv σ H2 fun y2 H3 => rd v y2 H3 fun z H4 => ∃ H5, DPut H4 a y z H5 ∧ D.nx σ H5) : sDAug td ty tv rd D σ H := h
end
end U

namespace Law
open PySem PySem.Spec PyProof.Rows L2 U
def top (i : Nat) : Stmt := PySem.Challenge.pw_threeturned_k60_whole_first_states.main.body.getD i (.Pass ⟨0, 0, 0, 0⟩)
abbrev s_TooLarge_init : Stmt := inClass (top 1) 0
theorem sc_TooLarge_init : FnScope ["self", "total"] ["self", "total"] (defScope s_TooLarge_init) := ⟨rfl, rfl, rfl, by decide +kernel, rfl, by decide +kernel, by decide +kernel⟩
abbrev s_has_node : Stmt := top 3
theorem sc_has_node : FnScope ["graph", "candidate"] ["graph", "candidate"] (defScope s_has_node) := ⟨rfl, rfl, rfl, by decide +kernel, rfl, by decide +kernel, by decide +kernel⟩
abbrev s_edge_of : Stmt := top 4
theorem sc_edge_of : FnScope ["first", "second"] ["first", "second"] (defScope s_edge_of) := ⟨rfl, rfl, rfl, by decide +kernel, rfl, by decide +kernel, by decide +kernel⟩
abbrev s_first_conflict : Stmt := top 8
theorem sc_first_conflict : FnScope ["graph", "values", "first", "second"] ["graph", "values"] (defScope s_first_conflict) := ⟨rfl, rfl, rfl, by decide +kernel, rfl, by decide +kernel, by decide +kernel⟩
abbrev s_first_extension : Stmt := top 9
theorem sc_first_extension : FnScope ["graph", "values", "node", "value", "state"] ["graph", "values"] (defScope s_first_extension) := ⟨rfl, rfl, rfl, by decide +kernel, rfl, by decide +kernel, by decide +kernel⟩
abbrev s_first_state : Stmt := top 10
theorem sc_first_state : FnScope ["graph"] ["graph"] (defScope s_first_state) := ⟨rfl, rfl, rfl, by decide +kernel, rfl, by decide +kernel, by decide +kernel⟩
abbrev s_tree_below : Stmt := top 11
abbrev nN_tree_below : List Str := ["graph", "values", "edge", "node", "value"]
theorem sc_tree_below : FnScope ["graph", "values", "edge", "node", "value"] ["graph", "values"] (defScope s_tree_below) := ⟨rfl, rfl, rfl, by decide +kernel, rfl, by decide +kernel, by decide +kernel⟩
abbrev s_case_tree : Stmt := top 12
theorem sc_case_tree : FnScope ["graph"] ["graph"] (defScope s_case_tree) := ⟨rfl, rfl, rfl, by decide +kernel, rfl, by decide +kernel, by decide +kernel⟩
abbrev s_is_tree_below : Stmt := top 13
abbrev nN_is_tree_below : List Str := ["graph", "candidate", "values", "label", "node", "last", "is_edge", "value"]
theorem sc_is_tree_below : FnScope ["graph", "candidate", "values", "label", "node", "last", "is_edge", "value"] ["graph", "candidate", "values"] (defScope s_is_tree_below) := ⟨rfl, rfl, rfl, by decide +kernel, rfl, by decide +kernel, by decide +kernel⟩
abbrev s_is_case_tree : Stmt := top 14
theorem sc_is_case_tree : FnScope ["graph", "candidate"] ["graph", "candidate"] (defScope s_is_case_tree) := ⟨rfl, rfl, rfl, by decide +kernel, rfl, by decide +kernel, by decide +kernel⟩
abbrev s__law_box : Stmt := top 16
abbrev nN__law_box : List Str := ["_law_script", "_law_cell"]
theorem sc__law_box : FnScope ["_law_script", "_law_cell"] ["_law_script"] (defScope s__law_box) := ⟨rfl, rfl, rfl, by decide +kernel, rfl, by decide +kernel, by decide +kernel⟩
abbrev s__law_draw : Stmt := top 17
theorem sc__law_draw : FnScope ["_law_source", "_law_many", "_law_cell", "_law_found"] ["_law_source", "_law_many"] (defScope s__law_draw) := ⟨rfl, rfl, rfl, by decide +kernel, rfl, by decide +kernel, by decide +kernel⟩
abbrev s__law_stem : Stmt := top 18
abbrev nN__law_stem : List Str := ["_law_source", "_law_k"]
theorem sc__law_stem : FnScope ["_law_source", "_law_k"] ["_law_source"] (defScope s__law_stem) := ⟨rfl, rfl, rfl, by decide +kernel, rfl, by decide +kernel, by decide +kernel⟩
abbrev s__law_random_graph : Stmt := top 19
abbrev nN__law_random_graph : List Str := ["_law_source", "_law_most", "_law_direction", "_law_many", "_law_density", "_law_pairs", "_law_k", "_law_near", "_law_on_wheel", "_law_full", "_law_front", "_law_shift", "_law_step", "_law_words", "_law_letter", "_law_stem_here", "_law_edges", "_law_one", "_law_other"]
theorem sc__law_random_graph : FnScope ["_law_source", "_law_most", "_law_direction", "_law_many", "_law_density", "_law_pairs", "_law_k", "_law_near", "_law_on_wheel", "_law_full", "_law_front", "_law_shift", "_law_step", "_law_words", "_law_letter", "_law_stem_here", "_law_edges", "_law_one", "_law_other"] ["_law_source", "_law_most"] (defScope s__law_random_graph) := ⟨rfl, rfl, rfl, by decide +kernel, rfl, by decide +kernel, by decide +kernel⟩
abbrev s__law_tree : Stmt := top 20
theorem sc__law_tree : FnScope ["_law_graph", "_law_tree_here", "_law_tried", "_law_value", "_law_more"] ["_law_graph", "_law_tree_here", "_law_tried"] (defScope s__law_tree) := ⟨rfl, rfl, rfl, by decide +kernel, rfl, by decide +kernel, by decide +kernel⟩
abbrev s__law_first : Stmt := top 21
abbrev nN__law_first : List Str := ["_law_graph", "_law_paths", "_law_path", "_law_near", "_law_k", "_law_excluded", "_law_value"]
theorem sc__law_first : FnScope ["_law_graph", "_law_paths", "_law_path", "_law_near", "_law_k", "_law_excluded", "_law_value"] ["_law_graph"] (defScope s__law_first) := ⟨rfl, rfl, rfl, by decide +kernel, rfl, by decide +kernel, by decide +kernel⟩
abbrev s__law_too_large : Stmt := top 22
abbrev nN__law_too_large : List Str := ["_law_count", "_law_direction", "_law_found", "_law_nodes", "_law_k", "e"]
theorem sc__law_too_large : FnScope ["_law_count", "_law_direction", "_law_found", "_law_nodes", "_law_k", "e"] ["_law_count", "_law_direction"] (defScope s__law_too_large) := ⟨rfl, rfl, rfl, by decide +kernel, rfl, by decide +kernel, by decide +kernel⟩
abbrev s__law_lists_in : Stmt := top 23
abbrev nN__law_lists_in : List Str := ["_law_candidate", "_law_one"]
theorem sc__law_lists_in : FnScope ["_law_candidate", "_law_one"] ["_law_candidate"] (defScope s__law_lists_in) := ⟨rfl, rfl, rfl, by decide +kernel, rfl, by decide +kernel, by decide +kernel⟩
abbrev s__law_lists_are_distinct : Stmt := top 24
theorem sc__law_lists_are_distinct : FnScope ["_law_tree_here", "_law_one"] ["_law_tree_here"] (defScope s__law_lists_are_distinct) := ⟨rfl, rfl, rfl, by decide +kernel, rfl, by decide +kernel, by decide +kernel⟩
abbrev s__law_wheel_holds : Stmt := top 25
abbrev nN__law_wheel_holds : List Str := ["_law_rim", "_law_one", "_law_graph", "_law_tree_here", "_law_complete", "_law_saved"]
theorem sc__law_wheel_holds : FnScope ["_law_rim", "_law_one", "_law_graph", "_law_tree_here", "_law_complete", "_law_saved"] [] (defScope s__law_wheel_holds) := ⟨rfl, rfl, rfl, by decide +kernel, rfl, by decide +kernel, by decide +kernel⟩
abbrev s_law : Stmt := top 26
abbrev nN_law : List Str := ["_law_script", "_law_source", "_law_graph", "_law_path", "_law_state", "_law_tree_here", "_law_count", "_law_direction", "_law_node"]
theorem sc_law : FnScope ["_law_script", "_law_source", "_law_graph", "_law_path", "_law_state", "_law_tree_here", "_law_count", "_law_direction", "_law_node"] ["_law_script"] (defScope s_law) := ⟨rfl, rfl, rfl, by decide +kernel, rfl, by decide +kernel, by decide +kernel⟩
end Law


namespace Law
open PySem PySem.Spec PyProof.Rows L2 U
local macro_rules | `(tactic| wtm_at "rd1") => `(tactic| first
  | with_reducible refine rd_seq ?_
  | ((with_reducible refine rd_var (v := ?vv) ?hv ?_); (case hv => exact rfl))
  | with_reducible refine rd_c ?_
  | with_reducible refine rd_cons ?_
  | with_reducible refine rd_nil ?_
  | with_reducible refine rd_op ?_
  | with_reducible refine rd_asg ?_
  | with_reducible refine rd_name ?_
  | with_reducible refine rd_c1 ?_
  | with_reducible refine rd_cb ?_
  | with_reducible refine rd_test ?_
  | with_reducible refine rd_B ?_
  | with_reducible refine rd_bl ?_
  | with_reducible refine rd_if ?_
  | with_reducible refine rd_ret ?_
  | with_reducible refine rd_drop ?_
  | with_reducible refine rd_next ?_
  | with_reducible refine rd_addI ?_
  | with_reducible refine rd_ltI ?_
  | with_reducible refine rd_eqI ?_
  | with_reducible refine rd_neI ?_
  | with_reducible refine rd_eqS ?_
  | with_reducible refine rd_neS ?_
  | with_reducible refine rd_gtI ?_
  | with_reducible refine rd_geI ?_
  | with_reducible refine rd_leI ?_
  | with_reducible refine rd_ltS ?_
  | with_reducible refine rd_subI ?_
  | ((with_reducible refine rd_modI ?hc ?_); (case hc => first | decide | omega))
  | ((with_reducible refine rd_mulI ?hc ?_); (case hc => first | exact mul_bI | exact .inl (.inr (by decide)) | exact .inl (.inl (by decide)) | exact .inl (.inr (by omega)) | exact .inl (.inl (by omega))))
  | ((with_reducible refine rd_divI ?hc ?_); (case hc => first | decide | omega))
  | ((with_reducible refine rd_powI ?hc ?_); (case hc => exact ⟨by decide, by decide, by decide⟩))
  | with_reducible refine rd_lst ?_
  | with_reducible refine rd_tup ?_
  | ((with_reducible refine rd_sz ?hv ?_); (case hv => exact rfl))
  | with_reducible refine rd_and ?_
  | with_reducible refine rd_or ?_
  | with_reducible refine rd_not ?_
  | with_reducible refine rd_andV ?_
  | with_reducible refine rd_orV ?_
  | with_reducible refine rd_notV ?_
  | with_reducible refine rd_ifE ?_
  | with_reducible refine rd_T ?_
  | with_reducible refine rd_F ?_
  | with_reducible refine rd_chain ?_
  | with_reducible refine rd_is ?_
  | with_reducible refine rd_isNot ?_
  | with_reducible refine rd_absI ?_
  | with_reducible refine rd_maxI ?_
  | with_reducible refine rd_minI ?_
  | with_reducible refine rd_intI ?_
  | with_reducible refine rd_intB ?_
  | with_reducible refine rd_sub ?_
  | with_reducible refine rd_sl ?_
  | with_reducible refine rd_noPart ?_
  | with_reducible refine rd_part ?_
  | with_reducible refine rd_exI ?_
  | with_reducible refine rd_bm ?_
  | with_reducible refine rd_bm0 ?_
  | with_reducible refine rd_un ?_
  | with_reducible refine rd_neg ?_
  | with_reducible refine rd_c2 ?_
  | with_reducible refine rd_retN ?_
  | with_reducible refine rd_break ?_
  | with_reducible refine rd_cont ?_
  | with_reducible refine rd_for ?_
  | with_reducible refine rd_rng1 ?_
  | with_reducible refine rd_rng2 ?_
  | with_reducible refine rd_iList ?_
  | with_reducible refine rd_iTup ?_
  | with_reducible refine rd_iEnum ?_
  | ((with_reducible refine rd_forR ?h0 ?h1 ?_); (case h0 => omega); (case h1 => omega))
  | with_reducible refine rd_lc ?_
  | with_reducible refine rd_gcons ?_
  | with_reducible refine rd_gnil ?_
  | with_reducible refine rd_dget ?_
  | with_reducible refine rd_dput ?_
  | with_reducible refine rd_dnew ?_
  | with_reducible refine rd_dc ?_
  | with_reducible refine rd_iItems ?_
  | with_reducible refine rd_iKeys ?_
  | with_reducible refine rd_din ?_
  | with_reducible refine rd_lc2 ?_
  | with_reducible refine rd_cd ?_
  | with_reducible refine rd_par ?_
  | with_reducible refine rd_two ?_
  | with_reducible refine rd_reprB ?_
  | with_reducible refine rd_ck ?_
  | ((with_reducible refine rd_len ?hl ?_); (case hl => exact rfl))
  | with_reducible refine rd_nT ?_
  | with_reducible refine rd_nF ?_
  | with_reducible refine rd_dnin ?_
  | with_reducible refine rd_isB ?_
  | with_reducible refine rd_isNotB ?_
  | with_reducible refine rd_daug ?_
  | with_reducible refine rd_yesT ?_
  | ((with_reducible refine rd_wp ?hw ?_); (case hw => exact rfl)))
local macro_rules | `(tactic| wtm_at "rd") => `(tactic| repeat wtm_at "rd1")
/-- the names of the world are the world's -/
structure Bt (mg : Str → Option Value) : Prop where
  len : mg "len" = none
  abs : mg "abs" = none
  max : mg "max" = none
  min : mg "min" = none
  sorted : mg "sorted" = none
  isinstance : mg "isinstance" = none
  int : mg "int" = none
  list : mg "list" = none
  tuple : mg "tuple" = none
  str : mg "str" = none
  range : mg "range" = none
  enumerate : mg "enumerate" = none
  dict : mg "dict" = none
  sum : mg "sum" = none
  all : mg "all" = none
  any : mg "any" = none
  repr : mg "repr" = none
  set : mg "set" = none
  zip : mg "zip" = none
  reversed : mg "reversed" = none
/-- a source of draws: the cells, how many are used, what is left of a great one, the seed -/
abbrev srcO (c : Addr) (pos big seed : Int) : HO := .lst [.ref c, .int pos, .int big, .int seed]
structure SrcOk (xs : List Int) (pos big seed : Int) : Prop where
  xs : ∀ x ∈ xs, 0 ≤ x
  pos : 0 ≤ pos
  big : 0 ≤ big
  s0 : 0 ≤ seed
  s1 : seed < 2147483647
def SrcAt (H : Hp) (p c : Addr) (xs : List Int) : Prop := ∃ pos big seed, H p = some (srcO c pos big seed) ∧ H c = some (.lst (xs.map V.int)) ∧ SrcOk xs pos big seed
def PoolAt (H : Hp) (p : Addr) : Prop := ∃ c xs, SrcAt H p c xs
theorem src_ne {xs : List Int} {c : Addr} {pos big seed : Int} : srcO c pos big seed ≠ .lst (xs.map V.int) := fun z => by
  match xs, HO.lst.inj z with
  | _ :: _, e => cases e
theorem PoolAt.ne {H : Hp} {p q : Addr} (h : PoolAt H p) (n : H q = none) : p ≠ q := by
  obtain ⟨c, xs, b, g, s, h, _⟩ := h
  exact ne_of_none h n
theorem PoolAt.isL {H : Hp} {p : Addr} (h : PoolAt H p) : ∃ ys, H p = some (.lst ys) := by
  obtain ⟨c, xs, b, g, s, h, _⟩ := h
  exact ⟨_, h⟩
theorem PoolAt.off {H : Hp} {p q : Addr} {xs : List Str} (h : PoolAt H p) (hq : H q = some (.lst (xs.map V.str))) : q ≠ p := by
  rintro rfl
  obtain ⟨c, ys, b, g, s, h, _⟩ := h
  rw [hq] at h
  have e := HO.lst.inj (Option.some.inj h)
  match xs, e with
  | _ :: _, e => cases e
/-- from H to H' all stays but the draws' source at p, which is one still; new things may have come -/
structure Go (p : Addr) (H H' : Hp) : Prop where
  but : But p H H'
  free : ∀ b, H' b = none → H b = none
  pool : PoolAt H' p
  cell : ∀ c pos big seed, H' p = some (srcO c pos big seed) → H c ≠ none ∧ ∃ pos big seed, H p = some (srcO c pos big seed)
theorem Go.refl {p : Addr} {H : Hp} (h : PoolAt H p) : Go p H H := ⟨But.refl, fun _ n => n, h, fun c pos big seed e => by
  obtain ⟨c', xs, b, g, s, h1, h2, _⟩ := h
  have e2 := Option.some.inj (e.symm.trans h1)
  have e3 := (List.cons.inj (HO.lst.inj e2)).1
  have e4 : c = c' := V.ref.inj e3
  subst e4
  exact ⟨(fun z => by rw [z] at h2; cases h2), _, _, _, e⟩⟩
theorem Go.trans {p : Addr} {H H1 H2 : Hp} (a : Go p H H1) (b : Go p H1 H2) : Go p H H2 := ⟨a.but.trans b.but, fun c n => a.free c (b.free c n), b.pool, fun c _ _ _ e => by
  obtain ⟨_, _, _, _, e2⟩ := b.cell c _ _ _ e
  exact a.cell c _ _ _ e2⟩
/-- an object that was not there at H is written -/
theorem Go.put {p q : Addr} {H H1 : Hp} {o : HO} (a : Go p H H1) (n : H q = none) (ne : p ≠ q) : Go p H (L2.upd H1 q o) := by
  obtain ⟨c, xs, b, g, s, h1, h2, ok⟩ := a.pool
  have nc : c ≠ q := fun z => (a.cell _ _ _ _ h1).1 (z ▸ n)
  exact ⟨fun b u h e => at_upd (ne_of_none e n) (a.but b u h e), fun c z => a.free c (new_old z), ⟨c, xs, b, g, s, at_upd ne h1, at_upd nc h2, ok⟩, fun c' _ _ _ e => a.cell c' _ _ _ ((upd_ne ne).symm.trans e)⟩
theorem Go.new {p q : Addr} {H H1 : Hp} {o : HO} (a : Go p H H1) (n : H1 q = none) : Go p H (L2.upd H1 q o) := a.put (a.free _ n) (a.pool.ne n)
theorem Go.at {p q : Addr} {H H1 : Hp} {o : HO} (a : Go p H H1) (h : H q = some o) (n : q ≠ p) : H1 q = some o := a.but q o n h
theorem Go.seqT {p a : Addr} {H H1 : Hp} {xs : List V} {K : PySem.W.Frag} (g : Go p H H1) (hp : PoolAt H p) (h : SqT K H a xs) : SqT K H1 a xs := g.but.seqT hp.isL h
theorem Go.of_same {p : Addr} {H H' : Hp} (hp : PoolAt H p) (s : Same H H') : Go p H H' := by
  obtain ⟨c, xs, b, g, sd, h1, h2, ok⟩ := hp
  refine ⟨But.of_same s, fun b n => new_of_same s n, ⟨c, xs, b, g, sd, s _ _ h1, s _ _ h2, ok⟩, fun c' _ _ _ e => ?_⟩
  have e2 := Option.some.inj (e.symm.trans (s _ _ h1))
  have e4 : c' = c := V.ref.inj (List.cons.inj (HO.lst.inj e2)).1
  subst e4
  exact ⟨(fun z => by rw [z] at h2; cases h2), _, _, _, h1⟩
theorem PoolAt.keep {p : Addr} {H H' : Hp} (h : PoolAt H p) (k : ∀ a xs, H a = some (.lst xs) → H' a = some (.lst xs)) : PoolAt H' p := by
  obtain ⟨c, xs, b, g, sd, h1, h2, ok⟩ := h
  exact ⟨c, xs, b, g, sd, k _ _ h1, k _ _ h2, ok⟩
def spBox (K : PySem.W.Frag) : Sp := fun vs H Q _ => ∃ (a : Addr) (ns : List Int), vs = [.ref a] ∧ SqL K H a (ns.map V.int) ∧ ns.length ≤ 63 ∧
  ∀ (p : Addr) (H' : Hp), Same H H' → H p = none → PoolAt H' p → Q (.ref p) H'
def spDraw : Sp := fun vs H Q _ => ∃ (p : Addr) (many : Int), vs = [.ref p, .int many] ∧ 0 < many ∧ many < 1000000 ∧ PoolAt H p ∧
  ∀ (r : Int) (H' : Hp), 0 ≤ r → r < many → Go p H H' → Q (.int r) H'
/-- _law_draw, as it is used -/
theorem use_draw {H : Hp} {p : Addr} {many : Int} {Q : VK} {E : XK} (h : PoolAt H p) (m0 : 0 < many) (m1 : many < 1000000)
    (k : ∀ (r : Int) (H' : Hp), 0 ≤ r → r < many → Go p H H' → Q (.int r) H') : spDraw [.ref p, .int many] H Q E := ⟨p, many, rfl, m0, m1, h, k⟩
section
variable {P : Program} {w : World} {K : PySem.W.Frag} {mg : Str → Option Value} {base : Heap}
theorem ok_box {f : Addr} {fd : FuncData} (F : Fun K "_law_box" "_law_box" s__law_box f fd) (B : Bt mg) : FnG P w K mg base CX0 1 f fd ["_law_script"] (spBox K) := by
  refine fnG0 F sc__law_box (fun vs H Q E h => ?_) (fun cdv A outer s H vs Q E hr h => ?_)
  · obtain ⟨a, ns, rfl, _⟩ := h
    rfl
  · obtain ⟨a, ns, rfl, hs, hl, q⟩ := h
    have nd := sc__law_box.nd
    refine ⟨_, (pss_one (ps_ret (pe_lst (pa_cons (pe_lc (own := [("_law_cell", 1)]) rfl nd (ki_list K rfl (pe_slice (kSl K rfl) (pv 0) po_none (po_some pe_int))) (blkOk_by (own := [("_law_cell", 1)]) (N := nN__law_box) (sc := defScope s__law_box) (by decide +kernel)) (fun _ _ _ _ _ => (pg_name (i := 1) nd rfl (by first | exact Or.inl rfl | exact Or.inr rfl))) (fun _ _ _ _ _ => pts_nil) (fun _ _ _ _ _ => (pe_callB cAbs (by rfl) B.abs bb_abs (pa_cons (pv 1) pa_nil)))) (pa_cons pe_int (pa_cons pe_int (pa_cons pe_int pa_nil))))))), ?_⟩
    wtm_at "rd"
    refine rd_slL hs ?_
    intro t ft
    have ht := @upd_same H t (.lst (cutV (ns.map V.int) none (some 63)))
    have s1 := Same.new (o := .lst (cutV (ns.map V.int) none (some 63))) ft
    have e63 : cutV (ns.map V.int) none (some 63) = ns.map V.int := by
      unfold cutV HT.sIx
      simp only [Nat.sub_zero, List.drop_zero]
      rw [if_neg (by decide)]
      have : (ns.map V.int).length = ns.length := List.length_map _
      rw [List.take_of_length_le]
      rw [Nat.min_def]
      split <;> omega
    rw [e63] at ht s1 ⊢
    generalize upd H t (.lst (ns.map V.int)) = H1 at ht s1
    wtm_at "rd"
    refine rd_forL (SqL.of ht) ?_
    intro D fD
    refine lcL (K := K) (xs := ns.map V.int) (fun i H' => Same H1 H' ∧ H' D = some (.lst (((ns.take i).map fun z => (z.natAbs : Int)).map V.int))) ⟨Same.new fD, upd_same⟩ ?_ ?_ ?_
    · rintro i H' hi ⟨s, _⟩
      exact SqL.of (s _ _ ht)
    · rintro i y H' hy ⟨s, hD⟩
      obtain ⟨hi, rfl⟩ := map_at hy
      wtm_at "rd"
      refine rd_acc hD (by rw [List.length_map, List.length_map, List.length_take]; omega) ?_
      refine ⟨same_put s fD, ?_⟩
      rw [upd_same, show ns.take (i + 1) = ns.take i ++ [ns[i]] from by rw [List.take_succ, List.getElem?_eq_getElem hi]; rfl, List.map_append, List.map_append]
      rfl
    · rintro H2 ⟨s2, hD⟩
      rw [List.length_map, List.take_length] at hD
      wtm_at "rd"
      intro p fp
      have k := Same.new (o := srcO D 0 0 7) fp
      refine q p _ ((s1.trans s2).trans k) (new_of_same (s1.trans s2) fp) ⟨D, _, 0, 0, 7, upd_same, k _ _ hD, ⟨fun x hx => ?_, by decide, by decide, by decide, by decide⟩⟩
      obtain ⟨z, _, rfl⟩ := List.mem_map.mp hx
      omega
theorem ok_draw {f : Addr} {fd : FuncData} (F : Fun K "_law_draw" "_law_draw" s__law_draw f fd) (B : Bt mg) : FnG P w K mg base CX0 1 f fd ["_law_source", "_law_many"] spDraw := by
  refine fnG0 F sc__law_draw (fun vs H Q E h => ?_) (fun cdv A outer s H vs Q E hr h => ?_)
  · obtain ⟨p, many, rfl, _⟩ := h
    rfl
  · obtain ⟨p, many, rfl, m0, m1, hp, q⟩ := h
    have nd := sc__law_draw.nd
    have g0 := Go.refl hp
    obtain ⟨c, xs, pos, big, seed, h1, h2, ok⟩ := hp
    have ncp : c ≠ p := fun z => by
      subst z
      exact src_ne (Option.some.inj (h1.symm.trans h2))
    have set : ∀ {H1 : Hp} {pos' big' seed' pos2 big2 seed2 : Int}, Go p H H1 → H1 p = some (srcO c pos' big' seed') → H1 c = some (.lst (xs.map V.int)) → SrcOk xs pos2 big2 seed2 → Go p H (upd H1 p (srcO c pos2 big2 seed2)) ∧ upd H1 p (srcO c pos2 big2 seed2) p = some (srcO c pos2 big2 seed2) ∧ upd H1 p (srcO c pos2 big2 seed2) c = some (.lst (xs.map V.int)) := by
      intro H1 pos' big' seed' pos2 big2 seed2 g e1 e2 ok2
      refine ⟨⟨g.but.trans But.upd, fun b z => g.free b (new_old z), ⟨c, xs, _, _, _, upd_same, at_upd ncp e2, ok2⟩, fun c' _ _ _ e => ?_⟩, upd_same, at_upd ncp e2⟩
      rw [upd_same] at e
      have e4 : c = c' := V.ref.inj (List.cons.inj (HO.lst.inj (Option.some.inj e))).1
      subst e4
      exact g.cell c _ _ _ e1
    refine ⟨_, (C8.pss_cut (ps_if (PW.pt (pw_and (pt_cmpR (kEq K rfl hr.u64) (pe_ix (kIx K rfl) (pv 0) pe_int (fun _ _ => rfl)) pe_int (nomark _)) (pw_and1 (pt_cmpR uLt (pe_ix (kIx K rfl) (pv 0) pe_int (fun _ _ => rfl)) (pe_callB (kLen K rfl) (by rfl) B.len bb_len (pa_cons (pe_ix (kIx K rfl) (pv 0) pe_int (fun _ _ => rfl)) pa_nil)) (nomark _))))) (pss_cons (ps_set (i := 2) nd rfl (by first | exact Or.inl rfl | exact Or.inr rfl) (pe_ix (kIx K rfl) (pe_ix (kIx K rfl) (pv 0) pe_int (fun _ _ => rfl)) (pe_ix (kIx K rfl) (pv 0) pe_int (fun _ _ => rfl)) (fun _ _ => rfl)))
  (pss_cons (ps_asg (pe_op (kAdd K rfl) (pe_ix (kIx K rfl) (pv 0) pe_int (fun _ _ => rfl)) pe_int) (pg_sub (pv 0) pe_int set_list))
  (pss_one (ps_if (pt_cmpR uGe (pv 2) (pe_op uPow pe_int pe_int) (nomark _)) (pss_one (ps_asg (pv 2) (pg_sub (pv 0) pe_int set_list))) (pss_one (ps_asg (pe_op uMod (pe_op (kAdd K rfl) (pe_op uMul (pe_ix (kIx K rfl) (pv 0) pe_int (fun _ _ => rfl)) pe_int) (pv 2)) pe_int) (pg_sub (pv 0) pe_int set_list))))))) pss_nil)
  (pss_cons (ps_if (pt_cmpR uGt (pe_ix (kIx K rfl) (pv 0) pe_int (fun _ _ => rfl)) pe_int (nomark _)) (pss_cons (ps_set (i := 3) nd rfl (by first | exact Or.inl rfl | exact Or.inr rfl) (pe_op uMod (pe_ix (kIx K rfl) (pv 0) pe_int (fun _ _ => rfl)) (pv 1)))
  (pss_cons (ps_asg (pe_op uDiv (pe_ix (kIx K rfl) (pv 0) pe_int (fun _ _ => rfl)) (pv 1)) (pg_sub (pv 0) pe_int set_list))
  (pss_one (ps_ret (pv 3))))) pss_nil)
  (pss_cons (ps_asg (pe_op uMod (pe_op (kAdd K rfl) (pe_op uMul (pe_ix (kIx K rfl) (pv 0) pe_int (fun _ _ => rfl)) pe_int) pe_int) pe_int) (pg_sub (pv 0) pe_int set_list))
  (pss_one (ps_ret (pe_op uMod (pe_op uMod (pe_op uMul (pe_ix (kIx K rfl) (pv 0) pe_int (fun _ _ => rfl)) pe_int) pe_int) (pv 1))))))), ?_⟩
    refine ⟨fun σ' H' => ∃ (u2 u3 : Option V) (pos big seed : Int), σ' = [some (.ref p), some (.int many), u2, u3] ∧ Go p H H' ∧ H' p = some (srcO c pos big seed) ∧ H' c = some (.lst (xs.map V.int)) ∧ SrcOk xs pos big seed, ?_, ?_⟩
    · wtm_at "rd"
      refine rd_ixL (SqL.of h1) rfl ?_
      wtm_at "rd"
      refine rd_split (fun c1 => ?_) (fun c1 => ?_)
      · wtm_at "rd"
        refine rd_ixL (SqL.of h1) rfl ?_
        wtm_at "rd"
        refine rd_ixL (SqL.of h1) rfl ?_
        wtm_at "rd"
        refine rd_lenL (SqL.of h2) ?_
        rw [List.length_map]
        wtm_at "rd"
        refine rd_split (fun c2 => ?_) (fun c2 => ?_)
        · obtain ⟨k, rfl⟩ : ∃ k : Nat, pos = (k : Int) := ⟨pos.toNat, by have := ok.pos; omega⟩
          have hk : k < xs.length := by omega
          wtm_at "rd"
          refine rd_ixL (SqL.of h1) rfl ?_
          wtm_at "rd"
          refine rd_ixL (SqL.of h1) rfl ?_
          refine rd_ixL (SqL.of h2) (v := .int xs[k]) (atI_nat (by rw [List.getElem?_map, List.getElem?_eq_getElem hk]; rfl)) ?_
          have x0 := ok.xs _ (List.getElem_mem hk)
          generalize xs[k] = x at *
          wtm_at "rd"
          refine rd_ixL (SqL.of h1) rfl ?_
          wtm_at "rd"
          refine rd_setL h1 rfl ?_
          obtain ⟨g1, e1, e2⟩ := set (pos2 := (k : Int) + 1) (big2 := big) (seed2 := seed) g0 h1 h2 ⟨ok.xs, by omega, ok.big, ok.s0, ok.s1⟩
          wtm_at "rd"
          refine rd_split (fun c3 => ?_) (fun c3 => ?_)
          · wtm_at "rd"
            refine rd_setL e1 rfl ?_
            obtain ⟨g3, e3, e4⟩ := set (pos2 := (k : Int) + 1) (big2 := x) (seed2 := seed) g1 e1 e2 ⟨ok.xs, by omega, x0, ok.s0, ok.s1⟩
            exact ⟨_, _, _, _, _, rfl, g3, e3, e4, ⟨ok.xs, by omega, x0, ok.s0, ok.s1⟩⟩
          · wtm_at "rd"
            refine rd_ixL (SqL.of e1) rfl ?_
            wtm_at "rd"
            refine rd_setL e1 rfl ?_
            obtain ⟨g3, e3, e4⟩ := set (pos2 := (k : Int) + 1) (big2 := big) (seed2 := (seed * 48271 + x) % 2147483647) g1 e1 e2 ⟨ok.xs, by omega, ok.big, by omega, by omega⟩
            exact ⟨_, _, _, _, _, rfl, g3, e3, e4, ⟨ok.xs, by omega, ok.big, by omega, by omega⟩⟩
        · wtm_at "rd"
          exact ⟨_, _, _, _, _, rfl, g0, h1, h2, ok⟩
      · wtm_at "rd"
        exact ⟨_, _, _, _, _, rfl, g0, h1, h2, ok⟩
    · rintro σ' H1 ⟨u2, u3, pos, big, seed, rfl, g1, e1, e2, ok⟩
      wtm_at "rd"
      refine rd_ixL (SqL.of e1) rfl ?_
      wtm_at "rd"
      refine rd_split (fun c1 => ?_) (fun c1 => ?_)
      · wtm_at "rd"
        refine rd_ixL (SqL.of e1) rfl ?_
        wtm_at "rd"
        refine rd_ixL (SqL.of e1) rfl ?_
        wtm_at "rd"
        refine rd_setL e1 rfl ?_
        wtm_at "rd"
        exact q _ _ (Int.emod_nonneg _ (by omega)) (Int.emod_lt_of_pos _ m0) (set g1 e1 e2 ⟨ok.xs, ok.pos, Int.ediv_nonneg ok.big (by omega), ok.s0, ok.s1⟩).1
      · wtm_at "rd"
        refine rd_ixL (SqL.of e1) rfl ?_
        wtm_at "rd"
        refine rd_setL e1 rfl ?_
        obtain ⟨g3, e3, e4⟩ := set (pos2 := pos) (big2 := big) (seed2 := (seed * 48271 + 11) % 2147483647) g1 e1 e2 ⟨ok.xs, ok.pos, ok.big, by omega, by omega⟩
        wtm_at "rd"
        refine rd_ixL (SqL.of e3) rfl ?_
        wtm_at "rd"
        exact q _ _ (Int.emod_nonneg _ (by omega)) (Int.emod_lt_of_pos _ m0) g3
end
end Law


/-! the names of a random problem -/
namespace U
open PySem PySem.Spec PyProof.Rows L2
def IsTail (s : Str) : Prop := s.length ≤ 7 ∧ ∀ c ∈ s.cps.toList, 97 ≤ c ∧ c ≤ 122
open SX in theorem tail_join {cs : List Nat} (hl : cs.length ≤ 7) (h : ∀ c ∈ cs, 97 ≤ c ∧ c ≤ 122) : IsTail (Txt.join ("" : Str) (cs.map fun c => ⟨#[c]⟩)) := by
  have e1 : (cs.map fun c => (⟨#[c]⟩ : Str)) = (cs.map fun c => [c]).map S := by
    rw [List.map_map]
    rfl
  have e2 : ∀ cs : List Nat, TL.joinL [] (cs.map fun c => [c]) = cs := by
    intro cs
    induction cs with
    | nil => rfl
    | cons a r ih =>
      cases r with
      | nil => rfl
      | cons b r => 
        show [a] ++ ([] ++ TL.joinL [] ((b :: r).map fun c => [c])) = _
        rw [ih]
        rfl
  have e3 : Txt.join ("" : Str) (cs.map fun c => ⟨#[c]⟩) = S cs := by
    rw [e1, show ("" : Str) = S [] from rfl, join_S, e2]
  rw [e3]
  exact ⟨by rw [S_len]; exact hl, by simpa [S] using h⟩
/-- a name of a random problem: the letter that tells it, in front or behind -/
def WdAt (front : Bool) (shift step : Int) (j : Nat) (w : Str) : Prop := ∃ t : Str, IsTail t ∧ w = if front = true then ⟨#[97 + (((j : Int) * step + shift) % 26).toNat]⟩ ++ t else t ++ ⟨#[97 + (((j : Int) * step + shift) % 26).toNat]⟩
theorem app_list {a b : Str} : (a ++ b).cps.toList = a.cps.toList ++ b.cps.toList := TL.tl_append a b
theorem WdAt.name {front : Bool} {shift step : Int} {j : Nat} {w : Str} (h : WdAt front shift step j w) : IsName w := by
  obtain ⟨t, ⟨tl, tc⟩, rfl⟩ := h
  have hc : 97 ≤ 97 + (((j : Int) * step + shift) % 26).toNat ∧ 97 + (((j : Int) * step + shift) % 26).toNat ≤ 122 := by omega
  generalize 97 + (((j : Int) * step + shift) % 26).toNat = c at hc
  have tl' : t.cps.toList.length ≤ 7 := by simpa [Str.length] using tl
  have len : ∀ z : Str, z.length = z.cps.toList.length := fun z => by simp [Str.length]
  split
  · refine ⟨?_, ?_, fun x hx => ?_⟩
    · rw [len, app_list, List.length_append]; show 1 ≤ 1 + _; omega
    · rw [len, app_list, List.length_append]; show 1 + _ ≤ 8; omega
    · rw [app_list] at hx
      rcases List.mem_append.mp hx with z | z
      · have : x = c := by simpa using z
        rw [this]; exact hc
      · exact tc x z
  · refine ⟨?_, ?_, fun x hx => ?_⟩
    · rw [len, app_list, List.length_append]; show 1 ≤ _ + 1; omega
    · rw [len, app_list, List.length_append]; show _ + 1 ≤ 8; omega
    · rw [app_list] at hx
      rcases List.mem_append.mp hx with z | z
      · exact tc x z
      · have : x = c := by simpa using z
        rw [this]; exact hc
theorem WdAt.inj {front : Bool} {shift step : Int} {j k : Nat} {w : Str} (hs : step = 7 ∨ step = 1 ∨ step = 3 ∨ step = 11) (hj : j < 26) (hk : k < 26) (a : WdAt front shift step j w) (b : WdAt front shift step k w) : j = k := by
  have core : 97 + (((j : Int) * step + shift) % 26).toNat = 97 + (((k : Int) * step + shift) % 26).toNat → j = k := by
    rcases hs with rfl | rfl | rfl | rfl <;> omega
  obtain ⟨t, _, e1⟩ := a
  obtain ⟨u, _, e2⟩ := b
  have e := e1.symm.trans e2
  apply core
  generalize 97 + (((j : Int) * step + shift) % 26).toNat = c at *
  generalize 97 + (((k : Int) * step + shift) % 26).toNat = d at *
  cases front with
  | true =>
    rw [if_pos rfl, if_pos rfl] at e
    have e3 := congrArg (fun z : Str => z.cps.toList) e
    simp only [app_list] at e3
    have : [c] ++ t.cps.toList = [d] ++ u.cps.toList := e3
    injection this
  | false =>
    rw [if_neg Bool.false_ne_true, if_neg Bool.false_ne_true] at e
    have e3 := congrArg (fun z : Str => z.cps.toList) e
    simp only [app_list] at e3
    have e4 : t.cps.toList ++ [c] = u.cps.toList ++ [d] := e3
    have e5 := congrArg List.getLast? e4
    simp only [List.getLast?_append, List.getLast?_singleton, Option.some_or] at e5
    exact Option.some.inj e5
/-- the words so far -/
structure Wds (front : Bool) (shift step : Int) (ws : List Str) : Prop where
  at_ : ∀ j (h : j < ws.length), WdAt front shift step j ws[j]
theorem Wds.nil {front : Bool} {shift step : Int} : Wds front shift step [] := ⟨fun j h => absurd h (Nat.not_lt_zero _)⟩
theorem Wds.snoc {front : Bool} {shift step : Int} {ws : List Str} {w : Str} (h : Wds front shift step ws) (k : WdAt front shift step ws.length w) : Wds front shift step (ws ++ [w]) := ⟨fun j hj => by
  rw [List.length_append, List.length_singleton] at hj
  by_cases z : j < ws.length
  · rw [List.getElem_append_left z]; exact h.at_ j z
  · obtain rfl : j = ws.length := by omega
    rw [List.getElem_append_right (Nat.le_refl _)]
    simpa using k⟩
theorem Wds.names {front : Bool} {shift step : Int} {ws : List Str} (h : Wds front shift step ws) (hs : step = 7 ∨ step = 1 ∨ step = 3 ∨ step = 11) (l : ws.length ≤ 26) : NamesU ws := by
  refine ⟨?_, fun y hy => ?_⟩
  · rw [List.nodup_iff_pairwise_ne, List.pairwise_iff_getElem]
    intro i j hi hj hij e
    have a := h.at_ i hi
    rw [e] at a
    have := WdAt.inj hs (by omega) (by omega) a (h.at_ j hj)
    omega
  · obtain ⟨j, hj, rfl⟩ := List.mem_iff_getElem.mp hy
    exact (h.at_ j hj).name
end U
namespace Law
open PySem PySem.Spec PyProof.Rows L2 U
local macro_rules | `(tactic| wtm_at "rd1") => `(tactic| first
  | with_reducible refine rd_seq ?_
  | ((with_reducible refine rd_var (v := ?vv) ?hv ?_); (case hv => exact rfl))
  | with_reducible refine rd_c ?_
  | with_reducible refine rd_cons ?_
  | with_reducible refine rd_nil ?_
  | with_reducible refine rd_op ?_
  | with_reducible refine rd_asg ?_
  | with_reducible refine rd_name ?_
  | with_reducible refine rd_c1 ?_
  | with_reducible refine rd_cb ?_
  | with_reducible refine rd_test ?_
  | with_reducible refine rd_B ?_
  | with_reducible refine rd_bl ?_
  | with_reducible refine rd_if ?_
  | with_reducible refine rd_ret ?_
  | with_reducible refine rd_drop ?_
  | with_reducible refine rd_next ?_
  | with_reducible refine rd_addI ?_
  | with_reducible refine rd_ltI ?_
  | with_reducible refine rd_eqI ?_
  | with_reducible refine rd_neI ?_
  | with_reducible refine rd_eqS ?_
  | with_reducible refine rd_neS ?_
  | with_reducible refine rd_gtI ?_
  | with_reducible refine rd_geI ?_
  | with_reducible refine rd_leI ?_
  | with_reducible refine rd_ltS ?_
  | with_reducible refine rd_subI ?_
  | ((with_reducible refine rd_modI ?hc ?_); (case hc => first | decide | omega))
  | ((with_reducible refine rd_mulI ?hc ?_); (case hc => first | exact mul_bI | exact .inl (.inr (by decide)) | exact .inl (.inl (by decide)) | exact .inl (.inr (by omega)) | exact .inl (.inl (by omega))))
  | ((with_reducible refine rd_divI ?hc ?_); (case hc => first | decide | omega))
  | ((with_reducible refine rd_powI ?hc ?_); (case hc => exact ⟨by decide, by decide, by decide⟩))
  | with_reducible refine rd_lst ?_
  | with_reducible refine rd_tup ?_
  | ((with_reducible refine rd_sz ?hv ?_); (case hv => exact rfl))
  | with_reducible refine rd_and ?_
  | with_reducible refine rd_or ?_
  | with_reducible refine rd_not ?_
  | with_reducible refine rd_andV ?_
  | with_reducible refine rd_orV ?_
  | with_reducible refine rd_notV ?_
  | with_reducible refine rd_ifE ?_
  | with_reducible refine rd_T ?_
  | with_reducible refine rd_F ?_
  | with_reducible refine rd_chain ?_
  | with_reducible refine rd_is ?_
  | with_reducible refine rd_isNot ?_
  | with_reducible refine rd_absI ?_
  | with_reducible refine rd_maxI ?_
  | with_reducible refine rd_minI ?_
  | with_reducible refine rd_intI ?_
  | with_reducible refine rd_intB ?_
  | with_reducible refine rd_sub ?_
  | with_reducible refine rd_sl ?_
  | with_reducible refine rd_noPart ?_
  | with_reducible refine rd_part ?_
  | with_reducible refine rd_exI ?_
  | with_reducible refine rd_bm ?_
  | with_reducible refine rd_bm0 ?_
  | with_reducible refine rd_un ?_
  | with_reducible refine rd_neg ?_
  | with_reducible refine rd_c2 ?_
  | with_reducible refine rd_retN ?_
  | with_reducible refine rd_break ?_
  | with_reducible refine rd_cont ?_
  | with_reducible refine rd_for ?_
  | with_reducible refine rd_rng1 ?_
  | with_reducible refine rd_rng2 ?_
  | with_reducible refine rd_iList ?_
  | with_reducible refine rd_iTup ?_
  | with_reducible refine rd_iEnum ?_
  | ((with_reducible refine rd_forR ?h0 ?h1 ?_); (case h0 => omega); (case h1 => omega))
  | with_reducible refine rd_lc ?_
  | with_reducible refine rd_gcons ?_
  | with_reducible refine rd_gnil ?_
  | with_reducible refine rd_dget ?_
  | with_reducible refine rd_dput ?_
  | with_reducible refine rd_dnew ?_
  | with_reducible refine rd_dc ?_
  | with_reducible refine rd_iItems ?_
  | with_reducible refine rd_iKeys ?_
  | with_reducible refine rd_din ?_
  | with_reducible refine rd_lc2 ?_
  | with_reducible refine rd_cd ?_
  | with_reducible refine rd_par ?_
  | with_reducible refine rd_two ?_
  | with_reducible refine rd_reprB ?_
  | with_reducible refine rd_ck ?_
  | ((with_reducible refine rd_len ?hl ?_); (case hl => exact rfl))
  | with_reducible refine rd_nT ?_
  | with_reducible refine rd_nF ?_
  | with_reducible refine rd_dnin ?_
  | with_reducible refine rd_isB ?_
  | with_reducible refine rd_isNotB ?_
  | with_reducible refine rd_daug ?_
  | with_reducible refine rd_yesT ?_
  | ((with_reducible refine rd_wp ?hw ?_); (case hw => exact rfl)))
local macro_rules | `(tactic| wtm_at "rd") => `(tactic| repeat wtm_at "rd1")

def spStem : Sp := fun vs H Q _ => ∃ p : Addr, vs = [.ref p] ∧ PoolAt H p ∧ ∀ (t : Str) (H' : Hp), Go p H H' → IsTail t → Q (.str t) H'
theorem rd_join {K : PySem.W.Frag} {H : Hp} {Q : VK} {p : Addr} {cs : List Nat} (hp : SqL K H p ((cs.map fun c => (⟨#[c]⟩ : Str)).map V.str)) (hl : cs.length ≤ 100) (h : Q (.str (Txt.join ("" : Str) (cs.map fun c => ⟨#[c]⟩))) H) :
    ∃ a p', ∃ ys : List Str, V.str ("" : Str) = .str a ∧ [V.ref p] = [.ref p'] ∧ (SqL K H p' (ys.map V.str) ∨ SqT K H p' (ys.map V.str)) ∧ (ys.map (·.length)).sum + ys.length * a.length ≤ 16777216 ∧ Q (.str (Txt.join a ys)) H := by
  refine ⟨_, p, _, rfl, rfl, .inl hp, ?_, h⟩
  have e : ((cs.map fun c => (⟨#[c]⟩ : Str)).map (·.length)).sum = cs.length := by
    clear hp h hl
    induction cs with
    | nil => rfl
    | cons c r ih =>
      rw [List.map_cons, List.map_cons, List.sum_cons, ih, List.length_cons]
      show 1 + r.length = r.length + 1
      omega
  rw [e]
  show cs.length + (cs.map _).length * 0 ≤ 16777216
  omega
theorem rd_m1 {r : V → List V → Hp → VK → Prop} {to te : TE} {σ : L2.St} {H : Hp} {Q : VK} (h : to σ H fun x H1 => (∃ a, x = .str a) ∧ te σ H1 fun y H2 => r x [y] H2 Q) : tM1 r to te σ H Q := h
section
variable {P : Program} {w : World} {K : PySem.W.Frag} {mg : Str → Option Value} {base : Heap}
structure B2a (P : Program) (w : World) (K : PySem.W.Frag) (mg : Str → Option Value) (base : Heap) : Prop where
  _law_draw : Cal P w K mg base CX0 1 "_law_draw" spDraw
theorem ok_stem {f : Addr} {fd : FuncData} (F : Fun K "_law_stem" "_law_stem" s__law_stem f fd) (B : Bt mg) (C : B2a P w K mg base) : FnG P w K mg base CX0 2 f fd ["_law_source"] spStem := by
  refine fnG0 F sc__law_stem (fun vs H Q E h => ?_) (fun cdv A outer s H vs Q E hr h => ?_)
  · obtain ⟨p, rfl, _⟩ := h
    rfl
  · obtain ⟨p, rfl, hp, q⟩ := h
    have nd := sc__law_stem.nd
    refine ⟨_, (pss_one (ps_ret (pe_join pe_str (pe_lc (own := [("_law_k", 1)]) rfl nd (pi_range1 rfl B.range (pa_cons (pe_c C._law_draw hr (by decide) rfl (pa_cons (pv 0) (pa_cons pe_int pa_nil))) pa_nil)) (blkOk_by (own := [("_law_k", 1)]) (N := nN__law_stem) (sc := defScope s__law_stem) (by decide +kernel)) (fun _ _ _ _ _ => (pg_name (i := 1) nd rfl (by first | exact Or.inl rfl | exact Or.inr rfl))) (fun _ _ _ _ _ => pts_nil) (fun _ _ _ _ _ => (pe_ix (kIx K rfl) pe_str (pe_c C._law_draw hr (by decide) rfl (pa_cons (pv 0) (pa_cons pe_int pa_nil))) (fun _ _ => rfl))))))), ?_⟩
    wtm_at "rd"
    refine rd_m1 ?_
    wtm_at "rd"
    refine ⟨⟨_, rfl⟩, ?_⟩
    wtm_at "rd"
    refine use_draw hp (by decide) (by decide) fun r H1 r0 r1 g1 => ?_
    wtm_at "rd"
    intro D fD
    have npD := g1.pool.ne fD
    have fD0 := g1.free _ fD
    refine lcR (fun i H' => ∃ cs : List Nat, cs.length = i ∧ (∀ c ∈ cs, 97 ≤ c ∧ c ≤ 122) ∧ Go p H H' ∧ H' D = some (.lst ((cs.map fun c => (⟨#[c]⟩ : Str)).map V.str))) ⟨[], rfl, (fun c h => nomatch h), g1.new fD, upd_same⟩ ?_ ?_
    · rintro i H' hi ⟨cs, rfl, hc, g, hD⟩
      wtm_at "rd"
      refine use_draw g.pool (by decide) (by decide) fun d H2 d0 d1 g2 => ?_
      refine rd_ixS letters_len (letters_at d0 d1) ?_
      have hD2 := g2.at hD (Ne.symm npD)
      refine rd_acc hD2 (by rw [List.length_map, List.length_map]; omega) ?_
      refine ⟨cs ++ [97 + d.toNat], by rw [List.length_append]; rfl, fun c h => ?_, (g.trans g2).put fD0 npD, ?_⟩
      · rcases List.mem_append.mp h with h | h
        · exact hc c h
        · rw [List.mem_singleton] at h
          omega
      · rw [upd_same, List.map_append, List.map_append]
        rfl
    · rintro H' ⟨cs, hl, hc, g, hD⟩
      refine rd_join (SqL.of hD) (by omega) ?_
      wtm_at "rd"
      exact q _ _ g (tail_join (by omega) hc)
end
end Law

/-! lifts: the plain laws -/
namespace U
open PySem PySem.Spec PyProof.Rows L2
/-- the dict of numbers over ns, in that order -/
abbrev kvF (ns : List Str) (f : Str → Int) : List (Key × V) := ns.map fun n => (Sum.inr n, V.int (f n))
/-! ### neighbours, moves -/
def nbrF (es : List (Str × Str)) (x : Str) : List Str := es.flatMap fun e => (if e.1 = x then [e.2] else []) ++ (if e.2 = x then [e.1] else [])
theorem mem_nbrF {es : List (Str × Str)} {x z : Str} : z ∈ nbrF es x ↔ (x, z) ∈ es ∨ (z, x) ∈ es := by
  unfold nbrF
  rw [List.mem_flatMap]
  constructor
  · rintro ⟨e, he, h⟩
    rcases List.mem_append.mp h with h | h
    · split at h
      · rename_i c
        have : z = e.2 := by simpa using h
        subst this
        subst c
        exact .inl he
      · cases h
    · split at h
      · rename_i c
        have : z = e.1 := by simpa using h
        subst this
        subst c
        exact .inr he
      · cases h
  · rintro (h | h)
    · exact ⟨_, h, by simp⟩
    · exact ⟨_, h, by simp⟩
/-! ### counting -/
/-! ### fitting -/
end U

/-! medians, distances -/
namespace U
open PySem PySem.Spec PyProof.Rows L2
/-! ### distances -/
def ab (x y : Int) : Int := ((x - y).natAbs : Int)
/-- the distance of two over ns -/
def dist (ns : List Str) (f g : Str → Int) : Int := (ns.map fun n => ab (f n) (g n)).sum
def total (ns : List Str) (f : Str → Int) (hs : List (Str → Int)) : Int := (hs.map fun h => dist ns f h).sum
end U

/-! dicts of references, double comprehensions, defaults, repr -/
namespace U
open PySem PySem.Spec PyProof.Rows L2
abbrev kvG (ns : List Str) (F : Str → V) : List (Key × V) := ns.map fun n => (Sum.inr n, F n)
/-! f(e, ..) where defaults fill the rest -/
def tCD (sp : Sp) (dvs : List V) (E : XK) (t : TA) : TE := fun σ H Q => t σ H fun vs H1 => sp (vs ++ dvs) H1 Q E
/-! two fors in a comprehension -/
def In1 (J1 : It) (g1 : TG) (tt1 : TT) (te : TE) (vs1 : List Nat) (σ2 : L2.St) (D : Addr) (H4 : Hp) (R : Hp → Prop) : Prop := ∃ W1 : Nat → Nat → Hp → Prop, (∃ m, W1 0 m H4) ∧ ∀ j k H, W1 j k H →
  (J1.stop j H ∧ R H) ∨ (J1.go j H ∧ ∃ Nx1 : Hp → Prop, (∀ H', Nx1 H' → ∃ k', k' < k ∧ W1 (j + 1) k' H') ∧ ∀ x H', J1.yld j H x H' → g1 x (wipe σ2 vs1) H' fun σ3 H5 => wipe σ3 vs1 = wipe σ2 vs1 ∧ tt1 σ3 H5 fun b H6 =>
    if b = true then te σ3 H6 fun y H7 => ∃ acc, H7 D = some (.lst acc) ∧ acc.length < sizeLine ∧ Nx1 (upd H7 D (.lst (acc ++ [y]))) else Nx1 H6)
def Lc2B (J : It) (g : TG) (tt : TT) (wi1 : TI) (g1 : TG) (tt1 : TT) (te : TE) (vs vs1 : List Nat) (σ : L2.St) (H1 : Hp) (D : Addr) (Qd : Hp → Prop) : Prop := ∃ W : Nat → Nat → Hp → Prop, (∃ m, W 0 m (upd H1 D (.lst []))) ∧ ∀ i m H, W i m H →
  (J.stop i H ∧ Qd H) ∨ (J.go i H ∧ ∃ Nx : Hp → Prop, (∀ H', Nx H' → ∃ m', m' < m ∧ W (i + 1) m' H') ∧ ∀ x H', J.yld i H x H' → g x (wipe σ vs) H' fun σ2 H2 => wipe σ2 vs = wipe σ vs ∧ tt σ2 H2 fun b H3 =>
    if b = true then wi1 σ2 H3 fun J1 H4 => In1 J1 g1 tt1 te vs1 σ2 D H4 Nx else Nx H3)
section
variable {σ : L2.St} {H : Hp} {Q : VK} {te : TE} {g g1 : TG} {wi wi1 : TI} {tt tt1 : TT} {vs vs1 : List Nat} {L : Addr} {Qd R : Hp → Prop} {J J1 : It} {n : Nat} {G : Hp → Prop} {Y : Nat → Hp → V → Hp → Prop} {K : PySem.W.Frag}
theorem rd_lc2 (h : wi σ H fun J H1 => ∀ D, H1 D = none → Lc2B J g tt wi1 g1 tt1 te vs vs1 σ H1 D fun H2 => Q (.ref D) H2) : tLc2 wi g tt wi1 g1 tt1 te vs vs1 σ H Q := h
theorem rd_cd {sp : Sp} {dvs : List V} {E : XK} {t : TA} (h : t σ H fun vs H1 => sp (vs ++ dvs) H1 Q E) : tCD sp dvs E t σ H Q := h
end
/-! repr -/
section
variable {X : Cx} {pins : List (Addr × Obj)} {σ : L2.St} {H : Hp} {s : Shared}
def encK : Key → PyData
  | .inl i => .int i
  | .inr x => .str x
theorem kv_pairs {h : Heap} {f : Str → Int} : ∀ {ns : List Str} {vs : List (Key × Value)}, KV (kvF ns f) vs → PyProof.V.PairsRead h encK vs (ns.map fun n => (.str n, .int (f n))) []
  | [], vs, r => by
    cases r
    exact .nil
  | n :: ns, vs, r => by
    cases r with
    | @cons p q ps qs hpq t =>
      obtain ⟨h1, h2⟩ := hpq
      obtain ⟨k, v⟩ := q
      have h1' : (Sum.inr n : Key) = k := h1
      subst h1'
      obtain ⟨tk, rfl⟩ : ∃ t, v = Value.int (f n) t := h2
      exact .cons (k := .inr n) (as := []) (bs := []) (Reads.int _ _) (kv_pairs t)
theorem key_reads {h : Heap} {P : Program} {w : World} : ∀ (k : Key) (key : Value), (mixKind P w).is k key = true → Reads h key (encK k) [] := by
  intro k key hk
  rcases keyIs_shape hk with ⟨i, t, rfl, rfl⟩ | ⟨x, t, rfl, rfl⟩
  · exact Reads.int _ _
  · exact Reads.str _ _
end
end U
namespace U
open PySem PySem.Spec PyProof.Rows L2
/-! name = {k: v for ..}, the name a local -/
section
variable {X : Cx}
end
end U

/-! repr of a list of data, dicts among it -/
namespace U
open PySem PySem.Spec PyProof.Rows L2
mutual
def tupOnly : PyData → Bool
  | .none | .bool _ | .int _ | .str _ => true
  | .tuple xs => tupOnlyAll xs
  | .list _ | .dict _ => false
def tupOnlyAll : List PyData → Bool
  | [] => true
  | x :: xs => tupOnly x && tupOnlyAll xs
end
mutual
theorem reads_nil {h : Heap} : ∀ (d : PyData) (v : Value) (as : List Addr), Reads h v d as → tupOnly d = true → as = []
  | .none, _, _, r, _ => by cases r; rfl
  | .bool _, _, _, r, _ => by cases r; rfl
  | .int _, _, _, r, _ => by cases r; rfl
  | .str _, _, _, r, _ => by cases r; rfl
  | .tuple xs, _, _, r, t => by
    cases r with
    | tuple h1 h2 h3 h4 => exact readsAll_nil xs _ _ h4 (by simpa [tupOnly] using t)
  | .list _, _, _, _, t => by simp [tupOnly] at t
  | .dict _, _, _, _, t => by simp [tupOnly] at t
theorem readsAll_nil {h : Heap} : ∀ (ds : List PyData) (vs : List Value) (as : List Addr), ReadsAll h vs ds as → tupOnlyAll ds = true → as = []
  | [], _, _, r, _ => by cases r; rfl
  | d :: ds, _, _, r, t => by
    rw [tupOnlyAll, Bool.and_eq_true] at t
    cases r with
    | cons r1 r2 => rw [reads_nil d _ _ r1 t.1, readsAll_nil ds _ _ r2 t.2]; rfl
end
/-- an item of the list: data of tuples, or a dict of numbers -/
inductive Di (K : PySem.W.Frag) (H : Hp) : V → PyData → Prop
  | of {v : V} {d : PyData} : Dp K H v d → tupOnly d = true → Di K H v d
  | dct {a : Addr} {ns : List Str} {f : Str → Int} : H a = some (.dK (kvF ns f)) → Di K H (.ref a) (.dict (ns.map fun n => (.str n, .int (f n))))
inductive DiAll (K : PySem.W.Frag) (H : Hp) : List V → List PyData → Prop
  | nil : DiAll K H [] []
  | cons {v : V} {vs : List V} {d : PyData} {ds : List PyData} : Di K H v d → DiAll K H vs ds → DiAll K H (v :: vs) (d :: ds)
structure Shows (d : PyData) : Prop where
  sh : d.showable = true
  lv : d.leavesShort 13 = true
  bk : d.bulk ≤ 2 ^ 20
  dp : d.depth ≤ 50
def rReprL (K : PySem.W.Frag) : List V → Hp → VK → Prop := fun xs H Q => match xs with
  | [.ref a] => (∃ xs ds, H a = some (.lst xs) ∧ (a == sysModules) = false ∧ DiAll K H xs ds ∧ Shows (.list ds) ∧ Q (.str (PyData.list ds).shown) H) ∨
      ∃ d, Dp K H (.ref a) d ∧ d.hasDict = false ∧ Shows d ∧ Q (.str d.shown) H
  | _ => False
section
variable {X : Cx} {pins : List (Addr × Obj)} {σ : L2.St} {H : Hp} {s : Shared}
theorem Di.reads (I : Inv X pins σ H s) {v : V} {d : PyData} {u : Value} (h : Di X.K H v d) (r : RelV v u) : ∃ as, Reads s.heap u d as ∧ sysModules ∉ as := by
  cases h with
  | of h t =>
    obtain ⟨as, q⟩ := Dp.reads I _ _ _ h r
    have := reads_nil _ _ _ q t
    subst this
    exact ⟨_, q, List.not_mem_nil⟩
  | dct h =>
    cases r
    obtain ⟨_, hd, vs, rel, dd⟩ := dk_of I.hok h
    refine ⟨_, PyProof.V.reads_dictOf key_reads dd (kv_pairs rel), ?_⟩
    intro z
    rw [List.mem_singleton] at z
    rw [z] at hd
    simp at hd
theorem DiAll.reads (I : Inv X pins σ H s) : ∀ {vs : List V} {ds : List PyData} {us : List Value}, DiAll X.K H vs ds → Vals vs us → ∃ as, ReadsAll s.heap us ds as ∧ sysModules ∉ as
  | [], _, _, h, r => by
    cases h
    cases r
    exact ⟨_, .nil, List.not_mem_nil⟩
  | v :: vs, _, _, h, r => by
    cases h with
    | cons h1 h2 =>
      cases r with
      | cons r1 r2 =>
        obtain ⟨as, q1, n1⟩ := h1.reads I r1
        obtain ⟨bs, q2, n2⟩ := DiAll.reads I h2 r2
        exact ⟨_, .cons q1 q2, fun z => (List.mem_append.mp z).elim n1 n2⟩
theorem kReprL (K : PySem.W.Frag) (hK : X.K = K) (hg : X.A.guards = some []) (hu : X.A.units + 64 < cLine) : CallR X (.builtin "repr") (rReprL K) := by
  subst hK
  intro pins s σ H xs us Q I r h
  match xs, h with
  | [.ref a], h =>
    cases r with
    | cons r rr =>
      cases rr
      cases r
      have fin : ∀ (d : PyData) (as : List Addr), Reads s.heap (.ref a) d as → (d.hasDict = true → sysModules ∉ as) → Shows d → Q (.str d.shown) H → wpAny (model X.prog X.w) X.A (call (.builtin "repr") [.ref a]) (EP X pins σ Q) X.xe s := by
        intro d as rd hsm S q
        have hdp := S.dp
        refine PySem.repr_of_reads' rd S.sh hsm hg (by omega) (fun b o e => e) (fun h' u tk hk => ⟨.str d.shown, H, I.kept (t' := tk) hk, ⟨_, rfl⟩, q⟩) (PyData.shown_fits_bulk (by decide) (by decide) S.lv S.bk)
      rcases h with ⟨xs, ds, ha, hn, hd, S, q⟩ | ⟨d, hd, hx, S, q⟩
      · obtain ⟨its, rv, ⟨o, n, ho, hc, _, hdat⟩, _⟩ := I.list (SqL.of ha)
        obtain ⟨as, ra, na⟩ := hd.reads I rv
        refine fin _ _ (Reads.list ho hc hdat (by simpa using ra)) (fun _ z => ?_) S q
        rcases List.mem_cons.mp z with z | z
        · rw [← z] at hn
          simp at hn
        · exact na z
      · obtain ⟨as, ra⟩ := Dp.reads I d _ _ hd rfl
        exact fin d as ra (fun z => by rw [hx] at z; cases z) S q
end
/-! the shapes -/
theorem IsName.lv {z : Str} (h : IsName z) : (PyData.str z).leavesShort 13 = true := by
  rw [PyData.leavesShort, List.all_eq_true]
  intro x hx
  have := h.ch x hx
  rw [decide_eq_true_eq]
  omega
theorem IsName.bk {z : Str} (h : IsName z) : (PyData.str z).bulk ≤ 8 := by
  rw [PyData.bulk]
  exact h.hi
theorem int3_lv {i : Int} (h0 : 0 ≤ i) (h1 : i < 3) : (PyData.int i).leavesShort 13 = true ∧ (PyData.int i).showable = true := by
  have : i = 0 ∨ i = 1 ∨ i = 2 := by omega
  rcases this with rfl | rfl | rfl <;> exact ⟨by decide +kernel, by decide +kernel⟩
end U

/-! paths found level by level: the plain law -/
namespace U
open PySem PySem.Spec PyProof.Rows L2
/-- nodes found, each with its path, in the order in which they are found -/
abbrev keysF (kp : List (Str × List Str)) : List Str := kp.map (·.1)
def addF (ok : Str → Str → Bool) (c : Str × List Str) (kp : List (Str × List Str)) (o : Str) : List (Str × List Str) := if o ∉ keysF kp ∧ ok c.1 o = true then kp ++ [(o, c.2 ++ [o])] else kp
def addsF (ok : Str → Str → Bool) (c : Str × List Str) (os : List Str) (kp : List (Str × List Str)) : List (Str × List Str) := os.foldl (addF ok c) kp
def stF (adj : Str → List Str) (ok : Str → Str → Bool) (root : Str) : Nat → List (Str × List Str)
  | 0 => [(root, [root])]
  | i + 1 => match (stF adj ok root i)[i]? with
    | none => stF adj ok root i
    | some c => addsF ok c (adj c.1) (stF adj ok root i)
def pathsF (adj : Str → List Str) (ok : Str → Str → Bool) (root : Str) : List (Str × List Str) := stF adj ok root 1000
inductive Reach (adj : Str → List Str) (ok : Str → Str → Bool) (root : Str) : Str → Prop
  | refl : Reach adj ok root root
  | step {a b : Str} : Reach adj ok root a → b ∈ adj a → ok a b = true → Reach adj ok root b
theorem Reach.trans {adj : Str → List Str} {ok : Str → Str → Bool} {a b c : Str} (h : Reach adj ok a b) (k : Reach adj ok b c) : Reach adj ok a c := by
  induction k with
  | refl => exact h
  | step _ m o ih => exact .step ih m o
section
variable {adj : Str → List Str} {ok : Str → Str → Bool} {root : Str}
theorem addF_cases (c : Str × List Str) (kp : List (Str × List Str)) (o : Str) : (addF ok c kp o = kp ∧ (o ∈ keysF kp ∨ ok c.1 o = false)) ∨ (addF ok c kp o = kp ++ [(o, c.2 ++ [o])] ∧ o ∉ keysF kp ∧ ok c.1 o = true) := by
  unfold addF
  by_cases h : o ∉ keysF kp ∧ ok c.1 o = true
  · rw [if_pos h]
    exact .inr ⟨rfl, h⟩
  · rw [if_neg h]
    refine .inl ⟨rfl, ?_⟩
    by_cases m : o ∈ keysF kp
    · exact .inl m
    · refine .inr ?_
      cases e : ok c.1 o with
      | false => rfl
      | true => exact (h ⟨m, e⟩).elim
theorem addsF_pre {c : Str × List Str} : ∀ {os : List Str} {kp : List (Str × List Str)}, ∃ r, addsF ok c os kp = kp ++ r
  | [], kp => ⟨[], (List.append_nil kp).symm⟩
  | o :: os, kp => by
    obtain ⟨r, hr⟩ := addsF_pre (c := c) (os := os) (kp := addF ok c kp o)
    have e : addsF ok c (o :: os) kp = addsF ok c os (addF ok c kp o) := rfl
    rw [e, hr]
    rcases addF_cases c kp o with ⟨h, _⟩ | ⟨h, _⟩
    · rw [h]
      exact ⟨r, rfl⟩
    · rw [h, List.append_assoc]
      exact ⟨_, rfl⟩
/-- what is added: each a neighbour that may be gone to -/
theorem addsF_mem {c : Str × List Str} : ∀ {os : List Str} {kp : List (Str × List Str)} {x : Str × List Str}, x ∈ addsF ok c os kp → x ∈ kp ∨ (x.1 ∈ os ∧ ok c.1 x.1 = true ∧ x.2 = c.2 ++ [x.1])
  | [], kp, x, h => .inl h
  | o :: os, kp, x, h => by
    have e : addsF ok c (o :: os) kp = addsF ok c os (addF ok c kp o) := rfl
    rw [e] at h
    rcases addsF_mem h with h | ⟨h1, h2, h3⟩
    · rcases addF_cases c kp o with ⟨e, _⟩ | ⟨e, _, k⟩
      · rw [e] at h
        exact .inl h
      · rw [e] at h
        rcases List.mem_append.mp h with h | h
        · exact .inl h
        · rw [List.mem_singleton] at h
          subst h
          exact .inr ⟨List.mem_cons_self, k, rfl⟩
    · exact .inr ⟨List.mem_cons_of_mem _ h1, h2, h3⟩
theorem addsF_all {c : Str × List Str} : ∀ {os : List Str} {kp : List (Str × List Str)} {o : Str}, o ∈ os → ok c.1 o = true → o ∈ keysF (addsF ok c os kp)
  | o' :: os, kp, o, h, k => by
    have e : addsF ok c (o' :: os) kp = addsF ok c os (addF ok c kp o') := rfl
    rw [e]
    rcases List.mem_cons.mp h with rfl | h
    · obtain ⟨r, hr⟩ := addsF_pre (ok := ok) (c := c) (os := os) (kp := addF ok c kp o)
      rw [hr, keysF, List.map_append]
      refine List.mem_append_left _ ?_
      rcases addF_cases c kp o with ⟨e, m⟩ | ⟨e, _⟩
      · rw [e]
        rcases m with m | m
        · exact m
        · rw [k] at m
          cases m
      · rw [e, List.map_append]
        exact List.mem_append_right _ List.mem_cons_self
    · exact addsF_all h k
theorem addF_nodup {c : Str × List Str} {kp : List (Str × List Str)} {o : Str} (h : (keysF kp).Nodup) : (keysF (addF ok c kp o)).Nodup := by
  rcases addF_cases c kp o with ⟨e, _⟩ | ⟨e, m, _⟩
  · rw [e]
    exact h
  · rw [e, keysF, List.map_append, List.nodup_append]
    refine ⟨h, by simp, fun a ha b hb z => ?_⟩
    have : b = o := by simpa using hb
    rw [z, this] at ha
    exact m ha
theorem addsF_nodup {c : Str × List Str} : ∀ {os : List Str} {kp : List (Str × List Str)}, (keysF kp).Nodup → (keysF (addsF ok c os kp)).Nodup
  | [], _, h => h
  | o :: os, kp, h => addsF_nodup (os := os) (addF_nodup h)
theorem stF_at {i : Nat} {c : Str × List Str} (h : (stF adj ok root i)[i]? = some c) : stF adj ok root (i + 1) = addsF ok c (adj c.1) (stF adj ok root i) := by
  rw [stF, h]
theorem stF_end {i : Nat} (h : (stF adj ok root i)[i]? = none) : stF adj ok root (i + 1) = stF adj ok root i := by
  rw [stF, h]
theorem stF_pre (i : Nat) : ∃ r, stF adj ok root (i + 1) = stF adj ok root i ++ r := by
  cases h : (stF adj ok root i)[i]? with
  | none => rw [stF_end h]; exact ⟨[], (List.append_nil _).symm⟩
  | some c => rw [stF_at h]; exact addsF_pre
theorem stF_pre' (i : Nat) : ∀ k, ∃ r, stF adj ok root (i + k) = stF adj ok root i ++ r
  | 0 => ⟨[], (List.append_nil _).symm⟩
  | k + 1 => by
    obtain ⟨r, hr⟩ := stF_pre' i k
    obtain ⟨r2, h2⟩ := stF_pre (adj := adj) (ok := ok) (root := root) (i + k)
    exact ⟨r ++ r2, by rw [← Nat.add_assoc, h2, hr, List.append_assoc]⟩
theorem stF_nodup : ∀ i, (keysF (stF adj ok root i)).Nodup
  | 0 => by simp [stF]
  | i + 1 => by
    cases h : (stF adj ok root i)[i]? with
    | none => rw [stF_end h]; exact stF_nodup i
    | some c => rw [stF_at h]; exact addsF_nodup (stF_nodup i)
theorem stF_root (i : Nat) : ∃ r, stF adj ok root i = (root, [root]) :: r := by
  obtain ⟨r, h⟩ := stF_pre' (adj := adj) (ok := ok) (root := root) 0 i
  rw [Nat.zero_add] at h
  exact ⟨r, h⟩
/-- a path: from the first to the last, each step to a neighbour that may be gone to -/
inductive PathTo (adj : Str → List Str) (ok : Str → Str → Bool) (root : Str) : Str → List Str → Prop
  | one : PathTo adj ok root root [root]
  | snoc {a b : Str} {p : List Str} : PathTo adj ok root a p → b ∈ adj a → ok a b = true → PathTo adj ok root b (p ++ [b])
theorem PathTo.reach {a : Str} {p : List Str} (h : PathTo adj ok root a p) : Reach adj ok root a := by
  induction h with
  | one => exact .refl
  | snoc _ m o ih => exact .step ih m o
theorem stF_path : ∀ i x, x ∈ stF adj ok root i → PathTo adj ok root x.1 x.2
  | 0, x, h => by
    rw [stF, List.mem_singleton] at h
    subst h
    exact .one
  | i + 1, x, h => by
    cases e : (stF adj ok root i)[i]? with
    | none => rw [stF_end e] at h; exact stF_path i x h
    | some c =>
      rw [stF_at e] at h
      rcases addsF_mem h with h | ⟨h1, h2, h3⟩
      · exact stF_path i x h
      · have := stF_path i c (List.mem_of_getElem? e)
        rw [h3]
        exact .snoc this h1 h2
theorem stF_reach {i : Nat} {x : Str} (h : x ∈ keysF (stF adj ok root i)) : Reach adj ok root x := by
  obtain ⟨y, hy, rfl⟩ := List.mem_map.mp h
  exact (stF_path i y hy).reach
/-- those whose turn has been have their neighbours found -/
theorem stF_closed : ∀ (i j : Nat) (c : Str × List Str), j < i → (stF adj ok root i)[j]? = some c → ∀ b ∈ adj c.1, ok c.1 b = true → b ∈ keysF (stF adj ok root i)
  | i + 1, j, c, hj, hc, b, hb, hk => by
    cases e : (stF adj ok root i)[i]? with
    | none =>
      rw [stF_end e] at hc ⊢
      have : j < (stF adj ok root i).length := (List.getElem?_eq_some_iff.mp hc).1
      have := List.getElem?_eq_none_iff.mp e
      exact stF_closed i j c (by omega) hc b hb hk
    | some d =>
      have li : i < (stF adj ok root i).length := (List.getElem?_eq_some_iff.mp e).1
      obtain ⟨r, hr⟩ := stF_pre (adj := adj) (ok := ok) (root := root) i
      have hc2 : (stF adj ok root i)[j]? = some c := by
        rw [hr, List.getElem?_append_left (by omega)] at hc
        exact hc
      by_cases q : j < i
      · have := stF_closed i j c q hc2 b hb hk
        rw [hr, keysF, List.map_append]
        exact List.mem_append_left _ this
      · have : j = i := by omega
        subst this
        rw [hc2] at e
        cases e
        rw [stF_at hc2]
        exact addsF_all hb hk
theorem stF_all {i : Nat} (h : (stF adj ok root i).length ≤ i) {x : Str} (r : Reach adj ok root x) : x ∈ keysF (stF adj ok root i) := by
  induction r with
  | refl =>
    obtain ⟨r, e⟩ := stF_root (adj := adj) (ok := ok) (root := root) i
    rw [e]
    exact List.mem_cons_self
  | step _ m o ih =>
    obtain ⟨y, hy, rfl⟩ := List.mem_map.mp ih
    obtain ⟨j, hj, e⟩ := List.mem_iff_getElem.mp hy
    exact stF_closed i j y (by omega) (by rw [List.getElem?_eq_getElem hj, e]) _ m o
/-- nodes of ns alone -/
theorem reach_mem {ns : List Str} (cl : ∀ x ∈ ns, ∀ y ∈ adj x, y ∈ ns) (h0 : root ∈ ns) {x : Str} (r : Reach adj ok root x) : x ∈ ns := by
  induction r with
  | refl => exact h0
  | step _ m _ ih => exact cl _ ih _ m
theorem nodup_len {α : Type} [DecidableEq α] : ∀ {xs ys : List α}, xs.Nodup → (∀ x ∈ xs, x ∈ ys) → xs.length ≤ ys.length
  | [], _, _, _ => Nat.zero_le _
  | x :: xs, ys, nd, h => by
    rw [List.nodup_cons] at nd
    have hx := h x List.mem_cons_self
    have := nodup_len (xs := xs) (ys := ys.erase x) nd.2 fun y hy => by
      refine (List.mem_erase_of_ne ?_).mpr (h y (List.mem_cons_of_mem _ hy))
      rintro rfl
      exact nd.1 hy
    rw [List.length_erase_of_mem hx] at this
    have : 0 < ys.length := List.length_pos_of_mem hx
    rw [List.length_cons]
    omega
theorem stF_len {ns : List Str} (cl : ∀ x ∈ ns, ∀ y ∈ adj x, y ∈ ns) (h0 : root ∈ ns) (i : Nat) : (stF adj ok root i).length ≤ ns.length := by
  have := nodup_len (stF_nodup (adj := adj) (ok := ok) (root := root) i) (ys := ns) fun x hx => reach_mem cl h0 (stF_reach hx)
  rw [List.length_map] at this
  exact this
end

/-! ### neighbours in order -/
def sortS (xs : List Str) : List Str := xs.mergeSort fun a b => !decide (sLt b a)
theorem sortS_perm (xs : List Str) : (sortS xs).Perm xs := List.mergeSort_perm xs _
theorem nlt_trans {a b c : Str} (h : ¬ sLt b a) (k : ¬ sLt c b) : ¬ sLt c a := by
  intro z
  rcases sLt_tri a b with t | t | t
  · exact k (sLt_trans z t)
  · subst t
    exact k z
  · exact h t
def nbS (es : List (Str × Str)) (x : Str) : List Str := sortS (nbrF es x)
theorem nbS_mem {es : List (Str × Str)} {x z : Str} : z ∈ nbS es x ↔ (x, z) ∈ es ∨ (z, x) ∈ es := by
  unfold nbS
  rw [(sortS_perm _).mem_iff]
  exact mem_nbrF
theorem nbS_in {ns : List Str} {es : List (Str × Str)} (ok : GrOk ns es) {x y : Str} (h : y ∈ nbS es x) : y ∈ ns := by
  rcases nbS_mem.mp h with h | h
  · exact (ok.mem _ h).2
  · exact (ok.mem _ h).1
end U

/-! d.update(e); lists of texts compared; the last but one -/
namespace U
open PySem PySem.Spec PyProof.Rows L2
/-! lists of texts compared -/
section
variable {K : PySem.W.Frag} {H : Hp} {Q : VK} {p q : Addr} {x y : V} {d : PyData} {xs ys : List Str}
/-- the same data twice -/
theorem rd_neSame (hp : Dp K H (.ref p) d) (hq : Dp K H (.ref q) d) (sh : SeqAt.shaped d = true) (h : Q (.bl false) H) : rNeU K (.ref p) (.ref q) H Q := by
  refine ⟨_, _, hp, hq, sh, sh, ?_⟩
  rw [SeqAt.eqv_refl _ (SeqAt.canLay_of_shaped sh)]
  exact h
end
end U

/-! exceptions that outlive their handler; own classes over own classes -/
namespace U
open PySem PySem.Spec PyProof.Rows L2
/-- at a: an exception of the class cls, its dict at d -/
def exk (a : Addr) (cls : Value) (d : Option Addr) : HO := .ext fun h => ∃ oe vs, h.get? a = some oe ∧ Zc cls d oe ∧ oe.data = .fields vs
theorem exk_ok {P : Program} {w : World} {H : Hp} {h : Heap} {a : Addr} {cls : Value} {d : Option Addr} {oe : Obj} {vs : Array Value} (e : h.get? a = some oe) (z : Zc cls d oe) (f : oe.data = .fields vs) : ObjOk P w H h a (exk a cls d) := by
  refine ⟨⟨oe, vs, e, z, f⟩, ⟨_, e⟩, fun h1 h2 t k => ?_⟩
  obtain ⟨o2, v2, e2, z2, f2⟩ := t
  exact ⟨o2, v2, k _ e2, z2, f2⟩
theorem exk_at {P : Program} {w : World} {H : Hp} {h : Heap} {a : Addr} {cls : Value} {d : Option Addr} (hok : HOk P w H h) (e : H a = some (exk a cls d)) : ∃ oe vs, h.get? a = some oe ∧ Zc cls d oe ∧ oe.data = .fields vs := by
  have t : ObjOk P w H h a (.ext fun h => ∃ oe vs, h.get? a = some oe ∧ Zc cls d oe ∧ oe.data = .fields vs) := hok a _ e
  exact t.1
section
variable {X : Cx} {pins : List (Addr × Obj)} {σ : L2.St} {H : Hp} {sI s' : Shared} {B : Heap} {a : Addr} {cls : Value} {d : Option Addr} {oe : Obj} {vs : Array Value}
/-- back on the ground, the exception tracked -/
theorem landed_k (I : Inv X pins σ H sI) (nb : ∀ b o, sI.heap.get? b = some o → b ∉ frs X.stack → B.get? b = some o) (st : B.StaysIn s'.heap) (up : sI.heap.UpToSlots s'.heap) (os : s'.os = sI.os) (ag : AllBare s'.gens)
    (hB : B.get? a = none) (nfr : a ∉ frs X.stack) (na : H a = none) (he : s'.heap.get? a = some oe) (hz : Zc cls d oe) (hd : oe.data = .fields vs) : Inv X pins σ (upd H a (exk a cls d)) s' := by
  have fr : ∀ b ∈ frs X.stack, ∀ o, sI.heap.get? b = some o → ∃ sl, s'.heap.get? b = some { o with slots := sl } := by
    intro b hb o e
    obtain ⟨_, o1, e1, h1⟩ := I.stack.mem hb
    rw [e] at e1
    cases e1
    exact up b o e h1
  have sIa : ∀ o, sI.heap.get? a ≠ some o := fun o e => by
    rw [nb a o e nfr] at hB
    cases hB
  have ok1 : HOk X.prog X.w H s'.heap := (I.inGround nb).kept st
  have ok2 : HOk X.prog X.w (upd H a (exk a cls d)) s'.heap := by
    intro b o e
    by_cases hb : b = a
    · subst hb
      rw [upd_same] at e
      cases e
      exact exk_ok he hz hd
    · rw [upd_ne hb] at e
      exact (ok1 b o e).stay (fun c v _ q => q) (fun c q => at_upd (ne_of_none q na) q) fun c xs q => at_upd (ne_of_none q na) q
  have J := I.call (ch := []) (h' := s'.heap) (g' := s'.gens) (t' := s'.toks) (d' := s'.drawn) (H' := upd H a (exk a cls d))
    { keep := fun b o e _ hb _ => st b o (nb b o e hb)
      slot := fun b o e _ hb _ => fr b hb o e
      free := fun b o e n _ => no_upd (fun z => sIa o (by rw [← z]; exact e)) n
      there := fun b o e _ => by
        by_cases hb : b ∈ frs X.stack
        · obtain ⟨sl, q⟩ := fr b hb o e
          exact ⟨_, q⟩
        · exact ⟨o, st b o (nb b o e hb)⟩
      tups := fun _ _ e => at_upd (ne_of_none e na) e
      frzs := fun _ _ _ e => at_upd (ne_of_none e na) e
      tbls := fun b ps e => ⟨#[], by rw [at_upd (ne_of_none e na) e]; simp⟩ } ok2 ag (fun _ z => nomatch z)
  obtain ⟨b1, b2, b3, b4, b5⟩ := s'
  have e5 : b5 = sI.os := os
  subst e5
  exact J
end
/-- the wish of 'except x as n', the exception tracked: slot i is n's -/
def wKeep (K : PySem.W.Frag) (c : Value) (i : Nat) (ts : TS) (Wout : WX) (D : Ends) : WX := fun cls d σ H =>
  ∃ b, PySem.W.exmOne K cls c = some b ∧ (b = false → Wout cls d σ H) ∧
    (b = true → ∀ a, H a = none → ts { nx := fun σ1 H1 => D.nx (σ1.set i none) H1, rt := D.rt, bk := fun σ1 H1 => D.bk (σ1.set i none) H1, ct := fun σ1 H1 => D.ct (σ1.set i none) H1 } (σ.set i (some (.ref a))) (upd H a (exk a cls d)))
section
variable {X : Cx} {x n : Str} {c : Value} {i : Nat} {body suite : List Stmt} {b₀ : Stmt} {np pos pos' : Pos} {tb : WX → TS} {ts : TS} {Wout : WX}
theorem ps_try_keep (hs : X.stack = X.env :: X.outer) (hf : X.env.frame = some X.env.locals) (hN : X.N.Nodup) (hi : X.N[i]? = some n) (hln : X.env.kindOf n = some .local) (hc : L2.Names X x c) (tk : Takes X Wout)
    (hb : ∀ (W : WX) (pn : List (Addr × Obj)) (xe : Value → Shared → Prop), Takes (X.tr pn xe) W → PassesOwn (model X.prog X.w) X.A X.env xe → PSs (X.tr pn xe) body (tb W))
    (hsu : ∀ (a : Addr) (pn : List (Addr × Obj)), PSs (X.suite a pn) (b₀ :: suite) ts) :
    PS X (.Try body [.ExceptHandler (some (.Name x np)) (some n) (b₀ :: suite) pos'] [] [] pos) (fun D σ H => tb (wKeep X.K c i ts Wout D) D σ H) := by
  refine ⟨fun pins s σ H D I want => ?_⟩
  have okX := I.ok
  have frX : X.A.frames = some (X.env :: X.outer) := by rw [okX.frames, hs]
  refine wpAny_Try_except ?_
  have run := (hb (wKeep X.K c i ts Wout D) (X.pn ++ pins) (fun e t1 => wpAny (model X.prog X.w) X.A (noteFrame e X.env) (fun _ t2 => wpAny (model X.prog X.w) X.A (setFlight e none) (fun _ t3 =>
    wpAny (model X.prog X.w) X.A (handleBy e X.env [.ExceptHandler (some (.Name x np)) (some n) (b₀ :: suite) pos']) (SP X pins D) X.xe t3) X.xe t2) X.xe t1) ?_ PassesOwn.looking).run [] s σ H D (I.toTry _) want
  · refine wpAny_mono run (fun f t1 h => ?_) fun _ _ z => z
    cases f with
    | next =>
      obtain ⟨σ1, H1, J, q⟩ := h
      exact wpAny_execs_nil ⟨σ1, H1, J.ofTry okX, q⟩
    | brk =>
      obtain ⟨σ1, H1, J, q⟩ := h
      exact ⟨σ1, H1, J.ofTry okX, q⟩
    | cont =>
      obtain ⟨σ1, H1, J, q⟩ := h
      exact ⟨σ1, H1, J.ofTry okX, q⟩
    | ret v =>
      obtain ⟨v1, σ1, H1, J, r, q⟩ := h
      exact ⟨v1, σ1, H1, J.ofTry okX, r, q⟩
  · intro u t0 xx
    obtain ⟨a, B, sI, pins1, σ1, H1, cls, d, rfl, J1, nb, up, sky, na, os, ag, b, hb1, hno, hyes⟩ := xx
    have J : Inv X pins σ1 H1 sI := J1.ofTry okX
    have sky1 : Sky B (X.env :: X.outer) a (Zc cls d) X.env.locals t0.heap := by rw [← hs]; exact sky
    show wpAny (model X.prog X.w) X.A (noteFrame (.ref a) X.env) _ _ _
    refine Sky.land Zc.steady frX hf sky1 fun h3 fl3 up3 => ?_
    have J3 : Inv X pins σ1 H1 { t0 with heap := h3 } := J.landed nb fl3.1 (up.trans up3) os ag
    obtain ⟨oe3, vs3, he3, hz3, hd3⟩ := fl3.there
    have off : ∀ {h : Heap} {o : Obj} {vs : Array Value}, h.FunFrames B (X.env :: X.outer) → h.get? a = some o → o.data = .fields vs → a ∉ frs (X.env :: X.outer) := by
      intro h o vs ff e dd hm
      obtain ⟨_, o1, e1, hnf⟩ := ff.mem hm
      rw [e] at e1
      cases e1
      exact hnf _ dd
    have nfr := off fl3.2.2.1 he3 hd3
    have nL : a ≠ X.env.locals := fun z => nfr (List.mem_filterMap.mpr ⟨X.env, List.mem_cons_self, by rw [hf, z]⟩)
    have nF : a ∉ X.fs := by
      intro hm
      obtain ⟨e, he, q⟩ := List.mem_filterMap.mp hm
      exact nfr (List.mem_filterMap.mpr ⟨e, List.mem_cons_of_mem _ he, q⟩)
    have S3 := J3.suite he3 hd3 na nL nF
    refine wpAny_handleBy_cons (codeAny_handlers_test ?_) (by intro q; cases q)
    have LT : PySem.W.Looks (model X.prog X.w) h3 (typeOf (.ref a)) cls := fun A Q E s k q => wpAny_typeOf_ref (k _ _ he3) (by rw [hz3.1]; exact q)
    have LM := PySem.W.exm_one (M := model X.prog X.w) (J3.kIn) LT hb1
    have named : ∀ {Q E : Value → Shared → Prop}, Q c { t0 with heap := h3 } → wpAny (model X.prog X.w) (X.A.mark (some (.ref a))) (eval (.Name x np) X.env) Q E { t0 with heap := h3 } := by
      intro Q E q
      obtain ⟨hg, hdbg, hm | ⟨hm, hv, hnn⟩⟩ := hc
      · exact ld_glob (X := X.suite a ((a, oe3) :: (X.pn ++ pins))) S3 hg hm q hdbg
      · exact ld_blt (X := X.suite a ((a, oe3) :: (X.pn ++ pins))) S3 hg hm hv q hnn hdbg
    refine named (LM.here ?_)
    cases b with
    | false =>
      show wpAny _ X.A (handleBy (.ref a) X.env []) _ _ _
      refine wpAny_handleBy_nil ?_
      obtain ⟨k1, k2, k3, oe, vs, T, oT, ts1, he, hz, hd, h1, hr⟩ := id fl3
      unfold PySem.passOn
      refine wpAny_bind (wpAny_field he hd h1 ?_)
      rw [if_neg (show ¬ ((Value.ref T == Value.none) = true) from by simp)]
      have onward : wpAny (model X.prog X.w) X.A (setFlight (.ref a) X.env.frame) (fun _ s4 => wpAny (model X.prog X.w) X.A (throw (.ref a) : Sem Flow) (SP X pins D) X.xe s4) X.xe { t0 with heap := h3 } := by
        rw [hf]
        refine HandSPX.setFlight_upZ fl3 fun h4 hh4 up4 => wpAny_throw (tk _ _ ?_)
        exact ⟨a, B, sI, pins, σ1, H1, cls, d, rfl, J, nb, (up.trans up3).trans up4, .inr (.inr (by rw [hs]; exact hh4)), na, os, ag, hno rfl⟩
      first
        | exact wpAny_bind (wpAny_pure (wpAny_bind onward))
        | exact wpAny_bind onward
    | true =>
      refine codeAny_handlers_suite_as ?_
      refine HandSPX.lands_againZ fl3 fun h4 fl4 up4 => ?_
      obtain ⟨oe4, vs4, he4, hz4, hd4⟩ := fl4.there
      have J4 : Inv X pins σ1 (upd H1 a (exk a cls d)) { t0 with heap := h4 } := landed_k J nb fl4.1 ((up.trans up3).trans up4) os ag fl4.2.1 (by rw [hs]; exact nfr) na he4 hz4 hd4
      have S4 : Inv (X.suite a (X.pn ++ pins)) [] σ1 (upd H1 a (exk a cls d)) { t0 with heap := h4 } :=
        ⟨J4.ok.suite _ _, J4.os, J4.bare, J4.base, J4.loc, J4.cell, J4.free, J4.freeC, fun p hp => J4.pin p (by rw [List.append_nil] at hp; exact hp), J4.hok, J4.len⟩
      refine store_ok (X := X.suite a (X.pn ++ pins)) (v := .ref a) S4 hN hi (.inl hln) rfl (fun s5 S5 => ?_) (.inr hln)
      refine wpAny_mono ((hsu a (X.pn ++ pins)).run [] s5 _ _ _ S5 (hyes rfl a na)) (fun f s6 hsp => ?_) (fun _ _ z => False.elim z)
      have back : ∀ {σ6 : L2.St} {H6 : Hp}, Inv (X.suite a (X.pn ++ pins)) [] σ6 H6 s6 → Inv X pins σ6 H6 s6 := fun S =>
        ⟨okX, S.os, S.bare, S.base, S.loc, S.cell, S.free, S.freeC, fun p hp => S.pin p (List.mem_append_left _ hp), S.hok, S.len⟩
      have over : ∀ {σ6 : L2.St} {H6 : Hp} {Q : Shared → Prop}, Inv (X.suite a (X.pn ++ pins)) [] σ6 H6 s6 → (∀ s7, Inv X pins (σ6.set i none) H6 s7 → Q s7) →
          wpAny (model X.prog X.w) X.A (do bindName X.env n .none; unbindBehindTheSuite X.env n pos') (fun _ s7 => Q s7) X.xe s6 := fun S6 hq => gone_ok (back S6) hN hi hln hq
      cases f with
      | next =>
        obtain ⟨σ6, H6, S6, q6⟩ := hsp
        exact over S6 fun s7 J7 => ⟨_, _, J7, q6⟩
      | brk =>
        obtain ⟨σ6, H6, S6, q6⟩ := hsp
        exact over S6 fun s7 J7 => ⟨_, _, J7, q6⟩
      | cont =>
        obtain ⟨σ6, H6, S6, q6⟩ := hsp
        exact over S6 fun s7 J7 => ⟨_, _, J7, q6⟩
      | ret v =>
        obtain ⟨v6, σ6, H6, S6, r6, q6⟩ := hsp
        exact over S6 fun s7 J7 => ⟨_, _, _, J7, r6, q6⟩
end
/-! e.f of a tracked exception -/
def tXk (K : PySem.W.Frag) (f : Str) (te : TE) : TE := fun σ H Q => te σ H fun x H1 => ∃ (a C dd : Addr) (fs : List (Str × V)) (v : V), x = .ref a ∧ H1 a = some (exk a (.ref C) (some dd)) ∧ XfC K C ∧ PySem.W.findIn K (.ref C) f = some none ∧ H1 dd = some (.xd fs) ∧ fs.lookup f = some v ∧ Q v H1
theorem pe_xk {X : Cx} {e : Expr} {te : TE} {pos : Pos} {n : Str} (he : PE X e te) (hb : attributeBase e n X.env (eval e X.env) = eval e X.env := by rfl) : PE X (.Attribute e n pos) (tXk X.K n te) := by
  refine ⟨fun pins s σ H Q I want => attr_of hb (thn (he.run pins s σ H _ I want) fun u s1 got => ?_)⟩
  obtain ⟨x, H1, I1, rx, a, C, dd, fs, v, rfl, hk, T, hno, hdd, hl, q⟩ := got
  obtain rfl : u = Value.ref a := rx
  obtain ⟨oe, vs, h1, hz, hd⟩ := exk_at I1.hok hk
  have hx : ObjOk X.prog X.w H1 s1.heap dd (.xd fs) := I1.hok dd _ hdd
  obtain ⟨mA, hns, hr⟩ := hx
  obtain ⟨od, ho, hl2⟩ := lookIn_ns hns
  obtain ⟨u2, hu, ru⟩ := RelO.some_of (v := v) (o := mA n) (by rw [← hl]; exact hr n)
  have J : PySem.W.InstAt s1.heap a oe C (some od) := by
    refine ⟨h1, hz.1, ?_, ?_⟩
    · unfold PySem.W.notCls
      rw [hd] <;> rfl
    · rw [hz.2]
      exact ho
  exact HandSPX.exc_get I1.kIn J T.ga T.gg T.exC (PySem.W.findObj_own T.hdC hno rfl (by rw [hl2, hu])) (handed_of ru) ⟨v, H1, I1.tok _, ru, q⟩
/-! Base.__init__(self, ..), Base an own class over ValueError with no __init__ of its own -/
end U

/-! small readings that many laws want -/
namespace U
open PySem PySem.Spec PyProof.Rows L2
section
variable {K : PySem.W.Frag} {H H' : Hp} {Q : VK} {p q a : Addr} {σ : L2.St} {te td : TE} {tr : TA} {xs : List V}
end
end U

/-! a pair among pairs; lists of lists of texts -/
namespace U
open PySem PySem.Spec PyProof.Rows L2
def rNinT (K : PySem.W.Frag) : R2 := fun x y H Q => ∃ (d : PyData) (ds : List PyData), Dp K H x d ∧ Dp K H y (.tuple ds) ∧ SeqAt.shaped d = true ∧ SeqAt.shaped (.tuple ds) = true ∧ Q (.bl (!ds.any fun z => PyData.eqv z d)) H
theorem kNinT {X : Cx} (K : PySem.W.Frag) (hK : X.K = K) (hu : X.A.units + 65 < cLine) : OpR X (compareOp .NotIn) (rNinT K) := by
  subst hK
  intro pins s σ H x y v u Q I rx ry ⟨d, ds, hd, he, sd, se, q⟩
  obtain ⟨_, r1⟩ := Dp.reads I _ _ _ hd rx
  obtain ⟨_, r2⟩ := Dp.reads I _ _ _ he ry
  exact SeqAt.notIn_tuple_reads r2 r1 (SeqAt.canLay_of_shaped se) (SeqAt.canLay_of_shaped sd) (room_in_shaped sd hu) ⟨.bl _, H, I, rfl, q⟩
abbrev dE (e : Str × Str) : PyData := .tuple [.str e.1, .str e.2]
theorem eqv_dE {a b : Str × Str} : PyData.eqv (dE a) (dE b) = decide (a = b) := by
  obtain ⟨a1, a2⟩ := a
  obtain ⟨b1, b2⟩ := b
  rw [Bool.eq_iff_iff]
  simp [dE, PyData.eqv, PyData.eqvAll]
theorem any_dE {es : List (Str × Str)} {e : Str × Str} : ((es.map dE).any fun z => PyData.eqv z (dE e)) = decide (e ∈ es) := by
  rw [Bool.eq_iff_iff, List.any_eq_true, decide_eq_true_iff]
  constructor
  · rintro ⟨z, hz, h⟩
    obtain ⟨y, hy, rfl⟩ := List.mem_map.mp hz
    rw [eqv_dE, decide_eq_true_iff] at h
    rw [← h]
    exact hy
  · intro h
    exact ⟨_, List.mem_map_of_mem h, by rw [eqv_dE]; exact decide_eq_true rfl⟩
theorem dp_edges {K : PySem.W.Frag} {H : Hp} : ∀ {es : List (Addr × Str × Str)}, (∀ x ∈ es, SqT K H x.1 [.str x.2.1, .str x.2.2]) → DpAll K H (es.map fun x => V.ref x.1) ((es.map (·.2)).map dE)
  | [], _ => .nil
  | x :: r, h => .cons (.tup (h x List.mem_cons_self) (.cons (.str _) (.cons (.str _) .nil))) (dp_edges fun y hy => h y (List.mem_cons_of_mem _ hy))
theorem can_edges : ∀ {es : List (Str × Str)}, (∀ e ∈ es, PyData.strOk e.1 = true ∧ PyData.strOk e.2 = true) → PyData.canLayAll0 (es.map dE) = true ∧ PyData.depthAll (es.map dE) ≤ 1
  | [], _ => by simp [PyData.canLayAll0, PyData.depthAll]
  | e :: r, h => by
    obtain ⟨a, b⟩ := can_edges (es := r) fun y hy => h y (List.mem_cons_of_mem _ hy)
    obtain ⟨h1, h2⟩ := h e List.mem_cons_self
    have c : (dE e).canLay0 = true := by simp [dE, PyData.canLay0, PyData.canLayAll0, h1, h2]
    have d : (dE e).depth = 1 := by simp [dE, PyData.depth, PyData.depthAll]
    rw [List.map_cons, PyData.canLayAll0, PyData.depthAll, a, c, d]
    exact ⟨rfl, by omega⟩
theorem shaped_edge {e : Str × Str} (h : PyData.strOk e.1 = true ∧ PyData.strOk e.2 = true) : SeqAt.shaped (dE e) = true := by
  unfold SeqAt.shaped
  simp [dE, PyData.canLay0, PyData.canLayAll0, PyData.depth, PyData.depthAll, h.1, h.2]
theorem shaped_edgesT {es : List (Str × Str)} (h : ∀ e ∈ es, PyData.strOk e.1 = true ∧ PyData.strOk e.2 = true) : SeqAt.shaped (.tuple (es.map dE)) = true := by
  obtain ⟨a, b⟩ := can_edges h
  unfold SeqAt.shaped
  rw [PyData.canLay0, a, PyData.depth, decide_eq_true (by omega)]
  rfl
theorem rd_ninTE {K : PySem.W.Frag} {H : Hp} {Q : VK} {p q : Addr} {e : Str × Str} {es : List (Addr × Str × Str)} (hp : SqT K H p [.str e.1, .str e.2]) (hq : SqT K H q (es.map fun x => V.ref x.1)) (pr : ∀ x ∈ es, SqT K H x.1 [.str x.2.1, .str x.2.2])
    (o1 : PyData.strOk e.1 = true ∧ PyData.strOk e.2 = true) (o2 : ∀ x ∈ es.map (·.2), PyData.strOk x.1 = true ∧ PyData.strOk x.2 = true) (h : Q (.bl (!decide (e ∈ es.map (·.2)))) H) : rNinT K (.ref p) (.ref q) H Q := by
  refine ⟨dE e, _, .tup hp (.cons (.str _) (.cons (.str _) .nil)), .tup hq (dp_edges pr), shaped_edge o1, shaped_edgesT o2, ?_⟩
  rw [any_dE]
  exact h
/-! lists of lists of texts -/
end U


/-! a random problem: the graph, the state, the pins -/
namespace U
open PySem PySem.Spec PyProof.Rows L2
theorem getD_l {xs ys : List Int} {i : Nat} (h : i < xs.length) : (xs ++ ys).getD i 0 = xs.getD i 0 := by
  rw [List.getD_eq_getElem?_getD, List.getD_eq_getElem?_getD, List.getElem?_append_left h]
/-- pairs of places, each once, with other values -/
structure PrOk (vals : List Int) (prs : List (Nat × Nat)) : Prop where
  nd : prs.Nodup
  ok : ∀ x ∈ prs, x.1 < x.2 ∧ x.2 < vals.length ∧ vals.getD x.1 0 ≠ vals.getD x.2 0
theorem PrOk.nil {vals : List Int} : PrOk vals [] := ⟨List.nodup_nil, fun x h => nomatch h⟩
theorem PrOk.val {vals : List Int} {prs : List (Nat × Nat)} {v : Int} (h : PrOk vals prs) : PrOk (vals ++ [v]) prs := ⟨h.nd, fun x hx => by
  obtain ⟨a, b, c⟩ := h.ok x hx
  refine ⟨a, by rw [List.length_append]; omega, ?_⟩
  rw [getD_l (by omega), getD_l b]
  exact c⟩
theorem sort2 {a b : Str} {ys : List Str} (n : a ≠ b) (p : ys.Perm [a, b]) (s : ys.Pairwise fun a b => ¬ sLt b a) : ys = [(eOf a b).1, (eOf a b).2] := by
  have l := p.length_eq
  match ys, l with
  | [y1, y2], _ =>
    have m1 : y1 ∈ [a, b] := p.mem_iff.mp List.mem_cons_self
    have m2 : y2 ∈ [a, b] := p.mem_iff.mp (List.mem_cons_of_mem _ List.mem_cons_self)
    have ndp : [y1, y2].Nodup := p.nodup_iff.mpr (by simp [n])
    have ne : y1 ≠ y2 := by simpa using ndp
    have ns : ¬ sLt y2 y1 := by
      rw [List.pairwise_cons] at s
      exact s.1 y2 (List.mem_singleton.mpr rfl)
    simp only [List.mem_cons, List.not_mem_nil, or_false] at m1 m2
    unfold eOf
    rcases m1 with rfl | rfl <;> rcases m2 with rfl | rfl
    · exact absurd rfl ne
    · rw [if_pos (sLt_total ns ne)]
    · rw [if_neg ns]
    · exact absurd rfl ne
theorem getDU {α : Type} {xs : List α} {i : Nat} {d : α} (h : i < xs.length) : xs.getD i d = xs[i] := by
  rw [List.getD_eq_getElem?_getD, List.getElem?_eq_getElem h]
  rfl
end U
section
open PySem PySem.Spec PyProof.Rows L2 U
local macro_rules | `(tactic| wtm_at "rd1") => `(tactic| first
  | with_reducible refine rd_seq ?_
  | ((with_reducible refine rd_var (v := ?vv) ?hv ?_); (case hv => exact rfl))
  | with_reducible refine rd_c ?_
  | with_reducible refine rd_cons ?_
  | with_reducible refine rd_nil ?_
  | with_reducible refine rd_op ?_
  | with_reducible refine rd_asg ?_
  | with_reducible refine rd_name ?_
  | with_reducible refine rd_c1 ?_
  | with_reducible refine rd_cb ?_
  | with_reducible refine rd_test ?_
  | with_reducible refine rd_B ?_
  | with_reducible refine rd_bl ?_
  | with_reducible refine rd_if ?_
  | with_reducible refine rd_ret ?_
  | with_reducible refine rd_drop ?_
  | with_reducible refine rd_next ?_
  | with_reducible refine rd_addI ?_
  | with_reducible refine rd_ltI ?_
  | with_reducible refine rd_eqI ?_
  | with_reducible refine rd_neI ?_
  | with_reducible refine rd_eqS ?_
  | with_reducible refine rd_neS ?_
  | with_reducible refine rd_gtI ?_
  | with_reducible refine rd_geI ?_
  | with_reducible refine rd_leI ?_
  | with_reducible refine rd_ltS ?_
  | with_reducible refine rd_subI ?_
  | ((with_reducible refine rd_modI ?hc ?_); (case hc => first | decide | omega))
  | ((with_reducible refine rd_mulI ?hc ?_); (case hc => first | exact mul_bI | exact .inl (.inr (by decide)) | exact .inl (.inl (by decide)) | exact .inl (.inr (by omega)) | exact .inl (.inl (by omega))))
  | ((with_reducible refine rd_divI ?hc ?_); (case hc => first | decide | omega))
  | ((with_reducible refine rd_powI ?hc ?_); (case hc => exact ⟨by decide, by decide, by decide⟩))
  | with_reducible refine rd_lst ?_
  | with_reducible refine rd_tup ?_
  | ((with_reducible refine rd_sz ?hv ?_); (case hv => exact rfl))
  | with_reducible refine rd_and ?_
  | with_reducible refine rd_or ?_
  | with_reducible refine rd_not ?_
  | with_reducible refine rd_andV ?_
  | with_reducible refine rd_orV ?_
  | with_reducible refine rd_notV ?_
  | with_reducible refine rd_ifE ?_
  | with_reducible refine rd_T ?_
  | with_reducible refine rd_F ?_
  | with_reducible refine rd_chain ?_
  | with_reducible refine rd_is ?_
  | with_reducible refine rd_isNot ?_
  | with_reducible refine rd_absI ?_
  | with_reducible refine rd_maxI ?_
  | with_reducible refine rd_minI ?_
  | with_reducible refine rd_intI ?_
  | with_reducible refine rd_intB ?_
  | with_reducible refine rd_sub ?_
  | with_reducible refine rd_sl ?_
  | with_reducible refine rd_noPart ?_
  | with_reducible refine rd_part ?_
  | with_reducible refine rd_exI ?_
  | with_reducible refine rd_bm ?_
  | with_reducible refine rd_bm0 ?_
  | with_reducible refine rd_un ?_
  | with_reducible refine rd_neg ?_
  | with_reducible refine rd_c2 ?_
  | with_reducible refine rd_retN ?_
  | with_reducible refine rd_break ?_
  | with_reducible refine rd_cont ?_
  | with_reducible refine rd_for ?_
  | with_reducible refine rd_rng1 ?_
  | with_reducible refine rd_rng2 ?_
  | with_reducible refine rd_iList ?_
  | with_reducible refine rd_iTup ?_
  | with_reducible refine rd_iEnum ?_
  | ((with_reducible refine rd_forR ?h0 ?h1 ?_); (case h0 => omega); (case h1 => omega))
  | with_reducible refine rd_lc ?_
  | with_reducible refine rd_gcons ?_
  | with_reducible refine rd_gnil ?_
  | with_reducible refine rd_dget ?_
  | with_reducible refine rd_dput ?_
  | with_reducible refine rd_dnew ?_
  | with_reducible refine rd_dc ?_
  | with_reducible refine rd_iItems ?_
  | with_reducible refine rd_iKeys ?_
  | with_reducible refine rd_din ?_
  | with_reducible refine rd_lc2 ?_
  | with_reducible refine rd_cd ?_
  | with_reducible refine rd_par ?_
  | with_reducible refine rd_two ?_
  | with_reducible refine rd_reprB ?_
  | with_reducible refine rd_ck ?_
  | ((with_reducible refine rd_len ?hl ?_); (case hl => exact rfl))
  | with_reducible refine rd_nT ?_
  | with_reducible refine rd_nF ?_
  | with_reducible refine rd_dnin ?_
  | with_reducible refine rd_isB ?_
  | with_reducible refine rd_isNotB ?_
  | with_reducible refine rd_daug ?_
  | with_reducible refine rd_yesT ?_
  | ((with_reducible refine rd_wp ?hw ?_); (case hw => exact rfl)))
local macro_rules | `(tactic| wtm_at "rd") => `(tactic| repeat wtm_at "rd1")
namespace Law
open PySem PySem.Spec PyProof.Rows L2 U


/-- values and pairs being made -/
structure BK (H0 : Hp) (p vA pA : Addr) (vals : List Int) (prs : List (Addr × Nat × Nat)) (H : Hp) : Prop where
  go : Go p H0 H
  hv : H vA = some (.lst (vals.map V.int))
  hp : H pA = some (.lst (prs.map fun x => V.ref x.1))
  tp : ∀ x ∈ prs, H x.1 = some (.tup [.int (x.2.1 : Nat), .int (x.2.2 : Nat)])
structure BN (H0 : Hp) (p vA pA : Addr) : Prop where
  fv : H0 vA = none
  fp : H0 pA = none
  vp : vA ≠ p
  pp : pA ≠ p
  vq : vA ≠ pA
section
variable {H0 H H2 : Hp} {p vA pA : Addr} {vals : List Int} {prs : List (Addr × Nat × Nat)}
theorem PoolAt.offTB {q : Addr} {xs : List V} (h : PoolAt H p) (hq : H q = some (.tup xs)) : q ≠ p := by
  rintro rfl
  obtain ⟨ys, h⟩ := h.isL
  rw [hq] at h
  cases h
theorem BK.new (b : BK H0 p vA pA vals prs H) {t : Addr} {o : HO} (f : H t = none) : BK H0 p vA pA vals prs (upd H t o) :=
  ⟨b.go.new f, at_upd (ne_of_none b.hv f) b.hv, at_upd (ne_of_none b.hp f) b.hp, fun x hx => at_upd (ne_of_none (b.tp x hx) f) (b.tp x hx)⟩
theorem BK.step (b : BK H0 p vA pA vals prs H) (n : BN H0 p vA pA) (g : Go p H H2) : BK H0 p vA pA vals prs H2 :=
  ⟨b.go.trans g, g.at b.hv n.vp, g.at b.hp n.pp, fun x hx => g.at (b.tp x hx) (b.go.pool.offTB (b.tp x hx))⟩
theorem BK.val (b : BK H0 p vA pA vals prs H) (n : BN H0 p vA pA) {v : Int} : BK H0 p vA pA (vals ++ [v]) prs (upd H vA (.lst (vals.map V.int ++ [.int v]))) :=
  ⟨b.go.put n.fv (Ne.symm n.vp), by rw [upd_same, List.map_append]; rfl, at_upd (Ne.symm n.vq) b.hp, fun x hx => at_upd (ne_of (b.tp x hx) b.hv (by intro z; cases z)) (b.tp x hx)⟩
theorem BK.pair (b : BK H0 p vA pA vals prs H) (n : BN H0 p vA pA) {t : Addr} {x y : Nat} (ht : H t = some (.tup [.int (x : Nat), .int (y : Nat)])) : BK H0 p vA pA vals (prs ++ [(t, x, y)]) (upd H pA (.lst ((prs.map fun x => V.ref x.1) ++ [.ref t]))) :=
  ⟨b.go.put n.fp (Ne.symm n.pp), at_upd n.vq b.hv, by rw [upd_same, List.map_append]; rfl, fun z hz => by
    rcases List.mem_append.mp hz with hz | hz
    · exact at_upd (ne_of (b.tp z hz) b.hp (by intro z; cases z)) (b.tp z hz)
    · rw [List.mem_singleton] at hz
      subst hz
      exact at_upd (ne_of ht b.hp (by intro z; cases z)) ht⟩
end
theorem Go.same {p : Addr} {H H1 H2 : Hp} (a : Go p H H1) (s : Same H1 H2) : Go p H H2 := a.trans (Go.of_same a.pool s)
def PrsAt (H : Hp) (es : List (Addr × Str × Str)) : Prop := ∀ x ∈ es, H x.1 = some (.tup [.str x.2.1, .str x.2.2])
theorem PrsAt.same {H H' : Hp} {es : List (Addr × Str × Str)} (h : PrsAt H es) (s : Same H H') : PrsAt H' es := fun x hx => s _ _ (h x hx)
theorem PrsAt.go {p : Addr} {H H' : Hp} {es : List (Addr × Str × Str)} (h : PrsAt H es) (hp : PoolAt H p) (g : Go p H H') : PrsAt H' es := fun x hx => g.at (h x hx) (hp.offTB (h x hx))
theorem asc_uniq {xs ys : List Str} (a : Asc xs) (b : Asc ys) (p : xs.Perm ys) : xs = ys := p.eq_of_pairwise (fun x y _ _ h1 h2 => absurd h2 (sLt_asymm h1)) a b
section
variable {P : Program} {w : World} {K : PySem.W.Frag} {mg : Str → Option Value} {base : Heap}
end
end Law

/-! tuples of numbers compared; a pair in a tuple of pairs; numbers == [] -/
namespace U
open PySem PySem.Spec PyProof.Rows L2
def rInT (K : PySem.W.Frag) : R2 := fun x y H Q => ∃ (d : PyData) (ds : List PyData), Dp K H x d ∧ Dp K H y (.tuple ds) ∧ SeqAt.shaped d = true ∧ SeqAt.shaped (.tuple ds) = true ∧ Q (.bl (ds.any fun z => PyData.eqv z d)) H
theorem kInT {X : Cx} (K : PySem.W.Frag) (hK : X.K = K) (hu : X.A.units + 65 < cLine) : OpR X (compareOp .In) (rInT K) := by
  subst hK
  intro pins s σ H x y v u Q I rx ry ⟨d, ds, hd, he, sd, se, q⟩
  obtain ⟨_, r1⟩ := Dp.reads I _ _ _ hd rx
  obtain ⟨_, r2⟩ := Dp.reads I _ _ _ he ry
  exact SeqAt.in_tuple_reads r2 r1 (SeqAt.canLay_of_shaped se) (SeqAt.canLay_of_shaped sd) (room_in_shaped sd hu) ⟨.bl _, H, I, rfl, q⟩
theorem rd_inTE {K : PySem.W.Frag} {H : Hp} {Q : VK} {p q : Addr} {e : Str × Str} {es : List (Addr × Str × Str)} (hp : SqT K H p [.str e.1, .str e.2]) (hq : SqT K H q (es.map fun x => V.ref x.1)) (pr : ∀ x ∈ es, SqT K H x.1 [.str x.2.1, .str x.2.2])
    (o1 : PyData.strOk e.1 = true ∧ PyData.strOk e.2 = true) (o2 : ∀ x ∈ es.map (·.2), PyData.strOk x.1 = true ∧ PyData.strOk x.2 = true) (h : Q (.bl (decide (e ∈ es.map (·.2)))) H) : rInT K (.ref p) (.ref q) H Q := by
  refine ⟨dE e, _, .tup hp (.cons (.str _) (.cons (.str _) .nil)), .tup hq (dp_edges pr), shaped_edge o1, shaped_edgesT o2, ?_⟩
  rw [any_dE]
  exact h
theorem canI : ∀ xs : List Int, PyData.canLayAll0 (xs.map PyData.int) = true ∧ PyData.depthAll (xs.map PyData.int) = 0
  | [] => by simp [PyData.canLayAll0, PyData.depthAll]
  | x :: r => by simp [PyData.canLayAll0, PyData.depthAll, PyData.canLay0, PyData.depth, (canI r).1, (canI r).2]
theorem shapedIT (xs : List Int) : SeqAt.shaped (.tuple (xs.map PyData.int)) = true := by
  unfold SeqAt.shaped
  rw [PyData.canLay0, (canI xs).1, PyData.depth, (canI xs).2]
  rfl
theorem dpI {K : PySem.W.Frag} {H : Hp} : ∀ xs : List Int, DpAll K H (xs.map V.int) (xs.map PyData.int)
  | [] => .nil
  | x :: r => .cons (.int x) (dpI r)
theorem eqvAll_ints : ∀ (xs ys : List Int), PyData.eqvAll (xs.map PyData.int) (ys.map PyData.int) = decide (xs = ys)
  | [], [] => by simp [PyData.eqvAll]
  | [], y :: ys => by simp [PyData.eqvAll]
  | x :: xs, [] => by simp [PyData.eqvAll]
  | x :: xs, y :: ys => by
    rw [List.map_cons, List.map_cons, PyData.eqvAll, eqvAll_ints xs ys, Bool.eq_iff_iff]
    simp [PyData.eqv]
section
variable {K : PySem.W.Frag} {H : Hp} {Q : VK} {p q : Addr} {xs ys : List Int}
theorem rd_eqIT (hp : SqT K H p (xs.map V.int)) (hq : SqT K H q (ys.map V.int)) (h : Q (.bl (decide (xs = ys))) H) : rEqU K (.ref p) (.ref q) H Q := by
  refine ⟨_, _, .tup hp (dpI _), .tup hq (dpI _), shapedIT _, shapedIT _, ?_⟩
  rw [PyData.eqv, eqvAll_ints]
  exact h
end
end U

/-! dict | dict -/
namespace U
open PySem PySem.Spec PyProof.Rows L2
section
variable {prog : Program} {w : World} {κ : Type} [DecidableEq κ] {knd : KeyKind prog w κ} {A : Around} {E : Value → Shared → Prop} {s : Shared}
/-- the copy that `|` begins with -/
theorem or_copy {nm : String} {d : Addr} {kvs : List (κ × Value)} {Q : Value → Shared → Prop} (hd : (d == sysModules) = false) (hm : s.heap.DictOf knd d kvs) (hsz : kvs.length ≤ sizeLine)
    (h : ∀ h', h'.DictOf knd s.heap.objs.size kvs → (∀ b o, s.heap.get? b = some o → h'.get? b = some o) → Q (.ref s.heap.objs.size) { s with heap := h' }) :
    wpAny (model prog w) A (Builtin.Dict.copyOf nm (.ref d)) Q E s := by
  obtain ⟨o, es, ep, ho, hc, hdat, hk, hp, hn⟩ := id hm
  have hes : es.size ≤ sizeLine + 1 := by
    have e1 := hp.length
    have e2 : es.toList.length = es.size := by simp
    omega
  have fin : ∀ es' : Array DictEntry, es' = es → Q (.ref s.heap.objs.size) { s with heap := s.heap.push { cls := .type "dict", data := .dict es' } } := by
    rintro es' rfl
    exact h _ ⟨_, es', 0, Heap.get?_push_size _ rfl, ⟨rfl, rfl, rfl⟩, rfl, hk, hp, hn⟩ fun b o' e => Heap.get?_push_of_some _ e
  unfold Builtin.Dict.copyOf
  refine wpAny_bind (wpAny_pure ?_)
  unfold Builtin.Dict.showsAll
  rw [if_neg (by rw [hd]; exact Bool.false_ne_true)]
  refine wpAny_bind (wpAny_pure (wpAny_bind (wpAny_dictEntries ho hdat ?_)))
  by_cases z : es.isEmpty = true
  · rw [if_pos z]
    exact wpAny_bind (wpAny_rule (wpAny_newObj_type (fin #[] (Array.isEmpty_iff.mp z).symm)))
  · rw [if_neg z]
    refine wpAny_bind ?_
    unfold Builtin.Dict.readDirectly
    refine wpAny_bind (wpAny_isInstance hm.typeIs isSubtype_dict_dict ?_)
    simp only [Bool.not_true, Bool.false_eq_true, if_false]
    refine wpAny_bind (wpAny_specialOf hm.typeIs F.slot_dict_iter.lookup (wpAny_pure ?_))
    simp only [beq_self_eq_true, if_true]
    exact wpAny_bind (wpAny_entriesForEmpty (knd := knd) ho hdat hk (wpAny_newObj_type (fin es rfl) hes))
theorem or_slots {a b : Addr} {kvs more : List (κ × Value)} (ha : (a == sysModules) = false) (hb : (b == sysModules) = false) :
    MeetsIn prog w (Builtin.«dict.__or__» ⟨[.ref a, .ref b], []⟩) (fun _ R s => s.heap.DictOf knd a kvs ∧ s.heap.DictOf knd b more ∧ kvs.length + more.length ≤ sizeLine ∧
      ∀ h', h'.DictOf knd s.heap.objs.size (merged kvs more) → (∀ b o, s.heap.get? b = some o → h'.get? b = some o) → R (.ok (.ret (.ref s.heap.objs.size))) { s with heap := h' }) :=
  .of_wp fun A R s ⟨h1, h2, hz, h⟩ => by
    unfold Builtin.«dict.__or__»
    refine wpAny_bind ?_
    unfold Builtin.Dict.dictSlotArgs
    refine wpAny_bind (wpAny_notOrdered_dict h1.typeIs ?_)
    show wpAny _ _ (pure (Value.ref a, Value.ref b)) _ _ s
    refine wpAny_pure ?_
    refine wpAny_bind ?_
    refine wpAny_bind (wpAny_isInstance h1.typeIs isSubtype_dict_dict ?_)
    refine wpAny_isInstance h2.typeIs isSubtype_dict_dict ?_
    rw [if_neg (by decide)]
    refine wpAny_bind (or_copy (knd := knd) ha h1 (by omega) fun h' d1 k1 => ?_)
    have hbs : s.heap.objs.size ≠ b := by
      obtain ⟨_, _, _, hg, _⟩ := id h2
      exact fun e => absurd (Heap.lt_size hg) (by rw [e]; exact Nat.lt_irrefl _)
    have d2 : h'.DictOf knd b more := by
      obtain ⟨o, es, ep, q1, q2⟩ := id h2
      exact ⟨o, es, ep, k1 _ _ q1, q2⟩
    refine wpAny_bind (wpAny_pure ?_)
    refine wpAny_holding ?_
    unfold Builtin.Dict.updateFrom
    refine wpAny_bind (wpAny_typeOf d2.typeIs ?_)
    rw [if_neg (by decide)]
    refine wpAny_bind ?_
    unfold Builtin.Dict.merge
    refine wpAny_bind ?_
    unfold Builtin.Dict.readDirectly
    refine wpAny_bind (wpAny_isInstance d2.typeIs isSubtype_dict_dict ?_)
    simp only [Bool.not_true, Bool.false_eq_true, if_false]
    refine wpAny_bind (wpAny_specialOf d2.typeIs F.slot_dict_iter.lookup (wpAny_pure ?_))
    simp only [beq_self_eq_true, if_true]
    refine wpAny_bind (wpAny_pure ?_)
    refine wpAny_mergeDict (hsz := hz) hbs hb d1 d2 fun h'' d3 _ sb => ?_
    show wpAny _ _ (Builtin.Dict.addKeywords s.heap.objs.size [] >>= _) _ _ _
    exact wpAny_bind (wpAny_pure (wpAny_pure ⟨_, rfl, h h'' d3 fun c o e => (sb.2 c (Nat.ne_of_lt (Heap.lt_size e))).trans (k1 c o e)⟩))
end
section
variable {X : Cx}
/-- a | b of dicts of texts and numbers: a new one -/
def rBorD : R2 := fun x y H Q => ∃ (a b : Addr) (kvs more : List (Key × V)), x = .ref a ∧ y = .ref b ∧ Rd H a (.dK kvs) ∧ Rd H b (.dK more) ∧ kvs.length + more.length ≤ sizeLine ∧ ∀ p, H p = none → Q (.ref p) (upd H p (.dK (mergeK kvs more)))
theorem uBor : OpR X (binaryOp .BitOr) rBorD := by
  intro pins s σ H x y v u Q I rx ry h
  obtain ⟨a, b, kvs, more, rfl, rfl, hA, hB, hz, q⟩ := h
  cases rx
  cases ry
  obtain ⟨z1, n1, vs, r1, d1⟩ := dk_rd I.hok hA
  obtain ⟨z2, n2, ws, r2, d2⟩ := dk_rd I.hok hB
  refine wpAny_binaryOp_same d1.typeIs d2.typeIs F.fills_dict_or F.slot_dict_or ?_
  refine call_meetsIn F.slot_dict_or d1.typeIs F.entry_dict_or (F.args_dict_or_2 _ _) (or_slots (knd := mixKind X.prog X.w) (kvs := vs) (more := ws) n1 n2) ⟨d1, d2, by rw [← r1.length, ← r2.length]; exact hz, fun h' dd k => ?_⟩
  refine ⟨(fun e => nomatch e), ?_⟩
  exact ⟨.ref _, _, I.laid (a := s.heap.objs.size) (o := .dK (mergeK kvs more)) (t' := s.toks) (fun b q hq => k b q hq) (Nat.le_refl _) (dk_new (Nat.le_trans (length_mergeK more kvs) hz) (beq_eq_false_iff_ne.mpr (Ne.symm (Nat.ne_of_lt I.big))) (KV.merge r2 r1) dd), rfl, q _ (I.hok.fresh (Nat.le_refl _))⟩
theorem rd_borF {H : Hp} {Q : VK} {a b : Addr} {kvs : List (Key × V)} {k : Key} {v : V} (h1 : Rd H a (.dK kvs)) (h2 : Rd H b (.dK [(k, v)])) (hz : kvs.length < sizeLine) (h : ∀ p, H p = none → Q (.ref p) (upd H p (.dK (putK kvs k v)))) : rBorD (.ref a) (.ref b) H Q := ⟨a, b, kvs, _, rfl, rfl, h1, h2, hz, h⟩
end
end U


/-! k61's random graph -/
namespace U
open PySem PySem.Spec PyProof.Rows L2
theorem sort2h {a b : Str} {ys : List Str} (p : ys.Perm [a, b]) (s : ys.Pairwise fun a b => ¬ sLt b a) : ys = [(eOf a b).1, (eOf a b).2] := by
  by_cases n : a = b
  · subst n
    have l := p.length_eq
    match ys, l with
    | [y1, y2], _ =>
      have m1 : y1 ∈ [a, a] := p.mem_iff.mp List.mem_cons_self
      have m2 : y2 ∈ [a, a] := p.mem_iff.mp (List.mem_cons_of_mem _ List.mem_cons_self)
      simp only [List.mem_cons, List.not_mem_nil, or_false, or_self] at m1 m2
      subst m1
      rw [m2]
      rcases eOf_cases y1 y1 with z | z <;> rw [z]
  · exact sort2 n p s
theorem eOf_idem {a b : Str} : eOf (eOf a b).1 (eOf a b).2 = eOf a b := by
  by_cases e : a = b
  · subst e
    rcases eOf_cases a a with z | z <;> rw [z] <;> exact z
  · by_cases c : sLt a b
    · have z : eOf a b = (a, b) := by unfold eOf; rw [if_pos c]
      rw [z]
      exact z
    · have z : eOf a b = (b, a) := by unfold eOf; rw [if_neg c]
      have c2 : sLt b a := sLt_total c (Ne.symm e)
      rw [z]
      show eOf b a = (b, a)
      unfold eOf
      rw [if_pos c2]
theorem tk_snoc2 {α : Type} {xs : List α} {i : Nat} (hi : i < xs.length) : xs.take (i + 1) = xs.take i ++ [xs[i]] := by
  rw [List.take_succ, List.getElem?_eq_getElem hi]
  rfl
end U
namespace Law
open PySem PySem.Spec PyProof.Rows L2 U


/-- pairs being made -/
structure PK (H0 : Hp) (p pA : Addr) (prs : List (Addr × Nat × Nat)) (H : Hp) : Prop where
  go : Go p H0 H
  hp : H pA = some (.lst (prs.map fun x => V.ref x.1))
  tp : ∀ x ∈ prs, H x.1 = some (.tup [.int (x.2.1 : Nat), .int (x.2.2 : Nat)])
section
variable {H0 H H2 : Hp} {p pA : Addr} {prs : List (Addr × Nat × Nat)}
theorem PK.same (b : PK H0 p pA prs H) (s : Same H H2) : PK H0 p pA prs H2 := ⟨b.go.same s, s _ _ b.hp, fun x hx => s _ _ (b.tp x hx)⟩
theorem PK.step (b : PK H0 p pA prs H) (n : pA ≠ p) (g : Go p H H2) : PK H0 p pA prs H2 := ⟨b.go.trans g, g.at b.hp n, fun x hx => g.at (b.tp x hx) (b.go.pool.offTB (b.tp x hx))⟩
theorem PK.pair (b : PK H0 p pA prs H) (f : H0 pA = none) (n : pA ≠ p) {t : Addr} {x y : Nat} (ht : H t = some (.tup [.int (x : Nat), .int (y : Nat)])) : PK H0 p pA (prs ++ [(t, x, y)]) (upd H pA (.lst ((prs.map fun x => V.ref x.1) ++ [.ref t]))) :=
  ⟨b.go.put f (Ne.symm n), by rw [upd_same, List.map_append]; rfl, fun z hz => by
    rcases List.mem_append.mp hz with hz | hz
    · exact at_upd (ne_of (b.tp z hz) b.hp (by intro z; cases z)) (b.tp z hz)
    · rw [List.mem_singleton] at hz
      subst hz
      exact at_upd (ne_of ht b.hp (by intro z; cases z)) ht⟩
theorem PK.putW (b : PK H0 p pA prs H) {wA : Addr} {xs : List V} {o : HO} (f : H0 wA = none) (n : wA ≠ p) (n2 : pA ≠ wA) (hw : H wA = some (.lst xs)) : PK H0 p pA prs (upd H wA o) :=
  ⟨b.go.put f (Ne.symm n), at_upd n2 b.hp, fun x hx => at_upd (ne_of (b.tp x hx) hw (by intro z; cases z)) (b.tp x hx)⟩
end
/-- a graph: names, and edges among them -/
structure GrN (H : Hp) (g n e : Addr) (ns : List Str) (es : List (Addr × Str × Str)) : Prop where
  gr : GrAt H g n e ns es
  nm : ∀ x ∈ ns, IsName x
  nd : ns.Nodup
  mem : ∀ x ∈ es.map (·.2), x.1 ∈ ns ∧ x.2 ∈ ns
  so : ∀ x ∈ es.map (·.2), eOf x.1 x.2 = x
  ne : ∀ x ∈ es.map (·.2), x.1 ≠ x.2
  l1 : ns.length ≤ 100
  l2 : es.length ≤ 2000
def spGraphN : Sp := fun vs H Q _ => ∃ (p : Addr) (most : Int), vs = [.ref p, .int most] ∧ PoolAt H p ∧ 0 ≤ most ∧ most ≤ 25 ∧
  ∀ (g n e : Addr) (ns : List Str) (es : List (Addr × Str × Str)) (H' : Hp), Go p H H' → GrN H' g n e ns es → (ns.length : Int) ≤ most ∧ es.length ≤ 700 ∧ Asc ns → Q (.ref g) H'
section
variable {P : Program} {w : World} {K : PySem.W.Frag} {mg : Str → Option Value} {base : Heap}
structure CTa (P : Program) (w : World) (K : PySem.W.Frag) (mg : Str → Option Value) (base : Heap) : Prop where
  _law_draw : Cal P w K mg base CX0 1 "_law_draw" spDraw
  _law_stem : Cal P w K mg base CX0 2 "_law_stem" spStem
theorem ok_graphN {f : Addr} {fd : FuncData} (F : Fun K "_law_random_graph" "_law_random_graph" s__law_random_graph f fd) (B : Bt mg) (C : CTa P w K mg base) : FnG P w K mg base CX0 3 f fd ["_law_source", "_law_most"] spGraphN := by
  refine fnG0 F sc__law_random_graph (fun vs H Q E h => ?_) (fun cdv A outer s H vs Q E hr h => ?_)
  · obtain ⟨p, most, rfl, _⟩ := h
    rfl
  · obtain ⟨p, most, rfl, hp0, m0, m1, q⟩ := h
    have nd := sc__law_random_graph.nd
    have hu := hr.u1
    refine ⟨_, (pss_cons (ps_set (i := 2) nd rfl (by first | exact Or.inl rfl | exact Or.inr rfl) (pe_c C._law_draw hr (by decide) rfl (pa_cons (pv 0) (pa_cons pe_int pa_nil))))
  (pss_cons (ps_set (i := 3) nd rfl (by first | exact Or.inl rfl | exact Or.inr rfl) (pe_c C._law_draw hr (by decide) rfl (pa_cons (pv 0) (pa_cons (pe_op (kAdd K rfl) (pv 1) pe_int) pa_nil))))
  (pss_cons (ps_set (i := 4) nd rfl (by first | exact Or.inl rfl | exact Or.inr rfl) (pe_c C._law_draw hr (by decide) rfl (pa_cons (pv 0) (pa_cons pe_int pa_nil))))
  (pss_cons (ps_set (i := 5) nd rfl (by first | exact Or.inl rfl | exact Or.inr rfl) (pe_lst pa_nil))
  (pss_cons (ps_for PassesOwn.never rfl (pi_range1 rfl B.range (pa_cons (pv 3) pa_nil)) (pg_name (i := 6) nd rfl (by first | exact Or.inl rfl | exact Or.inr rfl)) (pss_one (ps_for PassesOwn.never rfl (pi_range1 rfl B.range (pa_cons (pv 6) pa_nil)) (pg_name (i := 7) nd rfl (by first | exact Or.inl rfl | exact Or.inr rfl)) (C8.pss_cut (ps_set (i := 8) nd rfl (by first | exact Or.inl rfl | exact Or.inr rfl) (pe_or (pe_cmpR (kEq K rfl hr.u64) (pv 7) pe_int (nomark _)) (pe_or (pe_cmpR (kEq K rfl hr.u64) (pv 6) (pe_op (kAdd K rfl) (pv 7) pe_int) (nomark _)) (pe_one (pe_cmpR (kEq K rfl hr.u64) (pe_tup (pa_cons (pv 7) (pa_cons (pv 6) pa_nil))) (pe_tup (pa_cons pe_int (pa_cons pe_int pa_nil))) (nomark _))))))
  (C8.pss_cut (ps_set (i := 9) nd rfl (by first | exact Or.inl rfl | exact Or.inr rfl) (pe_or (pe_and (pe_cmpR (kEq K rfl hr.u64) (pv 2) pe_int (nomark _)) (pe_one (pe_cmpR uLt (pv 6) pe_int (nomark _)))) (pe_one (pe_and (pe_cmpR (kEq K rfl hr.u64) (pv 2) pe_int (nomark _)) (pe_and (pe_cmpR uLt (pv 6) pe_int (nomark _)) (pe_one (pv 8)))))))
  (pss_one (ps_if (PW.pt (pw_or (pt_val (pv 9)) (pw_or1 (pt_cmpR uLt (pe_c C._law_draw hr (by decide) rfl (pa_cons (pv 0) (pa_cons pe_int pa_nil))) (pv 4) (nomark _))))) (pss_one (ps_expr (pe_bm PySem.F.plainAttrs_list PySem.F.slot_list_append PySem.F.type_list_append mt_append (pv 5) (pa_cons (pe_tup (pa_cons (pv 7) (pa_cons (pv 6) pa_nil))) pa_nil)))) pss_nil)))))))
  (pss_cons (ps_set (i := 10) nd rfl (by first | exact Or.inl rfl | exact Or.inr rfl) (pe_c C._law_draw hr (by decide) rfl (pa_cons (pv 0) (pa_cons pe_int pa_nil))))
  (pss_cons (ps_set (i := 11) nd rfl (by first | exact Or.inl rfl | exact Or.inr rfl) (pe_c C._law_draw hr (by decide) rfl (pa_cons (pv 0) (pa_cons pe_int pa_nil))))
  (pss_cons (ps_set (i := 12) nd rfl (by first | exact Or.inl rfl | exact Or.inr rfl) (pe_ix (kIx K rfl) (pe_lst (pa_cons pe_int (pa_cons pe_int (pa_cons pe_int (pa_cons pe_int pa_nil))))) (pe_c C._law_draw hr (by decide) rfl (pa_cons (pv 0) (pa_cons pe_int pa_nil))) (fun _ _ => rfl)))
  (pss_cons (ps_set (i := 13) nd rfl (by first | exact Or.inl rfl | exact Or.inr rfl) (pe_lst pa_nil))
  (pss_cons (ps_for PassesOwn.never rfl (pi_range1 rfl B.range (pa_cons (pv 3) pa_nil)) (pg_name (i := 6) nd rfl (by first | exact Or.inl rfl | exact Or.inr rfl)) (pss_cons (ps_set (i := 14) nd rfl (by first | exact Or.inl rfl | exact Or.inr rfl) (pe_ix (kIx K rfl) pe_str (pe_op uMod (pe_op (kAdd K rfl) (pe_op uMul (pv 6) (pv 12)) (pv 11)) pe_int) (fun _ _ => rfl)))
  (pss_cons (ps_set (i := 15) nd rfl (by first | exact Or.inl rfl | exact Or.inr rfl) (pe_c C._law_stem hr (by decide) rfl (pa_cons (pv 0) pa_nil)))
  (pss_one (ps_expr (pe_bm PySem.F.plainAttrs_list PySem.F.slot_list_append PySem.F.type_list_append mt_append (pv 13) (pa_cons (pe_ifExp (pt_cmpR (kEq K rfl hr.u64) (pv 10) pe_int (nomark _)) (pe_op (kAdd K rfl) (pv 14) (pv 15)) (pe_op (kAdd K rfl) (pv 15) (pv 14))) pa_nil)))))))
  (pss_cons (ps_set (i := 16) nd rfl (by first | exact Or.inl rfl | exact Or.inr rfl) (pe_callB (kSorted K rfl hr.u64) (by rfl) B.sorted bb_sorted (pa_cons (pe_lc (own := [("_law_one", 17), ("_law_other", 18)]) rfl nd (ki_list K rfl (pv 5)) (blkOk_by (own := [("_law_one", 17), ("_law_other", 18)]) (N := nN__law_random_graph) (sc := defScope s__law_random_graph) (by decide +kernel)) (fun _ _ _ _ _ => (kg_tup (n := 2) K rfl rfl (pgs_cons (pg_name (i := 17) nd rfl (by first | exact Or.inl rfl | exact Or.inr rfl)) (pgs_cons (pg_name (i := 18) nd rfl (by first | exact Or.inl rfl | exact Or.inr rfl)) pgs_nil)))) (fun _ _ _ _ _ => pts_nil) (fun _ _ _ _ _ => (pe_callTy (kTuple K rfl) (by rfl) B.tuple bb_tuple (pa_cons (pe_callB (kSorted K rfl hr.u64) (by rfl) B.sorted bb_sorted (pa_cons (pe_lst (pa_cons (pe_ix (kIx K rfl) (pv 13) (pv 17) (fun _ _ => rfl)) (pa_cons (pe_ix (kIx K rfl) (pv 13) (pv 18) (fun _ _ => rfl)) pa_nil))) pa_nil)) pa_nil)))) pa_nil)))
  (pss_one (ps_ret (pe_tup (pa_cons (pe_callTy (kTuple K rfl) (by rfl) B.tuple bb_tuple (pa_cons (pe_callB (kSorted K rfl hr.u64) (by rfl) B.sorted bb_sorted (pa_cons (pv 13) pa_nil)) pa_nil)) (pa_cons (pe_callTy (kTuple K rfl) (by rfl) B.tuple bb_tuple (pa_cons (pv 16) pa_nil)) pa_nil)))))))))))))))), ?_⟩
    wtm_at "rd"
    refine use_draw hp0 (by decide) (by decide) fun dir H1 _ _ g1 => ?_
    wtm_at "rd"
    refine use_draw g1.pool (by omega) (by omega) fun many H2 c0 c1 g => ?_
    have g2 := g1.trans g
    clear g g1
    wtm_at "rd"
    refine use_draw g2.pool (by decide) (by decide) fun dens H3 _ _ g => ?_
    have g3 := g2.trans g
    clear g g2
    wtm_at "rd"
    intro pA fpA
    have npp := Ne.symm (g3.pool.ne fpA)
    have fp0 := g3.free _ fpA
    have b4 : PK H p pA [] (upd H3 pA (.lst [])) := ⟨g3.new fpA, upd_same, fun x h => nomatch h⟩
    generalize upd H3 pA (.lst []) = H4 at b4
    clear fpA g3
    wtm_at "rd"
    refine turnsR (fun i σ H' => ∃ (u6 u7 u8 u9 : Option V) (prs : List (Addr × Nat × Nat)), σ = [some (.ref p), some (.int most), some (.int dir), some (.int many), some (.int dens), some (.ref pA), u6, u7, u8, u9, none, none, none, none, none, none, none, none, none] ∧ PK H p pA prs H' ∧ (∀ x ∈ prs, x.2.1 < many.toNat ∧ x.2.2 < many.toNat ∧ x.2.1 ≠ x.2.2) ∧ prs.length ≤ 25 * i) ⟨_, _, _, _, [], rfl, b4, (fun x h => nomatch h), Nat.le_refl _⟩ ?_ ?_
    · rintro i σ H' hi ⟨u6, u7, u8, u9, prs, rfl, bk, pin, pl⟩
      have hi25 : i < 25 := by omega
      wtm_at "rd"
      refine turnsR (fun j σ H' => ∃ (u7 u8 u9 : Option V) (prs : List (Addr × Nat × Nat)), σ = [some (.ref p), some (.int most), some (.int dir), some (.int many), some (.int dens), some (.ref pA), some (.int (0 + (i : Int))), u7, u8, u9, none, none, none, none, none, none, none, none, none] ∧ PK H p pA prs H' ∧ (∀ x ∈ prs, x.2.1 < many.toNat ∧ x.2.2 < many.toNat ∧ x.2.1 ≠ x.2.2) ∧ prs.length ≤ 25 * i + j) ⟨_, _, _, prs, rfl, bk, pin, pl⟩ ?_ ?_
      · rintro j σ H' hj ⟨u7, u8, u9, prs, rfl, bk, pin, pl⟩
        have hj : j < i := by omega
        have e0 : (0 + (i : Int)) = (i : Int) := Int.zero_add _
        have e1 : (0 + (j : Int)) = (j : Int) := Int.zero_add _
        rw [e0, e1]
        wtm_at "rd"
        refine ⟨fun σ' H2 => ∃ b : Bool, σ' = [some (.ref p), some (.int most), some (.int dir), some (.int many), some (.int dens), some (.ref pA), some (.int (i : Int)), some (.int (j : Int)), some (.bl b), u9, none, none, none, none, none, none, none, none, none] ∧ PK H p pA prs H2, ?_, ?_⟩
        · wtm_at "rd"
          refine rd_split (fun _ => ?_) (fun _ => ?_)
          · wtm_at "rd"
            exact ⟨_, rfl, bk⟩
          · wtm_at "rd"
            refine rd_split (fun _ => ?_) (fun _ => ?_)
            · wtm_at "rd"
              exact ⟨_, rfl, bk⟩
            · wtm_at "rd"
              intro t1 ft1
              have k1 := Same.new (o := .tup [.int (j : Int), .int (i : Int)]) ft1
              have h1 := @upd_same H' t1 (.tup [.int (j : Int), .int (i : Int)])
              wtm_at "rd"
              intro t2 ft2
              have k2 := Same.new (o := .tup [.int 1, .int 5]) ft2
              refine rd_eqIT (xs := [(j : Int), (i : Int)]) (ys := [1, 5]) (SqT.of (k2 _ _ h1)) (SqT.of upd_same) ?_
              wtm_at "rd"
              exact ⟨_, rfl, (bk.same k1).same k2⟩
        rintro σ' H2 ⟨b, rfl, bk⟩
        wtm_at "rd"
        refine ⟨fun σ' H2 => ∃ c : Bool, σ' = [some (.ref p), some (.int most), some (.int dir), some (.int many), some (.int dens), some (.ref pA), some (.int (i : Int)), some (.int (j : Int)), some (.bl b), some (.bl c), none, none, none, none, none, none, none, none, none] ∧ PK H p pA prs H2, ?_, ?_⟩
        · wtm_at "rd"
          refine rd_split (fun _ => ?_) (fun _ => ?_)
          · wtm_at "rd"
            refine rd_split (fun _ => ?_) (fun _ => ?_)
            · wtm_at "rd"
              exact ⟨_, rfl, bk⟩
            · wtm_at "rd"
              refine rd_split (fun _ => ?_) (fun _ => ?_)
              · wtm_at "rd"
                refine rd_split (fun _ => ?_) (fun _ => ?_)
                · wtm_at "rd"
                  exact ⟨_, rfl, bk⟩
                · wtm_at "rd"
                  exact ⟨_, rfl, bk⟩
              · wtm_at "rd"
                exact ⟨_, rfl, bk⟩
          · wtm_at "rd"
            refine rd_split (fun _ => ?_) (fun _ => ?_)
            · wtm_at "rd"
              refine rd_split (fun _ => ?_) (fun _ => ?_)
              · wtm_at "rd"
                exact ⟨_, rfl, bk⟩
              · wtm_at "rd"
                exact ⟨_, rfl, bk⟩
            · wtm_at "rd"
              exact ⟨_, rfl, bk⟩
        rintro σ' H2 ⟨c, rfl, bk⟩
        have np : ∀ {t : Addr}, ∀ x ∈ prs ++ [(t, j, i)], x.2.1 < many.toNat ∧ x.2.2 < many.toNat ∧ x.2.1 ≠ x.2.2 := fun {t} x hx => by
          rcases List.mem_append.mp hx with hx | hx
          · exact pin x hx
          · rw [List.mem_singleton.mp hx]
            exact ⟨by show j < many.toNat; omega, hi, by show j ≠ i; omega⟩
        have nl : ∀ {t : Addr}, (prs ++ [(t, j, i)]).length ≤ 25 * i + (j + 1) := fun {t} => by
          rw [List.length_append, List.length_singleton]
          omega
        wtm_at "rd"
        refine rd_b (fun _ => ?_) (fun _ => ?_)
        · refine rd_b (fun _ => ?_) (fun z => by cases z)
          wtm_at "rd"
          refine rd_tyL bk.hp ?_
          wtm_at "rd"
          intro t ft
          have bk := bk.same (Same.new (o := .tup [.int (j : Nat), .int (i : Nat)]) ft)
          have ht := @upd_same H2 t (.tup [.int (j : Nat), .int (i : Nat)])
          generalize upd H2 t (.tup [.int (j : Nat), .int (i : Nat)]) = H3 at bk ht
          wtm_at "rd"
          refine rd_append bk.hp (by rw [List.length_map]; omega) ?_
          exact ⟨_, _, _, prs ++ [(t, j, i)], rfl, bk.pair fp0 npp ht, np, nl⟩
        · wtm_at "rd"
          refine use_draw bk.go.pool (by decide) (by decide) fun r H2b _ _ g => ?_
          have bk := bk.step npp g
          wtm_at "rd"
          refine rd_split (fun _ => ?_) (fun _ => ?_)
          · wtm_at "rd"
            refine rd_tyL bk.hp ?_
            wtm_at "rd"
            intro t ft
            have bk := bk.same (Same.new (o := .tup [.int (j : Nat), .int (i : Nat)]) ft)
            have ht := @upd_same H2b t (.tup [.int (j : Nat), .int (i : Nat)])
            generalize upd H2b t (.tup [.int (j : Nat), .int (i : Nat)]) = H3 at bk ht
            wtm_at "rd"
            refine rd_append bk.hp (by rw [List.length_map]; omega) ?_
            exact ⟨_, _, _, prs ++ [(t, j, i)], rfl, bk.pair fp0 npp ht, np, nl⟩
          · wtm_at "rd"
            exact ⟨_, _, _, prs, rfl, bk, pin, by omega⟩
      · rintro σ H' ⟨u7, u8, u9, prs, rfl, bk, pin, pl⟩
        exact ⟨_, _, _, _, prs, rfl, bk, pin, by omega⟩
    rintro σ H5 ⟨u6, u7, u8, u9, prs, rfl, bk, pin, pl⟩
    have pl : prs.length ≤ 625 := by omega
    wtm_at "rd"
    refine use_draw bk.go.pool (by decide) (by decide) fun front Ha _ _ g => ?_
    have bk := bk.step npp g
    clear g
    wtm_at "rd"
    refine use_draw bk.go.pool (by decide) (by decide) fun shift Hb _ _ g => ?_
    have bk := bk.step npp g
    clear g
    wtm_at "rd"
    intro t ft
    have k := Same.new (o := .lst [.int 7, .int 1, .int 3, .int 11]) ft
    have ht := @upd_same Hb t (.lst [.int 7, .int 1, .int 3, .int 11])
    have ntp := Ne.symm (bk.go.pool.ne ft)
    have bk := bk.same k
    generalize upd Hb t (.lst [.int 7, .int 1, .int 3, .int 11]) = Hc at k ht bk
    clear k
    wtm_at "rd"
    refine use_draw bk.go.pool (by decide) (by decide) fun r Hd r0 r1 g => ?_
    have ht := g.at ht ntp
    have bk := bk.step npp g
    obtain ⟨step, hst, ist⟩ := pick4 (a := 7) (b := 1) (c := 3) (d := 11) r0 r1
    refine rd_ixL (SqL.of ht) hst ?_
    clear ht hst
    wtm_at "rd"
    intro wA fwA
    have nwp := Ne.symm (bk.go.pool.ne fwA)
    have fw0 := bk.go.free _ fwA
    have npw := ne_of_none bk.hp fwA
    have k := Same.new (o := .lst []) fwA
    have bk := bk.same k
    have hw := @upd_same Hd wA (.lst [])
    generalize upd Hd wA (.lst []) = He at k bk hw
    clear k g
    wtm_at "rd"
    refine turnsR (fun i σ H' => ∃ (u6 u14 u15 : Option V) (ws : List Str), σ = [some (.ref p), some (.int most), some (.int dir), some (.int many), some (.int dens), some (.ref pA), u6, u7, u8, u9, some (.int front), some (.int shift), some (.int step), some (.ref wA), u14, u15, none, none, none] ∧ PK H p pA prs H' ∧ H' wA = some (.lst (ws.map V.str)) ∧ ws.length = i ∧ Wds (decide (front = 0)) shift step ws) ⟨_, _, _, [], rfl, bk, hw, rfl, Wds.nil⟩ ?_ ?_
    · rintro i σ H' hi ⟨u6, u14, u15, ws, rfl, bk, hw, hwl, wn⟩
      have ir : 0 ≤ ((0 + (i : Int)) * step + shift) % 26 ∧ ((0 + (i : Int)) * step + shift) % 26 < 26 := by omega
      wtm_at "rd"
      refine rd_ixS letters_len (letters_at ir.1 ir.2) ?_
      have e0 : 97 + (((0 + (i : Int)) * step + shift) % 26).toNat = 97 + (((ws.length : Int) * step + shift) % 26).toNat := by rw [hwl, Int.zero_add]
      rw [e0]
      generalize hch : (⟨#[97 + (((ws.length : Int) * step + shift) % 26).toNat]⟩ : Str) = ch
      have chl : ch.length = 1 := by rw [← hch]; rfl
      wtm_at "rd"
      refine ⟨p, rfl, bk.go.pool, fun st H2 g it => ?_⟩
      have bk := bk.step npp g
      have hw := g.at hw nwp
      have tl := it.1
      wtm_at "rd"
      refine rd_tyL hw ?_
      wtm_at "rd"
      refine rd_split (fun c => ?_) (fun c => ?_)
      · wtm_at "rd"
        refine rd_addS (Nat.le_trans (Nat.add_le_add (Nat.le_of_eq chl) tl) (by decide)) ?_
        wtm_at "rd"
        refine rd_append hw (by rw [List.length_map]; omega) ?_
        have nm : WdAt (decide (front = 0)) shift step ws.length (ch ++ st) := ⟨st, it, by rw [decide_eq_true c, if_pos rfl, hch]⟩
        refine ⟨_, _, _, ws ++ [ch ++ st], rfl, bk.putW fw0 nwp npw hw, by rw [upd_same, List.map_append]; rfl, by rw [List.length_append, hwl]; rfl, wn.snoc nm⟩
      · wtm_at "rd"
        refine rd_addS (Nat.le_trans (Nat.add_le_add tl (Nat.le_of_eq chl)) (by decide)) ?_
        wtm_at "rd"
        refine rd_append hw (by rw [List.length_map]; omega) ?_
        have nm : WdAt (decide (front = 0)) shift step ws.length (st ++ ch) := ⟨st, it, by rw [decide_eq_false c, if_neg Bool.false_ne_true, hch]⟩
        refine ⟨_, _, _, ws ++ [st ++ ch], rfl, bk.putW fw0 nwp npw hw, by rw [upd_same, List.map_append]; rfl, by rw [List.length_append, hwl]; rfl, wn.snoc nm⟩
    rintro σ H6 ⟨u6, u14, u15, ws, rfl, bk, hw, hwl, wn⟩
    have nu := wn.names ist (by omega)
    wtm_at "rd"
    refine rd_forL (SqL.of bk.hp) ?_
    intro D fD
    refine lcL (K := K) (xs := prs.map fun x => V.ref x.1) (fun i H' => ∃ es : List (Addr × Str × Str), Same H6 H' ∧ H' D = some (.lst (es.map fun x => V.ref x.1)) ∧ PrsAt H' es ∧ (∀ x ∈ es.map (·.2), (x.1 ∈ ws ∧ x.2 ∈ ws) ∧ eOf x.1 x.2 = x ∧ x.1 ≠ x.2) ∧ es.length ≤ i) ⟨[], Same.new fD, upd_same, (fun x h => nomatch h), (fun x h => nomatch h), Nat.le_refl _⟩ ?_ ?_ ?_
    · rintro i H' hi ⟨es, sb, _⟩
      exact SqL.of (sb _ _ bk.hp)
    · rintro i y H' hy ⟨es, sb, hD, tp, em, el⟩
      obtain ⟨hi, rfl⟩ := map_at hy
      have pm := List.getElem_mem hi
      have ht := sb _ _ (bk.tp _ pm)
      have pi := pin _ pm
      generalize prs[i] = x at *
      obtain ⟨xa, a, b⟩ := x
      dsimp only at ht pi ⊢
      have ha : a < ws.length := by omega
      have hb : b < ws.length := by omega
      refine rd_unp (SqT.of (xs := [.int (a : Nat), .int (b : Nat)]) ht) rfl ?_
      wtm_at "rd"
      refine rd_ixL (SqL.of (sb _ _ hw)) (v := .str ws[a]) (atI_nat (by rw [List.getElem?_map, List.getElem?_eq_getElem ha]; rfl)) ?_
      wtm_at "rd"
      refine rd_ixL (SqL.of (sb _ _ hw)) (v := .str ws[b]) (atI_nat (by rw [List.getElem?_map, List.getElem?_eq_getElem hb]; rfl)) ?_
      have nab : ws[a] ≠ ws[b] := fun z => pi.2.2 (by
        have inj := List.pairwise_iff_getElem.mp (List.nodup_iff_pairwise_ne.mp nu.nd)
        rcases Nat.lt_trichotomy a b with c | c | c
        · exact absurd z (inj a b ha hb c)
        · exact c
        · exact absurd z.symm (inj b a hb ha c))
      have ma := List.getElem_mem ha
      have mb := List.getElem_mem hb
      generalize ws[a] = xa at *
      generalize ws[b] = xb at *
      wtm_at "rd"
      intro t1 ft1
      have k1 := Same.new (o := .lst [.str xa, .str xb]) ft1
      wtm_at "rd"
      refine rd_sortS (xs := [xa, xb]) (SqL.of upd_same) (by show 2 ≤ 100000; decide) ?_
      intro ys py sy t2 ft2
      have k2 := Same.new (o := .lst (ys.map V.str)) ft2
      wtm_at "rd"
      refine rd_tupleL (SqL.of upd_same) ?_
      intro t3 ft3
      have k3 := Same.new (o := .tup (ys.map V.str)) ft3
      have sA := (k1.trans k2).trans k3
      have h3 := @upd_same (upd (upd H' t1 (.lst [.str xa, .str xb])) t2 (.lst (ys.map V.str))) t3 (.tup (ys.map V.str))
      generalize upd (upd (upd H' t1 (.lst [.str xa, .str xb])) t2 (.lst (ys.map V.str))) t3 (.tup (ys.map V.str)) = Ha at sA h3
      rw [sort2h py sy] at h3
      refine rd_acc (sA _ _ hD) (by rw [List.length_map]; omega) ?_
      have hDa := sA _ _ hD
      refine ⟨es ++ [(t3, eOf xa xb)], same_put (sb.trans sA) fD, by rw [upd_same, List.map_append]; rfl, fun z hz => ?_, fun z hz => ?_, by rw [List.length_append, List.length_singleton]; omega⟩
      · rcases List.mem_append.mp hz with hz | hz
        · exact at_upd (ne_of (sA _ _ (tp z hz)) hDa (by intro z; cases z)) (sA _ _ (tp z hz))
        · rw [List.mem_singleton] at hz
          subst hz
          exact at_upd (ne_of h3 hDa (by intro z; cases z)) h3
      · rw [List.map_append] at hz
        rcases List.mem_append.mp hz with hz | hz
        · exact em z hz
        · rw [List.mem_singleton.mp hz]
          refine ⟨?_, eOf_idem, ?_⟩
          · show (eOf xa xb).1 ∈ ws ∧ (eOf xa xb).2 ∈ ws
            rcases eOf_cases xa xb with z | z <;> rw [z]
            · exact ⟨ma, mb⟩
            · exact ⟨mb, ma⟩
          · show (eOf xa xb).1 ≠ (eOf xa xb).2
            rcases eOf_cases xa xb with z | z <;> rw [z]
            · exact nab
            · exact nab.symm
    rintro H7 ⟨es, s7, hD, tp, em, el⟩
    rw [List.length_map] at el
    have g7 := bk.go.same s7
    have hw := s7 _ _ hw
    clear bk s7 fD
    wtm_at "rd"
    refine rd_sortE (SqL.of hD) (fun x hx => SqT.of (tp x hx)) (by omega) ?_
    intro es2 pe se
    have tp : PrsAt H7 es2 := fun x hx => tp x (pe.mem_iff.mp hx)
    have em : ∀ x ∈ es2.map (·.2), (x.1 ∈ ws ∧ x.2 ∈ ws) ∧ eOf x.1 x.2 = x ∧ x.1 ≠ x.2 := fun x hx => em x ((pe.map (·.2)).mem_iff.mp hx)
    have el2 : es2.length ≤ 700 := by rw [pe.length_eq]; omega
    intro eA feA
    have k := Same.new (o := .lst (es2.map fun x => V.ref x.1)) feA
    have he := @upd_same H7 eA (.lst (es2.map fun x => V.ref x.1))
    have hw := k _ _ hw
    have tp := tp.same k
    have g7 := g7.same k
    generalize upd H7 eA (.lst (es2.map fun x => V.ref x.1)) = H8 at he hw tp g7
    clear k feA hD
    wtm_at "rd"
    refine rd_sortS (SqL.of hw) (by omega) ?_
    intro ns1 pn1 sn1 l1 fl1
    have k := Same.new (o := .lst (ns1.map V.str)) fl1
    have hl1 := @upd_same H8 l1 (.lst (ns1.map V.str))
    have hw := k _ _ hw
    have he := k _ _ he
    have tp := tp.same k
    have g7 := g7.same k
    generalize upd H8 l1 (.lst (ns1.map V.str)) = H9 at hl1 hw he tp g7
    clear k fl1
    wtm_at "rd"
    refine rd_tupleL (SqL.of hl1) ?_
    intro nA fnA
    have k := Same.new (o := .tup (ns1.map V.str)) fnA
    have hn := @upd_same H9 nA (.tup (ns1.map V.str))
    have hw := k _ _ hw
    have he := k _ _ he
    have tp := tp.same k
    have g7 := g7.same k
    generalize upd H9 nA (.tup (ns1.map V.str)) = Ha at hn hw he tp g7
    clear k fnA
    wtm_at "rd"
    refine rd_tupleL (SqL.of he) ?_
    intro eT feT
    have k := Same.new (o := .tup (es2.map fun x => V.ref x.1)) feT
    have het := @upd_same Ha eT (.tup (es2.map fun x => V.ref x.1))
    have hn := k _ _ hn
    have tp := tp.same k
    have g7 := g7.same k
    generalize upd Ha eT (.tup (es2.map fun x => V.ref x.1)) = Hb at hn het tp g7
    clear k feT
    wtm_at "rd"
    intro gA fgA
    have k := Same.new (o := .tup [.ref nA, .ref eT]) fgA
    have hg := @upd_same Hb gA (.tup [.ref nA, .ref eT])
    have hn := k _ _ hn
    have het := k _ _ het
    have tp := tp.same k
    have g7 := g7.same k
    generalize upd Hb gA (.tup [.ref nA, .ref eT]) = Hz at hn het tp g7 hg
    exact q gA nA eT ns1 es2 Hz g7 ⟨⟨hg, hn, het, tp⟩, fun x hx => nu.ok x (pn1.mem_iff.mp hx), pn1.nodup_iff.mpr nu.nd, fun x hx => ⟨pn1.mem_iff.mpr (em x hx).1.1, pn1.mem_iff.mpr (em x hx).1.2⟩, fun x hx => (em x hx).2.1, fun x hx => (em x hx).2.2, by rw [pn1.length_eq]; omega, by omega⟩ ⟨by rw [pn1.length_eq]; omega, el2, asc_of_sorted sn1 (pn1.nodup_iff.mpr nu.nd)⟩
end
end Law

/-! a def that calls itself -/
namespace Law
open PySem PySem.Spec PyProof.Rows L2 U
structure SelfR (K : PySem.W.Frag) (mg : Str → Option Value) (x : Str) (f : Addr) (fd : FuncData) (ps : List Str) : Prop where
  mg : mg x = some (.ref f)
  kp : PySem.W.keepIn K (.ref f) = true
  bd : Binds K fd ps []
end Law


/-! k61: is_tree_below -/
namespace U
open PySem PySem.Spec PyProof.Rows L2
/-- a candidate: no tree, three texts, or a text, a name and parts -/
inductive Tr where
  | no
  | leaf (l x y : Str)
  | node (l x : Str) (ts : List Tr)
def trK (tr : List (Str × Int)) : List (Key × V) := tr.map fun x => (.inr x.1, .int x.2)
def valS (tr : List (Str × Int)) (x : Str) : Option Int := (tr.find? fun y => decide (y.1 = x)).map (·.2)
def putS (tr : List (Str × Int)) (x : Str) (v : Int) : List (Str × Int) := if (tr.any fun y => decide (y.1 = x)) = true then tr.map (fun y => if y.1 = x then (y.1, v) else y) else tr ++ [(x, v)]
theorem valS_K {x : Str} : ∀ {tr : List (Str × Int)}, valV (trK tr) (.inr x) = (valS tr x).map V.int
  | [] => rfl
  | y :: r => by
    have ih := valS_K (x := x) (tr := r)
    unfold valV valS trK at ih ⊢
    rw [List.map_cons]
    by_cases c : y.1 = x
    · rw [List.find?_cons_of_pos (by simp [c]), List.find?_cons_of_pos (by simp [c])]
      rfl
    · rw [List.find?_cons_of_neg (by simp [c]), List.find?_cons_of_neg (by simp [c]), ih]
theorem putS_K {tr : List (Str × Int)} {x : Str} {v : Int} : putK (trK tr) (.inr x) (.int v) = trK (putS tr x v) := by
  have an : ((trK tr).any fun kv => decide (kv.1 = .inr x)) = tr.any fun y => decide (y.1 = x) := by
    unfold trK
    rw [List.any_map]
    congr 1
    funext y
    exact decide_eq_decide.mpr ⟨fun e => Sum.inr.inj e, fun e => congrArg Sum.inr e⟩
  unfold putK putS
  rw [an]
  by_cases c : (tr.any fun y => decide (y.1 = x)) = true
  · rw [if_pos c, if_pos c]
    unfold trK
    rw [List.map_map, List.map_map]
    refine List.map_congr_left fun y _ => ?_
    simp only [Function.comp]
    by_cases z : y.1 = x
    · rw [if_pos (by rw [z]), if_pos z]
    · rw [if_neg (fun e => z (Sum.inr.inj e)), if_neg z]
  · rw [if_neg c, if_neg c]
    unfold trK
    rw [List.map_append]
    rfl
theorem putS_len {tr : List (Str × Int)} {x : Str} {v : Int} : (putS tr x v).length ≤ tr.length + 1 := by
  unfold putS
  split
  · rw [List.length_map]; omega
  · rw [List.length_append]; exact Nat.le_refl _
/-- is it a case tree below these values -/
def okT (ns : List Str) (es : List (Str × Str)) : Nat → Tr → List (Str × Int) → Bool
  | _, .no, _ => false
  | _, .leaf l x y, tr => decide (l = "conflict") && (decide (x ∈ ns) && (decide (eOf x y ∈ es) && ((valS tr x).isSome && ((valS tr y).isSome && decide (valS tr x = valS tr y)))))
  | 0, .node _ _ _, _ => false
  | n + 1, .node l x ts, tr => decide (l = "branch") && (decide (x ∈ ns) && ((valS tr x).isNone && match ts with
    | [a, b, c] => [okT ns es n a (putS tr x 0), okT ns es n b (putS tr x 1), okT ns es n c (putS tr x 2)].all id
    | _ => false))
theorem okT_leaf {ns : List Str} {es : List (Str × Str)} {n : Nat} {l x y : Str} {tr : List (Str × Int)} : okT ns es n (.leaf l x y) tr = (decide (l = "conflict") && (decide (x ∈ ns) && (decide (eOf x y ∈ es) && ((valS tr x).isSome && ((valS tr y).isSome && decide (valS tr x = valS tr y)))))) := by
  unfold okT
  rfl
theorem okT_node {ns : List Str} {es : List (Str × Str)} {n : Nat} {l x : Str} {ts : List Tr} {tr : List (Str × Int)} : okT ns es (n + 1) (.node l x ts) tr = (decide (l = "branch") && (decide (x ∈ ns) && ((valS tr x).isNone && (decide (ts.length = 3) && (((List.range 3).map fun i => okT ns es n (ts.getD i .no) (putS tr x i)).all id))))) := by
  conv => lhs; unfold okT
  match ts with
  | [] => simp
  | [_] => simp
  | [_, _] => simp
  | [a, b, c] =>
    rw [show (decide ([a, b, c].length = 3)) = true from rfl, Bool.true_and]
    rfl
  | a :: b :: c :: d :: r =>
    rw [show decide ((a :: b :: c :: d :: r).length = 3) = false from decide_eq_false (by simp), Bool.false_and]
theorem conf_ne : ("conflict" : Str) ≠ "branch" := by decide +kernel
/-- a random tree in the heap -/
def RtAt : Nat → (Addr → Prop) → Hp → V → Tr → Prop
  | _, _, H, v, .no => v = .non ∨ v = .str "ab" ∨ ∃ a, v = .ref a ∧ (H a = some (.tup []) ∨ H a = some (.tup [.str "conflict", .int 1, .int 2]))
  | _, _, H, v, .leaf l x y => ∃ a, v = .ref a ∧ H a = some (.tup [.str l, .str x, .str y])
  | 0, _, _, _, .node _ _ _ => False
  | n + 1, p, H, v, .node l x ts => ∃ (a q : Addr) (vs : List V), v = .ref a ∧ H a = some (.tup [.str l, .str x, .ref q]) ∧ H q = some (.lst vs) ∧ ¬ p q ∧ Paired (RtAt n p H) vs ts
theorem Paired.mapR {α β : Type} {F G : α → β → Prop} (h : ∀ a b, F a b → G a b) : ∀ {xs : List α} {ys : List β}, Paired F xs ys → Paired G xs ys
  | _, _, .nil => .nil
  | _, _, .cons a r => .cons (h _ _ a) (Paired.mapR h r)
theorem Paired.lenR {α β : Type} {F : α → β → Prop} : ∀ {xs : List α} {ys : List β}, Paired F xs ys → xs.length = ys.length
  | _, _, .nil => rfl
  | _, _, .cons _ r => congrArg (· + 1) (Paired.lenR r)
theorem RtAt.keep {p : Addr → Prop} {H H' : Hp} (kt : ∀ a xs, H a = some (.tup xs) → H' a = some (.tup xs)) (kl : ∀ a xs, ¬ p a → H a = some (.lst xs) → H' a = some (.lst xs)) : ∀ {n : Nat} {v : V} {t : Tr}, RtAt n p H v t → RtAt n p H' v t
  | n, v, .no, h => by
    unfold RtAt at h ⊢
    rcases h with h | h | ⟨a, e, h⟩
    · exact .inl h
    · exact .inr (.inl h)
    · exact .inr (.inr ⟨a, e, h.imp (kt _ _) (kt _ _)⟩)
  | n, v, .leaf l x y, h => by
    unfold RtAt at h ⊢
    obtain ⟨a, e, h⟩ := h
    exact ⟨a, e, kt _ _ h⟩
  | 0, v, .node l x ts, h => by
    unfold RtAt at h
    exact h.elim
  | n + 1, v, .node l x ts, h => by
    unfold RtAt at h ⊢
    obtain ⟨a, q, vs, e, h1, h2, h3, h4⟩ := h
    exact ⟨a, q, vs, e, kt _ _ h1, kl _ _ h3 h2, h3, Paired.mapR (fun a b z => RtAt.keep kt kl z) h4⟩
theorem RtAt.same {p : Addr → Prop} {H H' : Hp} {n : Nat} {v : V} {t : Tr} (h : RtAt n p H v t) (s : Same H H') : RtAt n p H' v t := h.keep (fun a xs => s _ _) (fun a xs _ => s _ _)
/-- no tree -/
def NtAt (K : PySem.W.Frag) (H : Hp) (v : V) : Prop := (∃ ty, TyIs K H v ty ∧ isT ty .tup = false) ∨ (∃ a xs, v = .ref a ∧ SqT K H a xs ∧ xs.length ≠ 3) ∨ ∃ a l m r ty, v = .ref a ∧ SqT K H a [l, m, r] ∧ TyIs K H m ty ∧ isT ty .str = false
/-- a candidate, seen from above -/
theorem RtAt.see {K : PySem.W.Frag} {n : Nat} {p : Addr → Prop} {H : Hp} {v : V} {t : Tr} {ns : List Str} {es : List (Str × Str)} {tr : List (Str × Int)} (h : RtAt n p H v t) :
    (NtAt K H v ∧ okT ns es n t tr = false) ∨ (∃ l x y a, t = .leaf l x y ∧ v = .ref a ∧ H a = some (.tup [.str l, .str x, .str y])) ∨ ∃ m l x ts a q vs, n = m + 1 ∧ t = .node l x ts ∧ v = .ref a ∧ H a = some (.tup [.str l, .str x, .ref q]) ∧ H q = some (.lst vs) ∧ ¬ p q ∧ Paired (RtAt m p H) vs ts := by
  match n, t, h with
  | n, .no, h =>
    unfold RtAt at h
    refine .inl ⟨?_, by unfold okT; rfl⟩
    rcases h with rfl | rfl | ⟨a, rfl, h | h⟩
    · exact .inl ⟨.non, .base .non, rfl⟩
    · exact .inl ⟨.str, .base (.str _), rfl⟩
    · exact .inr (.inl ⟨a, _, rfl, SqT.of h, by decide⟩)
    · exact .inr (.inr ⟨a, _, _, _, .int, rfl, SqT.of h, .base (.int _), rfl⟩)
  | n, .leaf l x y, h =>
    unfold RtAt at h
    obtain ⟨a, e, h⟩ := h
    exact .inr (.inl ⟨l, x, y, a, rfl, e, h⟩)
  | n + 1, .node l x ts, h =>
    unfold RtAt at h
    obtain ⟨a, q, vs, h⟩ := h
    exact .inr (.inr ⟨n, l, x, ts, a, q, vs, rfl, rfl, h⟩)
end U
namespace Law
open PySem PySem.Spec PyProof.Rows L2 U


theorem RtAt.go {W : Addr → Prop} {p : Addr} {H H' : Hp} {n : Nat} {v : V} {t : Tr} (h : RtAt n W H v t) (wp : W p) (hp : PoolAt H p) (g : Go p H H') : RtAt n W H' v t := h.keep (fun a xs z => g.at z (hp.offTB z)) (fun a xs ne z => g.at z fun e => ne (e ▸ wp))
theorem RtAt.mono {W W' : Addr → Prop} (w : ∀ a, W' a → W a) {H : Hp} : ∀ {n : Nat} {v : V} {t : Tr}, RtAt n W H v t → RtAt n W' H v t
  | n, v, .no, h => by
    unfold RtAt at h ⊢
    exact h
  | n, v, .leaf l x y, h => by
    unfold RtAt at h ⊢
    exact h
  | 0, v, .node l x ts, h => by
    unfold RtAt at h
    exact h.elim
  | n + 1, v, .node l x ts, h => by
    unfold RtAt at h ⊢
    obtain ⟨a, q, vs, e, h1, h2, h3, h4⟩ := h
    exact ⟨a, q, vs, e, h1, h2, fun z => h3 (w q z), Paired.mapR (fun a b z => RtAt.mono w z) h4⟩
theorem rd_dispT {σ : L2.St} {H : Hp} {Q : VK} {tk tv : TE} (h : ∀ p, H p = none → tk σ (upd H p (.dK [])) fun x H1 => tv σ H1 fun y H2 => H2 p = some (.dK []) ∧ ∃ kvs : List (Key × V), [(x, y)] = kvs.map (fun kv => (kV kv.1, kv.2)) ∧ kvs.length ≤ 15 ∧ Q (.ref p) (upd H2 p (.dK (mergeK [] kvs)))) : tDisp [(tk, tv)] σ H Q := h
def spHasT (K : PySem.W.Frag) : Sp := fun vs H Q _ => ∃ (g n e : Addr) (v : V) (ty : Ty) (ns : List Str) (es : List (Addr × Str × Str)), vs = [.ref g, v] ∧ GrAt H g n e ns es ∧ ((∃ x, v = .str x ∧ Q (.bl (decide (x ∈ ns))) H) ∨ (TyIs K H v ty ∧ isT ty .str = false ∧ Q (.bl false) H))
def spEdgeT : Sp := fun vs H Q _ => ∃ x y : Str, vs = [.str x, .str y] ∧ ∀ t, H t = none → Q (.ref t) (upd H t (.tup [.str (eOf x y).1, .str (eOf x y).2]))
def spTree (K : PySem.W.Frag) (n : Nat) : Sp := fun vs H Q _ => ∃ (g nA e d : Addr) (p : Addr → Prop) (v : V) (ns : List Str) (es : List (Addr × Str × Str)) (tr : List (Str × Int)) (b : Bool), vs = [.ref g, v, .ref d] ∧ GrN H g nA e ns es ∧ H d = some (.dK (trK tr)) ∧ tr.length + n ≤ 100 ∧ ((NtAt K H v ∧ b = false) ∨ ∃ t, RtAt n p H v t ∧ b = okT ns (es.map (·.2)) n t tr) ∧
  ∀ H', Same H H' → Q (.bl b) H'
theorem GrN.same {H H' : Hp} {g n e : Addr} {ns : List Str} {es : List (Addr × Str × Str)} (h : GrN H g n e ns es) (s : Same H H') : GrN H' g n e ns es := ⟨h.gr.same s, h.nm, h.nd, h.mem, h.so, h.ne, h.l1, h.l2⟩
theorem GrN.sok {H : Hp} {g n e : Addr} {ns : List Str} {es : List (Addr × Str × Str)} (h : GrN H g n e ns es) : ∀ x ∈ es.map (·.2), PyData.strOk x.1 = true ∧ PyData.strOk x.2 = true := fun x hx => ⟨(h.nm _ (h.mem x hx).1).sok, (h.nm _ (h.mem x hx).2).sok⟩
section
variable {P : Program} {w : World} {K : PySem.W.Frag} {mg : Str → Option Value} {base : Heap}
theorem ok_hasT {f : Addr} {fd : FuncData} (F : Fun K "has_node" "has_node" s_has_node f fd) (B : Bt mg) : FnG P w K mg base CX0 1 f fd ["graph", "candidate"] (spHasT K) := by
  refine fnG0 F sc_has_node (fun vs H Q E h => ?_) (fun cdv A outer s H vs Q E hr h => ?_)
  · obtain ⟨g, n, e, v, ty, ns, es, rfl, _⟩ := h
    rfl
  · obtain ⟨g, n, e, v, ty, ns, es, rfl, hg, h⟩ := h
    have nd := sc_has_node.nd
    have hu := hr.u1
    refine ⟨_, (pss_one (ps_ret (pe_and (pe_callB (kIsi K rfl) (by rfl) B.isinstance bb_isinstance (pa_cons (pv 1) (pa_cons (pe_ty rfl B.str bb_str) pa_nil))) (pe_one (pe_cmpR (kIn K rfl) (pv 1) (pe_ix (kIx K rfl) (pv 0) pe_int (fun _ _ => rfl)) rfl))))), ?_⟩
    wtm_at "rd"
    rcases h with ⟨x, rfl, q⟩ | ⟨ht, hs, q⟩
    · refine rd_isi (a := .str) (.base (.str _)) rfl ?_
      rw [show isT Ty.str Ty.str = true from rfl]
      wtm_at "rd"
      refine rd_ixT (SqT.of hg.top) (v := .ref n) rfl ?_
      refine rd_inST (SqT.of hg.nodes) ?_
      wtm_at "rd"
      exact q
    · refine rd_isi ht rfl ?_
      rw [hs]
      wtm_at "rd"
      exact q
theorem ok_edgeT {f : Addr} {fd : FuncData} (F : Fun K "edge_of" "edge_of" s_edge_of f fd) (B : Bt mg) : FnG P w K mg base CX0 1 f fd ["first", "second"] spEdgeT := by
  refine fnG0 F sc_edge_of (fun vs H Q E h => ?_) (fun cdv A outer s H vs Q E hr h => ?_)
  · obtain ⟨x, y, rfl, _⟩ := h
    rfl
  · obtain ⟨x, y, rfl, q⟩ := h
    have nd := sc_edge_of.nd
    refine ⟨_, (pss_one (ps_ret (pe_ifExp (pt_cmpR uLt (pv 0) (pv 1) (nomark _)) (pe_tup (pa_cons (pv 0) (pa_cons (pv 1) pa_nil))) (pe_tup (pa_cons (pv 1) (pa_cons (pv 0) pa_nil)))))), ?_⟩
    unfold eOf at q
    wtm_at "rd"
    refine rd_split (fun c => ?_) (fun c => ?_)
    · have c : sLt x y := c
      rw [if_pos c] at q
      wtm_at "rd"
      exact fun t ft => q t ft
    · have c : ¬ sLt x y := c
      rw [if_neg c] at q
      wtm_at "rd"
      exact fun t ft => q t ft
structure CUa (P : Program) (w : World) (K : PySem.W.Frag) (mg : Str → Option Value) (base : Heap) : Prop where
  has_node : Cal P w K mg base CX0 1 "has_node" (spHasT K)
  edge_of : Cal P w K mg base CX0 1 "edge_of" spEdgeT
theorem ok_tree {f : Addr} {fd : FuncData} {va : Addr} (F : Fun K "is_tree_below" "is_tree_below" s_is_tree_below f fd) (B : Bt mg) (C : CUa P w K mg base) (S : SelfR K mg "is_tree_below" f fd ["graph", "candidate", "values"]) (hV : mg "VALUES" = some (.ref va)) (sV : ∀ H, SqT K H va ([0, 1, 2].map V.int)) : ∀ n : Nat, FnG P w K mg base CX0 (n + 2) f fd ["graph", "candidate", "values"] (spTree K n) := by
  intro n
  induction n using Nat.strongRecOn with
  | ind n ih =>
  have cal : Cal P w K mg base CX0 (n + 1) "is_tree_below" (fun vs H Q E => ∃ m, m < n ∧ spTree K m vs H Q E) := ⟨f, fd, _, ⟨fun vs H Q E h => by
    obtain ⟨m, hm, h⟩ := h
    exact (ih m hm).len vs H Q E h, fun A outer s H args us vs Q E hr he hb hv h => by
    obtain ⟨m, hm, h⟩ := h
    exact (ih m hm).go A outer s H args us vs Q E (hr.mono (by omega)) he hb hv h⟩, S.mg, S.kp, S.bd⟩
  refine fnG0 F sc_is_tree_below (fun vs H Q E h => ?_) (fun cdv A outer s H vs Q E hr h => ?_)
  · obtain ⟨g, nA, e, d, p, v, ns, es, tr, b, rfl, _⟩ := h
    rfl
  · have hu65 : (A.deeper (envOfC "is_tree_below" (defScope s_is_tree_below) s.heap.objs.size f cdv)).units + 65 < cLine := by
      have := hr.u100
      omega
    obtain ⟨g, nA, e, d, p, v, ns, es, tr, b, rfl, gn, hd, tl, cand, q⟩ := h
    have nd := sc_is_tree_below.nd
    have hu := hr.u1
    refine ⟨_, (pss_cons (ps_if (PW.pt (pw_or (pt_not (pt_val (pe_callB (kIsi K rfl) (by rfl) B.isinstance bb_isinstance (pa_cons (pv 1) (pa_cons (pe_ty rfl B.tuple bb_tuple) pa_nil))))) (pw_or (pt_cmpR (kNe K rfl hr.u64) (pe_callB (kLen K rfl) (by rfl) B.len bb_len (pa_cons (pv 1) pa_nil)) pe_int (nomark _)) (pw_or1 (pt_not (pt_val (pe_c C.has_node hr (by omega) rfl (pa_cons (pv 0) (pa_cons (pe_ix (kIx K rfl) (pv 1) pe_int (fun _ _ => rfl)) pa_nil))))))))) (pss_one (ps_ret pe_bl)) pss_nil)
  (pss_cons (ps_asg (pv 1) (kg_tup (n := 3) K rfl rfl (pgs_cons (pg_name (i := 3) nd rfl (by first | exact Or.inl rfl | exact Or.inr rfl)) (pgs_cons (pg_name (i := 4) nd rfl (by first | exact Or.inl rfl | exact Or.inr rfl)) (pgs_cons (pg_name (i := 5) nd rfl (by first | exact Or.inl rfl | exact Or.inr rfl)) pgs_nil)))))
  (pss_cons (ps_if (PW.pt (pw_and (pt_cmpR (kEq K rfl hr.u64) (pv 3) pe_str (nomark _)) (pw_and1 (pt_val (pe_c C.has_node hr (by omega) rfl (pa_cons (pv 0) (pa_cons (pv 5) pa_nil))))))) (pss_cons (ps_set (i := 6) nd rfl (by first | exact Or.inl rfl | exact Or.inr rfl) (pe_cmpR (kInT K rfl hu65) (pe_c C.edge_of hr (by omega) rfl (pa_cons (pv 4) (pa_cons (pv 5) pa_nil))) (pe_ix (kIx K rfl) (pv 0) pe_int (fun _ _ => rfl)) rfl))
  (pss_one (ps_ret (pe_and (pv 6) (pe_and (pe_cmp (pc_din hu (pv 4) (pv 2))) (pe_and (pe_cmp (pc_din hu (pv 5) (pv 2))) (pe_one (pe_cmpR (kEq K rfl hr.u64) (pe_dget hu (pv 2) (pv 4) (fun _ _ => rfl)) (pe_dget hu (pv 2) (pv 5) (fun _ _ => rfl)) (nomark _))))))))) pss_nil)
  (pss_cons (ps_if (PW.pt (pw_or (pt_cmpR (kNe K rfl hr.u64) (pv 3) pe_str (nomark _)) (pw_or (pt_cmp (pc_din hu (pv 4) (pv 2))) (pw_or (pt_not (pt_val (pe_callB (kIsi K rfl) (by rfl) B.isinstance bb_isinstance (pa_cons (pv 5) (pa_cons (pe_ty rfl B.list bb_list) pa_nil))))) (pw_or1 (pt_cmpR (kNe K rfl hr.u64) (pe_callB (kLen K rfl) (by rfl) B.len bb_len (pa_cons (pv 5) pa_nil)) (pe_callB (kLen K rfl) (by rfl) B.len bb_len (pa_cons (pe_gl (v := .ref va) rfl ⟨_, hV, rfl⟩) pa_nil)) (nomark _))))))) (pss_one (ps_ret pe_bl)) pss_nil)
  (pss_one (ps_ret (pe_callB (kAll K rfl rfl) (by rfl) B.all bb_all (pa_cons (pe_lc (own := [("value", 7)]) rfl nd (ki_tup K rfl (pe_gl (v := .ref va) rfl ⟨_, hV, rfl⟩)) (blkOk_by (own := [("value", 7)]) (N := nN_is_tree_below) (sc := defScope s_is_tree_below) (by decide +kernel)) (fun _ _ _ _ _ => (pg_name (i := 7) nd rfl (by first | exact Or.inl rfl | exact Or.inr rfl))) (fun _ _ _ _ _ => pts_nil) (fun _ _ _ _ _ => (pe_c cal hr (by omega) rfl (pa_cons (pv 0) (pa_cons (pe_ix (kIx K rfl) (pv 5) (pv 7) (fun _ _ => rfl)) (pa_cons (pe_op uBor (pv 2) (pe_disp (pps_cons (pv 4) (pv 7) pps_nil) (by rfl) (by rfl) (fun z => by cases z) (by decide))) pa_nil)))))) pa_nil)))))))), ?_⟩
    have seen : (NtAt K H v ∧ b = false) ∨ (∃ l x y a, v = .ref a ∧ H a = some (.tup [.str l, .str x, .str y]) ∧ b = okT ns (es.map (·.2)) n (.leaf l x y) tr) ∨ ∃ m l x ts a q vs, n = m + 1 ∧ v = .ref a ∧ H a = some (.tup [.str l, .str x, .ref q]) ∧ H q = some (.lst vs) ∧ Paired (RtAt m p H) vs ts ∧ b = okT ns (es.map (·.2)) (m + 1) (.node l x ts) tr := by
      rcases cand with h | ⟨t, h, e⟩
      · exact .inl h
      · rcases h.see (K := K) (ns := ns) (es := es.map (·.2)) (tr := tr) with ⟨z, z2⟩ | ⟨l, x, y, a, rfl, z⟩ | ⟨m, l, x, ts, a, q, vs, rfl, rfl, z1, z2, z3, _, z4⟩
        · exact .inl ⟨z, e.trans z2⟩
        · exact .inr (.inl ⟨l, x, y, a, z.1, z.2, e⟩)
        · exact .inr (.inr ⟨m, l, x, ts, a, q, vs, rfl, z1, z2, z3, z4, e⟩)
    clear cand
    wtm_at "rd"
    rcases seen with ⟨nt, rfl⟩ | ⟨l, x, y, a, rfl, ha, rfl⟩ | ⟨m, l, x, ts, a, qa, vs, rfl, rfl, ha, hqa, pr, rfl⟩
    · rcases nt with ⟨ty, ht, hs⟩ | ⟨a, xs, rfl, ha, hl⟩ | ⟨a, l, m, r, ty, rfl, ha, ht, hs⟩
      · refine rd_isi ht rfl ?_
        rw [hs]
        wtm_at "rd"
        exact q H fun _ _ h => h
      · refine rd_isi (ty_seqT ha) rfl ?_
        rw [show isT Ty.tup Ty.tup = true from rfl]
        wtm_at "rd"
        refine rd_lenT ha ?_
        wtm_at "rd"
        refine rd_nyes (by omega) ?_
        wtm_at "rd"
        exact q H fun _ _ h => h
      · refine rd_isi (ty_seqT ha) rfl ?_
        rw [show isT Ty.tup Ty.tup = true from rfl]
        wtm_at "rd"
        refine rd_lenT ha ?_
        wtm_at "rd"
        refine rd_nno (by rfl) ?_
        wtm_at "rd"
        refine rd_ixT ha (v := m) rfl ?_
        wtm_at "rd"
        refine ⟨g, nA, e, m, ty, ns, es, rfl, gn.gr, .inr ⟨ht, hs, ?_⟩⟩
        wtm_at "rd"
        exact q H fun _ _ h => h
    · have fin : ∀ b' H', Same H H' → okT ns (es.map (·.2)) n (.leaf l x y) tr = b' → Q (.bl b') H' := fun b' H' s e => e ▸ q H' s
      clear q
      rw [okT_leaf] at fin
      have s0 : Same H H := fun _ _ h => h
      refine rd_isi (ty_tup ha) rfl ?_
      rw [show isT Ty.tup Ty.tup = true from rfl]
      wtm_at "rd"
      refine rd_lenT (SqT.of ha) ?_
      wtm_at "rd"
      refine rd_nno (by rfl) ?_
      wtm_at "rd"
      refine rd_ixT (SqT.of ha) (v := .str x) rfl ?_
      wtm_at "rd"
      refine ⟨g, nA, e, .str x, .str, ns, es, rfl, gn.gr, .inl ⟨x, rfl, ?_⟩⟩
      by_cases hx : x ∈ ns
      · rw [decide_eq_true hx]
        wtm_at "rd"
        refine rd_unp (SqT.of ha) rfl ?_
        wtm_at "rd"
        refine rd_split (fun c1 => ?_) (fun c1 => ?_)
        · wtm_at "rd"
          refine ⟨g, nA, e, .str y, .str, ns, es, rfl, gn.gr, .inl ⟨y, rfl, ?_⟩⟩
          by_cases hy : y ∈ ns
          · rw [decide_eq_true hy]
            wtm_at "rd"
            refine ⟨x, y, rfl, fun t ft => ?_⟩
            have k := Same.new (o := .tup [.str (eOf x y).1, .str (eOf x y).2]) ft
            have ht := @upd_same H t (.tup [.str (eOf x y).1, .str (eOf x y).2])
            have gn1 := gn.same k
            have hd1 := k _ _ hd
            generalize upd H t (.tup [.str (eOf x y).1, .str (eOf x y).2]) = H1 at k ht gn1 hd1
            wtm_at "rd"
            refine rd_ixT (SqT.of gn1.gr.top) (v := .ref e) rfl ?_
            refine rd_inTE (e := eOf x y) (SqT.of ht) (SqT.of gn1.gr.edges) (fun x hx => SqT.of (gn1.gr.pairs x hx)) (by
              rcases eOf_cases x y with e | e <;> rw [e]
              · exact ⟨(gn.nm _ hx).sok, (gn.nm _ hy).sok⟩
              · exact ⟨(gn.nm _ hy).sok, (gn.nm _ hx).sok⟩) gn1.sok ?_
            rw [decide_eq_true c1, decide_eq_true hx, Bool.true_and, Bool.true_and] at fin
            wtm_at "rd"
            refine rd_split (fun c3 => ?_) (fun c3 => ?_)
            · rw [decide_eq_true c3, Bool.true_and] at fin
              wtm_at "rd"
              refine rd_din1 (.inl hd1) (k := .inr x) rfl ?_
              rw [valS_K]
              cases hvx : valS tr x with
              | none =>
                wtm_at "rd"
                exact fin _ _ k (by rw [hvx]; rfl)
              | some vx =>
                rw [show (Option.map V.int (some vx)).isSome = true from rfl]
                refine ⟨true, rfl, ?_⟩
                rw [if_pos rfl]
                wtm_at "rd"
                refine rd_din1 (.inl hd1) (k := .inr y) rfl ?_
                rw [valS_K]
                cases hvy : valS tr y with
                | none =>
                  wtm_at "rd"
                  exact fin _ _ k (by rw [hvx, hvy]; rfl)
                | some vy =>
                  rw [show (Option.map V.int (some vy)).isSome = true from rfl]
                  refine ⟨true, rfl, ?_⟩
                  rw [if_pos rfl]
                  wtm_at "rd"
                  refine rd_dat (.inl hd1) (k := .inr x) (v := .int vx) (by rw [valS_K, hvx]; rfl) rfl ?_
                  wtm_at "rd"
                  refine rd_dat (.inl hd1) (k := .inr y) (v := .int vy) (by rw [valS_K, hvy]; rfl) rfl ?_
                  wtm_at "rd"
                  refine fin _ _ k ?_
                  rw [hvx, hvy]
                  show (true && (true && decide (some vx = some vy))) = _
                  rw [Bool.true_and, Bool.true_and]
                  exact decide_eq_decide.mpr ⟨fun e => Option.some.inj e, fun e => congrArg some e⟩
            · wtm_at "rd"
              exact fin _ _ k (by rw [decide_eq_false c3]; rfl)
          · rw [decide_eq_false hy]
            wtm_at "rd"
            rw [c1]
            refine rd_nyes conf_ne ?_
            wtm_at "rd"
            refine fin _ _ s0 ?_
            rw [decide_eq_false (fun z : eOf x y ∈ es.map (·.2) => hy (by
              obtain ⟨m1, m2⟩ := gn.mem _ z
              rcases eOf_cases x y with e | e <;> rw [e] at m1 m2
              · exact m2
              · exact m1))]
            simp
        · wtm_at "rd"
          have no : ∀ H', Same H H' → Q (.bl false) H' := fun H' s => fin _ _ s (by rw [decide_eq_false c1]; rfl)
          refine rd_nsplit (fun c2 => ?_) (fun c2 => ?_)
          · wtm_at "rd"
            exact no _ s0
          · wtm_at "rd"
            refine rd_din1 (.inl hd) (k := .inr x) rfl ?_
            cases (valV (trK tr) (.inr x)).isSome with
            | true =>
              wtm_at "rd"
              exact no _ s0
            | false =>
              wtm_at "rd"
              refine rd_isi (a := .str) (.base (.str _)) rfl ?_
              rw [show isT Ty.str Ty.lst = false from rfl]
              wtm_at "rd"
              exact no _ s0
      · rw [decide_eq_false hx]
        wtm_at "rd"
        exact fin _ _ s0 (by simp [hx])
    · have fin : ∀ b' H', Same H H' → okT ns (es.map (·.2)) (m + 1) (.node l x ts) tr = b' → Q (.bl b') H' := fun b' H' s e => e ▸ q H' s
      clear q
      rw [okT_node] at fin
      have s0 : Same H H := fun _ _ h => h
      refine rd_isi (ty_tup ha) rfl ?_
      rw [show isT Ty.tup Ty.tup = true from rfl]
      wtm_at "rd"
      refine rd_lenT (SqT.of ha) ?_
      wtm_at "rd"
      refine rd_nno (by rfl) ?_
      wtm_at "rd"
      refine rd_ixT (SqT.of ha) (v := .str x) rfl ?_
      wtm_at "rd"
      refine ⟨g, nA, e, .str x, .str, ns, es, rfl, gn.gr, .inl ⟨x, rfl, ?_⟩⟩
      by_cases hx : x ∈ ns
      · rw [decide_eq_true hx]
        wtm_at "rd"
        refine rd_unp (SqT.of ha) rfl ?_
        wtm_at "rd"
        refine rd_split (fun c1 => ?_) (fun c1 => ?_)
        · wtm_at "rd"
          refine ⟨g, nA, e, .ref qa, .lst, ns, es, rfl, gn.gr, .inr ⟨ty_lst hqa, rfl, ?_⟩⟩
          wtm_at "rd"
          rw [c1]
          refine rd_nyes conf_ne ?_
          wtm_at "rd"
          exact fin _ _ s0 (by rw [c1, decide_eq_false conf_ne]; rfl)
        · wtm_at "rd"
          refine rd_nsplit (fun c2 => ?_) (fun c2 => ?_)
          · wtm_at "rd"
            exact fin _ _ s0 (by rw [decide_eq_false c2]; rfl)
          · rw [decide_eq_true c2, decide_eq_true hx, Bool.true_and, Bool.true_and] at fin
            wtm_at "rd"
            refine rd_din1 (.inl hd) (k := .inr x) rfl ?_
            rw [valS_K]
            cases hvx : valS tr x with
            | some vx =>
              wtm_at "rd"
              exact fin _ _ s0 (by rw [hvx]; rfl)
            | none =>
              rw [show (Option.map V.int none).isSome = false from rfl]
              refine ⟨false, rfl, ?_⟩
              rw [if_neg Bool.false_ne_true]
              wtm_at "rd"
              refine rd_isi (ty_lst hqa) rfl ?_
              rw [show isT Ty.lst Ty.lst = true from rfl]
              wtm_at "rd"
              refine rd_lenL (SqL.of hqa) ?_
              wtm_at "rd"
              refine rd_lenT (sV _) ?_
              wtm_at "rd"
              have pl := Paired.lenR pr
              rw [hvx, show ((none : Option Int)).isNone = true from rfl, Bool.true_and] at fin
              refine rd_nsplit (fun c3 => ?_) (fun c3 => ?_)
              · wtm_at "rd"
                refine fin _ _ s0 ?_
                rw [decide_eq_false (fun z => c3 (by rw [pl, z]; rfl))]
                rfl
              · have l3 : vs.length = 3 := by
                  have : ((vs.length : Nat) : Int) = 3 := c3
                  omega
                rw [decide_eq_true (pl.symm.trans l3), Bool.true_and] at fin
                have at3 : ∀ i (hi : i < vs.length), RtAt m p H vs[i] (ts.getD i .no) := by
                  intro i hi
                  clear fin c3 l3 hqa ha
                  induction pr generalizing i with
                  | nil => exact absurd hi (Nat.not_lt_zero _)
                  | @cons a b xs ys h r ih2 =>
                    cases i with
                    | zero => exact h
                    | succ i => exact ih2 (Paired.lenR r) i (by simpa using hi)
                wtm_at "rd"
                refine rd_forT (sV _) ?_
                intro D fD
                refine lcT (K := K) (xs := [0, 1, 2].map V.int) (fun i H' => Same H H' ∧ H' D = some (.lst ((((List.range 3).map fun i => okT ns (es.map (·.2)) m (ts.getD i .no) (putS tr x i)).take i).map V.bl))) ⟨Same.new fD, upd_same⟩ ?_ ?_ ?_
                · rintro i H' hi ⟨sb, _⟩
                  exact sV _
                · rintro i y H1 hy ⟨sb, hD⟩
                  obtain ⟨hi, rfl⟩ := map_at hy
                  have hi3 : i < 3 := hi
                  have hiv : i < vs.length := by omega
                  have e1 : ([0, 1, 2] : List Int)[i] = (i : Int) := by
                    have : i = 0 ∨ i = 1 ∨ i = 2 := by omega
                    rcases this with rfl | rfl | rfl <;> rfl
                  rw [e1]
                  have tk : ((List.range 3).map fun i : Nat => okT ns (es.map (·.2)) m (ts.getD i .no) (putS tr x i)).take (i + 1) = ((List.range 3).map fun i : Nat => okT ns (es.map (·.2)) m (ts.getD i .no) (putS tr x i)).take i ++ [okT ns (es.map (·.2)) m (ts.getD i .no) (putS tr x i)] := by
                    rw [tk_snoc2 (by simpa using hi3)]
                    simp
                  rw [tk]
                  clear tk e1
                  wtm_at "rd"
                  refine rd_ixL (SqL.of (sb _ _ hqa)) (v := vs[i]) (atI_nat (List.getElem?_eq_getElem hiv)) ?_
                  wtm_at "rd"
                  refine rd_dispT fun d1 f1 => ?_
                  wtm_at "rd"
                  refine ⟨upd_same, [(.inr x, .int (i : Int))], rfl, by show (1 : Nat) ≤ 15; decide, ?_⟩
                  have k1 : Same H1 (upd (upd H1 d1 (.dK [])) d1 (.dK (mergeK [] [((.inr x : Key), V.int (i : Int))]))) := fun b o hb => at_upd (ne_of_none hb f1) (at_upd (ne_of_none hb f1) hb)
                  have hd1 := @upd_same (upd H1 d1 (.dK [])) d1 (.dK (mergeK [] [((.inr x : Key), V.int (i : Int))]))
                  generalize upd (upd H1 d1 (.dK [])) d1 (.dK (mergeK [] [((.inr x : Key), V.int (i : Int))])) = H2 at k1 hd1
                  have s2 := sb.trans k1
                  have hD2 := k1 _ _ hD
                  wtm_at "rd"
                  refine rd_borF (kvs := trK tr) (k := .inr x) (v := .int (i : Int)) (.inl (s2 _ _ hd)) (.inl hd1) (by unfold trK; rw [List.length_map]; exact Nat.lt_of_le_of_lt (by omega : tr.length ≤ 100) (by decide)) ?_
                  intro d2 f2
                  rw [putS_K]
                  have k2 := Same.new (o := .dK (trK (putS tr x (i : Int)))) f2
                  have hd2 := @upd_same H2 d2 (.dK (trK (putS tr x (i : Int))))
                  have s3 := s2.trans k2
                  have hD3 := k2 _ _ hD2
                  generalize upd H2 d2 (.dK (trK (putS tr x (i : Int)))) = H3 at k2 hd2 s3 hD3
                  wtm_at "rd"
                  have pl2 := putS_len (tr := tr) (x := x) (v := (i : Int))
                  refine ⟨m, Nat.lt_succ_self m, g, nA, e, d2, p, vs[i], ns, es, putS tr x (i : Int), _, rfl, gn.same s3, hd2, by omega, .inr ⟨_, (at3 i hiv).same s3, rfl⟩, fun H4 s4 => ?_⟩
                  refine rd_acc (s4 _ _ hD3) (by rw [List.length_map, List.length_take]; omega) ?_
                  exact ⟨same_put (s3.trans s4) fD, by rw [upd_same, List.map_append]; rfl⟩
                · rintro H1 ⟨sb, hD⟩
                  wtm_at "rd"
                  refine rd_allL (SqL.of hD) ?_
                  wtm_at "rd"
                  exact fin _ _ sb rfl
      · rw [decide_eq_false hx]
        wtm_at "rd"
        exact fin _ _ s0 (by simp [hx])
end
end Law


/-! k61: _law_tree, is_case_tree -/
namespace U
open PySem PySem.Spec PyProof.Rows L2
theorem valS_mem {tr : List (Str × Int)} {x : Str} {v : Int} (h : valS tr x = some v) : ∃ k ∈ tr, k.1 = x := by
  unfold valS at h
  cases e : tr.find? fun y => decide (y.1 = x) with
  | none =>
    rw [e] at h
    cases h
  | some k => exact ⟨k, List.mem_of_find?_eq_some e, by simpa using List.find?_some e⟩
theorem putS_mem {tr : List (Str × Int)} {x : Str} {v : Int} {ns : List Str} (h : ∀ k ∈ tr, k.1 ∈ ns) (hx : x ∈ ns) : ∀ k ∈ putS tr x v, k.1 ∈ ns := by
  intro k hk
  unfold putS at hk
  split at hk
  · obtain ⟨z, hz, rfl⟩ := List.mem_map.mp hk
    split
    · exact h z hz
    · exact h z hz
  · rcases List.mem_append.mp hk with hk | hk
    · exact h k hk
    · rw [List.mem_singleton.mp hk]
      exact hx
end U
namespace Law
open PySem PySem.Spec PyProof.Rows L2 U


def spLTree (K : PySem.W.Frag) (n : Nat) : Sp := fun vs H Q _ => ∃ (g nA e d : Addr) (p : Addr → Prop) (v : V) (ns : List Str) (es : List (Addr × Str × Str)) (tr : List (Str × Int)) (t : Tr), vs = [.ref g, v, .ref d] ∧ GrN H g nA e ns es ∧ H d = some (.dK (trK tr)) ∧ tr.length + n ≤ 100 ∧ (∀ k ∈ tr, k.1 ∈ ns) ∧ RtAt n p H v t ∧
  ∀ H', Same H H' → Q (.bl (okT ns (es.map (·.2)) n t tr)) H'
section
variable {P : Program} {w : World} {K : PySem.W.Frag} {mg : Str → Option Value} {base : Heap}
theorem ok_ltree {f : Addr} {fd : FuncData} (F : Fun K "_law_tree" "_law_tree" s__law_tree f fd) (B : Bt mg) (S : SelfR K mg "_law_tree" f fd ["_law_graph", "_law_tree_here", "_law_tried"]) : ∀ n : Nat, FnG P w K mg base CX0 (n + 1) f fd ["_law_graph", "_law_tree_here", "_law_tried"] (spLTree K n) := by
  intro n
  induction n using Nat.strongRecOn with
  | ind n ih =>
  have cal : Cal P w K mg base CX0 n "_law_tree" (fun vs H Q E => ∃ m, m < n ∧ spLTree K m vs H Q E) := ⟨f, fd, _, ⟨fun vs H Q E h => by
    obtain ⟨m, hm, h⟩ := h
    exact (ih m hm).len vs H Q E h, fun A outer s H args us vs Q E hr he hb hv h => by
    obtain ⟨m, hm, h⟩ := h
    exact (ih m hm).go A outer s H args us vs Q E (hr.mono (by omega)) he hb hv h⟩, S.mg, S.kp, S.bd⟩
  refine fnG0 F sc__law_tree (fun vs H Q E h => ?_) (fun cdv A outer s H vs Q E hr h => ?_)
  · obtain ⟨g, nA, e, d, p, v, ns, es, tr, t, rfl, _⟩ := h
    rfl
  · have hu65 : (A.deeper (envOfC "_law_tree" (defScope s__law_tree) s.heap.objs.size f cdv)).units + 65 < cLine := by
      have := hr.u100
      omega
    obtain ⟨g, nA, e, d, p, v, ns, es, tr, t, rfl, gn, hd, tl, kin, rt, q⟩ := h
    have nd := sc__law_tree.nd
    have hu := hr.u1
    refine ⟨_, (pss_cons (ps_if (PW.pt (pw_or (pt_not (pt_val (pe_callB (kIsi K rfl) (by rfl) B.isinstance bb_isinstance (pa_cons (pv 1) (pa_cons (pe_ty rfl B.tuple bb_tuple) pa_nil))))) (pw_or (pt_cmpR (kNe K rfl hr.u64) (pe_callB (kLen K rfl) (by rfl) B.len bb_len (pa_cons (pv 1) pa_nil)) pe_int (nomark _)) (pw_or1 (pt_not (pt_val (pe_callB (kIsi K rfl) (by rfl) B.isinstance bb_isinstance (pa_cons (pe_ix (kIx K rfl) (pv 1) pe_int (fun _ _ => rfl)) (pa_cons (pe_ty rfl B.str bb_str) pa_nil))))))))) (pss_one (ps_ret pe_bl)) pss_nil)
  (pss_cons (ps_if (pt_cmpR (kNotIn K rfl) (pe_ix (kIx K rfl) (pv 1) pe_int (fun _ _ => rfl)) (pe_ix (kIx K rfl) (pv 0) pe_int (fun _ _ => rfl)) rfl) (pss_one (ps_ret pe_bl)) pss_nil)
  (pss_cons (ps_if (pt_cmpR (kEq K rfl hr.u64) (pe_ix (kIx K rfl) (pv 1) pe_int (fun _ _ => rfl)) pe_str (nomark _)) (pss_cons (ps_if (PW.pt (pw_or (pt_not (pt_val (pe_callB (kIsi K rfl) (by rfl) B.isinstance bb_isinstance (pa_cons (pe_ix (kIx K rfl) (pv 1) pe_int (fun _ _ => rfl)) (pa_cons (pe_ty rfl B.str bb_str) pa_nil))))) (pw_or (pt_cmp (pc_dnotin hu (pe_ix (kIx K rfl) (pv 1) pe_int (fun _ _ => rfl)) (pv 2))) (pw_or1 (pt_cmp (pc_dnotin hu (pe_ix (kIx K rfl) (pv 1) pe_int (fun _ _ => rfl)) (pv 2))))))) (pss_one (ps_ret pe_bl)) pss_nil)
  (pss_cons (ps_if (pt_cmpR (kNinT K rfl hu65) (pe_callTy (kTuple K rfl) (by rfl) B.tuple bb_tuple (pa_cons (pe_callB (kSorted K rfl hr.u64) (by rfl) B.sorted bb_sorted (pa_cons (pe_lst (pa_cons (pe_ix (kIx K rfl) (pv 1) pe_int (fun _ _ => rfl)) (pa_cons (pe_ix (kIx K rfl) (pv 1) pe_int (fun _ _ => rfl)) pa_nil))) pa_nil)) pa_nil)) (pe_ix (kIx K rfl) (pv 0) pe_int (fun _ _ => rfl)) rfl) (pss_one (ps_ret pe_bl)) pss_nil)
  (pss_one (ps_ret (pe_cmpR (kEq K rfl hr.u64) (pe_dget hu (pv 2) (pe_ix (kIx K rfl) (pv 1) pe_int (fun _ _ => rfl)) (fun _ _ => rfl)) (pe_dget hu (pv 2) (pe_ix (kIx K rfl) (pv 1) pe_int (fun _ _ => rfl)) (fun _ _ => rfl)) (nomark _)))))) pss_nil)
  (pss_cons (ps_if (PW.pt (pw_or (pt_cmpR (kNe K rfl hr.u64) (pe_ix (kIx K rfl) (pv 1) pe_int (fun _ _ => rfl)) pe_str (nomark _)) (pw_or (pt_cmp (pc_din hu (pe_ix (kIx K rfl) (pv 1) pe_int (fun _ _ => rfl)) (pv 2))) (pw_or1 (pt_not (pt_val (pe_callB (kIsi K rfl) (by rfl) B.isinstance bb_isinstance (pa_cons (pe_ix (kIx K rfl) (pv 1) pe_int (fun _ _ => rfl)) (pa_cons (pe_ty rfl B.list bb_list) pa_nil))))))))) (pss_one (ps_ret pe_bl)) pss_nil)
  (pss_cons (ps_if (pt_cmpR (kNe K rfl hr.u64) (pe_callB (kLen K rfl) (by rfl) B.len bb_len (pa_cons (pe_ix (kIx K rfl) (pv 1) pe_int (fun _ _ => rfl)) pa_nil)) pe_int (nomark _)) (pss_one (ps_ret pe_bl)) pss_nil)
  (pss_cons (ps_for PassesOwn.never rfl (pi_range1 rfl B.range (pa_cons pe_int pa_nil)) (pg_name (i := 3) nd rfl (by first | exact Or.inl rfl | exact Or.inr rfl)) (pss_cons (ps_set (i := 4) nd rfl (by first | exact Or.inl rfl | exact Or.inr rfl) (pe_callTy cDict (by rfl) B.dict bb_dict (pa_cons (pv 2) pa_nil)))
  (pss_cons (ps_dput hu (pv 4) (pe_ix (kIx K rfl) (pv 1) pe_int (fun _ _ => rfl)) (pv 3) rfl)
  (pss_one (ps_if (pt_not (pt_val (pe_c cal hr (by omega) rfl (pa_cons (pv 0) (pa_cons (pe_ix (kIx K rfl) (pe_ix (kIx K rfl) (pv 1) pe_int (fun _ _ => rfl)) (pv 3) (fun _ _ => rfl)) (pa_cons (pv 4) pa_nil)))))) (pss_one (ps_ret pe_bl)) pss_nil)))))
  (pss_one (ps_ret pe_bl)))))))), ?_⟩
    have s0 : Same H H := fun _ _ h => h
    wtm_at "rd"
    rcases rt.see (K := K) (ns := ns) (es := es.map (·.2)) (tr := tr) with ⟨nt, z⟩ | ⟨l, x, y, a, rfl, rfl, ha⟩ | ⟨m, l, x, ts, a, qa, vs, rfl, rfl, rfl, ha, hqa, _, pr⟩
    · rw [z] at q
      rcases nt with ⟨ty, ht, hs⟩ | ⟨a, xs, rfl, ha, hl⟩ | ⟨a, l, m, r, ty, rfl, ha, ht, hs⟩
      · refine rd_isi ht rfl ?_
        rw [hs]
        wtm_at "rd"
        exact q H s0
      · refine rd_isi (ty_seqT ha) rfl ?_
        rw [show isT Ty.tup Ty.tup = true from rfl]
        wtm_at "rd"
        refine rd_lenT ha ?_
        wtm_at "rd"
        refine rd_nyes (by omega) ?_
        wtm_at "rd"
        exact q H s0
      · refine rd_isi (ty_seqT ha) rfl ?_
        rw [show isT Ty.tup Ty.tup = true from rfl]
        wtm_at "rd"
        refine rd_lenT ha ?_
        wtm_at "rd"
        refine rd_nno (by rfl) ?_
        wtm_at "rd"
        refine rd_ixT ha (v := m) rfl ?_
        wtm_at "rd"
        refine rd_isi ht rfl ?_
        rw [hs]
        wtm_at "rd"
        exact q H s0
    · have fin : ∀ b' H', Same H H' → okT ns (es.map (·.2)) n (.leaf l x y) tr = b' → Q (.bl b') H' := fun b' H' s e => e ▸ q H' s
      clear q rt
      rw [okT_leaf] at fin
      refine rd_isi (ty_tup ha) rfl ?_
      rw [show isT Ty.tup Ty.tup = true from rfl]
      wtm_at "rd"
      refine rd_lenT (SqT.of ha) ?_
      wtm_at "rd"
      refine rd_nno (by rfl) ?_
      wtm_at "rd"
      refine rd_ixT (SqT.of ha) (v := .str x) rfl ?_
      wtm_at "rd"
      refine rd_isi (a := .str) (.base (.str _)) rfl ?_
      rw [show isT Ty.str Ty.str = true from rfl]
      wtm_at "rd"
      refine rd_ixT (SqT.of ha) (v := .str x) rfl ?_
      wtm_at "rd"
      refine rd_ixT (SqT.of gn.gr.top) (v := .ref nA) rfl ?_
      refine rd_ninST (SqT.of gn.gr.nodes) ?_
      wtm_at "rd"
      refine rd_nsplit (fun hx => ?_) (fun hx => ?_)
      · wtm_at "rd"
        exact fin _ _ s0 (by rw [decide_eq_false hx]; simp)
      wtm_at "rd"
      refine rd_ixT (SqT.of ha) (v := .str l) rfl ?_
      wtm_at "rd"
      refine rd_split (fun c1 => ?_) (fun c1 => ?_)
      · rw [decide_eq_true c1, decide_eq_true hx, Bool.true_and, Bool.true_and] at fin
        wtm_at "rd"
        refine rd_ixT (SqT.of ha) (v := .str y) rfl ?_
        wtm_at "rd"
        refine rd_isi (a := .str) (.base (.str _)) rfl ?_
        rw [show isT Ty.str Ty.str = true from rfl]
        wtm_at "rd"
        refine rd_ixT (SqT.of ha) (v := .str x) rfl ?_
        wtm_at "rd"
        refine rd_din1 (.inl hd) (k := .inr x) rfl ?_
        rw [valS_K]
        cases hvx : valS tr x with
        | none =>
          rw [show (!(Option.map V.int none).isSome) = true from rfl]
          refine ⟨true, rfl, ?_⟩
          rw [if_pos rfl]
          wtm_at "rd"
          exact fin _ _ s0 (by rw [hvx]; simp)
        | some vx =>
          rw [show (!(Option.map V.int (some vx)).isSome) = false from rfl]
          refine ⟨false, rfl, ?_⟩
          rw [if_neg Bool.false_ne_true]
          wtm_at "rd"
          refine rd_ixT (SqT.of ha) (v := .str y) rfl ?_
          wtm_at "rd"
          refine rd_din1 (.inl hd) (k := .inr y) rfl ?_
          rw [valS_K]
          cases hvy : valS tr y with
          | none =>
            rw [show (!(Option.map V.int none).isSome) = true from rfl]
            refine ⟨true, rfl, ?_⟩
            rw [if_pos rfl]
            wtm_at "rd"
            exact fin _ _ s0 (by rw [hvy]; simp)
          | some vy =>
            rw [show (!(Option.map V.int (some vy)).isSome) = false from rfl]
            refine ⟨false, rfl, ?_⟩
            rw [if_neg Bool.false_ne_true]
            obtain ⟨ky, hky, rfl⟩ := valS_mem hvy
            have hy := kin _ hky
            generalize ky.1 = y at *
            wtm_at "rd"
            refine rd_ixT (SqT.of ha) (v := .str x) rfl ?_
            wtm_at "rd"
            refine rd_ixT (SqT.of ha) (v := .str y) rfl ?_
            wtm_at "rd"
            intro t1 ft1
            have k1 := Same.new (o := .lst [.str x, .str y]) ft1
            wtm_at "rd"
            refine rd_sortS (xs := [x, y]) (SqL.of upd_same) (by show 2 ≤ 100000; decide) ?_
            intro ys py sy t2 ft2
            have k2 := Same.new (o := .lst (ys.map V.str)) ft2
            wtm_at "rd"
            refine rd_tupleL (SqL.of upd_same) ?_
            intro t3 ft3
            have k3 := Same.new (o := .tup (ys.map V.str)) ft3
            have sA := (k1.trans k2).trans k3
            have h3 := @upd_same (upd (upd H t1 (.lst [.str x, .str y])) t2 (.lst (ys.map V.str))) t3 (.tup (ys.map V.str))
            generalize upd (upd (upd H t1 (.lst [.str x, .str y])) t2 (.lst (ys.map V.str))) t3 (.tup (ys.map V.str)) = Ha at sA h3
            rw [sort2h py sy] at h3
            clear k1 k2 k3
            have gn1 := gn.same sA
            have ha1 := sA _ _ ha
            have hd1 := sA _ _ hd
            wtm_at "rd"
            refine rd_ixT (SqT.of gn1.gr.top) (v := .ref e) rfl ?_
            refine rd_ninTE (e := eOf x y) (SqT.of h3) (SqT.of gn1.gr.edges) (fun x hx => SqT.of (gn1.gr.pairs x hx)) (by
              rcases eOf_cases x y with e | e <;> rw [e]
              · exact ⟨(gn.nm _ hx).sok, (gn.nm _ hy).sok⟩
              · exact ⟨(gn.nm _ hy).sok, (gn.nm _ hx).sok⟩) gn1.sok ?_
            wtm_at "rd"
            refine rd_nsplit (fun c3 => ?_) (fun c3 => ?_)
            · wtm_at "rd"
              exact fin _ _ sA (by rw [decide_eq_false c3]; rfl)
            · wtm_at "rd"
              refine rd_ixT (SqT.of ha1) (v := .str x) rfl ?_
              refine rd_dat (.inl hd1) (k := .inr x) (v := .int vx) (by rw [valS_K, hvx]; rfl) rfl ?_
              wtm_at "rd"
              refine rd_ixT (SqT.of ha1) (v := .str y) rfl ?_
              refine rd_dat (.inl hd1) (k := .inr y) (v := .int vy) (by rw [valS_K, hvy]; rfl) rfl ?_
              wtm_at "rd"
              refine fin _ _ sA ?_
              rw [decide_eq_true c3, hvx, hvy]
              show (true && (true && (true && decide (some vx = some vy)))) = _
              rw [Bool.true_and, Bool.true_and, Bool.true_and]
              exact decide_eq_decide.mpr ⟨fun e => Option.some.inj e, fun e => congrArg some e⟩
      · have no : ∀ H', Same H H' → Q (.bl false) H' := fun H' s => fin _ _ s (by rw [decide_eq_false c1]; rfl)
        wtm_at "rd"
        refine rd_ixT (SqT.of ha) (v := .str l) rfl ?_
        wtm_at "rd"
        refine rd_nsplit (fun c2 => ?_) (fun c2 => ?_)
        · wtm_at "rd"
          exact no _ s0
        · wtm_at "rd"
          refine rd_ixT (SqT.of ha) (v := .str x) rfl ?_
          wtm_at "rd"
          refine rd_din1 (.inl hd) (k := .inr x) rfl ?_
          cases (valV (trK tr) (.inr x)).isSome with
          | true =>
            wtm_at "rd"
            exact no _ s0
          | false =>
            wtm_at "rd"
            refine rd_ixT (SqT.of ha) (v := .str y) rfl ?_
            wtm_at "rd"
            refine rd_isi (a := .str) (.base (.str _)) rfl ?_
            rw [show isT Ty.str Ty.lst = false from rfl]
            wtm_at "rd"
            exact no _ s0
    · have fin : ∀ b' H', Same H H' → okT ns (es.map (·.2)) (m + 1) (.node l x ts) tr = b' → Q (.bl b') H' := fun b' H' s e => e ▸ q H' s
      clear q rt
      rw [okT_node] at fin
      refine rd_isi (ty_tup ha) rfl ?_
      rw [show isT Ty.tup Ty.tup = true from rfl]
      wtm_at "rd"
      refine rd_lenT (SqT.of ha) ?_
      wtm_at "rd"
      refine rd_nno (by rfl) ?_
      wtm_at "rd"
      refine rd_ixT (SqT.of ha) (v := .str x) rfl ?_
      wtm_at "rd"
      refine rd_isi (a := .str) (.base (.str _)) rfl ?_
      rw [show isT Ty.str Ty.str = true from rfl]
      wtm_at "rd"
      refine rd_ixT (SqT.of ha) (v := .str x) rfl ?_
      wtm_at "rd"
      refine rd_ixT (SqT.of gn.gr.top) (v := .ref nA) rfl ?_
      refine rd_ninST (SqT.of gn.gr.nodes) ?_
      wtm_at "rd"
      refine rd_nsplit (fun hx => ?_) (fun hx => ?_)
      · wtm_at "rd"
        exact fin _ _ s0 (by rw [decide_eq_false hx]; simp)
      wtm_at "rd"
      refine rd_ixT (SqT.of ha) (v := .str l) rfl ?_
      wtm_at "rd"
      refine rd_split (fun c1 => ?_) (fun c1 => ?_)
      · wtm_at "rd"
        refine rd_ixT (SqT.of ha) (v := .ref qa) rfl ?_
        wtm_at "rd"
        refine rd_isi (ty_lst hqa) rfl ?_
        rw [show isT Ty.lst Ty.str = false from rfl]
        wtm_at "rd"
        exact fin _ _ s0 (by rw [c1, decide_eq_false conf_ne]; rfl)
      · wtm_at "rd"
        refine rd_ixT (SqT.of ha) (v := .str l) rfl ?_
        wtm_at "rd"
        refine rd_nsplit (fun c2 => ?_) (fun c2 => ?_)
        · wtm_at "rd"
          exact fin _ _ s0 (by rw [decide_eq_false c2]; rfl)
        · rw [decide_eq_true c2, decide_eq_true hx, Bool.true_and, Bool.true_and] at fin
          wtm_at "rd"
          refine rd_ixT (SqT.of ha) (v := .str x) rfl ?_
          wtm_at "rd"
          refine rd_din1 (.inl hd) (k := .inr x) rfl ?_
          rw [valS_K]
          cases hvx : valS tr x with
          | some vx =>
            wtm_at "rd"
            exact fin _ _ s0 (by rw [hvx]; rfl)
          | none =>
            rw [show (Option.map V.int none).isSome = false from rfl]
            refine ⟨false, rfl, ?_⟩
            rw [if_neg Bool.false_ne_true]
            wtm_at "rd"
            refine rd_ixT (SqT.of ha) (v := .ref qa) rfl ?_
            wtm_at "rd"
            refine rd_isi (ty_lst hqa) rfl ?_
            rw [show isT Ty.lst Ty.lst = true from rfl]
            wtm_at "rd"
            refine rd_ixT (SqT.of ha) (v := .ref qa) rfl ?_
            wtm_at "rd"
            refine rd_lenL (SqL.of hqa) ?_
            wtm_at "rd"
            have pl := Paired.lenR pr
            rw [hvx, show ((none : Option Int)).isNone = true from rfl, Bool.true_and] at fin
            refine rd_nsplit (fun c3 => ?_) (fun c3 => ?_)
            · wtm_at "rd"
              refine fin _ _ s0 ?_
              rw [decide_eq_false (fun z => c3 (by rw [pl, z]; rfl))]
              rfl
            · have l3 : vs.length = 3 := by
                have : ((vs.length : Nat) : Int) = 3 := c3
                omega
              rw [decide_eq_true (pl.symm.trans l3), Bool.true_and] at fin
              have at3 : ∀ i (hi : i < vs.length), RtAt m p H vs[i] (ts.getD i .no) := by
                intro i hi
                clear fin c3 l3 hqa ha
                induction pr generalizing i with
                | nil => exact absurd hi (Nat.not_lt_zero _)
                | @cons a b xs ys h r ih2 =>
                  cases i with
                  | zero => exact h
                  | succ i => exact ih2 (Paired.lenR r) i (by simpa using hi)
              wtm_at "rd"
              refine turnsR (fun i σ H' => ∃ (u3 u4 : Option V), σ = [some (.ref g), some (.ref a), some (.ref d), u3, u4] ∧ Same H H' ∧ (((List.range 3).map fun i => okT ns (es.map (·.2)) m (ts.getD i .no) (putS tr x i)).take i).all id = true) ⟨_, _, rfl, s0, rfl⟩ ?_ ?_
              · rintro i σ H1 hi ⟨u3, u4, rfl, sb, al⟩
                have hi3 : i < 3 := hi
                have hiv : i < vs.length := by omega
                rw [show (0 + (i : Int)) = (i : Int) from Int.zero_add _]
                have tk : ((List.range 3).map fun i : Nat => okT ns (es.map (·.2)) m (ts.getD i .no) (putS tr x i)).take (i + 1) = ((List.range 3).map fun i : Nat => okT ns (es.map (·.2)) m (ts.getD i .no) (putS tr x i)).take i ++ [okT ns (es.map (·.2)) m (ts.getD i .no) (putS tr x i)] := by
                  rw [tk_snoc2 (by simpa using hi3)]
                  simp
                have bad : okT ns (es.map (·.2)) m (ts.getD i .no) (putS tr x i) = false → ((List.range 3).map fun i : Nat => okT ns (es.map (·.2)) m (ts.getD i .no) (putS tr x i)).all id = false := fun z => by
                  rw [List.all_eq_false]
                  exact ⟨_, List.mem_map.mpr ⟨i, List.mem_range.mpr hi3, rfl⟩, by rw [z]; exact Bool.false_ne_true⟩
                rw [tk, List.all_append, al, Bool.true_and]
                clear tk al
                wtm_at "rd"
                refine ⟨_, .inl (sb _ _ hd), fun d2 f2 => ?_⟩
                have k2 := Same.new (o := .dK (trK tr)) f2
                have hd2 := @upd_same H1 d2 (.dK (trK tr))
                have nd2 := f2
                generalize hH2 : upd H1 d2 (.dK (trK tr)) = H2 at k2 hd2
                wtm_at "rd"
                refine rd_ixT (SqT.of (k2 _ _ (sb _ _ ha))) (v := .str x) rfl ?_
                refine rd_dset hd2 (k := .inr x) rfl (by unfold trK; rw [List.length_map]; exact Nat.lt_of_le_of_lt (by omega : tr.length ≤ 100) (by decide)) ?_
                rw [putS_K]
                have s3 : Same H (upd H2 d2 (.dK (trK (putS tr x (i : Int))))) := fun b o hb => at_upd (ne_of_none (sb _ _ hb) f2) (k2 _ _ (sb _ _ hb))
                have hd3 := @upd_same H2 d2 (.dK (trK (putS tr x (i : Int))))
                generalize upd H2 d2 (.dK (trK (putS tr x (i : Int)))) = H3 at s3 hd3
                clear k2 hd2 hH2
                wtm_at "rd"
                refine rd_ixT (SqT.of (s3 _ _ ha)) (v := .ref qa) rfl ?_
                wtm_at "rd"
                refine rd_ixL (SqL.of (s3 _ _ hqa)) (v := vs[i]) (atI_nat (List.getElem?_eq_getElem hiv)) ?_
                wtm_at "rd"
                have pl2 := putS_len (tr := tr) (x := x) (v := (i : Int))
                refine ⟨m, Nat.lt_succ_self m, g, nA, e, d2, p, vs[i], ns, es, putS tr x (i : Int), _, rfl, gn.same s3, hd3, by omega, putS_mem kin hx, (at3 i hiv).same s3, fun H4 s4 => ?_⟩
                cases hb : okT ns (es.map (·.2)) m (ts.getD i .no) (putS tr x i) with
                | true =>
                  wtm_at "rd"
                  exact ⟨_, _, rfl, s3.trans s4, rfl⟩
                | false =>
                  wtm_at "rd"
                  exact fin _ _ (s3.trans s4) (bad hb)
              · rintro σ H1 ⟨u3, u4, rfl, sb, al⟩
                wtm_at "rd"
                exact fin _ _ sb al
end
end Law


/-! k62, k60: case trees are sound (plain law) -/
namespace U
open PySem PySem.Spec PyProof.Rows L2
theorem rd_isSb {o : Option Int} {A B : Prop} (h1 : ∀ v, o = some v → A) (h2 : o = none → B) : ∃ k, V.bl (Option.map V.int o).isSome = V.bl k ∧ if k = true then A else B := by
  cases o with
  | none => exact ⟨false, rfl, by rw [if_neg Bool.false_ne_true]; exact h2 rfl⟩
  | some v => exact ⟨true, rfl, by rw [if_pos rfl]; exact h1 v rfl⟩
end U


/-! k62, k60: first_conflict, first_extension, tree_below -/
namespace U
open PySem PySem.Spec PyProof.Rows L2
def isConf (tr : List (Str × Int)) (e : Str × Str) : Bool := (valS tr e.1).isSome && ((valS tr e.2).isSome && decide (valS tr e.1 = valS tr e.2))
def confF (es : List (Str × Str)) (tr : List (Str × Int)) : Option (Str × Str) := es.find? (isConf tr)
/-- the first extension without conflict; n nodes are left -/
def extF (ns : List Str) (es : List (Str × Str)) : Nat → List (Str × Int) → Option (List (Str × Int))
  | 0, tr => if (confF es tr).isSome = true then none else some tr
  | n + 1, tr => if (confF es tr).isSome = true then none else (extF ns es n (putS tr (ns.getD tr.length "") 0)).or ((extF ns es n (putS tr (ns.getD tr.length "") 1)).or (extF ns es n (putS tr (ns.getD tr.length "") 2)))
/-- the names tried are the first ones -/
def PreN (ns : List Str) (tr : List (Str × Int)) : Prop := tr.map (·.1) = ns.take tr.length ∧ tr.length ≤ ns.length
theorem PreN.put {ns : List Str} {tr : List (Str × Int)} {v : Int} (nd : ns.Nodup) (h : PreN ns tr) (l : tr.length < ns.length) : putS tr ns[tr.length] v = tr ++ [(ns[tr.length], v)] ∧ PreN ns (tr ++ [(ns[tr.length], v)]) := by
  have nin : ¬ (tr.any fun y => decide (y.1 = ns[tr.length])) = true := fun z => by
    obtain ⟨y, hy, e⟩ := List.any_eq_true.mp z
    have m : ns[tr.length] ∈ ns.take tr.length := by
      rw [← h.1, ← of_decide_eq_true e]
      exact List.mem_map_of_mem hy
    obtain ⟨j, hj, e2⟩ := List.mem_iff_getElem.mp m
    rw [List.getElem_take] at e2
    rw [List.length_take] at hj
    have := (List.pairwise_iff_getElem.mp (List.nodup_iff_pairwise_ne.mp nd)) j tr.length (by omega) l (by omega)
    exact this e2
  refine ⟨?_, ?_, ?_⟩
  · unfold putS
    rw [if_neg nin]
  · rw [List.map_append, h.1, List.length_append, List.length_singleton, tk_snoc2 l]
    rfl
  · rw [List.length_append, List.length_singleton]
    omega
end U
namespace Law
open PySem PySem.Spec PyProof.Rows L2 U


def spConf : Sp := fun vs H Q _ => ∃ (g nA e d : Addr) (ns : List Str) (es : List (Addr × Str × Str)) (tr : List (Str × Int)), vs = [.ref g, .ref d] ∧ GrN H g nA e ns es ∧ H d = some (.dK (trK tr)) ∧
  (confF (es.map (·.2)) tr = none → Q .non H) ∧ ∀ x, confF (es.map (·.2)) tr = some x → ∀ t, H t = none → Q (.ref t) (upd H t (.tup [.str x.1, .str x.2]))
section
variable {P : Program} {w : World} {K : PySem.W.Frag} {mg : Str → Option Value} {base : Heap}
theorem ok_conf {f : Addr} {fd : FuncData} (F : Fun K "first_conflict" "first_conflict" s_first_conflict f fd) (B : Bt mg) : FnG P w K mg base CX0 1 f fd ["graph", "values"] spConf := by
  refine fnG0 F sc_first_conflict (fun vs H Q E h => ?_) (fun cdv A outer s H vs Q E hr h => ?_)
  · obtain ⟨g, nA, e, d, ns, es, tr, rfl, _⟩ := h
    rfl
  · obtain ⟨g, nA, e, d, ns, es, tr, rfl, gn, hd, q0, q1⟩ := h
    have nd := sc_first_conflict.nd
    have hu := hr.u1
    refine ⟨_, (pss_cons (ps_for PassesOwn.never rfl (ki_tup K rfl (pe_ix (kIx K rfl) (pv 0) pe_int (fun _ _ => rfl))) (kg_tup (n := 2) K rfl rfl (pgs_cons (pg_name (i := 2) nd rfl (by first | exact Or.inl rfl | exact Or.inr rfl)) (pgs_cons (pg_name (i := 3) nd rfl (by first | exact Or.inl rfl | exact Or.inr rfl)) pgs_nil))) (pss_one (ps_if (PW.pt (pw_and (pt_cmp (pc_din hu (pv 2) (pv 1))) (pw_and (pt_cmp (pc_din hu (pv 3) (pv 1))) (pw_and1 (pt_cmpR (kEq K rfl hr.u64) (pe_dget hu (pv 1) (pv 2) (fun _ _ => rfl)) (pe_dget hu (pv 1) (pv 3) (fun _ _ => rfl)) (nomark _)))))) (pss_one (ps_ret (pe_tup (pa_cons (pv 2) (pa_cons (pv 3) pa_nil))))) pss_nil)))
  (pss_one (ps_ret pe_non))), ?_⟩
    wtm_at "rd"
    refine rd_ixT (SqT.of gn.gr.top) (v := .ref e) rfl ?_
    refine rd_forT (SqT.of gn.gr.edges) ?_
    refine turnsT (K := K) (xs := es.map fun x => V.ref x.1) (fun i σ H' => ∃ (u2 u3 : Option V), σ = [some (.ref g), some (.ref d), u2, u3] ∧ H' = H ∧ ∀ x ∈ (es.map (·.2)).take i, isConf tr x = false) ⟨_, _, rfl, rfl, fun x h => nomatch h⟩ ?_ ?_ ?_
    · rintro i σ H' hi ⟨u2, u3, rfl, rfl, _⟩
      exact SqT.of gn.gr.edges
    · rintro i y σ H' hy ⟨u2, u3, rfl, rfl, no⟩
      obtain ⟨hi, rfl⟩ := map_at hy
      have pr := gn.gr.pairs _ (List.getElem_mem hi)
      have him : i < (es.map (·.2)).length := by rw [List.length_map]; exact hi
      have eg : (es.map (·.2))[i] = es[i].2 := List.getElem_map _
      have found : isConf tr es[i].2 = true → confF (es.map (·.2)) tr = some es[i].2 := fun c => by
        unfold confF
        rw [← List.take_append_drop i (es.map (·.2)), List.find?_append, List.find?_eq_none.mpr (fun x hx => by rw [no x hx]; exact Bool.false_ne_true), Option.none_or, List.drop_eq_getElem_cons him, List.find?_cons_of_pos (by rw [eg]; exact c), eg]
      have next : isConf tr es[i].2 = false → ∀ x ∈ (es.map (·.2)).take (i + 1), isConf tr x = false := fun c x hx => by
        rw [tk_snoc2 him, eg] at hx
        rcases List.mem_append.mp hx with hx | hx
        · exact no x hx
        · rw [List.mem_singleton.mp hx]; exact c
      clear no eg him
      generalize es[i] = x at *
      unfold isConf at found next
      refine rd_unp (SqT.of pr) rfl ?_
      wtm_at "rd"
      refine rd_din1 (.inl hd) (k := .inr x.2.1) rfl ?_
      rw [valS_K]
      refine rd_isSb (fun v1 e1 => ?_) (fun e1 => ?_)
      · wtm_at "rd"
        refine rd_din1 (.inl hd) (k := .inr x.2.2) rfl ?_
        rw [valS_K]
        refine rd_isSb (fun v2 e2 => ?_) (fun e2 => ?_)
        · wtm_at "rd"
          refine rd_dat (.inl hd) (k := .inr x.2.1) (v := .int v1) (by rw [valS_K, e1]; rfl) rfl ?_
          wtm_at "rd"
          refine rd_dat (.inl hd) (k := .inr x.2.2) (v := .int v2) (by rw [valS_K, e2]; rfl) rfl ?_
          wtm_at "rd"
          refine rd_split (fun c => ?_) (fun c => ?_)
          · wtm_at "rd"
            intro t ft
            exact q1 x.2 (found (by rw [e1, e2, c]; simp)) t ft
          · wtm_at "rd"
            exact ⟨_, _, rfl, rfl, next (by rw [e1, e2, decide_eq_false fun z => c (Option.some.inj z)]; rfl)⟩
        · wtm_at "rd"
          exact ⟨_, _, rfl, rfl, next (by rw [e2]; simp)⟩
      · wtm_at "rd"
        exact ⟨_, _, rfl, rfl, next (by rw [e1]; simp)⟩
    · rintro σ H' ⟨u2, u3, rfl, rfl, no⟩
      rw [List.length_map, List.take_of_length_le (by rw [List.length_map]; exact Nat.le_refl _)] at no
      wtm_at "rd"
      exact q0 (List.find?_eq_none.mpr fun x hx => by rw [no x hx]; exact Bool.false_ne_true)
def spExt (n : Nat) : Sp := fun vs H Q _ => ∃ (g nA e d : Addr) (ns : List Str) (es : List (Addr × Str × Str)) (tr : List (Str × Int)), vs = [.ref g, .ref d] ∧ GrN H g nA e ns es ∧ H d = some (.dK (trK tr)) ∧ PreN ns tr ∧ tr.length + n = ns.length ∧
  ∀ H', Same H H' → (extF ns (es.map (·.2)) n tr = none → Q .non H') ∧ ∀ tr', extF ns (es.map (·.2)) n tr = some tr' → ∀ d', H' d' = some (.dK (trK tr')) → Q (.ref d') H'
structure DBa (P : Program) (w : World) (K : PySem.W.Frag) (mg : Str → Option Value) (base : Heap) : Prop where
  first_conflict : Cal P w K mg base CX0 1 "first_conflict" spConf
theorem ok_ext {f : Addr} {fd : FuncData} {va : Addr} (F : Fun K "first_extension" "first_extension" s_first_extension f fd) (B : Bt mg) (C : DBa P w K mg base) (S : SelfR K mg "first_extension" f fd ["graph", "values"]) (hV : mg "VALUES" = some (.ref va)) (sV : ∀ H, SqT K H va ([0, 1, 2].map V.int)) : ∀ n : Nat, FnG P w K mg base CX0 (n + 2) f fd ["graph", "values"] (spExt n) := by
  intro n
  induction n using Nat.strongRecOn with
  | ind n ih =>
  have cal : Cal P w K mg base CX0 (n + 1) "first_extension" (fun vs H Q E => ∃ m, m < n ∧ spExt m vs H Q E) := ⟨f, fd, _, ⟨fun vs H Q E h => by
    obtain ⟨m, hm, h⟩ := h
    exact (ih m hm).len vs H Q E h, fun A outer s H args us vs Q E hr he hb hv h => by
    obtain ⟨m, hm, h⟩ := h
    exact (ih m hm).go A outer s H args us vs Q E (hr.mono (by omega)) he hb hv h⟩, S.mg, S.kp, S.bd⟩
  refine fnG0 F sc_first_extension (fun vs H Q E h => ?_) (fun cdv A outer s H vs Q E hr h => ?_)
  · obtain ⟨g, nA, e, d, ns, es, tr, rfl, _⟩ := h
    rfl
  · obtain ⟨g, nA, e, d, ns, es, tr, rfl, gn, hd, pre, ln, q⟩ := h
    have nd := sc_first_extension.nd
    have hu := hr.u1
    refine ⟨_, (pss_cons (ps_if (pt_cmpR uIsNot (pe_c C.first_conflict hr (by omega) rfl (pa_cons (pv 0) (pa_cons (pv 1) pa_nil))) pe_non (nomark _)) (pss_one (ps_ret pe_non)) pss_nil)
  (pss_cons (ps_if (pt_cmpR (kEq K rfl hr.u64) (pe_callB (kLen K rfl) (by rfl) B.len bb_len (pa_cons (pv 1) pa_nil)) (pe_callB (kLen K rfl) (by rfl) B.len bb_len (pa_cons (pe_ix (kIx K rfl) (pv 0) pe_int (fun _ _ => rfl)) pa_nil)) (nomark _)) (pss_one (ps_ret (pv 1))) pss_nil)
  (pss_cons (ps_set (i := 2) nd rfl (by first | exact Or.inl rfl | exact Or.inr rfl) (pe_ix (kIx K rfl) (pe_ix (kIx K rfl) (pv 0) pe_int (fun _ _ => rfl)) (pe_callB (kLen K rfl) (by rfl) B.len bb_len (pa_cons (pv 1) pa_nil)) (fun _ _ => rfl)))
  (pss_cons (ps_for PassesOwn.never rfl (ki_tup K rfl (pe_gl (v := .ref va) rfl ⟨_, hV, rfl⟩)) (pg_name (i := 3) nd rfl (by first | exact Or.inl rfl | exact Or.inr rfl)) (pss_cons (ps_set (i := 4) nd rfl (by first | exact Or.inl rfl | exact Or.inr rfl) (pe_c cal hr (by omega) rfl (pa_cons (pv 0) (pa_cons (pe_op uBor (pv 1) (pe_disp (pps_cons (pv 2) (pv 3) pps_nil) (by rfl) (by rfl) (fun z => by cases z) (by decide))) pa_nil))))
  (pss_one (ps_if (pt_cmpR uIsNot (pv 4) pe_non (nomark _)) (pss_one (ps_ret (pv 4))) pss_nil))))
  (pss_one (ps_ret pe_non)))))), ?_⟩
    have l1 := gn.l1
    wtm_at "rd"
    refine ⟨g, nA, e, d, ns, es, tr, rfl, gn, hd, fun c0 => ?_, fun x c1 t ft => ?_⟩
    · wtm_at "rd"
      refine rd_nno rfl ?_
      wtm_at "rd"
      refine rd_lenD hd ?_
      wtm_at "rd"
      refine rd_ixT (SqT.of gn.gr.top) (v := .ref nA) rfl ?_
      wtm_at "rd"
      refine rd_lenT (SqT.of gn.gr.nodes) ?_
      wtm_at "rd"
      have tlen : (trK tr).length = tr.length := by
        unfold trK
        rw [List.length_map]
      rw [tlen, List.length_map]
      refine rd_split (fun c => ?_) (fun c => ?_)
      · obtain rfl : n = 0 := by omega
        wtm_at "rd"
        exact (q H fun _ _ h => h).2 tr (by unfold extF; rw [c0]; rfl) d hd
      · obtain ⟨m, rfl⟩ : ∃ m, n = m + 1 := ⟨n - 1, by omega⟩
        have kl : tr.length < ns.length := by omega
        obtain ⟨_, pre2⟩ := PreN.put (v := 0) gn.nd pre kl
        have put : ∀ v : Int, putS tr ns[tr.length] v = tr ++ [(ns[tr.length], v)] ∧ PreN ns (tr ++ [(ns[tr.length], v)]) := fun v => PreN.put gn.nd pre kl
        have eF : extF ns (es.map (·.2)) (m + 1) tr = (extF ns (es.map (·.2)) m (putS tr ns[tr.length] 0)).or ((extF ns (es.map (·.2)) m (putS tr ns[tr.length] 1)).or (extF ns (es.map (·.2)) m (putS tr ns[tr.length] 2))) := by
          conv => lhs; unfold extF
          rw [c0, if_neg (by decide), show ns.getD tr.length "" = ns[tr.length] from getDU kl]
        have xin := List.getElem_mem kl
        wtm_at "rd"
        refine rd_ixT (SqT.of gn.gr.top) (v := .ref nA) rfl ?_
        wtm_at "rd"
        refine rd_lenD hd ?_
        wtm_at "rd"
        rw [tlen]
        refine rd_ixT (SqT.of gn.gr.nodes) (v := .str ns[tr.length]) (atI_nat (by rw [List.getElem?_map, List.getElem?_eq_getElem kl]; rfl)) ?_
        clear pre2
        generalize ns[tr.length] = x at *
        rw [eF] at q
        clear eF
        wtm_at "rd"
        refine rd_forT (sV _) ?_
        refine turnsT (K := K) (xs := [0, 1, 2].map V.int) (fun i σ H' => ∃ (u3 u4 : Option V), σ = [some (.ref g), some (.ref d), some (.str x), u3, u4] ∧ Same H H' ∧ ∀ j : Nat, j < i → extF ns (es.map (·.2)) m (putS tr x j) = none) ⟨_, _, rfl, (fun _ _ h => h), fun j h => absurd h (Nat.not_lt_zero _)⟩ ?_ ?_ ?_
        · rintro i σ H' hi ⟨u3, u4, rfl, sb, no⟩
          exact sV _
        · rintro i y σ H1 hy ⟨u3, u4, rfl, sb, no⟩
          obtain ⟨hi, rfl⟩ := map_at hy
          have hi3 : i < 3 := hi
          have e1 : ([0, 1, 2] : List Int)[i] = (i : Int) := by
            have : i = 0 ∨ i = 1 ∨ i = 2 := by omega
            rcases this with rfl | rfl | rfl <;> rfl
          rw [e1]
          clear e1
          wtm_at "rd"
          refine rd_dispT fun d1 f1 => ?_
          wtm_at "rd"
          refine ⟨upd_same, [(.inr x, .int (i : Int))], rfl, by show (1 : Nat) ≤ 15; decide, ?_⟩
          have k1 : Same H1 (upd (upd H1 d1 (.dK [])) d1 (.dK (mergeK [] [((.inr x : Key), V.int (i : Int))]))) := fun b o hb => at_upd (ne_of_none hb f1) (at_upd (ne_of_none hb f1) hb)
          have hd1 := @upd_same (upd H1 d1 (.dK [])) d1 (.dK (mergeK [] [((.inr x : Key), V.int (i : Int))]))
          generalize upd (upd H1 d1 (.dK [])) d1 (.dK (mergeK [] [((.inr x : Key), V.int (i : Int))])) = H2 at k1 hd1
          have s2 := sb.trans k1
          wtm_at "rd"
          refine rd_borF (kvs := trK tr) (k := .inr x) (v := .int (i : Int)) (.inl (s2 _ _ hd)) (.inl hd1) (by rw [tlen]; exact Nat.lt_of_le_of_lt (by omega : tr.length ≤ 100) (by decide)) ?_
          intro d2 f2
          rw [putS_K]
          have k2 := Same.new (o := .dK (trK (putS tr x (i : Int)))) f2
          have hd2 := @upd_same H2 d2 (.dK (trK (putS tr x (i : Int))))
          have s3 := s2.trans k2
          generalize upd H2 d2 (.dK (trK (putS tr x (i : Int)))) = H3 at k2 hd2 s3
          wtm_at "rd"
          obtain ⟨pe, pp⟩ := put (i : Int)
          refine ⟨m, Nat.lt_succ_self m, g, nA, e, d2, ns, es, putS tr x (i : Int), rfl, gn.same s3, hd2, by rw [pe]; exact pp, by rw [pe, List.length_append, List.length_singleton]; omega, fun H4 s4 => ⟨fun c => ?_, fun tr' c d' hd' => ?_⟩⟩
          · wtm_at "rd"
            refine rd_nno rfl ?_
            wtm_at "rd"
            refine ⟨_, _, rfl, s3.trans s4, fun j hj => ?_⟩
            by_cases z : j = i
            · rw [z]; exact c
            · exact no j (by omega)
          · wtm_at "rd"
            refine rd_nyes (fun z => by cases z) ?_
            wtm_at "rd"
            refine (q H4 (s3.trans s4)).2 tr' ?_ d' hd'
            have : i = 0 ∨ i = 1 ∨ i = 2 := by omega
            rcases this with rfl | rfl | rfl
            · rw [show ((0 : Nat) : Int) = 0 from rfl] at c
              rw [c]
              rfl
            · have n0 := no 0 (by decide)
              rw [show ((0 : Nat) : Int) = 0 from rfl] at n0
              rw [show ((1 : Nat) : Int) = 1 from rfl] at c
              rw [n0, c]
              rfl
            · have n0 := no 0 (by decide)
              have n1 := no 1 (by decide)
              rw [show ((0 : Nat) : Int) = 0 from rfl] at n0
              rw [show ((1 : Nat) : Int) = 1 from rfl] at n1
              rw [show ((2 : Nat) : Int) = 2 from rfl] at c
              rw [n0, n1, c]
              rfl
        · rintro σ H1 ⟨u3, u4, rfl, sb, no⟩
          wtm_at "rd"
          refine (q H1 sb).1 ?_
          have n0 := no 0 (by decide)
          have n1 := no 1 (by decide)
          have n2 := no 2 (by decide)
          rw [show ((0 : Nat) : Int) = 0 from rfl] at n0
          rw [show ((1 : Nat) : Int) = 1 from rfl] at n1
          rw [show ((2 : Nat) : Int) = 2 from rfl] at n2
          rw [n0, n1, n2]
          rfl
    · wtm_at "rd"
      refine rd_nyes (fun z => by cases z) ?_
      wtm_at "rd"
      refine (q _ (Same.new ft)).1 ?_
      cases n with
      | zero => unfold extF; rw [c1]; rfl
      | succ n => unfold extF; rw [c1]; rfl
end
end Law


/-! k62, k60: tree_below -/
namespace U
open PySem PySem.Spec PyProof.Rows L2
/-- the tree below; n nodes are left -/
def treeF (ns : List Str) (es : List (Str × Str)) : Nat → List (Str × Int) → Tr
  | 0, tr => match confF es tr with
    | some e => .leaf "conflict" e.1 e.2
    | none => .no
  | n + 1, tr => match confF es tr with
    | some e => .leaf "conflict" e.1 e.2
    | none => .node "branch" (ns.getD tr.length "") ([0, 1, 2].map fun v : Int => treeF ns es n (putS tr (ns.getD tr.length "") v))
end U
namespace Law
open PySem PySem.Spec PyProof.Rows L2 U


section
variable {P : Program} {w : World} {K : PySem.W.Frag} {mg : Str → Option Value} {base : Heap}
end
end Law


/-! k62, k60: first_state, case_tree -/
namespace U
open PySem PySem.Spec PyProof.Rows L2
/-- where no extension is, the tree below is right -/
theorem treeF_ok {ns : List Str} {es : List (Str × Str)} (nd : ns.Nodup) (so : ∀ e ∈ es, eOf e.1 e.2 = e) (mem : ∀ e ∈ es, e.1 ∈ ns ∧ e.2 ∈ ns) : ∀ {n : Nat} {tr : List (Str × Int)}, PreN ns tr → tr.length + n = ns.length → extF ns es n tr = none → okT ns es n (treeF ns es n tr) tr = true := by
  intro n
  have leaf : ∀ {n : Nat} {tr : List (Str × Int)} {e : Str × Str}, confF es tr = some e → okT ns es n (.leaf "conflict" e.1 e.2) tr = true := fun {n tr e} h => by
    have c : isConf tr e = true := List.find?_some h
    have m := List.mem_of_find?_eq_some h
    unfold isConf at c
    rw [okT_leaf, so e m, decide_eq_true rfl, decide_eq_true (mem e m).1, decide_eq_true m]
    simpa using c
  induction n with
  | zero =>
    intro tr pre ln ex
    cases c : confF es tr with
    | none =>
      unfold extF at ex
      rw [c] at ex
      cases ex
    | some e =>
      unfold treeF
      rw [c]
      exact leaf c
  | succ n ih =>
    intro tr pre ln ex
    cases c : confF es tr with
    | some e =>
      unfold treeF
      rw [c]
      exact leaf c
    | none =>
      have kl : tr.length < ns.length := by omega
      have gd : ns.getD tr.length "" = ns[tr.length] := getDU kl
      have put : ∀ v : Int, putS tr ns[tr.length] v = tr ++ [(ns[tr.length], v)] ∧ PreN ns (tr ++ [(ns[tr.length], v)]) := fun v => PreN.put nd pre kl
      unfold extF at ex
      rw [c, if_neg (by decide), gd] at ex
      obtain ⟨x0, x12⟩ := Option.or_eq_none_iff.mp ex
      obtain ⟨x1, x2⟩ := Option.or_eq_none_iff.mp x12
      have sub : ∀ v : Int, extF ns es n (putS tr ns[tr.length] v) = none → okT ns es n (treeF ns es n (putS tr ns[tr.length] v)) (putS tr ns[tr.length] v) = true := fun v z => by
        obtain ⟨pe, pp⟩ := put v
        exact ih (by rw [pe]; exact pp) (by rw [pe, List.length_append, List.length_singleton]; omega) z
      have no : valS tr ns[tr.length] = none := by
        unfold valS
        rw [List.find?_eq_none.mpr fun y hy z => ?_]
        · rfl
        · have m : ns[tr.length] ∈ ns.take tr.length := by
            rw [← pre.1, ← of_decide_eq_true z]
            exact List.mem_map_of_mem hy
          obtain ⟨j, hj, e2⟩ := List.mem_iff_getElem.mp m
          rw [List.getElem_take] at e2
          rw [List.length_take] at hj
          exact (List.pairwise_iff_getElem.mp (List.nodup_iff_pairwise_ne.mp nd)) j tr.length (by omega) kl (by omega) e2
      unfold treeF
      rw [c]
      dsimp only
      rw [gd, okT_node, no, decide_eq_true rfl, decide_eq_true (List.getElem_mem kl)]
      have s0 := sub 0 x0
      have s1 := sub 1 x1
      have s2 := sub 2 x2
      show (true && (true && (true && (true && ([okT ns es n (treeF ns es n (putS tr ns[tr.length] 0)) (putS tr ns[tr.length] 0), okT ns es n (treeF ns es n (putS tr ns[tr.length] 1)) (putS tr ns[tr.length] 1), okT ns es n (treeF ns es n (putS tr ns[tr.length] 2)) (putS tr ns[tr.length] 2)]).all id)))) = true
      rw [s0, s1, s2]
      rfl
end U
namespace Law
open PySem PySem.Spec PyProof.Rows L2 U


def spExtU : Sp := fun vs H Q E => ∃ n, n ≤ 8 ∧ spExt n vs H Q E
def spFst : Sp := fun vs H Q _ => ∃ (g nA e : Addr) (ns : List Str) (es : List (Addr × Str × Str)), vs = [.ref g] ∧ GrN H g nA e ns es ∧ ns.length ≤ 8 ∧
  ∀ H', Same H H' → (extF ns (es.map (·.2)) ns.length [] = none → Q .non H') ∧ ∀ tr', extF ns (es.map (·.2)) ns.length [] = some tr' → ∀ d', H' d' = some (.dK (trK tr')) → Q (.ref d') H'
section
variable {P : Program} {w : World} {K : PySem.W.Frag} {mg : Str → Option Value} {base : Heap}
theorem ok_extU {f : Addr} {fd : FuncData} {va : Addr} (F : Fun K "first_extension" "first_extension" s_first_extension f fd) (B : Bt mg) (C : DBa P w K mg base) (S : SelfR K mg "first_extension" f fd ["graph", "values"]) (hV : mg "VALUES" = some (.ref va)) (sV : ∀ H, SqT K H va ([0, 1, 2].map V.int)) : FnG P w K mg base CX0 10 f fd ["graph", "values"] spExtU := by
  exact ⟨fun vs H Q E h => by
    obtain ⟨m, hm, h⟩ := h
    exact (ok_ext (P := P) (w := w) (base := base) F B C S hV sV m).len vs H Q E h, fun A outer s H args us vs Q E hr he hb hv h => by
    obtain ⟨m, hm, h⟩ := h
    exact (ok_ext (P := P) (w := w) (base := base) F B C S hV sV m).go A outer s H args us vs Q E (hr.mono (by omega)) he hb hv h⟩
structure DDa (P : Program) (w : World) (K : PySem.W.Frag) (mg : Str → Option Value) (base : Heap) : Prop where
  MAX_CASE_NODES : ∃ u, mg "MAX_CASE_NODES" = some u ∧ RelV (.int 8) u
  first_extension : Cal P w K mg base CX0 10 "first_extension" spExtU
theorem ok_fst {f : Addr} {fd : FuncData} (F : Fun K "first_state" "first_state" s_first_state f fd) (B : Bt mg) (C : DDa P w K mg base) : FnG P w K mg base CX0 11 f fd ["graph"] spFst := by
  refine fnG0 F sc_first_state (fun vs H Q E h => ?_) (fun cdv A outer s H vs Q E hr h => ?_)
  · obtain ⟨g, nA, e, ns, es, rfl, _⟩ := h
    rfl
  · obtain ⟨g, nA, e, ns, es, rfl, gn, n8, q⟩ := h
    have nd := sc_first_state.nd
    have hu := hr.u1
    refine ⟨_, (pss_cons (ps_if (pt_cmpR uGt (pe_callB (kLen K rfl) (by rfl) B.len bb_len (pa_cons (pe_ix (kIx K rfl) (pv 0) pe_int (fun _ _ => rfl)) pa_nil)) (pe_gl rfl C.MAX_CASE_NODES) (nomark _)) (pss_one ps_dead) pss_nil)
  (pss_one (ps_ret (pe_c C.first_extension hr (by decide) rfl (pa_cons (pv 0) (pa_cons pe_dnewK pa_nil)))))), ?_⟩
    wtm_at "rd"
    refine rd_ixT (SqT.of gn.gr.top) (v := .ref nA) rfl ?_
    wtm_at "rd"
    refine rd_lenT (SqT.of gn.gr.nodes) ?_
    rw [List.length_map]
    wtm_at "rd"
    refine rd_no (by omega) ?_
    wtm_at "rd"
    intro d fd
    have k := Same.new (o := .dK []) fd
    refine ⟨ns.length, n8, g, nA, e, d, ns, es, [], rfl, gn.same k, upd_same, ⟨rfl, Nat.zero_le _⟩, by simp, fun H' s => q H' (k.trans s)⟩
end
end Law


/-! k60: tree_below, its lists told apart -/
namespace U
open PySem PySem.Spec PyProof.Rows L2
/-- a tree in the heap; its lists, each ahead of those below it -/
def DtAt : Nat → Hp → V → Tr → List Addr → Prop
  | _, _, _, .no, _ => False
  | _, H, v, .leaf l x y, L => L = [] ∧ ∃ a, v = .ref a ∧ H a = some (.tup [.str l, .str x, .str y])
  | 0, _, _, .node _ _ _, _ => False
  | n + 1, H, v, .node l x ts, L => ∃ (a q : Addr) (vs : List V) (cs : List (Tr × List Addr)), v = .ref a ∧ H a = some (.tup [.str l, .str x, .ref q]) ∧ H q = some (.lst vs) ∧ ts = cs.map (·.1) ∧ L = q :: (cs.map (·.2)).flatten ∧ Paired (fun v c => DtAt n H v c.1 c.2) vs cs
theorem Paired.memR {α β : Type} {F G : α → β → Prop} : ∀ {xs : List α} {ys : List β}, (∀ a b, b ∈ ys → F a b → G a b) → Paired F xs ys → Paired G xs ys
  | _, _, _, .nil => .nil
  | _, _, h, .cons a r => .cons (h _ _ List.mem_cons_self a) (Paired.memR (fun a b m => h a b (List.mem_cons_of_mem _ m)) r)
theorem DtAt.keep {H H' : Hp} (kt : ∀ a xs, H a = some (.tup xs) → H' a = some (.tup xs)) : ∀ {n : Nat} {v : V} {t : Tr} {L : List Addr}, (∀ a xs, a ∈ L → H a = some (.lst xs) → H' a = some (.lst xs)) → DtAt n H v t L → DtAt n H' v t L
  | n, v, .no, L, _, h => by
    unfold DtAt at h
    exact h.elim
  | n, v, .leaf l x y, L, _, h => by
    unfold DtAt at h ⊢
    obtain ⟨e, a, e2, h⟩ := h
    exact ⟨e, a, e2, kt _ _ h⟩
  | 0, v, .node l x ts, L, _, h => by
    unfold DtAt at h
    exact h.elim
  | n + 1, v, .node l x ts, L, kl, h => by
    unfold DtAt at h ⊢
    obtain ⟨a, q, vs, cs, e, h1, h2, h3, rfl, h4⟩ := h
    exact ⟨a, q, vs, cs, e, kt _ _ h1, kl _ _ List.mem_cons_self h2, h3, rfl, Paired.memR (fun a b m z => DtAt.keep kt (fun c xs hc => kl c xs (List.mem_cons_of_mem _ (List.mem_flatten.mpr ⟨_, List.mem_map_of_mem (f := (·.2)) m, hc⟩))) z) h4⟩
theorem DtAt.same {H H' : Hp} {n : Nat} {v : V} {t : Tr} {L : List Addr} (h : DtAt n H v t L) (s : Same H H') : DtAt n H' v t L := h.keep (fun a xs => s _ _) (fun a xs _ => s _ _)
theorem paired_of {α β : Type} {F : α → β → Prop} : ∀ {xs : List α} {ys : List β}, Paired F xs ys → ∀ b ∈ ys, ∃ a ∈ xs, F a b
  | _, _, .cons a r, b, h => by
    rcases List.mem_cons.mp h with rfl | h
    · exact ⟨_, List.mem_cons_self, a⟩
    · obtain ⟨c, hc, f⟩ := paired_of r b h
      exact ⟨c, List.mem_cons_of_mem _ hc, f⟩
theorem DtAt.ls {H : Hp} : ∀ {n : Nat} {v : V} {t : Tr} {L : List Addr}, DtAt n H v t L → ∀ q ∈ L, ∃ xs, H q = some (.lst xs)
  | n, v, .no, L, h, _, _ => by
    unfold DtAt at h
    exact h.elim
  | n, v, .leaf l x y, L, h, q, m => by
    unfold DtAt at h
    rw [h.1] at m
    cases m
  | 0, v, .node l x ts, L, h, _, _ => by
    unfold DtAt at h
    exact h.elim
  | n + 1, v, .node l x ts, L, h, q, m => by
    unfold DtAt at h
    obtain ⟨a, p, vs, cs, e, h1, h2, h3, rfl, h4⟩ := h
    rcases List.mem_cons.mp m with rfl | m
    · exact ⟨_, h2⟩
    · obtain ⟨L1, hL, hq⟩ := List.mem_flatten.mp m
      obtain ⟨c, hc, rfl⟩ := List.mem_map.mp hL
      obtain ⟨_, _, hd⟩ := paired_of h4 c hc
      exact DtAt.ls hd q hq
theorem DtAt.rt {H : Hp} {W : Addr → Prop} : ∀ {n : Nat} {v : V} {t : Tr} {L : List Addr}, DtAt n H v t L → (∀ q ∈ L, ¬ W q) → RtAt n W H v t
  | n, v, .no, L, h, _ => by
    unfold DtAt at h
    exact h.elim
  | n, v, .leaf l x y, L, h, _ => by
    unfold DtAt at h
    unfold RtAt
    exact h.2
  | 0, v, .node l x ts, L, h, _ => by
    unfold DtAt at h
    exact h.elim
  | n + 1, v, .node l x ts, L, h, w => by
    unfold DtAt at h
    unfold RtAt
    obtain ⟨a, p, vs, cs, e, h1, h2, rfl, rfl, h4⟩ := h
    refine ⟨a, p, vs, e, h1, h2, w p List.mem_cons_self, ?_⟩
    have key : ∀ {vs : List V} {cs : List (Tr × List Addr)}, (∀ q ∈ (cs.map (·.2)).flatten, ¬ W q) → Paired (fun v c => DtAt n H v c.1 c.2) vs cs → Paired (RtAt n W H) vs (cs.map (·.1)) := by
      intro vs cs w pr
      induction pr with
      | nil => exact .nil
      | cons a r ih =>
        rename_i c _ _
        rw [List.map_cons]
        refine .cons (DtAt.rt a fun q hq => w q ?_) (ih fun q hq => w q ?_)
        · rw [List.map_cons, List.flatten_cons]
          exact List.mem_append_left _ hq
        · rw [List.map_cons, List.flatten_cons]
          exact List.mem_append_right _ hq
    exact key (fun q hq => w q (List.mem_cons_of_mem _ hq)) h4
end U
namespace Law
open PySem PySem.Spec PyProof.Rows L2 U


def spBelowD (n : Nat) : Sp := fun vs H Q _ => ∃ (g nA e d : Addr) (ns : List Str) (es : List (Addr × Str × Str)) (tr : List (Str × Int)), vs = [.ref g, .ref d] ∧ GrN H g nA e ns es ∧ H d = some (.dK (trK tr)) ∧ PreN ns tr ∧ tr.length + n = ns.length ∧ extF ns (es.map (·.2)) n tr = none ∧
  ∀ v H' L, Same H H' → DtAt n H' v (treeF ns (es.map (·.2)) n tr) L → L.Nodup → (∀ q ∈ L, H q = none) → Q v H'
section
variable {P : Program} {w : World} {K : PySem.W.Frag} {mg : Str → Option Value} {base : Heap}
theorem ok_belowD {f : Addr} {fd : FuncData} {va : Addr} (F : Fun K "tree_below" "tree_below" s_tree_below f fd) (B : Bt mg) (C : DBa P w K mg base) (S : SelfR K mg "tree_below" f fd ["graph", "values"]) (hV : mg "VALUES" = some (.ref va)) (sV : ∀ H, SqT K H va ([0, 1, 2].map V.int)) : ∀ n : Nat, FnG P w K mg base CX0 (n + 2) f fd ["graph", "values"] (spBelowD n) := by
  intro n
  induction n using Nat.strongRecOn with
  | ind n ih =>
  have cal : Cal P w K mg base CX0 (n + 1) "tree_below" (fun vs H Q E => ∃ m, m < n ∧ spBelowD m vs H Q E) := ⟨f, fd, _, ⟨fun vs H Q E h => by
    obtain ⟨m, hm, h⟩ := h
    exact (ih m hm).len vs H Q E h, fun A outer s H args us vs Q E hr he hb hv h => by
    obtain ⟨m, hm, h⟩ := h
    exact (ih m hm).go A outer s H args us vs Q E (hr.mono (by omega)) he hb hv h⟩, S.mg, S.kp, S.bd⟩
  refine fnG0 F sc_tree_below (fun vs H Q E h => ?_) (fun cdv A outer s H vs Q E hr h => ?_)
  · obtain ⟨g, nA, e, d, ns, es, tr, rfl, _⟩ := h
    rfl
  · obtain ⟨g, nA, e, d, ns, es, tr, rfl, gn, hd, pre, ln, ex, q⟩ := h
    have nd := sc_tree_below.nd
    have hu := hr.u1
    refine ⟨_, (pss_cons (ps_set (i := 2) nd rfl (by first | exact Or.inl rfl | exact Or.inr rfl) (pe_c C.first_conflict hr (by omega) rfl (pa_cons (pv 0) (pa_cons (pv 1) pa_nil))))
  (pss_cons (ps_if (pt_cmpR uIsNot (pv 2) pe_non (nomark _)) (pss_one (ps_ret (pe_tup (pa_cons pe_str (pa_cons (pe_ix (kIx K rfl) (pv 2) pe_int (fun _ _ => rfl)) (pa_cons (pe_ix (kIx K rfl) (pv 2) pe_int (fun _ _ => rfl)) pa_nil)))))) pss_nil)
  (pss_cons (ps_set (i := 3) nd rfl (by first | exact Or.inl rfl | exact Or.inr rfl) (pe_ix (kIx K rfl) (pe_ix (kIx K rfl) (pv 0) pe_int (fun _ _ => rfl)) (pe_callB (kLen K rfl) (by rfl) B.len bb_len (pa_cons (pv 1) pa_nil)) (fun _ _ => rfl)))
  (pss_one (ps_ret (pe_tup (pa_cons pe_str (pa_cons (pv 3) (pa_cons (pe_lc (own := [("value", 4)]) rfl nd (ki_tup K rfl (pe_gl (v := .ref va) rfl ⟨_, hV, rfl⟩)) (blkOk_by (own := [("value", 4)]) (N := nN_tree_below) (sc := defScope s_tree_below) (by decide +kernel)) (fun _ _ _ _ _ => (pg_name (i := 4) nd rfl (by first | exact Or.inl rfl | exact Or.inr rfl))) (fun _ _ _ _ _ => pts_nil) (fun _ _ _ _ _ => (pe_c cal hr (by omega) rfl (pa_cons (pv 0) (pa_cons (pe_op uBor (pv 1) (pe_disp (pps_cons (pv 3) (pv 4) pps_nil) (by rfl) (by rfl) (fun z => by cases z) (by decide))) pa_nil))))) pa_nil))))))))), ?_⟩
    have l1 := gn.l1
    wtm_at "rd"
    refine ⟨g, nA, e, d, ns, es, tr, rfl, gn, hd, fun c0 => ?_, fun x c1 t ft => ?_⟩
    · wtm_at "rd"
      refine rd_nno rfl ?_
      cases n with
      | zero =>
        unfold extF at ex
        rw [c0] at ex
        cases ex
      | succ m =>
        have kl : tr.length < ns.length := by omega
        have put : ∀ v : Int, putS tr ns[tr.length] v = tr ++ [(ns[tr.length], v)] ∧ PreN ns (tr ++ [(ns[tr.length], v)]) := fun v => PreN.put gn.nd pre kl
        have gd : ns.getD tr.length "" = ns[tr.length] := getDU kl
        unfold extF at ex
        rw [c0, if_neg (by decide), gd] at ex
        have exs : ∀ i : Nat, i < 3 → extF ns (es.map (·.2)) m (putS tr ns[tr.length] i) = none := by
          obtain ⟨x0, x12⟩ := Option.or_eq_none_iff.mp ex
          obtain ⟨x1, x2⟩ := Option.or_eq_none_iff.mp x12
          intro i hi
          have : i = 0 ∨ i = 1 ∨ i = 2 := by omega
          rcases this with rfl | rfl | rfl
          · exact x0
          · exact x1
          · exact x2
        have tF : treeF ns (es.map (·.2)) (m + 1) tr = .node "branch" ns[tr.length] ([0, 1, 2].map fun v : Int => treeF ns (es.map (·.2)) m (putS tr ns[tr.length] v)) := by
          conv => lhs; unfold treeF
          rw [c0, gd]
        rw [tF] at q
        clear tF ex gd
        have tlen : (trK tr).length = tr.length := by
          unfold trK
          rw [List.length_map]
        wtm_at "rd"
        refine rd_ixT (SqT.of gn.gr.top) (v := .ref nA) rfl ?_
        wtm_at "rd"
        refine rd_lenD hd ?_
        wtm_at "rd"
        rw [tlen]
        refine rd_ixT (SqT.of gn.gr.nodes) (v := .str ns[tr.length]) (atI_nat (by rw [List.getElem?_map, List.getElem?_eq_getElem kl]; rfl)) ?_
        generalize ns[tr.length] = x at *
        wtm_at "rd"
        refine rd_forT (sV _) ?_
        intro D fD
        refine lcT (K := K) (xs := [0, 1, 2].map V.int) (fun i H' => Same H H' ∧ ∃ (vs : List V) (cs : List (Tr × List Addr)), H' D = some (.lst vs) ∧ vs.length = i ∧ cs.map (·.1) = (([0, 1, 2] : List Int).map fun v => treeF ns (es.map (·.2)) m (putS tr x v)).take i ∧ Paired (fun v c => DtAt m H' v c.1 c.2) vs cs ∧ (cs.map (·.2)).flatten.Nodup ∧ ∀ q ∈ (cs.map (·.2)).flatten, q ≠ D ∧ H q = none) ⟨Same.new fD, [], [], upd_same, rfl, rfl, .nil, List.nodup_nil, fun q hq => nomatch hq⟩ ?_ ?_ ?_
        · rintro i H' hi ⟨sb, _⟩
          exact sV _
        · rintro i y H1 hy ⟨sb, vs, cs, hD, vl, ce, pr, nd1, nw⟩
          obtain ⟨hi, rfl⟩ := map_at hy
          have hi3 : i < 3 := hi
          have e1 : ([0, 1, 2] : List Int)[i] = (i : Int) := by
            have : i = 0 ∨ i = 1 ∨ i = 2 := by omega
            rcases this with rfl | rfl | rfl <;> rfl
          have tk : (([0, 1, 2] : List Int).map fun v => treeF ns (es.map (·.2)) m (putS tr x v)).take (i + 1) = (([0, 1, 2] : List Int).map fun v => treeF ns (es.map (·.2)) m (putS tr x v)).take i ++ [treeF ns (es.map (·.2)) m (putS tr x (i : Int))] := by
            rw [tk_snoc2 (by simpa using hi3), List.getElem_map, e1]
          rw [tk, e1, ← ce]
          clear tk e1
          wtm_at "rd"
          refine rd_dispT fun d1 f1 => ?_
          wtm_at "rd"
          refine ⟨upd_same, [(.inr x, .int (i : Int))], rfl, by show (1 : Nat) ≤ 15; decide, ?_⟩
          have k1 : Same H1 (upd (upd H1 d1 (.dK [])) d1 (.dK (mergeK [] [((.inr x : Key), V.int (i : Int))]))) := fun b o hb => at_upd (ne_of_none hb f1) (at_upd (ne_of_none hb f1) hb)
          have hd1 := @upd_same (upd H1 d1 (.dK [])) d1 (.dK (mergeK [] [((.inr x : Key), V.int (i : Int))]))
          generalize upd (upd H1 d1 (.dK [])) d1 (.dK (mergeK [] [((.inr x : Key), V.int (i : Int))])) = H2 at k1 hd1
          have s2 := sb.trans k1
          wtm_at "rd"
          refine rd_borF (kvs := trK tr) (k := .inr x) (v := .int (i : Int)) (.inl (s2 _ _ hd)) (.inl hd1) (by rw [tlen]; exact Nat.lt_of_le_of_lt (by omega : tr.length ≤ 100) (by decide)) ?_
          intro d2 f2
          rw [putS_K]
          have k2 := Same.new (o := .dK (trK (putS tr x (i : Int)))) f2
          have hd2 := @upd_same H2 d2 (.dK (trK (putS tr x (i : Int))))
          have s3 := s2.trans k2
          have k12 := k1.trans k2
          generalize upd H2 d2 (.dK (trK (putS tr x (i : Int)))) = H3 at k2 hd2 s3 k12
          wtm_at "rd"
          obtain ⟨pe, pp⟩ := put (i : Int)
          have hD3 := k12 _ _ hD
          refine ⟨m, Nat.lt_succ_self m, g, nA, e, d2, ns, es, putS tr x (i : Int), rfl, gn.same s3, hd2, by rw [pe]; exact pp, by rw [pe, List.length_append, List.length_singleton]; omega, exs i hi3, fun v H4 Lv s4 rt ndv nwv => ?_⟩
          have hD4 := s4 _ _ hD3
          refine rd_acc hD4 (by omega) ?_
          have old : ∀ q ∈ (cs.map (·.2)).flatten, ∃ xs, H3 q = some (.lst xs) := fun q hq => by
            obtain ⟨L1, hL, hq⟩ := List.mem_flatten.mp hq
            obtain ⟨c, hc, rfl⟩ := List.mem_map.mp hL
            obtain ⟨_, _, hd⟩ := paired_of pr c hc
            obtain ⟨xs, h⟩ := DtAt.ls hd q hq
            exact ⟨xs, k12 _ _ h⟩
          have nDv : ∀ q ∈ Lv, q ≠ D := fun q hq e => by
            have := nwv q hq
            rw [e, hD3] at this
            cases this
          have pr4 : Paired (fun v c => DtAt m H4 v c.1 c.2) (vs ++ [v]) (cs ++ [(treeF ns (es.map (·.2)) m (putS tr x (i : Int)), Lv)]) := Paired.snoc (Paired.mapR (fun a b z => (DtAt.same z k12).same s4) pr) rt
          have fl : ((cs ++ [(treeF ns (es.map (·.2)) m (putS tr x (i : Int)), Lv)]).map (·.2)).flatten = (cs.map (·.2)).flatten ++ Lv := by simp
          refine ⟨same_put (s3.trans s4) fD, vs ++ [v], cs ++ [(treeF ns (es.map (·.2)) m (putS tr x (i : Int)), Lv)], upd_same, by rw [List.length_append, vl]; rfl, by rw [List.map_append]; rfl, Paired.memR (fun a b mb z => DtAt.keep (fun c o h => at_upd (ne_of h hD4 (by intro z; cases z)) h) (fun c o hc h => at_upd (fun e => ?_) h) z) pr4, ?_, ?_⟩
          · subst e
            rcases List.mem_append.mp mb with mb | mb
            · exact (nw _ (List.mem_flatten.mpr ⟨_, List.mem_map_of_mem (f := (·.2)) mb, hc⟩)).1 rfl
            · rw [List.mem_singleton] at mb
              subst mb
              exact nDv _ hc rfl
          · rw [fl, List.nodup_append]
            refine ⟨nd1, ndv, fun a ha b hb e => ?_⟩
            obtain ⟨xs, z⟩ := old a ha
            rw [e, nwv b hb] at z
            cases z
          · rw [fl]
            intro q hq
            rcases List.mem_append.mp hq with hq | hq
            · exact nw q hq
            · refine ⟨nDv q hq, ?_⟩
              cases hh : H q with
              | none => rfl
              | some o =>
                have := nwv q hq
                rw [s3 _ _ hh] at this
                cases this
        · rintro H1 ⟨sb, vs, cs, hD, vl, ce, pr, nd1, nw⟩
          wtm_at "rd"
          intro t ft
          have k := Same.new (o := .tup [.str "branch", .str x, .ref D]) ft
          refine q (.ref t) _ (D :: (cs.map (·.2)).flatten) (sb.trans k) ?_ (List.nodup_cons.mpr ⟨fun z => (nw D z).1 rfl, nd1⟩) (fun q hq => (List.mem_cons.mp hq).elim (fun z => by rw [z]; exact fD) (fun z => (nw q z).2))
          unfold DtAt
          exact ⟨t, D, vs, cs, rfl, upd_same, k _ _ hD, by rw [ce]; rfl, rfl, Paired.mapR (fun a b z => DtAt.same z k) pr⟩
    · have k := Same.new (o := .tup [.str x.1, .str x.2]) ft
      have ht := @upd_same H t (.tup [.str x.1, .str x.2])
      generalize upd H t (.tup [.str x.1, .str x.2]) = H1 at k ht
      wtm_at "rd"
      refine rd_nyes (fun z => by cases z) ?_
      wtm_at "rd"
      refine rd_ixT (SqT.of ht) (v := .str x.1) rfl ?_
      wtm_at "rd"
      refine rd_ixT (SqT.of ht) (v := .str x.2) rfl ?_
      wtm_at "rd"
      intro t2 ft2
      have k2 := Same.new (o := .tup [.str "conflict", .str x.1, .str x.2]) ft2
      refine q (.ref t2) _ [] (k.trans k2) ?_ List.nodup_nil (fun q hq => nomatch hq)
      have tF : treeF ns (es.map (·.2)) n tr = .leaf "conflict" x.1 x.2 := by
        cases n with
        | zero => unfold treeF; rw [c1]
        | succ n => unfold treeF; rw [c1]
      rw [tF]
      unfold DtAt
      exact ⟨rfl, t2, rfl, upd_same⟩
def spBelowDU : Sp := fun vs H Q E => ∃ n, n ≤ 8 ∧ spBelowD n vs H Q E
theorem ok_belowDU {f : Addr} {fd : FuncData} {va : Addr} (F : Fun K "tree_below" "tree_below" s_tree_below f fd) (B : Bt mg) (C : DBa P w K mg base) (S : SelfR K mg "tree_below" f fd ["graph", "values"]) (hV : mg "VALUES" = some (.ref va)) (sV : ∀ H, SqT K H va ([0, 1, 2].map V.int)) : FnG P w K mg base CX0 10 f fd ["graph", "values"] spBelowDU := by
  exact ⟨fun vs H Q E h => by
    obtain ⟨m, hm, h⟩ := h
    exact (ok_belowD (P := P) (w := w) (base := base) F B C S hV sV m).len vs H Q E h, fun A outer s H args us vs Q E hr he hb hv h => by
    obtain ⟨m, hm, h⟩ := h
    exact (ok_belowD (P := P) (w := w) (base := base) F B C S hV sV m).go A outer s H args us vs Q E (hr.mono (by omega)) he hb hv h⟩
def spCaseD : Sp := fun vs H Q _ => ∃ (g nA e : Addr) (ns : List Str) (es : List (Addr × Str × Str)), vs = [.ref g] ∧ GrN H g nA e ns es ∧ ns.length ≤ 8 ∧
  (∀ H', Same H H' → ∀ tr', extF ns (es.map (·.2)) ns.length [] = some tr' → Q .non H') ∧ ∀ v H' L, Same H H' → extF ns (es.map (·.2)) ns.length [] = none → DtAt ns.length H' v (treeF ns (es.map (·.2)) ns.length []) L → L.Nodup → (∀ q ∈ L, H q = none) → Q v H'
structure WBb (P : Program) (w : World) (K : PySem.W.Frag) (mg : Str → Option Value) (base : Heap) : Prop where
  first_state : Cal P w K mg base CX0 11 "first_state" spFst
  tree_below : Cal P w K mg base CX0 10 "tree_below" spBelowDU
theorem ok_caseD {f : Addr} {fd : FuncData} (F : Fun K "case_tree" "case_tree" s_case_tree f fd) (B : Bt mg) (C : WBb P w K mg base) : FnG P w K mg base CX0 12 f fd ["graph"] spCaseD := by
  refine fnG0 F sc_case_tree (fun vs H Q E h => ?_) (fun cdv A outer s H vs Q E hr h => ?_)
  · obtain ⟨g, nA, e, ns, es, rfl, _⟩ := h
    rfl
  · obtain ⟨g, nA, e, ns, es, rfl, gn, n8, q0, q1⟩ := h
    have nd := sc_case_tree.nd
    have hu := hr.u1
    refine ⟨_, (pss_one (ps_ret (pe_ifExp (pt_cmpR uIs (pe_c C.first_state hr (by decide) rfl (pa_cons (pv 0) pa_nil)) pe_non (nomark _)) (pe_c C.tree_below hr (by decide) rfl (pa_cons (pv 0) (pa_cons pe_dnewK pa_nil))) pe_non))), ?_⟩
    wtm_at "rd"
    refine ⟨g, nA, e, ns, es, rfl, gn, n8, fun H1 s1 => ⟨fun ex => ?_, fun tr' ex d' hd' => ?_⟩⟩
    · wtm_at "rd"
      refine rd_yes rfl ?_
      wtm_at "rd"
      intro d fd
      have k := Same.new (o := .dK []) fd
      refine ⟨ns.length, n8, g, nA, e, d, ns, es, [], rfl, (gn.same s1).same k, upd_same, ⟨rfl, Nat.zero_le _⟩, by simp, ex, fun v H' L s dt nl nw => ?_⟩
      refine q1 v H' L ((s1.trans k).trans s) ex dt nl (fun a ha => ?_)
      cases hh : H a with
      | none => rfl
      | some o =>
        have := nw a ha
        rw [k _ _ (s1 _ _ hh)] at this
        cases this
    · wtm_at "rd"
      refine rd_no (fun z => by cases z) ?_
      wtm_at "rd"
      exact q0 H1 s1 tr' ex
end
end Law

/-! sum(a list of lists, a list) -/
namespace PySem
section
variable {prog : Program} {w : World} {A : Around} {R : Result → Shared → Prop} {I : Addr} {fp wr : List Addr} {n : Nat} {P : Nat → Value → Prop} {St : Nat → Heap → Prop}
abbrev LsObj (vs : List Value) (c : Nat) : Obj := { cls := .type "list", data := .seq vs.toArray c }
theorem codeAny_sum_lists (W : Walks prog w A.in1 I fp wr n P St) (it : Nat → Addr) (hval : ∀ i v, P i v → v = .ref (it i)) (S : Addr) (hSf : S ∉ fp) :
    ∀ (k i : Nat) (s : Shared) (t : Addr) (tv : List Value) (tc c : Nat) (ls : List (List Value × Nat)), ls.length = k → n - i = k → i ≤ n → St i s.heap → s.heap.get? S = some { cls := .type "list", dict := none, data := .seq #[.ref t] c, slots := #[] } →
    t ≠ S → t ∉ wr → s.heap.get? t = some (LsObj tv tc) → (∀ j (hj : j < ls.length), it (i + j) ≠ S ∧ it (i + j) ∉ wr ∧ s.heap.get? (it (i + j)) = some (LsObj ls[j].1 ls[j].2)) → (∀ j, j ≤ ls.length → (tv ++ ((ls.take j).map (·.1)).flatten).length ≤ sizeLine) → (∀ b ∈ wr, b < S) →
    (∀ h' tk r rc, (∀ b o, b ∉ wr → b ≠ S → s.heap.get? b = some o → h'.get? b = some o) → h'.get? r = some (LsObj (tv ++ (ls.map (·.1)).flatten) rc) → (ls = [] ∧ r = t ∨ S < r) → R (.ok (.ret (.ref r))) { s with heap := h', toks := tk }) →
    codeAny (model prog w) A (.builtin "sum.loop" ⟨[.ref I, .ref S, rawInt 2, rawInt 0], []⟩) R s := by
  have hSw : S ∉ wr := fun h => hSf (W.sub _ h)
  intro k
  induction k with
  | zero =>
    intro i s t tv tc c ls hls hk hi hst hS tS tw ht hit hlen hwr hR
    have hin : i = n := by omega
    subst hin
    have e : ls = [] := List.length_eq_zero_iff.mp hls
    subst e
    refine codeAny_builtin F.entry_sum_loop ?_
    rw [Around.under_plainId F.plain_sum_loop _]
    show wpAny _ A.in1 (seqItems? (.ref S) >>= _) _ _ s
    refine wpAny_bind (wpAny_seqItems hS rfl ?_)
    show wpAny _ A.in1 (tryCatch (pyNext (.ref I)) _ >>= _) _ _ s
    refine wpAny_bind (wpAny_tryCatch (W.done s _ _ hst fun h' tk hk' => ?_))
    refine wpAny_pure (hR h' tk t tc (fun b o hbw _ e => hk' b o hbw e) ?_ (.inl ⟨rfl, rfl⟩))
    rw [List.map_nil, List.flatten_nil, List.append_nil]
    exact hk' t _ tw ht
  | succ k ih =>
    intro i s t tv tc c ls hls hk hi hst hS tS tw ht hit hlen hwr hR
    have hlt : i < n := by omega
    cases ls with
    | nil => cases hls
    | cons l0 ls =>
    have hls : ls.length = k := Nat.succ.inj hls
    refine codeAny_builtin F.entry_sum_loop ?_
    rw [Around.under_plainId F.plain_sum_loop _]
    show wpAny _ A.in1 (seqItems? (.ref S) >>= _) _ _ s
    refine wpAny_bind (wpAny_seqItems hS rfl ?_)
    show wpAny _ A.in1 (tryCatch (pyNext (.ref I)) _ >>= _) _ _ s
    refine wpAny_bind (wpAny_tryCatch (W.item i s _ _ hlt hst fun v h' tk hP hst' hk' => ?_))
    obtain rfl := hval i v hP
    have hS' := hk' S _ hSw hS
    have ht' := hk' t _ tw ht
    obtain ⟨i1, i2, i3⟩ := hit 0 (Nat.succ_pos _)
    have i3 : s.heap.get? (it i) = some (LsObj l0.1 l0.2) := i3
    have hi' := hk' (it i) _ i2 i3
    have l1 := hlen 1 (by simp)
    have l1 : tv.length + l0.1.length ≤ sizeLine := by
      simp only [List.take_succ_cons, List.take_zero, List.map_cons, List.map_nil, List.flatten_cons, List.flatten_nil, List.append_nil, List.length_append] at l1
      exact l1
    show wpAny _ A.in1 ((holding [Value.ref (it i)] (binaryOp .Add (.ref t) (.ref (it i)))).attempt >>= _) _ _ _
    refine wpAny_bind (wpAny_attempt (wpAny_holding (PySem.P.add_list ht' hi' ?_ (by rw [List.size_toArray, List.size_toArray]; exact l1))))
    have hne : S ≠ h'.objs.size := Nat.ne_of_lt (Heap.lt_size hS')
    have hS1 : (h'.push { cls := .type "list", data := .seq (tv.toArray ++ l0.1.toArray) }).get? S = _ := Heap.get?_push_of_some _ hS'
    show wpAny _ A.in1 (updateSeq S (fun _ => #[.ref h'.objs.size]) >>= _) _ _ _
    refine wpAny_bind ?_
    refine wpAny_updateSeq hS1 rfl ?_
    have hS2 := Heap.get?_update_self (Obj.mapSeq fun _ => #[Value.ref h'.objs.size]) hS1 rfl
    refine wpAny_bind (wpAny_letGo ?_)
    refine wpAny_bind ?_
    have new0 : (h'.push { cls := .type "list", data := .seq (tv.toArray ++ l0.1.toArray) }).get? h'.objs.size = some (LsObj (tv ++ l0.1) 0) := by
      rw [Heap.get?_push_size _ rfl]
      simp
    have kp : ∀ b o, b ∉ wr → b ≠ S → s.heap.get? b = some o → (((h'.push { cls := .type "list", data := .seq (tv.toArray ++ l0.1.toArray) }).update S (Obj.mapSeq fun _ => #[Value.ref h'.objs.size])).update S (Obj.mapSeq fun _ => #[Value.ref h'.objs.size])).get? b = some o := fun b o hbw hbS e =>
      (Heap.get?_update_other _ _ (Ne.symm hbS)).trans ((Heap.get?_update_other _ _ (Ne.symm hbS)).trans (Heap.get?_push_of_some _ (hk' b o hbw e)))
    have newN : h'.objs.size ≠ S := Ne.symm hne
    have new1 : (((h'.push { cls := .type "list", data := .seq (tv.toArray ++ l0.1.toArray) }).update S (Obj.mapSeq fun _ => #[Value.ref h'.objs.size])).update S (Obj.mapSeq fun _ => #[Value.ref h'.objs.size])).get? h'.objs.size = some (LsObj (tv ++ l0.1) 0) :=
      (Heap.get?_update_other _ _ hne).trans ((Heap.get?_update_other _ _ hne).trans new0)
    have hSlt : S < h'.objs.size := Heap.lt_size hS'
    have hwN : h'.objs.size ∉ wr := fun hm => Nat.lt_asymm hSlt (hwr _ hm)
    refine wpAny_updateSeq hS2 rfl (wpAny_pure ⟨plainId_quiet F.plain_sum_loop _, ih (i + 1) _ h'.objs.size (tv ++ l0.1) 0 _ ls hls (by omega) hlt (W.frame _ _ _ hst' fun b hb o e => ?_) (Heap.get?_update_self _ hS2 rfl) newN hwN new1 (fun j hj => ?_) (fun j hj => ?_) hwr fun h'' tk'' r rc hk'' hr hor => ?_⟩)
    · exact (Heap.get?_update_other _ _ (fun h : S = b => hSf (by rw [h]; exact hb))).trans ((Heap.get?_update_other _ _ (fun h : S = b => hSf (by rw [h]; exact hb))).trans (Heap.get?_push_of_some _ e))
    · obtain ⟨j1, j2, j3⟩ := hit (j + 1) (by simpa using hj)
      have ej : i + (j + 1) = i + 1 + j := by omega
      rw [ej] at j1 j2 j3
      exact ⟨j1, j2, kp _ _ j2 j1 j3⟩
    · have := hlen (j + 1) (by simpa using hj)
      rw [List.take_succ_cons, List.map_cons, List.flatten_cons, ← List.append_assoc] at this
      exact this
    · refine hR h'' tk'' r rc (fun b o hbw hbS e => hk'' b o hbw hbS (kp b o hbw hbS e)) ?_ (.inr ?_)
      · rw [hr, List.map_cons, List.flatten_cons, List.append_assoc]
      · rcases hor with ⟨_, rfl⟩ | h
        · exact hSlt
        · exact h
end
section
variable {prog : Program} {w : World} {A : Around} {E : Value → Shared → Prop} {s : Shared}
theorem args_sum2 (a b : Value) : argsOk "sum" ⟨[a, b], []⟩ := by unfold argsOk; kernel_rfl
theorem call_sum_lists {l t : Addr} {items : Array Value} {tv : List Value} {tc : Nat} {ls : List (List Value × Nat)} {ad : Nat → Addr} {Q : Value → Shared → Prop} (hh : A.handled = none) (hl : s.heap.IsList l items) (ht : s.heap.get? t = some (LsObj tv tc))
    (hn : ls.length = items.size) (hit : ∀ j (hj : j < ls.length), items[j]? = some (.ref (ad j)) ∧ s.heap.get? (ad j) = some (LsObj ls[j].1 ls[j].2)) (hlen : ∀ j, j ≤ ls.length → (tv ++ ((ls.take j).map (·.1)).flatten).length ≤ sizeLine)
    (h : ∀ h' tk r rc, (∀ b o, s.heap.get? b = some o → h'.get? b = some o) → h'.get? r = some (LsObj (tv ++ (ls.map (·.1)).flatten) rc) → (ls = [] ∧ r = t ∨ s.heap.objs.size ≤ r) → Q (.ref r) { s with heap := h', toks := tk }) :
    wpAny (model prog w) A (call (.builtin "sum") [.ref l, .ref t]) Q E s := by
  refine call_function_tree F.kind_sum F.plain_sum F.entry_sum (args_sum2 _ _) ?_
  unfold Builtin.«sum»
  simp only [List.length_cons, List.length_nil]
  rw [if_neg (by decide)]
  refine wpAny_bind (wpAny_of_eq (show Builtin.Builtins.bindParams "sum" ["start"] 0 ⟨[.ref t], []⟩ = pure [some (.ref t)] from rfl) ?_)
  have hlt : l < s.heap.objs.size := by obtain ⟨_, e, _⟩ := hl; exact Heap.lt_size e
  refine wpAny_bind (wpAny_pyIter_list hl ?_)
  have kI : ∀ b o, s.heap.get? b = some o → (s.heap.push { cls := .type "list_iterator", data := .fields #[.ref l, .int 0 0] }).get? b = some o := fun b o e => Heap.get?_push_of_some _ e
  have tT : ({ s with heap := s.heap.push { cls := .type "list_iterator", data := .fields #[.ref l, .int 0 0] } } : Shared).TypeIs (.ref t) "list" := ⟨_, kI _ _ ht, rfl⟩
  refine wpAny_bind (wpAny_pure ?_)
  simp only [List.forIn_cons, List.forIn_nil]
  refine wpAny_bind (wpAny_bind (wpAny_bind (wpAny_isInstance (T := "list") (b := false) tT F.sub_list_str ?_)))
  simp only [Bool.false_eq_true, if_false]
  refine wpAny_pure (wpAny_bind (wpAny_bind (wpAny_isInstance (T := "list") (b := false) tT F.sub_list_bytes ?_)))
  simp only [Bool.false_eq_true, if_false]
  refine wpAny_pure (wpAny_bind (wpAny_bind (wpAny_isInstance (T := "list") (b := false) tT F.sub_list_bytearray ?_)))
  simp only [Bool.false_eq_true, if_false]
  refine wpAny_pure (wpAny_pure ?_)
  refine wpAny_bind (wpAny_newObj_type ?_)
  have hS : (s.heap.push { cls := .type "list_iterator", data := .fields #[.ref l, .int 0 0] }).objs.size = s.heap.objs.size + 1 := Heap.size_push _ _
  show wpAny (model prog w) A.in1 (again (Code.builtin "sum.loop" ⟨[.ref s.heap.objs.size, .ref (s.heap.push { cls := .type "list_iterator", data := .fields #[.ref l, .int 0 0] }).objs.size, rawInt 2, rawInt 0], []⟩)) _ _ _
  have lt_ : ∀ {b : Addr} {o : Obj}, s.heap.get? b = some o → b ≠ (s.heap.push { cls := .type "list_iterator", data := .fields #[.ref l, .int 0 0] }).objs.size ∧ b ∉ [s.heap.objs.size] := fun {b o} e => by
    have := Heap.lt_size e
    rw [hS]
    refine ⟨fun z => ?_, fun z => ?_⟩
    · rw [z] at this
      exact absurd this (Nat.not_lt.mpr (Nat.le_succ _))
    · rw [List.mem_singleton.mp z] at this
      exact absurd this (Nat.lt_irrefl _)
  have neI : l ≠ s.heap.objs.size := Nat.ne_of_lt hlt
  have WL := Walks.list (prog := prog) (w := w) (A := A.in1) hh s.heap.objs.size l neI items
  refine wpAny_pure ⟨plainId_quiet F.plain_sum_loop _, codeAny_sum_lists WL (fun j => match items[j]? with
    | some (.ref a) => a
    | _ => 0) (fun i v hv => ?_) _ ?_ ls.length 0 _ t tv tc _ ls rfl (by omega) (Nat.zero_le _) ?_ (Heap.get?_push_size _ rfl) (lt_ ht).1 (lt_ ht).2 (Heap.get?_push_of_some _ (kI _ _ ht)) (fun j hj => ?_) hlen (fun b hb => ?_) fun h' tk r rc hk hr hor => ?_⟩
  · have hi : i < items.size := (Array.getElem?_eq_some_iff.mp hv).1
    obtain ⟨h1, _⟩ := hit i (by rw [hn]; exact hi)
    have e : v = .ref (ad i) := Option.some.inj (hv.symm.trans h1)
    show v = .ref (match items[i]? with
      | some (.ref a) => a
      | _ => 0)
    rw [e, h1]
  · intro hm
    simp only [List.mem_cons, List.not_mem_nil, or_false] at hm
    rw [hS] at hm
    rcases hm with hm | hm
    · exact Nat.succ_ne_self _ hm
    · rw [← hm] at hlt
      exact absurd hlt (Nat.not_lt.mpr (Nat.le_succ _))
  · obtain ⟨o, e, oc, od⟩ := hl
    refine ⟨⟨_, Heap.get?_push_of_some _ (Heap.get?_push_size _ rfl), rfl, rfl⟩, ⟨o, Heap.get?_push_of_some _ (kI _ _ e), oc, od⟩⟩
  · obtain ⟨h1, h2⟩ := hit j hj
    have ea : (match items[0 + j]? with
      | some (.ref a) => a
      | _ => 0) = ad j := by rw [Nat.zero_add, h1]
    show _ ≠ _ ∧ _ ∉ _ ∧ _ = _
    rw [ea]
    exact ⟨(lt_ h2).1, (lt_ h2).2, Heap.get?_push_of_some _ (kI _ _ h2)⟩
  · rw [List.mem_singleton.mp hb, hS]
    exact Nat.lt_succ_self _
  · refine h h' tk r rc (fun b o e => hk b o (lt_ e).2 (lt_ e).1 (Heap.get?_push_of_some _ (kI b o e))) hr ?_
    rcases hor with h | h
    · exact .inl h
    · right
      rw [hS] at h
      exact Nat.le_of_lt (Nat.lt_of_succ_lt h)
end
end PySem
namespace U
open PySem PySem.Spec PyProof.Rows L2
def rSumLL (K : PySem.W.Frag) : List V → Hp → VK → Prop := fun xs H Q => ∃ (a b : Addr) (ls : List (Addr × List V)) (vs : List V), xs = [.ref a, .ref b] ∧ SqL K H a (ls.map fun l => V.ref l.1) ∧ (∀ l ∈ ls, H l.1 = some (.lst l.2)) ∧ H b = some (.lst vs) ∧ vs.length + (ls.map (·.2)).flatten.length ≤ 100000 ∧
  (ls = [] → Q (.ref b) H) ∧ ∀ r, H r = none → Q (.ref r) (upd H r (.lst (vs ++ (ls.map (·.2)).flatten)))
section
variable {X : Cx} {pins : List (Addr × Obj)} {σ : L2.St} {H : Hp} {s : Shared}
theorem lists_raw (I : Inv X pins σ H s) : ∀ {ls : List (Addr × List V)}, (∀ l ∈ ls, H l.1 = some (.lst l.2)) → ∃ qs : List (List Value × Nat), qs.length = ls.length ∧ (∀ j (h1 : j < ls.length) (h2 : j < qs.length), s.heap.get? ls[j].1 = some (LsObj qs[j].1 qs[j].2)) ∧ (∀ j, ((qs.take j).map (·.1)).flatten.length = ((ls.take j).map (·.2)).flatten.length) ∧ Vals (ls.map (·.2)).flatten (qs.map (·.1)).flatten
  | [], _ => ⟨[], rfl, fun j h1 => absurd h1 (Nat.not_lt_zero _), fun j => by simp, .nil⟩
  | l :: ls, h => by
    obtain ⟨qs, e, at_, len, vv⟩ := lists_raw I (ls := ls) fun x hx => h x (List.mem_cons_of_mem _ hx)
    obtain ⟨z, its, n, r, hl, e0⟩ := I.lstM (h l List.mem_cons_self)
    refine ⟨(its, n) :: qs, by rw [List.length_cons, List.length_cons, e], fun j h1 h2 => ?_, fun j => ?_, ?_⟩
    · cases j with
      | zero => exact e0
      | succ j => exact at_ j (by simpa using h1) (by simpa using h2)
    · cases j with
      | zero => simp
      | succ j =>
        rw [List.take_succ_cons, List.take_succ_cons, List.map_cons, List.map_cons, List.flatten_cons, List.flatten_cons, List.length_append, List.length_append, len j, r.length]
    · rw [List.map_cons, List.map_cons, List.flatten_cons, List.flatten_cons]
      exact r.append vv
theorem cr_sumLL (hc : X.calm = true) : CallR X (.builtin "sum") (rSumLL X.K) := by
  intro pins s σ H xs us Q I r h
  obtain ⟨a, b, ls, vs, rfl, ha, hls, hb, hz, q0, q⟩ := h
  obtain ⟨u1, u2, rfl, r1, r2⟩ := Vals.two r
  cases r1
  cases r2
  obtain ⟨its, rv, hl, _⟩ := I.list ha
  obtain ⟨z, tv, tc, rt, htl, et⟩ := I.lstM hb
  obtain ⟨qs, eq, at_, len, vv⟩ := lists_raw I hls
  have rl := rv.length
  rw [List.length_map] at rl
  have big : (100000 : Nat) ≤ sizeLine := by decide
  refine call_sum_lists (ls := qs) (ad := fun j => match ls[j]? with
    | some l => l.1
    | none => 0) (I.ok.hd hc) hl.isList et (by rw [eq, List.size_toArray, ← rl]) (fun j hj => ?_) (fun j hj => ?_) fun h' tk r rc hk hr hor => ?_
  · have hj2 : j < ls.length := by omega
    obtain ⟨u, hu, ru⟩ := Vals.get rv (i := j) (x := V.ref ls[j].1) (by rw [List.getElem?_map, List.getElem?_eq_getElem hj2]; rfl)
    cases ru
    refine ⟨?_, ?_⟩
    · rw [List.getElem?_toArray, hu, List.getElem?_eq_getElem hj2]
    · rw [List.getElem?_eq_getElem hj2]
      exact at_ j hj2 hj
  · rw [List.length_append, len j, ← rt.length]
    have : ((ls.take j).map (·.2)).flatten.length ≤ (ls.map (·.2)).flatten.length := by
      have e : (ls.map (·.2)).flatten.length = ((ls.take j).map (·.2)).flatten.length + ((ls.drop j).map (·.2)).flatten.length := by
        rw [← List.length_append, ← List.flatten_append, ← List.map_append, List.take_append_drop]
      omega
    omega
  · rcases hor with ⟨e, rfl⟩ | hge
    · subst e
      have : ls = [] := List.length_eq_zero_iff.mp eq.symm
      exact ⟨.ref _, H, I.kept (t' := tk) hk, rfl, q0 this⟩
    · refine ⟨.ref r, upd H r (.lst (vs ++ (ls.map (·.2)).flatten)), I.laid (t' := tk) hk hge ?_, rfl, q r (I.hok.fresh hge)⟩
      exact ⟨by rw [List.length_append]; omega, _, rc, rt.append vv, hr⟩
theorem kSumLL {X : Cx} (K : PySem.W.Frag) (hK : X.K = K) (hc : X.calm = true) : CallR X (.builtin "sum") (rSumLL K) := hK ▸ cr_sumLL hc
end
end U

/-! functions handed on: promises that speak of the cells which a handed function captured -/
namespace U
open PySem PySem.Spec PyProof.Rows L2 LamX NdefX
section
variable {P : Program} {w : World} {K : PySem.W.Frag} {mg : Str → Option Value} {base : Heap} {CX : CXT}
end
section
variable {X : Cx} {pins : List (Addr × Obj)} {σ : L2.St} {H : Hp} {s : Shared} {cl : List (Str × Addr)} {fr : List Str} {ws : List (Option V)} {js : List Nat}
end
end U

/-! enumerate(tuple) -/
namespace U
open PySem PySem.Spec PyProof.Rows L2
end U

/-! own exceptions with one field: made, raised, kept, read -/
namespace U
open PySem PySem.Spec PyProof.Rows L2
/-- __init__(self, v): the field f is v -/
def spInit1 (C : Addr) (f : Str) : Sp := fun vs H Q _ => ∃ (a : Addr) (v : V), vs = [.ref a, v] ∧ H a = some (exo a C none) ∧
  ∀ dx, H dx = none → dx ≠ a → Q .non (upd (upd H dx (exd dx [(f, v)])) a (exo a C (some dx)))
theorem rd_mk1 {C : Addr} {f : Str} {v : V} {H : Hp} {Q : XK} (h : ∀ (dd : Addr) (H' : Hp), Same H H' → H dd = none → H' dd = some (.xd [(f, v)]) → Q (.ref C) (some dd) H') :
    [v].length ≤ 1000 ∧ ∀ a, H a = none → spInit1 C f (.ref a :: ([v] ++ [])) (upd H a (exo a C none)) (fun w H2 => w = .non ∧ ∃ (d : Addr) (fs : List (Str × V)), H2 a = some (exo a C (some d)) ∧ H2 d = some (exd d fs) ∧ H d = none ∧ Q (.ref C) (some d) (upd (del H2 a) d (.xd fs))) (fun _ _ _ => False) := by
  refine ⟨(by show 1 ≤ 1000; decide), fun a na => ⟨a, v, rfl, upd_same, fun dx ndx nda => ⟨rfl, dx, [(f, v)], upd_same, ?_, ?_, ?_⟩⟩⟩
  · rw [upd_ne nda, upd_same]
  · rw [upd_ne nda] at ndx
    exact ndx
  · have nd0 : H dx = none := by
      rw [upd_ne nda] at ndx
      exact ndx
    refine h dx _ (fun b o e => ?_) nd0 upd_same
    have n1 : b ≠ dx := ne_of_none e nd0
    have n2 : b ≠ a := ne_of_none e na
    rw [upd_ne n1, del_ne n2, upd_ne n2, upd_ne n1, upd_ne n2]
    exact e
section
variable {σ : L2.St} {H : Hp} {Q : VK} {D : Ends} {K : PySem.W.Frag} {te : TE} {ta : TA}
end
/-! the class's facts, gathered -/
end U

/-! isinstance of a kept exception, its dict known -/
namespace U
open PySem PySem.Spec PyProof.Rows L2
section
variable {P : Program} {w : World} {A : Around} {E : Value → Shared → Prop} {K : PySem.W.Frag} {x D : Addr} {ox : Obj} {od : Option Obj}
theorem find_class (C : ExcC K D) : PySem.W.findObj K D od "__class__" = some (.bind (.builtin "getset_descriptor.__get__") (.builtin "object.__class__")) := by
  obtain ⟨cd, hc, _⟩ := PySem.W.any_some C.hd
  unfold PySem.W.findObj
  rw [hc, Option.bind_some, C.ha, Option.bind_some]
  simp [C.hn, C.ht]
theorem class_of_exc {Q : Option Value → Shared → Prop} {s : Shared} (C : ExcC K D) (X : K.In s.heap) (I : PySem.W.InstAt s.heap x ox D od) (h : Q (some (.ref D)) { s with toks := s.toks + 1 }) : wpAny (model P w) A (getAttr? (.ref x) "__class__") Q E s := by
  obtain ⟨hp, g, d, t, os⟩ := s
  have lt := I.type (M := model P w)
  have l1 := PySem.W.looks_findIn (M := model P w) X C.hg
  have l2 := PySem.W.looks_findIn (M := model P w) X C.hk
  have l3 := PySem.W.looks_find (M := model P w) X I (find_class C)
  have isB : PySem.W.Looks (model P w) hp (isInstance (.ref x) (.type "BaseException")) true := lt.andThen (PySem.W.looks_subIn X C.hs)
  have q1 : (Value.builtin "BaseException.__getattribute__" == Value.builtin "object.__getattribute__") = false := by decide +kernel
  have q2 : (onTheHeap (Value.ref D) && Value.builtin "BaseException.__getattribute__" == Value.builtin "object.__getattribute__") = false := by rw [q1] <;> rfl
  have q3 : (false && onTheHeap (Value.builtin "BaseException.__getattribute__")) = false := rfl
  unfold getAttr? getAttrBy? getAttrBy
  refine wpAny_bind (wpAny_mkText (wpAny_bind (wpAny_attempt ?_)))
  refine wpAny_holding (wpAny_bind (lt.at (wpAny_bind (l1.at ?_))))
  show wpAny _ _ (if (onTheHeap (Value.ref D) && Value.builtin "BaseException.__getattribute__" == Value.builtin "object.__getattribute__") = true then _ else _) _ _ _
  rw [q2, if_neg Bool.false_ne_true]
  unfold getAttrByItsOwn hookBefore
  refine wpAny_bind ?_
  rw [if_pos (show onTheHeap (Value.ref D) = true from rfl)]
  refine l2.at (wpAny_bind (wpAny_attempt (wpAny_holding ?_)))
  unfold callGetattribute
  rw [q3, if_neg Bool.false_ne_true]
  unfold boundAndCalled
  rw [PySem.F.excAttr_ValueError.ga.bind (.ref x)]
  refine wpAny_bind (wpAny_pure ?_)
  show wpAny _ _ (call (.builtin "BaseException.__getattribute__") [.ref x, .str "__class__" t]) _ _ _
  refine wpAny_call (PySem.codeAny_call_builtin PySem.F.excAttr_ValueError.ga.plain PySem.F.entry_bexc_ga ?_)
  have args := PySem.F.args_bexc_ga (.ref x) (.str "__class__" t)
  refine @PySem.W.check_slot (model P w) _ _ ⟨hp, g, d, t + 1, os⟩ "BaseException.__getattribute__" "BaseException" "__getattribute__" (.ref x) [.str "__class__" t] [] _ (by decide +kernel) (by decide +kernel) isB args ?_
  unfold Builtin.«object.__getattribute__»
  refine wpAny_bind (wpAny_of_eq (a := ((Value.ref x : Value), [Value.str "__class__" t])) (by first | rfl | (simp only [slotArgs]; rfl)) ?_)
  refine wpAny_bind (wpAny_pure ?_)
  refine wpAny_bind (lt.at (wpAny_bind (l3.at ?_)))
  show wpAny _ _ (holding [Value.builtin "object.__class__"] (call (.builtin "getset_descriptor.__get__") [.builtin "object.__class__", .ref x, .ref D]) >>= ret) _ _ _
  refine wpAny_bind (wpAny_holding (wpAny_call ?_))
  refine PySem.W.class_get (s := ⟨hp, g, d, t + 1, os⟩) (ox := ox) (od := od) X I C.hm ?_
  refine wpAny_pure ?_
  show wpAny _ _ (handedOut (.ref D)) _ _ _
  rw [PySem.W.handedOut_of (v := .ref D) rfl]
  first
    | exact wpAny_pure (wpAny_pure h)
    | exact wpAny_pure h
    | exact wpAny_pure (wpAny_bind (wpAny_pure (wpAny_pure h)))
theorem kitx_exc (C : ExcC K D) : PySem.W.KitX K (.ref x) (.ref D) (fun h => ∃ ox od, PySem.W.InstAt h x ox D od) where
  ty := fun _ _ _ ⟨_, _, I⟩ => I.type
  it := fun M h X _ => by
    obtain ⟨cd, hcD, _⟩ := PySem.W.any_some C.hd
    unfold PySem.W.clsIn at hcD
    split at hcD
    · rename_i ho
      intro A' Q' E' s' k q
      unfold isType loadHead
      refine wpAny_bind (wpAny_loadPart (k _ _ (X _ _ ho)) ?_)
      exact wpAny_pure q
    · cases hcD
  ne := fun h tp dd its n sl X htp => (PySem.W.handS_kitx_exc (x := x) (ox := default) C.hg C.hk C.hs C.hd C.ha C.hn C.ht C.hm).ne h tp dd its n sl X htp
  ca := fun X ⟨_, _, I⟩ k => class_of_exc C X I k
end
/-- isinstance(e, c), e kept -/
def rIsK (K : PySem.W.Frag) : List V → Hp → VK → Prop := fun xs H Q => ∃ (a C dd : Addr) (fs : List (Str × V)) (c : V) (cv : Value) (b : Bool), xs = [.ref a, c] ∧ H a = some (exk a (.ref C) (some dd)) ∧ H dd = some (.xd fs) ∧ ExcC K C ∧ (∀ u, RelV c u → u = cv) ∧ PySem.W.kitOne K (.ref C) cv = some b ∧ Q (.bl b) H
theorem kIsK {X : Cx} (K : PySem.W.Frag) (hK : X.K = K) : CallR X (.builtin "isinstance") (rIsK K) := by
  subst hK
  intro pins s σ H xs us Q I r h
  obtain ⟨a, C, dd, fs, c, cv, b, rfl, hk, hdd, T, hcv, e, q⟩ := h
  match us, r with
  | [_, u], .cons rx (.cons rt .nil) =>
    cases rx
    have ec := hcv _ rt
    subst ec
    obtain ⟨oe, vs, h1, hz, hd⟩ := exk_at I.hok hk
    have hx : ObjOk X.prog X.w H s.heap dd (.xd fs) := I.hok dd _ hdd
    obtain ⟨mA, hns, hr⟩ := hx
    obtain ⟨od, ho, hl2⟩ := lookIn_ns hns
    have J : PySem.W.InstAt s.heap a oe C (some od) := by
      refine ⟨h1, hz.1, ?_, ?_⟩
      · unfold PySem.W.notCls
        rw [hd] <;> rfl
      · rw [hz.2]
        exact ho
    exact PySem.W.kia_one (kitx_exc T) I.kIn ⟨_, _, J⟩ e (fun z => nomatch z) fun tk => ⟨.bl b, H, I.kept (t' := tk) fun _ _ z => z, rfl, q⟩
theorem rd_isK {K : PySem.W.Frag} {H : Hp} {Q : VK} {a C dd : Addr} {fs : List (Str × V)} {c : V} {cv : Value} {b : Bool} (hk : H a = some (exk a (.ref C) (some dd))) (hd : H dd = some (.xd fs)) (T : ExcC K C) (hc : ∀ u, RelV c u → u = cv) (e : PySem.W.kitOne K (.ref C) cv = some b) (h : Q (.bl b) H) : rIsK K [.ref a, c] H Q :=
  ⟨a, C, dd, fs, c, cv, b, rfl, hk, hd, T, hc, e, h⟩
end U
namespace U
open PySem PySem.Spec PyProof.Rows L2
theorem kit_ty {K : PySem.W.Frag} {D : Addr} {T : String} {b : Bool} (h1 : PySem.W.kitMeta T = true) (h3 : PySem.W.subIn K (.ref D) (.type T) = some b) : PySem.W.kitOne K (.ref D) (.type T) = some b := by
  unfold PySem.W.kitOne PySem.W.kitCls
  show (if (Value.ref D == Value.type T) = true then some true else if PySem.W.kitMeta T = true then PySem.W.subIn K (.ref D) (.type T) else none) = some b
  rw [if_neg (fun z => nomatch (beq_iff_eq.mp z : Value.ref D = Value.type T)), if_pos h1]
  exact h3
end U


/-! k60 (k53, k70): _law_lists_in: all lists in nested tuples and lists -/
namespace U
open PySem PySem.Spec PyProof.Rows L2
def At0 (v : V) : Prop := v = .non ∨ (∃ s, v = .str s) ∨ ∃ i, v = .int i
/-- nested tuples and lists; the lists, each ahead of those in it -/
def LsAt (H : Hp) : Nat → V → List Addr → Prop
  | 0, v, L => At0 v ∧ L = []
  | n + 1, v, L => (At0 v ∧ L = []) ∨ ∃ (a : Addr) (vs : List V) (Ls : List (List Addr)), v = .ref a ∧ vs.length ≤ 1000 ∧ Paired (LsAt H n) vs Ls ∧ ((H a = some (.tup vs) ∧ L = Ls.flatten) ∨ (H a = some (.lst vs) ∧ L = a :: Ls.flatten))
theorem LsAt.same {H H' : Hp} (s : Same H H') : ∀ {n : Nat} {v : V} {L : List Addr}, LsAt H n v L → LsAt H' n v L
  | 0, v, L, h => h
  | n + 1, v, L, h => by
    unfold LsAt at h ⊢
    rcases h with h | ⟨a, vs, Ls, e, l, p, h⟩
    · exact .inl h
    · exact .inr ⟨a, vs, Ls, e, l, Paired.mapR (fun a b z => LsAt.same s z) p, h.imp (fun ⟨x, y⟩ => ⟨s _ _ x, y⟩) (fun ⟨x, y⟩ => ⟨s _ _ x, y⟩)⟩
theorem At0.ty {K : PySem.W.Frag} {H : Hp} {v : V} (h : At0 v) : ∃ t, TyIs K H v t ∧ isT t .tup = false ∧ isT t .lst = false := by
  rcases h with rfl | ⟨s, rfl⟩ | ⟨i, rfl⟩
  · exact ⟨_, ty_non, rfl, rfl⟩
  · exact ⟨_, ty_str, rfl, rfl⟩
  · exact ⟨_, ty_int, rfl, rfl⟩
theorem Paired.take {α β : Type} {F : α → β → Prop} : ∀ {xs : List α} {ys : List β}, Paired F xs ys → ∀ i, Paired F (xs.take i) (ys.take i)
  | _, _, .nil, i => by
    rw [List.take_nil, List.take_nil]
    exact .nil
  | _, _, .cons a r, 0 => .nil
  | _, _, .cons a r, i + 1 => by
    rw [List.take_succ_cons, List.take_succ_cons]
    exact .cons a (Paired.take r i)
theorem pairedAt {α β : Type} {F : α → β → Prop} : ∀ {xs : List α} {ys : List β}, Paired F xs ys → ∀ i (h1 : i < xs.length) (h2 : i < ys.length), F xs[i] ys[i]
  | _, _, .cons a r, 0, _, _ => a
  | _, _, .cons a r, i + 1, h1, h2 => pairedAt r i (by simpa using h1) (by simpa using h2)
end U
namespace Law
open PySem PySem.Spec PyProof.Rows L2 U


def spLin (n : Nat) : Sp := fun vs H Q _ => ∃ (v : V) (L : List Addr), vs = [v] ∧ LsAt H n v L ∧ L.length ≤ 10000 ∧ ∀ (l : Addr) (H' : Hp), Same H H' → H l = none → H' l = some (.lst (L.map V.ref)) → Q (.ref l) H'
section
variable {P : Program} {w : World} {K : PySem.W.Frag} {mg : Str → Option Value} {base : Heap}
theorem ok_lin {f : Addr} {fd : FuncData} (F : Fun K "_law_lists_in" "_law_lists_in" s__law_lists_in f fd) (B : Bt mg) (S : SelfR K mg "_law_lists_in" f fd ["_law_candidate"]) : ∀ n : Nat, FnG P w K mg base CX0 (n + 2) f fd ["_law_candidate"] (spLin n) := by
  intro n
  induction n using Nat.strongRecOn with
  | ind n ih =>
  have cal : Cal P w K mg base CX0 (n + 1) "_law_lists_in" (fun vs H Q E => ∃ m, m < n ∧ spLin m vs H Q E) := ⟨f, fd, _, ⟨fun vs H Q E h => by
    obtain ⟨m, hm, h⟩ := h
    exact (ih m hm).len vs H Q E h, fun A outer s H args us vs Q E hr he hb hv h => by
    obtain ⟨m, hm, h⟩ := h
    exact (ih m hm).go A outer s H args us vs Q E (hr.mono (by omega)) he hb hv h⟩, S.mg, S.kp, S.bd⟩
  refine fnG0 F sc__law_lists_in (fun vs H Q E h => ?_) (fun cdv A outer s H vs Q E hr h => ?_)
  · obtain ⟨v, L, rfl, _⟩ := h
    rfl
  · obtain ⟨v, L, rfl, at_, len, q⟩ := h
    have nd := sc__law_lists_in.nd
    have hu := hr.u1
    refine ⟨_, (pss_cons (ps_if (pt_val (pe_callB (kIsi K rfl) (by rfl) B.isinstance bb_isinstance (pa_cons (pv 0) (pa_cons (pe_ty rfl B.tuple bb_tuple) pa_nil)))) (pss_one (ps_ret (pe_callB (kSumLL K rfl rfl) (by rfl) B.sum bb_sum (pa_cons (pe_lc (own := [("_law_one", 1)]) rfl nd (ki_tup K rfl (pv 0)) (blkOk_by (own := [("_law_one", 1)]) (N := nN__law_lists_in) (sc := defScope s__law_lists_in) (by decide +kernel)) (fun _ _ _ _ _ => (pg_name (i := 1) nd rfl (by first | exact Or.inl rfl | exact Or.inr rfl))) (fun _ _ _ _ _ => pts_nil) (fun _ _ _ _ _ => (pe_c cal hr (by omega) rfl (pa_cons (pv 1) pa_nil)))) (pa_cons (pe_lst pa_nil) pa_nil))))) pss_nil)
  (pss_cons (ps_if (pt_val (pe_callB (kIsi K rfl) (by rfl) B.isinstance bb_isinstance (pa_cons (pv 0) (pa_cons (pe_ty rfl B.list bb_list) pa_nil)))) (pss_one (ps_ret (pe_op (kAdd K rfl) (pe_lst (pa_cons (pv 0) pa_nil)) (pe_callB (kSumLL K rfl rfl) (by rfl) B.sum bb_sum (pa_cons (pe_lc (own := [("_law_one", 1)]) rfl nd (ki_list K rfl (pv 0)) (blkOk_by (own := [("_law_one", 1)]) (N := nN__law_lists_in) (sc := defScope s__law_lists_in) (by decide +kernel)) (fun _ _ _ _ _ => (pg_name (i := 1) nd rfl (by first | exact Or.inl rfl | exact Or.inr rfl))) (fun _ _ _ _ _ => pts_nil) (fun _ _ _ _ _ => (pe_c cal hr (by omega) rfl (pa_cons (pv 1) pa_nil)))) (pa_cons (pe_lst pa_nil) pa_nil)))))) pss_nil)
  (pss_one (ps_ret (pe_lst pa_nil))))), ?_⟩
    wtm_at "rd"
    have cs : (At0 v ∧ L = []) ∨ ∃ (m : Nat) (a : Addr) (vs : List V) (Ls : List (List Addr)), n = m + 1 ∧ v = .ref a ∧ vs.length ≤ 1000 ∧ Paired (LsAt H m) vs Ls ∧ ((H a = some (.tup vs) ∧ L = Ls.flatten) ∨ (H a = some (.lst vs) ∧ L = a :: Ls.flatten)) := by
      cases n with
      | zero => exact .inl at_
      | succ m =>
        unfold LsAt at at_
        rcases at_ with h | ⟨a, vs, Ls, e, l, p, h⟩
        · exact .inl h
        · exact .inr ⟨m, a, vs, Ls, rfl, e, l, p, h⟩
    rcases cs with ⟨a0, rfl⟩ | ⟨m, a, vs, Ls, rfl, rfl, v1, pr, ⟨ha, rfl⟩ | ⟨ha, rfl⟩⟩
    · obtain ⟨t, ty, t1, t2⟩ := a0.ty (K := K) (H := H)
      refine rd_isi ty rfl ?_
      rw [t1]
      wtm_at "rd"
      refine rd_isi ty rfl ?_
      rw [t2]
      wtm_at "rd"
      intro l fl
      exact q l _ (Same.new fl) fl upd_same
    · have vl := Paired.lenR pr
      refine rd_isi (ty_tup ha) rfl ?_
      rw [show isT Ty.tup Ty.tup = true from rfl]
      wtm_at "rd"
      refine rd_forT (SqT.of ha) ?_
      intro D fD
      refine lcT (K := K) (xs := vs) (fun i H' => ∃ ls : List (Addr × List Addr), Same H H' ∧ H' D = some (.lst (ls.map fun l => V.ref l.1)) ∧ ls.map (·.2) = Ls.take i ∧ ∀ l ∈ ls, H' l.1 = some (.lst (l.2.map V.ref)) ∧ l.1 ≠ D) ⟨[], Same.new fD, upd_same, rfl, fun l h => nomatch h⟩ ?_ ?_ ?_
      · rintro i H' hi ⟨_, s, _⟩
        exact SqT.of (s _ _ ha)
      · rintro i y H' hy ⟨ls, s, hD, le, al⟩
        obtain ⟨hi, rfl⟩ := List.getElem?_eq_some_iff.mp hy
        have hiL : i < Ls.length := by omega
        have pi := (pairedAt pr i hi hiL).same s
        have sub := (List.sublist_flatten_of_mem (List.getElem_mem hiL)).length_le
        have lsl := congrArg List.length le
        rw [List.length_map, List.length_take] at lsl
        wtm_at "rd"
        refine ⟨m, Nat.lt_succ_self m, vs[i], Ls[i], rfl, pi, by omega, fun l H2 s2 fl hl => ?_⟩
        have hD2 := s2 _ _ hD
        refine rd_acc hD2 (by rw [List.length_map]; omega) ?_
        have nlD : l ≠ D := fun e => by
          rw [e, hD] at fl
          cases fl
        refine ⟨ls ++ [(l, Ls[i])], same_put (s.trans s2) fD, by rw [upd_same, List.map_append]; rfl, by rw [tk_snoc2 hiL, List.map_append, le]; rfl, fun z hz => ?_⟩
        rcases List.mem_append.mp hz with hz | hz
        · exact ⟨at_upd (al z hz).2 (s2 _ _ (al z hz).1), (al z hz).2⟩
        · rw [List.mem_singleton.mp hz]
          exact ⟨at_upd nlD hl, nlD⟩
      rintro H1 ⟨ls, s1, hD, le, al⟩
      rw [List.take_of_length_le (by omega)] at le
      have fl : ((ls.map fun l => (l.1, l.2.map V.ref)).map (·.2)).flatten = Ls.flatten.map V.ref := by
        rw [← le, List.map_map, List.map_flatten, List.map_map]
        rfl
      have lsl := congrArg List.length le
      rw [List.length_map] at lsl
      clear pr le
      wtm_at "rd"
      intro b fb
      have kb := Same.new (o := .lst []) fb
      have hb := @upd_same H1 b (.lst [])
      have hD := kb _ _ hD
      have al : ∀ l ∈ ls.map (fun l => (l.1, l.2.map V.ref)), (upd H1 b (.lst [])) l.1 = some (.lst l.2) := fun l hl => by
        obtain ⟨z, hz, rfl⟩ := List.mem_map.mp hl
        exact kb _ _ (al z hz).1
      generalize upd H1 b (.lst []) = H2 at *
      wtm_at "rd"
      refine ⟨D, b, ls.map (fun l => (l.1, l.2.map V.ref)), [], rfl, SqL.of (by rw [List.map_map]; exact hD), al, hb, by rw [fl, List.length_map]; show 0 + _ ≤ 100000; omega, fun e => ?_, fun r fr => ?_⟩
      · rw [e] at fl
        wtm_at "rd"
        exact q b H2 (s1.trans kb) (new_of_same s1 fb) (by rw [← fl]; exact hb)
      · wtm_at "rd"
        rw [List.nil_append, fl]
        exact q r _ ((s1.trans kb).trans (Same.new fr)) (new_of_same (s1.trans kb) fr) upd_same
    · have vl := Paired.lenR pr
      refine rd_isi (ty_lst ha) rfl ?_
      rw [show isT Ty.lst Ty.tup = false from rfl]
      wtm_at "rd"
      refine rd_isi (ty_lst ha) rfl ?_
      rw [show isT Ty.lst Ty.lst = true from rfl]
      rw [List.length_cons] at len
      wtm_at "rd"
      intro c0 fc
      have kc := Same.new (o := .lst [.ref a]) fc
      have hc := @upd_same H c0 (.lst [.ref a])
      have ha0 := kc _ _ ha
      generalize upd H c0 (.lst [.ref a]) = H0 at *
      wtm_at "rd"
      refine rd_forL (SqL.of ha0) ?_
      intro D fD
      refine lcL (K := K) (xs := vs) (fun i H' => ∃ ls : List (Addr × List Addr), Same H0 H' ∧ H' D = some (.lst (ls.map fun l => V.ref l.1)) ∧ ls.map (·.2) = Ls.take i ∧ ∀ l ∈ ls, H' l.1 = some (.lst (l.2.map V.ref)) ∧ l.1 ≠ D) ⟨[], Same.new fD, upd_same, rfl, fun l h => nomatch h⟩ ?_ ?_ ?_
      · rintro i H' hi ⟨_, s, _⟩
        exact SqL.of (s _ _ ha0)
      · rintro i y H' hy ⟨ls, s, hD, le, al⟩
        obtain ⟨hi, rfl⟩ := List.getElem?_eq_some_iff.mp hy
        have hiL : i < Ls.length := by omega
        have pi := (pairedAt pr i hi hiL).same (kc.trans s)
        have sub := (List.sublist_flatten_of_mem (List.getElem_mem hiL)).length_le
        have lsl := congrArg List.length le
        rw [List.length_map, List.length_take] at lsl
        wtm_at "rd"
        refine ⟨m, Nat.lt_succ_self m, vs[i], Ls[i], rfl, pi, by omega, fun l H2 s2 fl hl => ?_⟩
        have hD2 := s2 _ _ hD
        refine rd_acc hD2 (by rw [List.length_map]; omega) ?_
        have nlD : l ≠ D := fun e => by
          rw [e, hD] at fl
          cases fl
        refine ⟨ls ++ [(l, Ls[i])], same_put (s.trans s2) fD, by rw [upd_same, List.map_append]; rfl, by rw [tk_snoc2 hiL, List.map_append, le]; rfl, fun z hz => ?_⟩
        rcases List.mem_append.mp hz with hz | hz
        · exact ⟨at_upd (al z hz).2 (s2 _ _ (al z hz).1), (al z hz).2⟩
        · rw [List.mem_singleton.mp hz]
          exact ⟨at_upd nlD hl, nlD⟩
      rintro H1 ⟨ls, s1, hD, le, al⟩
      rw [List.take_of_length_le (by omega)] at le
      have fl : ((ls.map fun l => (l.1, l.2.map V.ref)).map (·.2)).flatten = Ls.flatten.map V.ref := by
        rw [← le, List.map_map, List.map_flatten, List.map_map]
        rfl
      have lsl := congrArg List.length le
      rw [List.length_map] at lsl
      clear pr le
      wtm_at "rd"
      intro b fb
      have kb := Same.new (o := .lst []) fb
      have hb := @upd_same H1 b (.lst [])
      have hD := kb _ _ hD
      have al : ∀ l ∈ ls.map (fun l => (l.1, l.2.map V.ref)), (upd H1 b (.lst [])) l.1 = some (.lst l.2) := fun l hl => by
        obtain ⟨z, hz, rfl⟩ := List.mem_map.mp hl
        exact kb _ _ (al z hz).1
      generalize upd H1 b (.lst []) = H2 at *
      wtm_at "rd"
      have hc2 := kb _ _ (s1 _ _ hc)
      have s2 := kc.trans (s1.trans kb)
      refine ⟨D, b, ls.map (fun l => (l.1, l.2.map V.ref)), [], rfl, SqL.of (by rw [List.map_map]; exact hD), al, hb, by rw [fl, List.length_map]; show 0 + _ ≤ 100000; omega, fun e => ?_, fun r fr => ?_⟩
      · rw [e] at fl
        wtm_at "rd"
        refine rd_catL hc2 hb (by show 1 + 0 ≤ 100000; decide) ?_
        intro z fz
        wtm_at "rd"
        refine q z _ (s2.trans (Same.new fz)) (new_of_same s2 fz) ?_
        rw [upd_same, List.map_cons, ← fl]
        rfl
      · wtm_at "rd"
        rw [List.nil_append, fl]
        refine rd_catL (Same.new fr _ _ hc2) upd_same (by rw [List.length_map]; show 1 + _ ≤ 100000; omega) ?_
        intro z fz
        wtm_at "rd"
        exact q z _ ((s2.trans (Same.new fr)).trans (Same.new fz)) (new_of_same (s2.trans (Same.new fr)) fz) upd_same
end
end Law


/-! k62, k60: is_case_tree of trees of any depth up to 8; right trees stay right in bigger graphs -/
namespace U
open PySem PySem.Spec PyProof.Rows L2
end U
namespace Law
open PySem PySem.Spec PyProof.Rows L2 U


def spTreeW (K : PySem.W.Frag) : Sp := fun vs H Q E => ∃ n, n ≤ 8 ∧ spTree K n vs H Q E
def spCaseU (K : PySem.W.Frag) : Sp := fun vs H Q _ => ∃ (g nA e : Addr) (p : Addr → Prop) (v : V) (ns : List Str) (es : List (Addr × Str × Str)) (n : Nat) (t : Tr), vs = [.ref g, v] ∧ GrN H g nA e ns es ∧ n ≤ 8 ∧ RtAt n p H v t ∧
  ∀ H', Same H H' → Q (.bl (okT ns (es.map (·.2)) n t [])) H'
section
variable {P : Program} {w : World} {K : PySem.W.Frag} {mg : Str → Option Value} {base : Heap}
theorem ok_treeW {f : Addr} {fd : FuncData} {va : Addr} (F : Fun K "is_tree_below" "is_tree_below" s_is_tree_below f fd) (B : Bt mg) (C : CUa P w K mg base) (S : SelfR K mg "is_tree_below" f fd ["graph", "candidate", "values"]) (hV : mg "VALUES" = some (.ref va)) (sV : ∀ H, SqT K H va ([0, 1, 2].map V.int)) : FnG P w K mg base CX0 10 f fd ["graph", "candidate", "values"] (spTreeW K) := by
  exact ⟨fun vs H Q E h => by
    obtain ⟨m, hm, h⟩ := h
    exact (ok_tree (P := P) (w := w) (base := base) F B C S hV sV m).len vs H Q E h, fun A outer s H args us vs Q E hr he hb hv h => by
    obtain ⟨m, hm, h⟩ := h
    exact (ok_tree (P := P) (w := w) (base := base) F B C S hV sV m).go A outer s H args us vs Q E (hr.mono (by omega)) he hb hv h⟩
structure DFa (P : Program) (w : World) (K : PySem.W.Frag) (mg : Str → Option Value) (base : Heap) : Prop where
  is_tree_below : Cal P w K mg base CX0 10 "is_tree_below" (spTreeW K)
theorem ok_caseU {f : Addr} {fd : FuncData} (F : Fun K "is_case_tree" "is_case_tree" s_is_case_tree f fd) (B : Bt mg) (C : DFa P w K mg base) : FnG P w K mg base CX0 11 f fd ["graph", "candidate"] (spCaseU K) := by
  refine fnG0 F sc_is_case_tree (fun vs H Q E h => ?_) (fun cdv A outer s H vs Q E hr h => ?_)
  · obtain ⟨g, nA, e, p, v, ns, es, n, t, rfl, _⟩ := h
    rfl
  · obtain ⟨g, nA, e, p, v, ns, es, n, t, rfl, gn, n8, rt, q⟩ := h
    have nd := sc_is_case_tree.nd
    have hu := hr.u1
    refine ⟨_, (pss_one (ps_ret (pe_c C.is_tree_below hr (by decide) rfl (pa_cons (pv 0) (pa_cons (pv 1) (pa_cons pe_dnewK pa_nil)))))), ?_⟩
    wtm_at "rd"
    intro d fd
    have k := Same.new (o := .dK []) fd
    refine ⟨n, n8, g, nA, e, d, p, v, ns, es, [], _, rfl, gn.same k, upd_same, (by show 0 + n ≤ 100; omega), .inr ⟨t, rt.same k, rfl⟩, fun H' s => q H' (k.trans s)⟩
end
end Law


/-! k62: _law_changed -/
namespace U
open PySem PySem.Spec PyProof.Rows L2
theorem RtAt.up {W : Addr → Prop} {H : Hp} : ∀ {n : Nat} {v : V} {t : Tr}, RtAt n W H v t → RtAt (n + 1) W H v t
  | n, v, .no, h => by
    unfold RtAt at h ⊢
    exact h
  | n, v, .leaf l x y, h => by
    unfold RtAt at h ⊢
    exact h
  | 0, v, .node l x ts, h => by
    unfold RtAt at h
    exact h.elim
  | n + 1, v, .node l x ts, h => by
    unfold RtAt at h ⊢
    obtain ⟨a, q, vs, e, h1, h2, h3, h4⟩ := h
    exact ⟨a, q, vs, e, h1, h2, h3, Paired.mapR (fun a b z => RtAt.up z) h4⟩
end U
namespace Law
open PySem PySem.Spec PyProof.Rows L2 U


section
variable {P : Program} {w : World} {K : PySem.W.Frag} {mg : Str → Option Value} {base : Heap}
end
end Law


/-! k62, k60: a search with a stack finds the first extension (plain law) -/
namespace U
open PySem PySem.Spec PyProof.Rows L2
def nearF (ns : List Str) (es : List (Str × Str)) (p : List Int) (i : Nat) : List Nat := (List.range i).filter fun k => decide (eOf (ns.getD k "") (ns.getD p.length "") ∈ es)
def excF (ns : List Str) (es : List (Str × Str)) (p : List Int) : List Int := (nearF ns es p p.length).map fun k => p.getD k 0
def extP (ns : List Str) (es : List (Str × Str)) (p : List Int) : Option (List (Str × Int)) := extF ns es (ns.length - p.length) (ns.zip p)
def resF (ns : List Str) (es : List (Str × Str)) (ps : List (List Int)) : Option (List (Str × Int)) := ps.reverse.findSome? (extP ns es)
def kidsF (ns : List Str) (es : List (Str × Str)) (p : List Int) (i : Nat) : List (List Int) := ((List.range i).filter fun j : Nat => !decide ((2 - (j : Int)) ∈ excF ns es p)).map fun j : Nat => p ++ [2 - (j : Int)]
structure GdP (ns : List Str) (es : List (Str × Str)) (p : List Int) : Prop where
  len : p.length ≤ ns.length
  conf : confF es (ns.zip p) = none
theorem valS_zip {ns : List Str} {p : List Int} {y : Str} {v : Int} (h : valS (ns.zip p) y = some v) : ∃ k, ∃ h1 : k < ns.length, ∃ h2 : k < p.length, ns[k] = y ∧ p[k] = v := by
  unfold valS at h
  cases hf : (ns.zip p).find? fun z => decide (z.1 = y) with
  | none => rw [hf] at h; cases h
  | some z =>
    rw [hf] at h
    have e1 : z.1 = y := by
      have := List.find?_some hf
      simpa using this
    have m := List.mem_of_find?_eq_some hf
    obtain ⟨k, hk, e2⟩ := List.mem_iff_getElem.mp m
    rw [List.length_zip] at hk
    rw [List.getElem_zip] at e2
    refine ⟨k, by omega, by omega, ?_, ?_⟩
    · rw [← e1, ← e2]
    · have := Option.some.inj h
      rw [← this, ← e2]
theorem valS_mm : ∀ {tr : List (Str × Int)} {k : Str × Int}, k ∈ tr → ∃ v, valS tr k.1 = some v
  | y :: r, k, h => by
    unfold valS
    by_cases c : y.1 = k.1
    · rw [List.find?_cons_of_pos (by simp [c])]
      exact ⟨_, rfl⟩
    · rw [List.find?_cons_of_neg (by simp [c])]
      rcases List.mem_cons.mp h with rfl | h
      · exact absurd rfl c
      · exact valS_mm h
theorem valS_zipI {ns : List Str} {p : List Int} (nd : ns.Nodup) {k : Nat} (h1 : k < ns.length) (h2 : k < p.length) : valS (ns.zip p) ns[k] = some p[k] := by
  have m : (ns[k], p[k]) ∈ ns.zip p := by
    rw [List.mem_iff_getElem]
    exact ⟨k, by rw [List.length_zip]; omega, by rw [List.getElem_zip]⟩
  obtain ⟨v, hv⟩ := valS_mm m
  obtain ⟨j, j1, j2, e1, e2⟩ := valS_zip hv
  have : j = k := by
    have inj := List.pairwise_iff_getElem.mp (List.nodup_iff_pairwise_ne.mp nd)
    rcases Nat.lt_trichotomy j k with c | c | c
    · exact absurd e1 (inj j k j1 h1 c)
    · exact c
    · exact absurd e1.symm (inj k j h1 j1 c)
  subst this
  rw [hv, e2]
theorem isConf_zip {ns : List Str} {p : List Int} {e : Str × Str} : isConf (ns.zip p) e = true → ∃ i j, ∃ i1 : i < ns.length, ∃ i2 : i < p.length, ∃ j1 : j < ns.length, ∃ j2 : j < p.length, ns[i] = e.1 ∧ ns[j] = e.2 ∧ p[i] = p[j] := fun h => by
  unfold isConf at h
  cases h1 : valS (ns.zip p) e.1 with
  | none => rw [h1] at h; cases h
  | some v =>
    cases h2 : valS (ns.zip p) e.2 with
    | none => rw [h1, h2] at h; cases h
    | some w =>
      rw [h1, h2] at h
      have vw : v = w := by simpa using h
      obtain ⟨i, i1, i2, e1, e2⟩ := valS_zip h1
      obtain ⟨j, j1, j2, e3, e4⟩ := valS_zip h2
      exact ⟨i, j, i1, i2, j1, j2, e1, e3, by rw [e2, e4, vw]⟩
theorem isConf_zipI {ns : List Str} {p : List Int} (nd : ns.Nodup) {e : Str × Str} {i j : Nat} (i1 : i < ns.length) (i2 : i < p.length) (j1 : j < ns.length) (j2 : j < p.length) (e1 : ns[i] = e.1) (e2 : ns[j] = e.2) (e3 : p[i] = p[j]) : isConf (ns.zip p) e = true := by
  unfold isConf
  rw [← e1, ← e2, valS_zipI nd i1 i2, valS_zipI nd j1 j2, e3]
  simp
theorem zip_snoc {ns : List Str} {p : List Int} {v : Int} (h : p.length < ns.length) : ns.zip (p ++ [v]) = ns.zip p ++ [(ns[p.length], v)] := by
  induction p generalizing ns with
  | nil =>
    cases ns with
    | nil => exact absurd h (Nat.not_lt_zero _)
    | cons x r => simp
  | cons a p ih =>
    cases ns with
    | nil => exact absurd h (Nat.not_lt_zero _)
    | cons x r =>
      have := ih (ns := r) (by simpa using h)
      simp [this]
theorem zip_pre {ns : List Str} {p : List Int} (h : p.length ≤ ns.length) : PreN ns (ns.zip p) ∧ (ns.zip p).length = p.length := by
  have l : (ns.zip p).length = p.length := by rw [List.length_zip]; omega
  refine ⟨⟨?_, by omega⟩, l⟩
  rw [l]
  induction p generalizing ns with
  | nil => simp
  | cons a p ih =>
    cases ns with
    | nil => exact absurd h (by simp)
    | cons x r =>
      have := ih (ns := r) (by simpa using h) (by rw [List.length_zip]; simp at h; omega)
      simp [this]
theorem eOf_sw {a b : Str} (n : a ≠ b) : eOf a b = eOf b a := by
  unfold eOf
  rcases sLt_tri a b with c | c | c
  · rw [if_pos c, if_neg (sLt_asymm c)]
  · exact absurd c n
  · rw [if_pos c, if_neg (sLt_asymm c)]
theorem mem_exc {ns : List Str} {es : List (Str × Str)} {p : List Int} (l : p.length < ns.length) {v : Int} : v ∈ excF ns es p ↔ ∃ k, ∃ h1 : k < p.length, eOf (ns[k]'(Nat.lt_trans h1 l)) ns[p.length] ∈ es ∧ p[k] = v := by
  unfold excF nearF
  rw [List.mem_map]
  have e2 : ns.getD p.length "" = ns[p.length] := getDU l
  constructor
  · rintro ⟨k, hk, e⟩
    rw [List.mem_filter, List.mem_range] at hk
    obtain ⟨k1, k2⟩ := hk
    have e1 : ns.getD k "" = ns[k]'(Nat.lt_trans k1 l) := getDU (Nat.lt_trans k1 l)
    have e3 : p.getD k 0 = p[k] := getDU k1
    refine ⟨k, k1, ?_, e3.symm.trans e⟩
    have := of_decide_eq_true k2
    rw [e2, e1] at this
    exact this
  · rintro ⟨k, h1, h2, e⟩
    have e1 : ns.getD k "" = ns[k]'(Nat.lt_trans h1 l) := getDU (Nat.lt_trans h1 l)
    have e3 : p.getD k 0 = p[k] := getDU h1
    refine ⟨k, ?_, e3.trans e⟩
    rw [List.mem_filter, List.mem_range]
    refine ⟨h1, decide_eq_true ?_⟩
    rw [e2, e1]
    exact h2
section
variable {ns : List Str} {es : List (Str × Str)} (nd : ns.Nodup) (so : ∀ e ∈ es, eOf e.1 e.2 = e) (ne : ∀ e ∈ es, e.1 ≠ e.2)
include nd so ne
theorem conf_kid {p : List Int} (g : GdP ns es p) (l : p.length < ns.length) {v : Int} : confF es (ns.zip (p ++ [v])) = none ↔ v ∉ excF ns es p := by
  have l2 : (p ++ [v]).length = p.length + 1 := by rw [List.length_append]; rfl
  have atp : ∀ k (h : k < p.length) (h2 : k < (p ++ [v]).length), (p ++ [v])[k] = p[k] := fun k h h2 => List.getElem_append_left h
  have atv : ∀ (h2 : p.length < (p ++ [v]).length), (p ++ [v])[p.length] = v := fun h2 => by
    rw [List.getElem_append_right (Nat.le_refl _)]
    simp
  constructor
  · intro h hv
    obtain ⟨k, h1, h2, e⟩ := (mem_exc l).mp hv
    unfold confF at h
    have no := List.find?_eq_none.mp h _ h2
    have kn := Nat.lt_trans h1 l
    apply no
    rcases eOf_cases ns[k] ns[p.length] with z | z
    · exact isConf_zipI nd (i := k) (j := p.length) kn (by omega) l (by omega) (by rw [z]) (by rw [z]) (by rw [atp k h1, atv, e])
    · exact isConf_zipI nd (i := p.length) (j := k) l (by omega) kn (by omega) (by rw [z]) (by rw [z]) (by rw [atp k h1, atv, e])
  · intro hv
    unfold confF
    refine List.find?_eq_none.mpr fun e he c => ?_
    obtain ⟨i, j, i1, i2, j1, j2, e1, e2, e3⟩ := isConf_zip c
    have gc := g.conf
    unfold confF at gc
    by_cases ci : i < p.length
    · by_cases cj : j < p.length
      · rw [atp i ci, atp j cj] at e3
        exact List.find?_eq_none.mp gc e he (isConf_zipI nd i1 ci j1 cj e1 e2 e3)
      · obtain rfl : j = p.length := by omega
        rw [atp i ci, atv] at e3
        refine hv ((mem_exc l).mpr ⟨i, ci, ?_, e3⟩)
        rw [e1, e2, so e he]
        exact he
    · obtain rfl : i = p.length := by omega
      by_cases cj : j < p.length
      · rw [atv, atp j cj] at e3
        refine hv ((mem_exc l).mpr ⟨j, cj, ?_, e3.symm⟩)
        rw [e1, e2, eOf_sw (fun z => ne e he z.symm), so e he]
        exact he
      · obtain rfl : j = p.length := by omega
        exact ne e he (e1.symm.trans e2)
theorem ext_kid {p : List Int} (g : GdP ns es p) (l : p.length < ns.length) {v : Int} (h : v ∈ excF ns es p) : extP ns es (p ++ [v]) = none := by
  unfold extP
  cases c : confF es (ns.zip (p ++ [v])) with
  | none => exact absurd h ((conf_kid nd so ne g l).mp c)
  | some e =>
    cases ns.length - (p ++ [v]).length with
    | zero => unfold extF; rw [c]; rfl
    | succ m => unfold extF; rw [c]; rfl
theorem ext_step {p : List Int} (g : GdP ns es p) (l : p.length < ns.length) : extP ns es p = (extP ns es (p ++ [0])).or ((extP ns es (p ++ [1])).or (extP ns es (p ++ [2]))) := by
  obtain ⟨pr, pl⟩ := zip_pre g.len
  obtain ⟨m, hm⟩ : ∃ m, ns.length - p.length = m + 1 := ⟨ns.length - p.length - 1, by omega⟩
  have e : ∀ v : Int, extP ns es (p ++ [v]) = extF ns es m (putS (ns.zip p) (ns.getD (ns.zip p).length "") v) := fun v => by
    unfold extP
    rw [zip_snoc l, List.length_append, List.length_singleton, show ns.length - (p.length + 1) = m by omega]
    have := (PreN.put (v := v) nd pr (by rw [pl]; exact l)).1
    rw [getDU (by rw [pl]; exact l), this]
    simp only [pl]
  rw [e, e, e]
  unfold extP
  rw [hm]
  conv => lhs; unfold extF
  rw [g.conf]
  rfl
theorem fs_filter {α : Type} {f : α → Bool} {F : α → Option (List (Str × Int))} : ∀ {xs : List α}, (∀ x ∈ xs, f x = false → F x = none) → (xs.filter f).findSome? F = xs.findSome? F
  | [], _ => rfl
  | x :: r, h => by
    have ih := fs_filter (xs := r) fun y hy => h y (List.mem_cons_of_mem _ hy)
    by_cases c : f x = true
    · rw [List.filter_cons, if_pos c, List.findSome?_cons, List.findSome?_cons, ih]
    · rw [List.filter_cons, if_neg c, ih, List.findSome?_cons, h x List.mem_cons_self (by simpa using c)]
theorem res_step {ps : List (List Int)} {p : List Int} (g : GdP ns es p) (l : p.length < ns.length) : resF ns es (ps ++ kidsF ns es p 3) = resF ns es (ps ++ [p]) := by
  unfold resF
  rw [List.reverse_append, List.reverse_append, List.findSome?_append, List.findSome?_append]
  congr 1
  rw [show [p].reverse.findSome? (extP ns es) = extP ns es p from by simp [List.findSome?_cons]; cases extP ns es p <;> rfl, ext_step nd so ne g l]
  unfold kidsF
  rw [← List.map_reverse, List.findSome?_map, ← List.filter_reverse]
  rw [fs_filter nd so ne]
  · rw [show (List.range 3).reverse = [2, 1, 0] from rfl, List.findSome?_cons, List.findSome?_cons, List.findSome?_cons]
    simp only [Function.comp]
    rw [show (2 : Int) - ((2 : Nat) : Int) = 0 from rfl, show (2 : Int) - ((1 : Nat) : Int) = 1 from rfl, show (2 : Int) - ((0 : Nat) : Int) = 2 from rfl]
    cases extP ns es (p ++ [0]) with
    | some _ => rfl
    | none =>
      cases extP ns es (p ++ [1]) with
      | some _ => rfl
      | none =>
        cases extP ns es (p ++ [2]) with
        | some _ => rfl
        | none => rfl
  · intro j hj c
    refine ext_kid nd so ne g l (of_decide_eq_true ?_)
    simpa using c
theorem kids_good {p : List Int} (g : GdP ns es p) (l : p.length < ns.length) : ∀ q ∈ kidsF ns es p 3, GdP ns es q ∧ q.length = p.length + 1 := by
  intro q hq
  unfold kidsF at hq
  obtain ⟨j, hj, rfl⟩ := List.mem_map.mp hq
  have ll : (p ++ [2 - (j : Int)]).length = p.length + 1 := by rw [List.length_append]; rfl
  refine ⟨⟨by omega, (conf_kid nd so ne g l).mpr ?_⟩, ll⟩
  have := (List.mem_filter.mp hj).2
  simpa using this
theorem res_done {ps : List (List Int)} {p : List Int} (g : GdP ns es p) (l : p.length = ns.length) : resF ns es (ps ++ [p]) = some (ns.zip p) := by
  unfold resF
  rw [List.reverse_append, List.findSome?_append]
  have : extP ns es p = some (ns.zip p) := by
    unfold extP
    rw [l, Nat.sub_self]
    unfold extF
    rw [g.conf]
    rfl
  simp [List.findSome?_cons, this]
end
/-- nodes that are still to be looked at -/
def meaF (n : Nat) (ps : List (List Int)) : Nat := (ps.map fun p => 4 ^ (n - p.length)).sum
theorem mea_len {n : Nat} : ∀ ps : List (List Int), ps.length ≤ meaF n ps
  | [] => Nat.zero_le _
  | p :: r => by
    have := mea_len (n := n) r
    have := Nat.pow_pos (n := n - p.length) (show 0 < 4 by decide)
    unfold meaF at *
    rw [List.map_cons, List.sum_cons, List.length_cons]
    omega
theorem mea_app {n : Nat} {ps qs : List (List Int)} : meaF n (ps ++ qs) = meaF n ps + meaF n qs := by
  unfold meaF
  rw [List.map_append, List.sum_append]
theorem mea_all {n m : Nat} : ∀ {qs : List (List Int)}, (∀ q ∈ qs, q.length = m) → meaF n qs = qs.length * 4 ^ (n - m)
  | [], _ => by simp [meaF]
  | q :: r, h => by
    have := mea_all (n := n) (m := m) (qs := r) fun x hx => h x (List.mem_cons_of_mem _ hx)
    unfold meaF at *
    rw [List.map_cons, List.sum_cons, this, h q List.mem_cons_self, List.length_cons, Nat.add_mul, Nat.one_mul, Nat.add_comm]
theorem mea_kids {ns : List Str} {es : List (Str × Str)} {p : List Int} {ps : List (List Int)} (l : p.length < ns.length) : meaF ns.length (ps ++ kidsF ns es p 3) < meaF ns.length (ps ++ [p]) := by
  rw [mea_app, mea_app]
  have a : meaF ns.length (kidsF ns es p 3) = (kidsF ns es p 3).length * 4 ^ (ns.length - (p.length + 1)) := mea_all fun q hq => by
    unfold kidsF at hq
    obtain ⟨j, hj, rfl⟩ := List.mem_map.mp hq
    rw [List.length_append]; rfl
  have b : (kidsF ns es p 3).length ≤ 3 := by
    unfold kidsF
    rw [List.length_map]
    exact Nat.le_trans (List.length_filter_le _ _) (by rw [List.length_range]; exact Nat.le_refl _)
  have c : meaF ns.length [p] = 4 * 4 ^ (ns.length - (p.length + 1)) := by
    unfold meaF
    rw [List.map_cons, List.map_nil, List.sum_cons, List.sum_nil, Nat.add_zero, show ns.length - p.length = (ns.length - (p.length + 1)) + 1 by omega, Nat.pow_succ, Nat.mul_comm]
  have d := Nat.pow_pos (n := ns.length - (p.length + 1)) (show 0 < 4 by decide)
  have e : (kidsF ns es p 3).length * 4 ^ (ns.length - (p.length + 1)) ≤ 3 * 4 ^ (ns.length - (p.length + 1)) := Nat.mul_le_mul_right _ b
  rw [a, c]
  omega
end U


/-! k62, k60: _law_first -/
namespace Law
open PySem PySem.Spec PyProof.Rows L2 U


theorem rd_popE {v : V} {H : Hp} {Q : VK} {p : Addr} {xs : List V} (hs : H p = some (.lst (xs ++ [v]))) (h : Q v (upd H p (.lst xs))) : rPop (.ref p) [] H Q := by
  refine ⟨p, xs ++ [v], v, rfl, rfl, hs, ?_, by rw [List.dropLast_concat]; exact h⟩
  rw [List.length_append, List.length_singleton, Nat.add_sub_cancel, List.getElem?_append_right (Nat.le_refl _), Nat.sub_self]
  rfl
theorem lay_int : ∀ xs : List Int, PyData.canLayAll0 (xs.map PyData.int) = true ∧ PyData.depthAll (xs.map PyData.int) = 0
  | [] => by simp [PyData.canLayAll0, PyData.depthAll]
  | x :: r => by
    have := lay_int r
    simp [PyData.canLayAll0, PyData.depthAll, PyData.canLay0, PyData.depth, this.1, this.2]
theorem dp_ints2 {K : PySem.W.Frag} {H : Hp} : ∀ xs : List Int, DpAll K H (xs.map V.int) (xs.map PyData.int)
  | [] => .nil
  | x :: r => .cons (.int x) (dp_ints2 r)
theorem lay_ints : ∀ cs : List (Addr × List Int), PyData.canLayAll0 (cs.map fun c => PyData.list (c.2.map PyData.int)) = true ∧ PyData.depthAll (cs.map fun c => PyData.list (c.2.map PyData.int)) ≤ 1
  | [] => by simp [PyData.canLayAll0, PyData.depthAll]
  | c :: r => by
    have := lay_ints r
    have e := lay_int c.2
    simp only [List.map_cons, PyData.canLayAll0, PyData.depthAll, PyData.canLay0, PyData.depth, e.1, e.2, this.1]
    exact ⟨rfl, by omega⟩
theorem dp_lints {K : PySem.W.Frag} {H : Hp} : ∀ {cs : List (Addr × List Int)}, (∀ c ∈ cs, H c.1 = some (.lst (c.2.map V.int))) → DpAll K H (cs.map fun c => V.ref c.1) (cs.map fun c => PyData.list (c.2.map PyData.int))
  | [], _ => .nil
  | c :: cs, h => .cons (.lst (SqL.of (h c List.mem_cons_self)) (dp_ints2 c.2)) (dp_lints fun x hx => h x (List.mem_cons_of_mem _ hx))
def spFirstL (K : PySem.W.Frag) : Sp := fun vs H Q _ => ∃ (g nA e : Addr) (ns : List Str) (es : List (Addr × Str × Str)), vs = [.ref g] ∧ GrN H g nA e ns es ∧ ns.length ≤ 7 ∧
  (∀ H', Same H H' → extF ns (es.map (·.2)) ns.length [] = none → Q .non H') ∧ ∀ H' l p, Same H H' → extF ns (es.map (·.2)) ns.length [] = some (ns.zip p) → p.length = ns.length → H l = none → H' l = some (.lst (p.map V.int)) → Q (.ref l) H'
section
variable {P : Program} {w : World} {K : PySem.W.Frag} {mg : Str → Option Value} {base : Heap}
theorem ok_first {f : Addr} {fd : FuncData} (F : Fun K "_law_first" "_law_first" s__law_first f fd) (B : Bt mg) : FnG P w K mg base CX0 1 f fd ["_law_graph"] (spFirstL K) := by
  refine fnG0 F sc__law_first (fun vs H Q E h => ?_) (fun cdv A outer s H vs Q E hr h => ?_)
  · obtain ⟨g, nA, e, ns, es, rfl, _⟩ := h
    rfl
  · have hu65 : (A.deeper (envOfC "_law_first" (defScope s__law_first) s.heap.objs.size f cdv)).units + 65 < cLine := by
      have := hr.u100
      omega
    obtain ⟨g, nA, e, ns, es, rfl, gn, n7, q0, q1⟩ := h
    have nd := sc__law_first.nd
    have hu := hr.u1
    refine ⟨_, (pss_cons (ps_set (i := 1) nd rfl (by first | exact Or.inl rfl | exact Or.inr rfl) (pe_lst (pa_cons (pe_lst pa_nil) pa_nil)))
  (pss_cons (ps_while PassesOwn.never (pt_cmpR (kNe K rfl hr.u64) (pv 1) (pe_lst pa_nil) (nomark _)) (pss_cons (ps_set (i := 2) nd rfl (by first | exact Or.inl rfl | exact Or.inr rfl) (pe_bm0 PySem.F.plainAttrs_list PySem.F.slot_list_pop PySem.F.type_list_pop mt_pop (pv 1)))
  (pss_cons (ps_if (pt_cmpR (kEq K rfl hr.u64) (pe_callB (kLen K rfl) (by rfl) B.len bb_len (pa_cons (pv 2) pa_nil)) (pe_callB (kLen K rfl) (by rfl) B.len bb_len (pa_cons (pe_ix (kIx K rfl) (pv 0) pe_int (fun _ _ => rfl)) pa_nil)) (nomark _)) (pss_one (ps_ret (pv 2))) pss_nil)
  (pss_cons (ps_setLc (i := 3) (own := [("_law_k", 4)]) rfl nd rfl rfl (sw_true rfl rfl rfl (by decide +kernel)) (pi_range1 rfl B.range (pa_cons (pe_callB (kLen K rfl) (by rfl) B.len bb_len (pa_cons (pv 2) pa_nil)) pa_nil)) (blkOk_by (own := [("_law_k", 4)]) (N := nN__law_first) (sc := defScope s__law_first) (by decide +kernel)) (fun _ _ _ _ _ => (pg_name (i := 4) nd rfl (by first | exact Or.inl rfl | exact Or.inr rfl))) (fun _ _ _ _ _ => (pts_one (pt_cmpR (kInT K rfl hu65) (pe_callTy (kTuple K rfl) (by rfl) B.tuple bb_tuple (pa_cons (pe_callB (kSorted K rfl hr.u64) (by rfl) B.sorted bb_sorted (pa_cons (pe_lst (pa_cons (pe_ix (kIx K rfl) (pe_ix (kIx K rfl) (pv 0) pe_int (fun _ _ => rfl)) (pv 4) (fun _ _ => rfl)) (pa_cons (pe_ix (kIx K rfl) (pe_ix (kIx K rfl) (pv 0) pe_int (fun _ _ => rfl)) (pe_callB (kLen K rfl) (by rfl) B.len bb_len (pa_cons (pv 2) pa_nil)) (fun _ _ => rfl)) pa_nil))) pa_nil)) pa_nil)) (pe_ix (kIx K rfl) (pv 0) pe_int (fun _ _ => rfl)) rfl))) (fun _ _ _ _ _ => (pv 4)))
  (pss_cons (ps_set (i := 5) nd rfl (by first | exact Or.inl rfl | exact Or.inr rfl) (pe_lc (own := [("_law_k", 4)]) rfl nd (ki_list K rfl (pv 3)) (blkOk_by (own := [("_law_k", 4)]) (N := nN__law_first) (sc := defScope s__law_first) (by decide +kernel)) (fun _ _ _ _ _ => (pg_name (i := 4) nd rfl (by first | exact Or.inl rfl | exact Or.inr rfl))) (fun _ _ _ _ _ => pts_nil) (fun _ _ _ _ _ => (pe_ix (kIx K rfl) (pv 2) (pv 4) (fun _ _ => rfl)))))
  (pss_one (ps_set (i := 1) nd rfl (by first | exact Or.inl rfl | exact Or.inr rfl) (pe_op (kAdd K rfl) (pv 1) (pe_lc (own := [("_law_value", 6)]) rfl nd (pi_range1 rfl B.range (pa_cons pe_int pa_nil)) (blkOk_by (own := [("_law_value", 6)]) (N := nN__law_first) (sc := defScope s__law_first) (by decide +kernel)) (fun _ _ _ _ _ => (pg_name (i := 6) nd rfl (by first | exact Or.inl rfl | exact Or.inr rfl))) (fun _ _ _ _ _ => (pts_one (pt_cmpR (kNotIn K rfl) (pe_op uSub pe_int (pv 6)) (pv 5) rfl))) (fun _ _ _ _ _ => (pe_op (kAdd K rfl) (pv 2) (pe_lst (pa_cons (pe_op uSub pe_int (pv 6)) pa_nil)))))))))))))
  (pss_one (ps_ret pe_non)))), ?_⟩
    wtm_at "rd"
    intro l0 fl0
    have k0 := Same.new (o := .lst []) fl0
    have h0 := @upd_same H l0 (.lst [])
    generalize upd H l0 (.lst []) = H1 at k0 h0
    wtm_at "rd"
    intro pa fpa
    have fpa0 := new_of_same k0 fpa
    have s1 := same_add (o := .lst [.ref l0]) k0 fpa
    have n0 := ne_of_none h0 fpa
    have h0 := at_upd (o := .lst [.ref l0]) n0 h0
    have hpa := @upd_same H1 pa (.lst [.ref l0])
    generalize upd H1 pa (.lst [.ref l0]) = H2 at s1 h0 hpa
    have gd0 : GdP ns (es.map (·.2)) [] := ⟨Nat.zero_le _, by
      rw [List.zip_nil_right]
      unfold confF
      exact List.find?_eq_none.mpr fun x hx => by unfold isConf valS; exact Bool.false_ne_true⟩
    wtm_at "rd"
    refine ⟨fun m σ H' => ∃ (pa : Addr) (cs : List (Addr × List Int)) (u2 u3 u4 u5 u6 : Option V), m = meaF ns.length (cs.map (·.2)) ∧ σ = [some (.ref g), some (.ref pa), u2, u3, u4, u5, u6] ∧ Same H H' ∧ H pa = none ∧ H' pa = some (.lst (cs.map fun c => V.ref c.1)) ∧ (∀ c ∈ cs, H' c.1 = some (.lst (c.2.map V.int)) ∧ c.1 ≠ pa ∧ H c.1 = none) ∧ (∀ c ∈ cs, GdP ns (es.map (·.2)) c.2) ∧ resF ns (es.map (·.2)) (cs.map (·.2)) = extF ns (es.map (·.2)) ns.length [] ∧ meaF ns.length (cs.map (·.2)) ≤ 16384, ⟨_, pa, [(l0, [])], _, _, _, _, _, rfl, rfl, s1, fpa0, hpa, (fun c hc => by rw [List.mem_singleton.mp hc]; exact ⟨h0, n0, fl0⟩), (fun c hc => by rw [List.mem_singleton.mp hc]; exact gd0), ?_, ?_⟩, ?_⟩
    · unfold resF extP
      simp [List.findSome?_cons]
      cases extF ns (es.map (·.2)) ns.length [] <;> rfl
    · unfold meaF
      simp
      exact Nat.le_trans (Nat.pow_le_pow_right (by decide) n7) (by decide)
    clear hpa h0 n0 s1 fpa0 k0 fl0 fpa gd0
    rintro m σ H' ⟨pa, cs, u2, u3, u4, u5, u6, rfl, rfl, sb, fpa, hpa, hcs, gcs, res, mea⟩
    wtm_at "rd"
    intro t0 ft0
    have k := Same.new (o := .lst []) ft0
    refine rd_neNilD (SqL.of (k _ _ hpa)) (dp_lints fun c hc => k _ _ (hcs c hc).1) (SqL.of upd_same) (lay_ints cs).1 (Nat.le_trans (lay_ints cs).2 (by decide)) ?_
    rw [show (cs.map fun c => V.ref c.1).isEmpty = cs.isEmpty from by cases cs <;> rfl]
    have hpa := k _ _ hpa
    have hcs : ∀ c ∈ cs, (upd H' t0 (.lst [])) c.1 = some (.lst (c.2.map V.int)) ∧ c.1 ≠ pa ∧ H c.1 = none := fun c hc => ⟨k _ _ (hcs c hc).1, (hcs c hc).2⟩
    have sb := sb.trans k
    generalize upd H' t0 (.lst []) = H1 at hpa hcs sb
    clear k ft0
    have len0 := mea_len (n := ns.length) (cs.map (·.2))
    rw [List.length_map] at len0
    wtm_at "rd"
    rcases List.eq_nil_or_concat cs with rfl | ⟨cr, c, rfl⟩
    · refine rd_b (fun z => by cases z) (fun _ => ?_)
      wtm_at "rd"
      exact q0 _ sb res.symm
    · rw [List.concat_eq_append] at *
      rw [show (cr ++ [c]).isEmpty = false from by cases cr <;> rfl]
      refine rd_b (fun _ => ?_) (fun z => by cases z)
      have cin : c ∈ cr ++ [c] := List.mem_append_right _ (List.mem_singleton.mpr rfl)
      obtain ⟨hc, ncp, fc⟩ := hcs c cin
      have gc := gcs c cin
      have hcr : ∀ x ∈ cr, H1 x.1 = some (.lst (x.2.map V.int)) ∧ x.1 ≠ pa ∧ H x.1 = none := fun x hx => hcs x (List.mem_append_left _ hx)
      have gcr : ∀ x ∈ cr, GdP ns (es.map (·.2)) x.2 := fun x hx => gcs x (List.mem_append_left _ hx)
      clear hcs gcs
      rw [List.map_append, List.map_singleton] at res mea hpa len0
      obtain ⟨ca, p⟩ := c
      dsimp only at hc ncp fc gc res mea hpa len0
      refine ⟨fun σ' H' => ∃ (pa : Addr) (cs : List (Addr × List Int)) (u2 u3 u4 u5 u6 : Option V), meaF ns.length (cs.map (·.2)) < meaF ns.length (cr.map (·.2) ++ [p]) ∧ σ' = [some (.ref g), some (.ref pa), u2, u3, u4, u5, u6] ∧ Same H H' ∧ H pa = none ∧ H' pa = some (.lst (cs.map fun c => V.ref c.1)) ∧ (∀ c ∈ cs, H' c.1 = some (.lst (c.2.map V.int)) ∧ c.1 ≠ pa ∧ H c.1 = none) ∧ (∀ c ∈ cs, GdP ns (es.map (·.2)) c.2) ∧ resF ns (es.map (·.2)) (cs.map (·.2)) = extF ns (es.map (·.2)) ns.length [] ∧ meaF ns.length (cs.map (·.2)) ≤ 16384, fun σ' H' ⟨pa, cs, u2, u3, u4, u5, u6, lt, a⟩ => ⟨_, by rw [List.map_append]; exact lt, pa, cs, u2, u3, u4, u5, u6, rfl, a⟩, ?_⟩
      wtm_at "rd"
      refine rd_tyL hpa ?_
      refine rd_popE hpa ?_
      have sb2 := same_put (o := .lst (cr.map fun c => V.ref c.1)) sb fpa
      have hpa2 := @upd_same H1 pa (.lst (cr.map fun c => V.ref c.1))
      have hc := at_upd (o := .lst (cr.map fun c => V.ref c.1)) ncp hc
      have hcr : ∀ x ∈ cr, (upd H1 pa (.lst (cr.map fun c => V.ref c.1))) x.1 = some (.lst (x.2.map V.int)) ∧ x.1 ≠ pa ∧ H x.1 = none := fun x hx => ⟨at_upd (hcr x hx).2.1 (hcr x hx).1, (hcr x hx).2⟩
      generalize upd H1 pa (.lst (cr.map fun c => V.ref c.1)) = H2 at sb2 hpa2 hc hcr
      clear sb hpa
      have gn2 := gn.same sb2
      wtm_at "rd"
      refine rd_lenL (SqL.of hc) ?_
      rw [List.length_map]
      wtm_at "rd"
      refine rd_ixT (SqT.of gn2.gr.top) (v := .ref nA) rfl ?_
      wtm_at "rd"
      refine rd_lenT (SqT.of gn2.gr.nodes) ?_
      rw [List.length_map]
      wtm_at "rd"
      refine rd_split (fun c1 => ?_) (fun c1 => ?_)
      · have pl : p.length = ns.length := by omega
        wtm_at "rd"
        rw [res_done gn.nd gn.so gn.ne gc pl] at res
        exact q1 _ ca p sb2 res.symm pl fc hc
      · have pl : p.length < ns.length := by
          have := gc.len
          omega
        wtm_at "rd"
        refine rd_lenL (SqL.of hc) ?_
        rw [List.length_map]
        wtm_at "rd"
        intro D fD
        refine lcR (fun i H' => Same H2 H' ∧ H' D = some (.lst ((nearF ns (es.map (·.2)) p i).map fun k : Nat => V.int k))) ⟨Same.new fD, upd_same⟩ ?_ ?_
        · rintro i H3 hi ⟨s3, hD⟩
          have hi : i < p.length := by omega
          have e0 : (0 + (i : Int)) = (i : Int) := Int.zero_add _
          rw [e0]
          have gn3 := gn2.same s3
          have il := Nat.lt_trans hi pl
          have nl : (nearF ns (es.map (·.2)) p i).length ≤ i := by
            unfold nearF
            exact Nat.le_trans (List.length_filter_le _ _) (by rw [List.length_range]; exact Nat.le_refl _)
          have nx : nearF ns (es.map (·.2)) p (i + 1) = nearF ns (es.map (·.2)) p i ++ if eOf ns[i] ns[p.length] ∈ es.map (·.2) then [i] else [] := by
            unfold nearF
            rw [List.range_succ, List.filter_append, List.filter_cons, List.filter_nil]
            congr 1
            have e1 : ns.getD i "" = ns[i] := getDU il
            have e2 : ns.getD p.length "" = ns[p.length] := getDU pl
            rw [e1, e2]
            by_cases c : eOf ns[i] ns[p.length] ∈ es.map (·.2)
            · rw [if_pos c, decide_eq_true c]
              rfl
            · rw [if_neg c, decide_eq_false c]
              rfl
          have xi := gn.nm _ (List.getElem_mem il)
          have yi := gn.nm _ (List.getElem_mem pl)
          wtm_at "rd"
          refine rd_ixT (SqT.of gn3.gr.top) (v := .ref nA) rfl ?_
          wtm_at "rd"
          refine rd_ixT (SqT.of gn3.gr.nodes) (v := .str ns[i]) (atI_nat (by rw [List.getElem?_map, List.getElem?_eq_getElem il]; rfl)) ?_
          wtm_at "rd"
          refine rd_ixT (SqT.of gn3.gr.top) (v := .ref nA) rfl ?_
          wtm_at "rd"
          refine rd_lenL (SqL.of (s3 _ _ hc)) ?_
          rw [List.length_map]
          wtm_at "rd"
          refine rd_ixT (SqT.of gn3.gr.nodes) (v := .str ns[p.length]) (atI_nat (by rw [List.getElem?_map, List.getElem?_eq_getElem pl]; rfl)) ?_
          generalize ns[i] = x at *
          generalize ns[p.length] = y at *
          wtm_at "rd"
          intro t1 ft1
          have k1 := Same.new (o := .lst [.str x, .str y]) ft1
          wtm_at "rd"
          refine rd_sortS (xs := [x, y]) (SqL.of upd_same) (by show 2 ≤ 100000; decide) ?_
          intro ys py sy t2 ft2
          have k2 := Same.new (o := .lst (ys.map V.str)) ft2
          wtm_at "rd"
          refine rd_tupleL (SqL.of upd_same) ?_
          intro t3 ft3
          have k3 := Same.new (o := .tup (ys.map V.str)) ft3
          have sA := (k1.trans k2).trans k3
          have h3 := @upd_same (upd (upd H3 t1 (.lst [.str x, .str y])) t2 (.lst (ys.map V.str))) t3 (.tup (ys.map V.str))
          generalize upd (upd (upd H3 t1 (.lst [.str x, .str y])) t2 (.lst (ys.map V.str))) t3 (.tup (ys.map V.str)) = Ha at sA h3
          rw [sort2h py sy] at h3
          have gnA := gn3.same sA
          have s4 := s3.trans sA
          have hD := sA _ _ hD
          wtm_at "rd"
          refine rd_ixT (SqT.of gnA.gr.top) (v := .ref e) rfl ?_
          refine rd_inTE (e := eOf x y) (SqT.of h3) (SqT.of gnA.gr.edges) (fun x hx => SqT.of (gnA.gr.pairs x hx)) (by
            rcases eOf_cases x y with z | z <;> rw [z]
            · exact ⟨xi.sok, yi.sok⟩
            · exact ⟨yi.sok, xi.sok⟩) gn.sok ?_
          rw [nx]
          wtm_at "rd"
          refine rd_split (fun c2 => ?_) (fun c2 => ?_)
          · rw [if_pos c2]
            wtm_at "rd"
            refine rd_acc hD (by rw [List.length_map]; omega) ?_
            exact ⟨same_put s4 fD, by rw [upd_same, List.map_append]; rfl⟩
          · rw [if_neg c2, List.append_nil]
            wtm_at "rd"
            exact ⟨s4, hD⟩
        rintro H3 ⟨s3, hD⟩
        wtm_at "rd"
        refine rd_forL (SqL.of hD) ?_
        intro D2 fD2
        have jin : ∀ j ∈ nearF ns (es.map (·.2)) p p.length, j < p.length := fun j hj => List.mem_range.mp (List.mem_filter.mp hj).1
        have nl : (nearF ns (es.map (·.2)) p p.length).length ≤ 7 := by
          unfold nearF
          exact Nat.le_trans (List.length_filter_le _ _) (by rw [List.length_range]; omega)
        refine lcL (K := K) (xs := (nearF ns (es.map (·.2)) p p.length).map fun k : Nat => V.int k) (fun j H' => Same H3 H' ∧ H' D2 = some (.lst ((((nearF ns (es.map (·.2)) p p.length).take j).map fun k => p.getD k 0).map V.int))) ⟨Same.new fD2, upd_same⟩ ?_ ?_ ?_
        · rintro j H4 hj ⟨s4, _⟩
          exact SqL.of (s4 _ _ hD)
        · rintro j y H4 hy ⟨s4, hD2⟩
          obtain ⟨hj, rfl⟩ := map_at hy
          have ol := jin _ (List.getElem_mem hj)
          have tkj := tk_snoc2 hj
          rw [tkj]
          generalize (nearF ns (es.map (·.2)) p p.length)[j] = o at *
          wtm_at "rd"
          refine rd_ixL (SqL.of (s4 _ _ (s3 _ _ hc))) (v := .int (p.getD o 0)) (atI_nat (by rw [List.getElem?_map, List.getElem?_eq_getElem ol]; exact congrArg (fun z => some (V.int z)) (getDU ol).symm)) ?_
          have hj : j < (nearF ns (es.map (·.2)) p p.length).length := hj
          refine rd_acc hD2 (by rw [List.length_map, List.length_map, List.length_take]; omega) ?_
          exact ⟨same_put s4 fD2, by rw [upd_same, List.map_append, List.map_append]; rfl⟩
        rintro H4 ⟨s4, hD2⟩
        rw [List.length_map, List.take_length] at hD2
        have hx : H4 D2 = some (.lst ((excF ns (es.map (·.2)) p).map V.int)) := hD2
        have s24 := s3.trans s4
        have hpa := s24 _ _ hpa2
        have hc := s24 _ _ hc
        have hcr : ∀ x ∈ cr, H4 x.1 = some (.lst (x.2.map V.int)) ∧ x.1 ≠ pa ∧ H x.1 = none := fun x hx => ⟨s24 _ _ (hcr x hx).1, (hcr x hx).2⟩
        have s5 := sb2.trans s24
        clear hD2 nl jin s3 s4 s24 hD fD fD2 hpa2 gn2 sb2
        wtm_at "rd"
        intro D fD
        have hpD := ne_of_none hpa fD
        have sD := Same.new (o := .lst []) fD
        have crl : cr.length ≤ 16384 := by
          rw [List.length_append, List.length_singleton] at len0
          omega
        refine lcR (fun i H' => Same H4 H' ∧ ∃ ks : List (Addr × List Int), H' D = some (.lst (ks.map fun c => V.ref c.1)) ∧ ks.map (·.2) = kidsF ns (es.map (·.2)) p i ∧ ks.length ≤ i ∧ ∀ c ∈ ks, H' c.1 = some (.lst (c.2.map V.int)) ∧ H4 c.1 = none ∧ c.1 ≠ D) ⟨sD, [], upd_same, rfl, Nat.le_refl _, fun c hc => nomatch hc⟩ ?_ ?_
        · rintro i H5 hi ⟨s5, ks, hD, ek, kl, hks⟩
          have hi : i < 3 := hi
          have e0 : (0 + (i : Int)) = (i : Int) := Int.zero_add _
          rw [e0]
          have nx : kidsF ns (es.map (·.2)) p (i + 1) = kidsF ns (es.map (·.2)) p i ++ if (2 - (i : Int)) ∈ excF ns (es.map (·.2)) p then [] else [p ++ [2 - (i : Int)]] := by
            unfold kidsF
            rw [List.range_succ, List.filter_append, List.map_append, List.filter_cons, List.filter_nil]
            congr 1
            by_cases c : (2 - (i : Int)) ∈ excF ns (es.map (·.2)) p
            · rw [if_pos c, decide_eq_true c]
              rfl
            · rw [if_neg c, decide_eq_false c]
              rfl
          rw [nx]
          wtm_at "rd"
          refine rd_ninIL (SqL.of (s5 _ _ hx)) ?_
          wtm_at "rd"
          refine rd_nsplit (fun c2 => ?_) (fun c2 => ?_)
          · rw [if_neg c2]
            wtm_at "rd"
            intro t1 ft1
            have k1 := Same.new (o := .lst [.int (2 - (i : Int))]) ft1
            have h1 := @upd_same H5 t1 (.lst [.int (2 - (i : Int))])
            have s6 := s5.trans k1
            have hD := k1 _ _ hD
            have hks : ∀ c ∈ ks, (upd H5 t1 (.lst [.int (2 - (i : Int))])) c.1 = some (.lst (c.2.map V.int)) ∧ H4 c.1 = none ∧ c.1 ≠ D := fun c hc => ⟨k1 _ _ (hks c hc).1, (hks c hc).2⟩
            generalize upd H5 t1 (.lst [.int (2 - (i : Int))]) = H6 at h1 s6 hD hks
            refine rd_catL (s6 _ _ hc) h1 (by rw [List.length_map]; show _ + 1 ≤ 100000; omega) ?_
            intro t2 ft2
            have k2 := Same.new (o := .lst (p.map V.int ++ [.int (2 - (i : Int))])) ft2
            have h2 := @upd_same H6 t2 (.lst (p.map V.int ++ [.int (2 - (i : Int))]))
            have f4 := new_of_same s6 ft2
            have s7 := s6.trans k2
            have nD := ne_of_none hD ft2
            have hD := k2 _ _ hD
            have hks : ∀ c ∈ ks, (upd H6 t2 (.lst (p.map V.int ++ [.int (2 - (i : Int))]))) c.1 = some (.lst (c.2.map V.int)) ∧ H4 c.1 = none ∧ c.1 ≠ D := fun c hc => ⟨k2 _ _ (hks c hc).1, (hks c hc).2⟩
            generalize upd H6 t2 (.lst (p.map V.int ++ [.int (2 - (i : Int))])) = H7 at h2 s7 hD hks
            wtm_at "rd"
            refine rd_acc hD (by rw [List.length_map]; omega) ?_
            refine ⟨same_put s7 fD, ks ++ [(t2, p ++ [2 - (i : Int)])], by rw [upd_same, List.map_append]; rfl, by rw [List.map_append, ek]; rfl, by rw [List.length_append, List.length_singleton]; omega, fun c hc => ?_⟩
            rcases List.mem_append.mp hc with hc | hc
            · exact ⟨at_upd (hks c hc).2.2 (hks c hc).1, (hks c hc).2⟩
            · rw [List.mem_singleton.mp hc]
              exact ⟨at_upd (Ne.symm nD) (by rw [h2, List.map_append]; rfl), f4, Ne.symm nD⟩
          · rw [if_pos c2, List.append_nil]
            wtm_at "rd"
            exact ⟨s5, ks, hD, ek, by omega, hks⟩
        rintro H5 ⟨s6, ks, hD, ek, kl, hks⟩
        have ek : ks.map (·.2) = kidsF ns (es.map (·.2)) p 3 := ek
        have kl : ks.length ≤ 3 := kl
        refine rd_catL (s6 _ _ hpa) hD (by rw [List.length_map, List.length_map]; omega) ?_
        intro pb fpb
        have k := Same.new (o := .lst ((cr.map fun c => V.ref c.1) ++ ks.map fun c => V.ref c.1)) fpb
        have hpb := @upd_same H5 pb (.lst ((cr.map fun c => V.ref c.1) ++ ks.map fun c => V.ref c.1))
        have f4 := new_of_same s6 fpb
        have ncr : ∀ c ∈ cr, c.1 ≠ pb := fun c hc => ne_of_none (hcr c hc).1 f4
        have nks : ∀ c ∈ ks, c.1 ≠ pb := fun c hc => ne_of_none (hks c hc).1 fpb
        have f4H := new_of_same s5 f4
        have kg := kids_good gn.nd gn.so gn.ne gc pl
        have mk := mea_kids (es := es.map (·.2)) (ps := cr.map (·.2)) pl
        have emap : (cr ++ ks).map (·.2) = cr.map (·.2) ++ kidsF ns (es.map (·.2)) p 3 := by rw [List.map_append, ek]
        wtm_at "rd"
        refine ⟨pb, cr ++ ks, _, _, _, _, _, by rw [emap]; exact mk, rfl, s5.trans (s6.trans k), f4H, by rw [hpb, List.map_append], fun c hc => ?_, fun c hc => ?_, by rw [emap, res_step gn.nd gn.so gn.ne gc pl]; exact res, by rw [emap]; omega⟩
        · rcases List.mem_append.mp hc with hc | hc
          · exact ⟨k _ _ (s6 _ _ (hcr c hc).1), ncr c hc, (hcr c hc).2.2⟩
          · exact ⟨k _ _ (hks c hc).1, nks c hc, new_of_same s5 (hks c hc).2.1⟩
        · rcases List.mem_append.mp hc with hc | hc
          · exact gcr c hc
          · exact (kg c.2 (by rw [← ek]; exact List.mem_map_of_mem (f := (·.2)) hc)).1
end
end Law

/-! repr of whatever data -/
namespace U
open PySem PySem.Spec PyProof.Rows L2
section
variable {K : PySem.W.Frag} {H H' : Hp}
mutual
theorem dp_ext (l : ∀ a xs, SqL K H a xs → SqL K H' a xs) (t : ∀ a xs, SqT K H a xs → SqT K H' a xs) : ∀ (d : PyData) (v : V), Dp K H v d → Dp K H' v d
  | .none, _, h => by cases h; exact .non
  | .bool _, _, h => by cases h; exact .bl _
  | .int _, _, h => by cases h; exact .int _
  | .str _, _, h => by cases h; exact .str _
  | .list ds, _, h => by
    cases h with
    | lst h1 h2 => exact .lst (l _ _ h1) (dp_extA l t ds _ h2)
  | .tuple ds, _, h => by
    cases h with
    | tup h1 h2 => exact .tup (t _ _ h1) (dp_extA l t ds _ h2)
  | .dict _, _, h => by cases h
theorem dp_extA (l : ∀ a xs, SqL K H a xs → SqL K H' a xs) (t : ∀ a xs, SqT K H a xs → SqT K H' a xs) : ∀ (ds : List PyData) (vs : List V), DpAll K H vs ds → DpAll K H' vs ds
  | [], _, h => by cases h; exact .nil
  | d :: ds, _, h => by
    cases h with
    | cons h1 h2 => exact .cons (dp_ext l t d _ h1) (dp_extA l t ds _ h2)
end
end
/-- a value that repr may be asked of, and what repr says -/
inductive Rp (K : PySem.W.Frag) (H : Hp) : V → Str → Prop
  | non : Rp K H .non "None"
  | bl (b : Bool) : Rp K H (.bl b) (if b then "True" else "False")
  | int (i : Int) (h : i.natAbs.log2 < 1920) : Rp K H (.int i) (toString i)
  | str (x : Str) (h : (reprText x).length ≤ sizeLine) : Rp K H (.str x) (reprText x)
  | of {a : Addr} {d : PyData} : Dp K H (.ref a) d → d.hasDict = false → Shows d → Rp K H (.ref a) d.shown
  | dct {a : Addr} {ns : List Str} {f : Str → Int} : H a = some (.dK (kvF ns f)) → Shows (.dict (ns.map fun n => (.str n, .int (f n)))) → Rp K H (.ref a) (PyData.dict (ns.map fun n => (.str n, .int (f n)))).shown
theorem Rp.ext {K : PySem.W.Frag} {H H' : Hp} {v : V} {d : Str} (h : Rp K H v d) (l : ∀ a xs, SqL K H a xs → SqL K H' a xs) (t : ∀ a xs, SqT K H a xs → SqT K H' a xs) (k : ∀ a kvs, H a = some (.dK kvs) → H' a = some (.dK kvs)) : Rp K H' v d := by
  cases h with
  | non => exact .non
  | bl b => exact .bl b
  | int i h => exact .int i h
  | str x h => exact .str x h
  | of h1 h2 h3 => exact .of (dp_ext l t _ _ h1) h2 h3
  | dct h1 h2 => exact .dct (k _ _ h1) h2
theorem Rp.same {K : PySem.W.Frag} {H H' : Hp} {v : V} {d : Str} (h : Rp K H v d) (s : Same H H') : Rp K H' v d := h.ext
  (fun a xs q => by
    rcases q with (q | ⟨o, q⟩) | q
    · exact .inl (.inl (s _ _ q))
    · exact .inl (.inr ⟨o, s _ _ q⟩)
    · exact .inr q) (fun a xs q => Same.seqT s q) fun a kvs q => s _ _ q
end U

/-! repr of data that holds lists, tuples and dicts of atoms, to any depth -/
namespace U
open PySem PySem.Spec PyProof.Rows L2
/-- None, a truth value, a number, a text -/
def vD : V → PyData
  | .bl b => .bool b
  | .int i => .int i
  | .str s => .str s
  | _ => .none
def Atm (v : V) : Prop := v = .non ∨ (∃ b, v = .bl b) ∨ (∃ i, v = .int i) ∨ ∃ s, v = .str s
mutual
inductive Dg (H : Hp) : V → PyData → Prop
  | atm {v : V} : Atm v → Dg H v (vD v)
  | tup {a : Addr} {xs : List V} {ds : List PyData} : H a = some (.tup xs) → DgAll H xs ds → Dg H (.ref a) (.tuple ds)
  | lst {a : Addr} {xs : List V} {ds : List PyData} : H a = some (.lst xs) → DgAll H xs ds → Dg H (.ref a) (.list ds)
  | dct {a : Addr} {ns : List Str} {F : Str → V} : H a = some (.dK (kvG ns F)) → (∀ n ∈ ns, Atm (F n)) → Dg H (.ref a) (.dict (ns.map fun n => (.str n, vD (F n))))
inductive DgAll (H : Hp) : List V → List PyData → Prop
  | nil : DgAll H [] []
  | cons {v : V} {vs : List V} {d : PyData} {ds : List PyData} : Dg H v d → DgAll H vs ds → DgAll H (v :: vs) (d :: ds)
end
mutual
theorem Dg.ext {H H' : Hp} (s : ∀ b o, H b = some o → (∀ ps, o ≠ .tbl ps) → H' b = some o) : ∀ {v : V} {d : PyData}, Dg H v d → Dg H' v d
  | _, _, .atm h => .atm h
  | _, _, .tup h t => .tup (s _ _ h nofun) (DgAll.ext s t)
  | _, _, .lst h t => .lst (s _ _ h nofun) (DgAll.ext s t)
  | _, _, .dct h t => .dct (s _ _ h nofun) t
theorem DgAll.ext {H H' : Hp} (s : ∀ b o, H b = some o → (∀ ps, o ≠ .tbl ps) → H' b = some o) : ∀ {v : List V} {d : List PyData}, DgAll H v d → DgAll H' v d
  | _, _, .nil => .nil
  | _, _, .cons h t => .cons (Dg.ext s h) (DgAll.ext s t)
end
section
variable {X : Cx} {pins : List (Addr × Obj)} {σ : L2.St} {H : Hp} {s : Shared}
theorem atm_reads {h : Heap} {v : V} {u : Value} (a : Atm v) (r : RelV v u) : Reads h u (vD v) [] := by
  rcases a with rfl | ⟨b, rfl⟩ | ⟨i, rfl⟩ | ⟨x, rfl⟩
  · cases r
    exact .none
  · cases r
    exact .bool _
  · obtain ⟨t, rfl⟩ : ∃ t, u = Value.int i t := r
    exact .int _ _
  · obtain ⟨t, rfl⟩ : ∃ t, u = Value.str x t := r
    exact .str _ _
theorem kg_pairs {h : Heap} {F : Str → V} : ∀ {ns : List Str} {vs : List (Key × Value)}, (∀ n ∈ ns, Atm (F n)) → KV (kvG ns F) vs → PyProof.V.PairsRead h encK vs (ns.map fun n => (.str n, vD (F n))) []
  | [], vs, _, r => by
    cases r
    exact .nil
  | n :: ns, vs, a, r => by
    cases r with
    | @cons p q ps qs hpq t =>
      obtain ⟨h1, h2⟩ := hpq
      obtain ⟨k, v⟩ := q
      have h1' : (Sum.inr n : Key) = k := h1
      subst h1'
      exact .cons (k := .inr n) (as := []) (bs := []) (atm_reads (a n List.mem_cons_self) h2) (kg_pairs (fun m hm => a m (List.mem_cons_of_mem _ hm)) t)
/-- what repr says of a value, whatever lists lie in it -/
def Rk (P : Program) (w : World) (h : Heap) (u : Value) (d : PyData) : Prop := (∃ as, Reads h u d as) ∧ (d.shown.length ≤ sizeLine → ∃ bs, ReadAtMost h d.depth bs ∧ ReprK P w bs h d.depth u d.shown)
def RkAll (P : Program) (w : World) (h : Heap) (us : List Value) (ds : List PyData) : Prop := (∃ as, ReadsAll h us ds as) ∧ ((∀ t ∈ PyData.shownAll ds, t.length ≤ sizeLine) → ∃ bs, ReadAtMost h (PyData.depthAll ds) bs ∧ ReprAllK P w bs h (PyData.depthAll ds) us (PyData.shownAll ds))
theorem rk_of {P : Program} {w : World} {h : Heap} {u : Value} {d : PyData} {as : List Addr} (r : Reads h u d as) (hs : d.showable = true) (n : sysModules ∉ as) : Rk P w h u d := ⟨⟨_, r⟩, fun z => ReprK.of_reads r hs (fun _ => n) z⟩
theorem rk_nil {P : Program} {w : World} {h : Heap} : RkAll P w h [] [] := ⟨⟨_, .nil⟩, fun _ => ⟨[], (fun _ z => nomatch z), by simp only [PyData.shownAll]; exact .nil⟩⟩
theorem rk_cons {P : Program} {w : World} {h : Heap} {u : Value} {us : List Value} {d : PyData} {ds : List PyData} (h1 : Rk P w h u d) (h2 : RkAll P w h us ds) : RkAll P w h (u :: us) (d :: ds) := by
  obtain ⟨⟨as, r1⟩, k1⟩ := h1
  obtain ⟨⟨bs, r2⟩, k2⟩ := h2
  refine ⟨⟨_, .cons r1 r2⟩, fun z => ?_⟩
  obtain ⟨b1, hb1, q1⟩ := k1 (z _ (by simp only [PyData.shownAll]; exact List.mem_cons_self))
  obtain ⟨b2, hb2, q2⟩ := k2 fun t ht => z t (by simp only [PyData.shownAll]; exact List.mem_cons_of_mem _ ht)
  have e1 : d.depth ≤ PyData.depthAll (d :: ds) := by rw [PyData.depthAll]; omega
  have e2 : PyData.depthAll ds ≤ PyData.depthAll (d :: ds) := by rw [PyData.depthAll]; omega
  refine ⟨b1 ++ b2, (hb1.mono e1).append (hb2.mono e2), ?_⟩
  simp only [PyData.shownAll]
  exact .cons ((q1.more fun b hb => List.mem_append_left _ hb).level_le e1) (q2.more_le (fun b hb => List.mem_append_right _ hb) e2)
theorem rk_list {P : Program} {w : World} {h : Heap} {a : Addr} {o : Obj} {us : List Value} {n : Nat} {ds : List PyData} (h1 : h.get? a = some o) (h2 : o.cls = .type "list") (h3 : o.data = .seq us.toArray n) (k : RkAll P w h us ds) : Rk P w h (.ref a) (.list ds) := by
  obtain ⟨⟨as, r⟩, k⟩ := k
  have rd : Reads h (.ref a) (.list ds) (a :: as) := .list h1 h2 h3 (by simpa using r)
  refine ⟨⟨_, rd⟩, fun z => ?_⟩
  have z' : (listText (PyData.shownAll ds)).length ≤ sizeLine := by simpa only [PyData.shown] using z
  obtain ⟨bs, hb, hk⟩ := k fun t ht => Nat.le_trans (listText_mem_le ht) z'
  have hna : a ∉ bs := not_mem_of_deeper rd (by simp only [PyData.depth]; omega) hb
  refine ⟨a :: bs, ReadAtMost.cons rd (by simp only [PyData.depth]; omega) hb, ?_⟩
  simp only [PyData.depth, PyData.shown]
  cases us with
  | nil =>
    cases r
    simp only [PyData.shownAll, listText_nil]
    exact ReprK.listEmpty h1 h2 h3
  | cons x l => exact ReprK.list h1 h2 h3 hna (by simpa using hk.length_eq) fun i y e => hk.item i y (by simpa using e)
theorem rk_tup {P : Program} {w : World} {h : Heap} {a : Addr} {o : Obj} {us : List Value} {n : Nat} {ds : List PyData} (h1 : h.get? a = some o) (h2 : o.cls = .type "tuple") (h3 : o.data = .seq us.toArray n) (k : RkAll P w h us ds) : Rk P w h (.ref a) (.tuple ds) := by
  obtain ⟨⟨as, r⟩, k⟩ := k
  have rd : Reads h (.ref a) (.tuple ds) as := .tuple h1 h2 h3 (by simpa using r)
  refine ⟨⟨_, rd⟩, fun z => ?_⟩
  have z' : (tupleText (PyData.shownAll ds)).length ≤ sizeLine := by simpa only [PyData.shown] using z
  obtain ⟨bs, hb, hk⟩ := k fun t ht => Nat.le_trans (tupleText_mem_le ht) z'
  have hna : a ∉ bs := not_mem_of_deeper rd (by simp only [PyData.depth]; omega) hb
  refine ⟨a :: bs, ReadAtMost.cons rd (by simp only [PyData.depth]; omega) hb, ?_⟩
  simp only [PyData.depth, PyData.shown]
  exact ReprK.tuple h1 h2 h3 hna (by simpa using hk)
mutual
theorem Dg.rk (I : Inv X pins σ H s) : ∀ {v : V} {d : PyData} {u : Value}, Dg H v d → d.showable = true → RelV v u → Rk X.prog X.w s.heap u d
  | _, _, _, .atm a, hs, r => rk_of (atm_reads a r) hs List.not_mem_nil
  | _, _, _, .tup h t, hs, r => by
    cases r
    obtain ⟨its, rv, ⟨o, ho, hc, n, hdat⟩, _⟩ := I.tuple (SqT.of h)
    exact rk_tup ho hc hdat (DgAll.rk I t (by simpa [PyData.showable] using hs) rv)
  | _, _, _, .lst h t, hs, r => by
    cases r
    obtain ⟨its, rv, ⟨o, n, ho, hc, _, hdat⟩, _⟩ := I.list (SqL.of h)
    exact rk_list ho hc hdat (DgAll.rk I t (by simpa [PyData.showable] using hs) rv)
  | _, _, _, .dct h a, hs, r => by
    cases r
    obtain ⟨_, hd, vs, rel, dd⟩ := dk_of I.hok h
    refine rk_of (PyProof.V.reads_dictOf key_reads dd (kg_pairs a rel)) hs fun z => ?_
    rw [List.mem_singleton] at z
    rw [z] at hd
    simp at hd
theorem DgAll.rk (I : Inv X pins σ H s) : ∀ {v : List V} {d : List PyData} {u : List Value}, DgAll H v d → PyData.showableAll d = true → Vals v u → RkAll X.prog X.w s.heap u d
  | _, _, _, .nil, _, r => by
    cases r
    exact rk_nil
  | _, _, _, .cons (d := d) (ds := ds) h t, hs, r => by
    cases r with
    | cons r1 r2 =>
      have hs' : d.showable = true ∧ PyData.showableAll ds = true := by simpa [PyData.showableAll] using hs
      exact rk_cons (Dg.rk I h hs'.1 r1) (DgAll.rk I t hs'.2 r2)
end
/-- repr of a tuple -/
def rReprG : List V → Hp → VK → Prop := fun xs H Q => ∃ (a : Addr) (vs : List V) (ds : List PyData), xs = [.ref a] ∧ H a = some (.tup vs) ∧ DgAll H vs ds ∧ Shows (.tuple ds) ∧ Q (.str (PyData.tuple ds).shown) H
theorem kReprG (hg : X.A.guards = some []) (hu : X.A.units + 64 < cLine) : CallR X (.builtin "repr") rReprG := by
  intro pins s σ H xs us Q I r h
  obtain ⟨a, vs, ds, rfl, ha, hd, S, q⟩ := h
  obtain ⟨u, eu, rx⟩ := vals1 r
  subst eu
  cases rx
  obtain ⟨its, rv, ⟨o, ho, hc, n, hdat⟩, _⟩ := I.tuple (SqT.of ha)
  have hdp := S.dp
  have hsa : PyData.showableAll ds = true := by
    have := S.sh
    simpa [PyData.showable] using this
  obtain ⟨⟨as, r⟩, k⟩ := hd.rk I hsa rv
  have z : (PyData.tuple ds).shown.length ≤ sizeLine := PyData.shown_fits_bulk (by decide) (by decide) S.lv S.bk
  have z' : (tupleText (PyData.shownAll ds)).length ≤ sizeLine := by simpa only [PyData.shown] using z
  have rd : Reads s.heap (.ref a) (.tuple ds) as := .tuple ho hc hdat (by simpa using r)
  obtain ⟨bs, hb, hk⟩ := k fun t ht => Nat.le_trans (tupleText_mem_le ht) z'
  have hna : a ∉ bs := not_mem_of_deeper rd (by simp only [PyData.depth]; omega) hb
  have dd : PyData.depthAll ds + 1 ≤ 50 := by
    have := S.dp
    simp only [PyData.depth] at this
    omega
  refine call_repr_slot (by omega) ⟨o, ho, hc⟩ PySem.F.slot_tuple_repr (call_tuple_reprK ho hc hdat hna (by simpa using hk) (A := X.A.in1) hg (fun b _ => Clear.nil b) (by show X.A.units + 1 + (PyData.depthAll ds + 1) < cLine; omega) (fun b o e => e) (fun h' u tk hk => ⟨_, _, rfl, ?_⟩) z')
  refine ⟨.str (PyData.tuple ds).shown, H, I.kept (t' := tk) hk, ⟨u, ?_⟩, q⟩
  simp only [PyData.shown]
end
theorem rd_reprG {H : Hp} {Q : VK} {a : Addr} {vs : List V} {ds : List PyData} (h : H a = some (.tup vs)) (hd : DgAll H vs ds) (s : Shows (.tuple ds)) (q : Q (.str (PyData.tuple ds).shown) H) : rReprG [.ref a] H Q := ⟨a, vs, ds, rfl, h, hd, s, q⟩
end U


/-! k60 (k53, k70): _law_lists_are_distinct -/
namespace U
open PySem PySem.Spec PyProof.Rows L2
theorem pe_count {X : Cx} {o e : Expr} {to te : TE} {apos pos : Pos} (ho : PE X o to) (he : PE X e te) (hs : starEach [e] X.env = [(false, eval e X.env)] := by rfl) (hbase : attributeBase o "count" X.env (eval o X.env) = eval o X.env := by rfl) (hline : (apos.endLine == pos.line) = true := by rfl) :
    PE X (.Call (.Attribute o "count" apos) [e] [] pos) (tM1 (fun x xs H Q => ∃ a b, x = .str a ∧ xs = [.str b] ∧ Q (.int (Txt.count a b)) H) to te) :=
  pe_m1 PySem.F.slot_str_count PySem.F.type_str_count mt_count ho he hs hbase hline
theorem LsAt.ls {H : Hp} : ∀ {n : Nat} {v : V} {L : List Addr}, LsAt H n v L → ∀ b ∈ L, ∃ xs, H b = some (.lst xs)
  | 0, v, L, h, b, m => by
    unfold LsAt at h
    rw [h.2] at m
    cases m
  | n + 1, v, L, h, b, m => by
    unfold LsAt at h
    have key : ∀ {vs : List V} {Ls : List (List Addr)}, Paired (LsAt H n) vs Ls → b ∈ Ls.flatten → ∃ xs, H b = some (.lst xs) := by
      intro vs Ls p m
      induction p with
      | nil => cases m
      | cons a r ih =>
        rw [List.flatten_cons] at m
        rcases List.mem_append.mp m with m | m
        · exact LsAt.ls a b m
        · exact ih m
    rcases h with ⟨_, e⟩ | ⟨a, vs, Ls, e, l, p, ⟨ha, e2⟩ | ⟨ha, e2⟩⟩
    · rw [e] at m
      cases m
    · rw [e2] at m
      exact key p m
    · rw [e2] at m
      rcases List.mem_cons.mp m with rfl | m
      · exact ⟨_, ha⟩
      · exact key p m
end U
namespace Law
open PySem PySem.Spec PyProof.Rows L2 U


/-- one list grown by "~": shown with one "~" -/
def OneT (H : Hp) (a b : Addr) : Prop := ∀ (H0 : Hp) (xs : List V), Same H H0 → H0 b = some (.lst xs) → xs.length ≤ 1000 ∧ ∃ vs ds, (upd H0 b (.lst (xs ++ [.str "~"]))) a = some (.tup vs) ∧ DgAll (upd H0 b (.lst (xs ++ [.str "~"]))) vs ds ∧ Shows (.tuple ds) ∧ Txt.count (PyData.tuple ds).shown "~" = 1
theorem cutV_toZ {xs : List V} {i : Nat} : cutV xs none (some (i : Int)) = xs.take i := by
  unfold cutV HT.sIx
  simp only [Nat.sub_zero, List.drop_zero]
  rw [if_neg (by omega), Int.toNat_natCast]
  by_cases h : i ≤ xs.length
  · rw [Nat.min_eq_left h]
  · rw [Nat.min_eq_right (by omega), List.take_of_length_le (Nat.le_refl _), List.take_of_length_le (by omega)]
theorem rd_m1Z {r : V → List V → Hp → VK → Prop} {to te : TE} {σ : L2.St} {H : Hp} {Q : VK} (h : to σ H fun x H1 => (∃ a, x = .str a) ∧ te σ H1 fun y H2 => r x [y] H2 Q) : tM1 r to te σ H Q := h
def spLinU : Sp := fun vs H Q E => ∃ n, n ≤ 9 ∧ spLin n vs H Q E
def spDis : Sp := fun vs H Q _ => ∃ (n : Nat) (a : Addr) (L : List Addr), vs = [.ref a] ∧ n ≤ 9 ∧ LsAt H n (.ref a) L ∧ L.length ≤ 10000 ∧ (∀ b ∈ L, OneT H a b) ∧ ∀ H' : Hp, Same H H' → Q (.bl true) H'
section
variable {P : Program} {w : World} {K : PySem.W.Frag} {mg : Str → Option Value} {base : Heap}
theorem ok_linU {f : Addr} {fd : FuncData} (F : Fun K "_law_lists_in" "_law_lists_in" s__law_lists_in f fd) (B : Bt mg) (S : SelfR K mg "_law_lists_in" f fd ["_law_candidate"]) : FnG P w K mg base CX0 11 f fd ["_law_candidate"] spLinU := by
  exact ⟨fun vs H Q E h => by
    obtain ⟨m, hm, h⟩ := h
    exact (ok_lin (P := P) (w := w) (base := base) F B S m).len vs H Q E h, fun A outer s H args us vs Q E hr he hb hv h => by
    obtain ⟨m, hm, h⟩ := h
    exact (ok_lin (P := P) (w := w) (base := base) F B S m).go A outer s H args us vs Q E (hr.mono (by omega)) he hb hv h⟩
structure WDa (P : Program) (w : World) (K : PySem.W.Frag) (mg : Str → Option Value) (base : Heap) : Prop where
  _law_lists_in : Cal P w K mg base CX0 11 "_law_lists_in" spLinU
theorem ok_dis {f : Addr} {fd : FuncData} (F : Fun K "_law_lists_are_distinct" "_law_lists_are_distinct" s__law_lists_are_distinct f fd) (B : Bt mg) (C : WDa P w K mg base) : FnG P w K mg base CX0 12 f fd ["_law_tree_here"] spDis := by
  refine fnG0 F sc__law_lists_are_distinct (fun vs H Q E h => ?_) (fun cdv A outer s H vs Q E hr h => ?_)
  · obtain ⟨n, a, L, rfl, _⟩ := h
    rfl
  · obtain ⟨n, a, L, rfl, n9, la, len, one, q⟩ := h
    have nd := sc__law_lists_are_distinct.nd
    have hu := hr.u1
    refine ⟨_, (pss_cons (ps_for PassesOwn.never rfl (ki_list K rfl (pe_slice (kSl K rfl) (pe_c C._law_lists_in hr (by decide) rfl (pa_cons (pv 0) pa_nil)) po_none (po_some pe_int))) (pg_name (i := 1) nd rfl (by first | exact Or.inl rfl | exact Or.inr rfl)) (pss_cons (ps_expr (pe_bm PySem.F.plainAttrs_list PySem.F.slot_list_append PySem.F.type_list_append mt_append (pv 1) (pa_cons pe_str pa_nil)))
  (pss_cons (ps_if (pt_cmpR (kNe K rfl hr.u64) (pe_count (pe_callB (kReprG hr.g hr.u64) (by rfl) B.repr bb_repr (pa_cons (pv 0) pa_nil)) pe_str) pe_int (nomark _)) (pss_one (ps_ret pe_bl)) pss_nil)
  (pss_one (ps_expr (pe_bm0 PySem.F.plainAttrs_list PySem.F.slot_list_pop PySem.F.type_list_pop mt_pop (pv 1)))))))
  (pss_one (ps_ret pe_bl))), ?_⟩
    wtm_at "rd"
    refine ⟨n, n9, .ref a, L, rfl, la, len, fun l H1 s1 fl hl => ?_⟩
    wtm_at "rd"
    refine rd_slL (SqL.of hl) ?_
    rw [show (24 : Int) = ((24 : Nat) : Int) from rfl, cutV_toZ, ← List.map_take]
    intro S fS
    have kS := Same.new (o := .lst ((L.take 24).map V.ref)) fS
    have hS := @upd_same H1 S (.lst ((L.take 24).map V.ref))
    have fS0 := new_of_same s1 fS
    have s2 := s1.trans kS
    generalize upd H1 S (.lst ((L.take 24).map V.ref)) = H2 at *
    clear kS fS hl fl
    wtm_at "rd"
    refine rd_forL (SqL.of hS) ?_
    refine turnsL (K := K) (xs := (L.take 24).map V.ref) (fun i σ H' => ∃ u : Option V, σ = [some (.ref a), u] ∧ Same H2 H') ⟨_, rfl, fun b o h => h⟩ ?_ ?_ ?_
    · rintro i σ H' hi ⟨_, rfl, s⟩
      exact SqL.of (s _ _ hS)
    · rintro i y σ H' hy ⟨u, rfl, s⟩
      obtain ⟨hi, rfl⟩ := map_at hy
      have mem : (L.take 24)[i] ∈ L := List.mem_of_mem_take (List.getElem_mem hi)
      generalize (L.take 24)[i] = b at *
      obtain ⟨xs, hb⟩ := la.ls b mem
      have hb2 := s _ _ (s2 _ _ hb)
      obtain ⟨xl, vs, ds, ha, dg, sh, cn⟩ := one b mem H' xs (s2.trans s) hb2
      wtm_at "rd"
      refine rd_tyL hb2 ?_
      wtm_at "rd"
      refine rd_append hb2 (by omega) ?_
      have hbn := @upd_same H' b (.lst (xs ++ [.str "~"]))
      have back : Same H' (upd (upd H' b (.lst (xs ++ [.str "~"]))) b (.lst xs)) := fun c o hc => by
        by_cases e : c = b
        · subst e
          rw [hb2] at hc
          rw [upd_same]
          exact hc
        · exact at_upd e (at_upd e hc)
      generalize upd H' b (.lst (xs ++ [.str "~"])) = H3 at *
      wtm_at "rd"
      refine rd_m1Z ?_
      wtm_at "rd"
      refine rd_reprG ha dg sh ?_
      refine ⟨⟨_, rfl⟩, ?_⟩
      wtm_at "rd"
      refine ⟨_, _, rfl, rfl, ?_⟩
      rw [cn]
      wtm_at "rd"
      refine rd_nno rfl ?_
      wtm_at "rd"
      refine rd_tyL hbn ?_
      refine rd_popE hbn ?_
      wtm_at "rd"
      exact ⟨_, rfl, s.trans back⟩
    · rintro σ H' ⟨u, rfl, s⟩
      wtm_at "rd"
      exact q H' (s2.trans s)
end
end Law

/-! sizes of shown data, put together from the parts -/
namespace U
open PySem PySem.Spec PyProof.Rows L2
/-- data that repr may be asked of: at most n of them, m deep -/
structure SmD (n m : Nat) (d : PyData) : Prop where
  lv : d.leavesShort 13 = true
  sh : d.showable = true
  bk : d.bulk ≤ n
  dp : d.depth ≤ m
  nd : d.hasDict = false
structure SmDs (n m : Nat) (ds : List PyData) : Prop where
  lv : PyData.leavesShortAll 13 ds = true
  sh : PyData.showableAll ds = true
  bk : PyData.bulkAll ds ≤ n
  dp : PyData.depthAll ds ≤ m
  nd : PyData.hasDictAll ds = false
theorem SmDs.nil : SmDs 0 0 [] := ⟨by simp [PyData.leavesShortAll], by simp [PyData.showableAll], by simp [PyData.bulkAll], by simp [PyData.depthAll], by simp [PyData.hasDictAll]⟩
theorem SmDs.cons {n m n2 m2 : Nat} {d : PyData} {ds : List PyData} (h : SmD n m d) (h2 : SmDs n2 m2 ds) : SmDs (n + 1 + n2) (m + m2) (d :: ds) := by
  obtain ⟨a1, a2, a3, a4, a5⟩ := h
  obtain ⟨b1, b2, b3, b4, b5⟩ := h2
  refine ⟨by rw [PyData.leavesShortAll, a1, b1]; rfl, by rw [PyData.showableAll, a2, b2]; rfl, ?_, ?_, by rw [PyData.hasDictAll, a5, b5]; rfl⟩
  · rw [PyData.bulkAll]
    omega
  · rw [PyData.depthAll]
    omega
theorem SmD.tup {n m : Nat} {ds : List PyData} (h : SmDs n m ds) : SmD n (m + 1) (.tuple ds) := by
  obtain ⟨b1, b2, b3, b4, b5⟩ := h
  exact ⟨by rw [PyData.leavesShort]; exact b1, by rw [PyData.showable]; exact b2, by rw [PyData.bulk]; exact b3, by rw [PyData.depth]; omega, by rw [PyData.hasDict]; exact b5⟩
theorem SmD.lst {n m : Nat} {ds : List PyData} (h : SmDs n m ds) : SmD n (m + 1) (.list ds) := by
  obtain ⟨b1, b2, b3, b4, b5⟩ := h
  exact ⟨by rw [PyData.leavesShort]; exact b1, by rw [PyData.showable]; exact b2, by rw [PyData.bulk]; exact b3, by rw [PyData.depth]; omega, by rw [PyData.hasDict]; exact b5⟩
theorem SmD.mono {n m n2 m2 : Nat} {d : PyData} (h : SmD n m d) (a : n ≤ n2) (b : m ≤ m2) : SmD n2 m2 d := ⟨h.lv, h.sh, Nat.le_trans h.bk a, Nat.le_trans h.dp b, h.nd⟩
theorem SmD.name {x : Str} (h : IsName x) : SmD 8 0 (.str x) := ⟨h.lv, by simp [PyData.showable], h.bk, by simp [PyData.depth], by simp [PyData.hasDict]⟩
theorem SmDs.names : ∀ {xs : List Str}, (∀ x ∈ xs, IsName x) → SmDs (9 * xs.length) 0 (xs.map PyData.str)
  | [], _ => SmDs.nil
  | x :: r, h => by
    have a := SmDs.cons (SmD.name (h x List.mem_cons_self)) (SmDs.names fun y hy => h y (List.mem_cons_of_mem _ hy))
    rw [List.map_cons, List.length_cons]
    exact ⟨a.lv, a.sh, by have := a.bk; omega, a.dp, a.nd⟩
theorem SmDs.of {n m : Nat} : ∀ {ds : List PyData}, (∀ d ∈ ds, SmD n m d) → SmDs ((n + 1) * ds.length) m ds
  | [], _ => ⟨SmDs.nil.lv, SmDs.nil.sh, by simp [PyData.bulkAll], by simp [PyData.depthAll], SmDs.nil.nd⟩
  | d :: ds, h => by
    obtain ⟨a1, a2, a3, a4, a5⟩ := h d List.mem_cons_self
    obtain ⟨b1, b2, b3, b4, b5⟩ := SmDs.of (n := n) (m := m) fun y hy => h y (List.mem_cons_of_mem _ hy)
    refine ⟨by rw [PyData.leavesShortAll, a1, b1]; rfl, by rw [PyData.showableAll, a2, b2]; rfl, ?_, ?_, by rw [PyData.hasDictAll, a5, b5]; rfl⟩
    · rw [PyData.bulkAll, List.length_cons, Nat.mul_succ]
      omega
    · rw [PyData.depthAll]
      omega
theorem Dp.same {K : PySem.W.Frag} {H H' : Hp} {v : V} {d : PyData} (h : Dp K H v d) (s : Same H H') : Dp K H' v d := dp_ext
  (fun a xs q => by
    rcases q with (q | ⟨o, q⟩) | q
    · exact .inl (.inl (s _ _ q))
    · exact .inl (.inr ⟨o, s _ _ q⟩)
    · exact .inr q) (fun a xs q => Same.seqT s q) _ _ h
end U


/-! k61: _law_random_tree -/
namespace U
open PySem PySem.Spec PyProof.Rows L2
def TrOk : Nat → Tr → Prop
  | _, .no => True
  | _, .leaf l x y => SmD 8 0 (.str l) ∧ SmD 8 0 (.str x) ∧ SmD 8 0 (.str y)
  | 0, .node _ _ _ => False
  | n + 1, .node l x ts => SmD 8 0 (.str l) ∧ SmD 8 0 (.str x) ∧ ts.length ≤ 4 ∧ ∀ t ∈ ts, TrOk n t
def szT : Nat → Nat
  | 0 => 30
  | n + 1 => 4 * (szT n + 1) + 30
theorem szT_ge : ∀ n, 30 ≤ szT n
  | 0 => Nat.le_refl _
  | n + 1 => by
    show 30 ≤ 4 * (szT n + 1) + 30
    omega
theorem nm_conf : IsName "conflict" := ⟨by decide, by decide, by decide⟩
theorem nm_branch : IsName "branch" := ⟨by decide, by decide, by decide⟩
theorem sm_int {i : Int} (h0 : 0 ≤ i) (h1 : i < 3) : SmD 8 0 (.int i) := by
  obtain ⟨a, b⟩ := int3_lv h0 h1
  exact ⟨a, b, by simp [PyData.bulk], by simp [PyData.depth], by simp [PyData.hasDict]⟩
theorem RtAt.dp {K : PySem.W.Frag} {p : Addr → Prop} {H : Hp} : ∀ {n : Nat} {v : V} {t : Tr}, RtAt n p H v t → TrOk n t → ∃ d, Dp K H v d ∧ SmD (szT n) (2 * n + 1) d
  | n, v, .no, h, _ => by
    have := szT_ge n
    unfold RtAt at h
    rcases h with rfl | rfl | ⟨a, rfl, h | h⟩
    · exact ⟨_, .non, (show SmD 8 0 PyData.none from ⟨by simp [PyData.leavesShort], by simp [PyData.showable], by simp [PyData.bulk], by simp [PyData.depth], by simp [PyData.hasDict]⟩).mono (by omega) (by omega)⟩
    · exact ⟨_, .str _, (SmD.name (x := "ab") ⟨by decide, by decide, by decide⟩).mono (by omega) (by omega)⟩
    · exact ⟨_, .tup (SqT.of h) .nil, (SmD.tup SmDs.nil).mono (by omega) (by omega)⟩
    · exact ⟨_, .tup (SqT.of h) (.cons (.str _) (.cons (.int _) (.cons (.int _) .nil))), (SmD.tup (SmDs.cons (SmD.name nm_conf) (SmDs.cons (sm_int (by decide) (by decide)) (SmDs.cons (sm_int (by decide) (by decide)) SmDs.nil)))).mono (by omega) (by omega)⟩
  | n, v, .leaf l x y, h, ok => by
    have := szT_ge n
    unfold RtAt at h
    unfold TrOk at ok
    obtain ⟨a, rfl, h⟩ := h
    exact ⟨_, .tup (SqT.of h) (.cons (.str _) (.cons (.str _) (.cons (.str _) .nil))), (SmD.tup (SmDs.cons ok.1 (SmDs.cons ok.2.1 (SmDs.cons ok.2.2 SmDs.nil)))).mono (by omega) (by omega)⟩
  | 0, v, .node l x ts, h, _ => by
    unfold RtAt at h
    exact h.elim
  | n + 1, v, .node l x ts, h, ok => by
    unfold RtAt at h
    unfold TrOk at ok
    obtain ⟨a, q, vs, rfl, h1, h2, h3, pr⟩ := h
    obtain ⟨o1, o2, o3, o4⟩ := ok
    have all : ∃ ds : List PyData, DpAll K H vs ds ∧ ds.length = ts.length ∧ ∀ d ∈ ds, SmD (szT n) (2 * n + 1) d := by
      clear h2 o3
      induction pr with
      | nil => exact ⟨[], .nil, rfl, fun d h => nomatch h⟩
      | @cons b t xs ys z r ih =>
        obtain ⟨d, hd, sd⟩ := RtAt.dp z (o4 t List.mem_cons_self)
        obtain ⟨ds, hds, e, sds⟩ := ih fun t ht => o4 t (List.mem_cons_of_mem _ ht)
        refine ⟨d :: ds, .cons hd hds, congrArg (· + 1) e, fun z hz => ?_⟩
        rcases List.mem_cons.mp hz with rfl | hz
        · exact sd
        · exact sds z hz
    obtain ⟨ds, hds, e, sds⟩ := all
    refine ⟨_, .tup (SqT.of h1) (.cons (.str _) (.cons (.str _) (.cons (.lst (SqL.of h2) hds) .nil))), (SmD.tup (SmDs.cons o1 (SmDs.cons o2 (SmDs.cons (SmD.lst (SmDs.of sds)) SmDs.nil)))).mono ?_ (by omega)⟩
    show _ ≤ 4 * (szT n + 1) + 30
    have : (szT n + 1) * ds.length ≤ (szT n + 1) * 4 := Nat.mul_le_mul_left _ (by omega)
    omega
end U
namespace Law
open PySem PySem.Spec PyProof.Rows L2 U


theorem GrN.go {p : Addr} {H H' : Hp} {g n e : Addr} {ns : List Str} {es : List (Addr × Str × Str)} (h : GrN H g n e ns es) (hp : PoolAt H p) (b : Go p H H') : GrN H' g n e ns es :=
  ⟨⟨b.at h.gr.top (hp.offTB h.gr.top), b.at h.gr.nodes (hp.offTB h.gr.nodes), b.at h.gr.edges (hp.offTB h.gr.edges), fun x hx => b.at (h.gr.pairs x hx) (hp.offTB (h.gr.pairs x hx))⟩, h.nm, h.nd, h.mem, h.so, h.ne, h.l1, h.l2⟩
section
variable {P : Program} {w : World} {K : PySem.W.Frag} {mg : Str → Option Value} {base : Heap}
end
end Law

/-! texts of moves, told apart -/
namespace U
open PySem PySem.Spec PyProof.Rows L2
def Lett (x : List Nat) : Prop := ∀ c ∈ x, c = 65 ∨ (97 ≤ c ∧ c ≤ 122)
theorem Lett.no {x : List Nat} (h : Lett x) : 39 ∉ x := fun z => by
  have := h 39 z
  omega
theorem rc_let : ∀ c, c < 123 → (c = 65 ∨ 97 ≤ c) → PySem.Builtin.Str.reprChar 39 c = [c] := by decide +kernel
theorem fold_let : ∀ (l : List Nat) (acc : Array Nat), Lett l → (l.foldl (fun out c => out ++ (PySem.Builtin.Str.reprChar 39 c).toArray) acc).toList = acc.toList ++ l
  | [], acc, _ => (List.append_nil _).symm
  | c :: l, acc, h => by
    have hc := h c List.mem_cons_self
    rw [List.foldl_cons, fold_let l _ fun d hd => h d (List.mem_cons_of_mem _ hd), rc_let c (by omega) (by omega), Array.toList_append]
    simp
theorem rep_let {x : Str} (h : Lett x.cps.toList) : (reprText x).cps.toList = 39 :: (x.cps.toList ++ [39]) := by
  have q : reprQuote x = 39 := by
    unfold reprQuote
    have : x.cps.contains 39 = false := by
      cases e : x.cps.contains 39 with
      | false => rfl
      | true =>
        have := Array.contains_iff.mp e
        exact absurd (Array.mem_toList_iff.mpr this) h.no
    rw [this]
    rfl
  unfold reprText
  rw [q]
  show ((x.cps.foldl _ #[39]).push 39).toList = _
  rw [Array.toList_push, ← Array.foldl_toList, fold_let _ _ h]
  rfl
theorem shown_str {x : Str} : (PyData.str x).shown = reprText x := by simp only [PyData.shown]
end U


/-! k60: a tree with one list grown is shown with one "~" (plain) -/
namespace U
open PySem PySem.Spec PyProof.Rows L2
def cntD (d : PyData) : Int := cnt 126 d.shown.cps.toList
theorem cntAll (ds : List PyData) : ((PyData.shownAll ds).map fun t => cnt 126 t.cps.toList) = ds.map cntD := by
  induction ds with
  | nil => rfl
  | cons d ds ih =>
    rw [PyData.shownAll, List.map_cons, List.map_cons, ih]
    rfl
theorem cntD_list {ds : List PyData} : cntD (.list ds) = (ds.map cntD).sum := by
  unfold cntD
  rw [PyData.shown_list, cps_toList_append, cps_toList_append, cnt_append, cnt_append, cnt_join_sum, cntAll, show cnt 126 (("[" : String) : Str).cps.toList = 0 from by decide +kernel, show cnt 126 (("]" : String) : Str).cps.toList = 0 from by decide +kernel, show cnt 126 ((", " : String) : Str).cps.toList = 0 from by decide +kernel]
  simp
  rfl
theorem cntD_tuple {ds : List PyData} : cntD (.tuple ds) = (ds.map cntD).sum := by
  unfold cntD
  rw [PyData.shown_tuple, cps_toList_append, cps_toList_append, cnt_append, cnt_append, cnt_join_sum, cntAll, show cnt 126 (("(" : String) : Str).cps.toList = 0 from by decide +kernel, show cnt 126 ((", " : String) : Str).cps.toList = 0 from by decide +kernel]
  have : cnt 126 ((if (ds.length == 1) = true then ",)" else ")" : String) : Str).cps.toList = 0 := by
    split <;> decide +kernel
  rw [this]
  simp
  rfl
theorem cntD_name {x : Str} (h : IsName x) : cntD (.str x) = 0 := by
  unfold cntD
  rw [shown_str, rep_let (fun c hc => .inr (h.ch c hc))]
  refine cnt_none _ _ fun m => ?_
  rcases List.mem_cons.mp m with m | m
  · cases m
  · rcases List.mem_append.mp m with m | m
    · have := (h.ch _ m).2
      omega
    · rw [List.mem_singleton] at m
      cases m
theorem cntD_wave : cntD (.str "~") = 1 := by
  unfold cntD
  decide +kernel
/-- names as texts, three parts -/
def TrNm : Nat → Tr → Prop
  | _, .no => False
  | _, .leaf l x y => IsName l ∧ IsName x ∧ IsName y
  | 0, .node _ _ _ => False
  | n + 1, .node l x ts => IsName l ∧ IsName x ∧ ts.length = 3 ∧ ∀ t ∈ ts, TrNm n t
theorem treeF_nm {ns : List Str} {es : List (Str × Str)} (nm : ∀ x ∈ ns, IsName x) (mem : ∀ e ∈ es, e.1 ∈ ns ∧ e.2 ∈ ns) : ∀ {n : Nat} {tr : List (Str × Int)}, extF ns es n tr = none → PreN ns tr → tr.length + n = ns.length → ns.Nodup → TrNm n (treeF ns es n tr)
  | 0, tr, ex, _, _, _ => by
    unfold extF at ex
    unfold treeF
    cases c : confF es tr with
    | none =>
      rw [c] at ex
      cases ex
    | some e =>
      have m := List.mem_of_find?_eq_some c
      unfold TrNm
      exact ⟨nm_conf, nm _ (mem e m).1, nm _ (mem e m).2⟩
  | n + 1, tr, ex, pre, ln, nd => by
    unfold extF at ex
    unfold treeF
    cases c : confF es tr with
    | some e =>
      have m := List.mem_of_find?_eq_some c
      unfold TrNm
      exact ⟨nm_conf, nm _ (mem e m).1, nm _ (mem e m).2⟩
    | none =>
      rw [c, if_neg (by decide)] at ex
      obtain ⟨x0, x12⟩ := Option.or_eq_none_iff.mp ex
      obtain ⟨x1, x2⟩ := Option.or_eq_none_iff.mp x12
      have kl : tr.length < ns.length := by omega
      have gd : ns.getD tr.length "" = ns[tr.length] := getDU kl
      rw [gd] at x0 x1 x2
      have sub : ∀ v : Int, extF ns es n (putS tr ns[tr.length] v) = none → TrNm n (treeF ns es n (putS tr ns[tr.length] v)) := fun v z => by
        obtain ⟨pe, pp⟩ := PreN.put (v := v) nd pre kl
        exact treeF_nm nm mem z (by rw [pe]; exact pp) (by rw [pe, List.length_append, List.length_singleton]; omega) nd
      dsimp only
      rw [gd]
      unfold TrNm
      refine ⟨nm_branch, nm _ (List.getElem_mem kl), rfl, fun t ht => ?_⟩
      simp only [List.map_cons, List.map_nil, List.mem_cons, List.not_mem_nil, or_false] at ht
      rcases ht with rfl | rfl | rfl
      · exact sub 0 x0
      · exact sub 1 x1
      · exact sub 2 x2
theorem dgAll_snoc {H : Hp} {v : V} {d : PyData} (hd : Dg H v d) : ∀ {vs : List V} {ds : List PyData}, DgAll H vs ds → DgAll H (vs ++ [v]) (ds ++ [d])
  | _, _, .nil => .cons hd .nil
  | _, _, .cons a r => .cons a (dgAll_snoc hd r)
/-- a tree, one of its lists grown: its data, with as many "~" as that list occurs in it -/
theorem DtAt.wave {H : Hp} {b : Addr} {xs : List V} (hb : H b = some (.lst xs)) : ∀ {n : Nat} {v : V} {t : Tr} {L : List Addr}, DtAt n H v t L → TrNm n t → ∃ d, Dg (upd H b (.lst (xs ++ [.str "~"]))) v d ∧ SmD (szT n) (2 * n + 1) d ∧ cntD d = L.count b
  | n, v, .no, L, h, _ => by
    unfold DtAt at h
    exact h.elim
  | n, v, .leaf l x y, L, h, ok => by
    have := szT_ge n
    unfold DtAt at h
    unfold TrNm at ok
    obtain ⟨rfl, a, rfl, h⟩ := h
    refine ⟨_, .tup (at_upd (ne_of h hb (by intro z; cases z)) h) (.cons (.atm (.inr (.inr (.inr ⟨_, rfl⟩)))) (.cons (.atm (.inr (.inr (.inr ⟨_, rfl⟩)))) (.cons (.atm (.inr (.inr (.inr ⟨_, rfl⟩)))) .nil))), (SmD.tup (SmDs.cons (SmD.name ok.1) (SmDs.cons (SmD.name ok.2.1) (SmDs.cons (SmD.name ok.2.2) SmDs.nil)))).mono (by omega) (by omega), ?_⟩
    rw [cntD_tuple]
    show (cntD (.str l) + (cntD (.str x) + (cntD (.str y) + 0)) : Int) = _
    rw [cntD_name ok.1, cntD_name ok.2.1, cntD_name ok.2.2]
    rfl
  | 0, v, .node l x ts, L, h, _ => by
    unfold DtAt at h
    exact h.elim
  | n + 1, v, .node l x ts, L, h, ok => by
    unfold DtAt at h
    unfold TrNm at ok
    obtain ⟨a, q, vs, cs, rfl, h1, h2, rfl, rfl, pr⟩ := h
    obtain ⟨o1, o2, o3, o4⟩ := ok
    have all : ∃ ds : List PyData, DgAll (upd H b (.lst (xs ++ [.str "~"]))) vs ds ∧ ds.length = cs.length ∧ (∀ d ∈ ds, SmD (szT n) (2 * n + 1) d) ∧ (ds.map cntD).sum = ((cs.map (·.2)).flatten.count b : Nat) := by
      clear h2 o3
      induction pr with
      | nil => exact ⟨[], .nil, rfl, (fun d h => nomatch h), rfl⟩
      | @cons w c us ys z r ih =>
        obtain ⟨d, hd, sd, cd⟩ := DtAt.wave hb z (o4 c.1 (by rw [List.map_cons]; exact List.mem_cons_self))
        obtain ⟨ds, hds, e, sds, cds⟩ := ih fun t ht => o4 t (by rw [List.map_cons]; exact List.mem_cons_of_mem _ ht)
        refine ⟨d :: ds, .cons hd hds, congrArg (· + 1) e, fun z hz => ?_, ?_⟩
        · rcases List.mem_cons.mp hz with rfl | hz
          · exact sd
          · exact sds z hz
        · rw [List.map_cons, List.sum_cons, cds, cd, List.map_cons, List.flatten_cons, List.count_append]
          omega
    obtain ⟨ds, hds, e, sds, cds⟩ := all
    rw [List.length_map] at o3
    have hq : ∃ ys : List V, ∃ es : List PyData, (upd H b (.lst (xs ++ [.str "~"]))) q = some (.lst ys) ∧ DgAll (upd H b (.lst (xs ++ [.str "~"]))) ys es ∧ es.length ≤ 4 ∧ (∀ d ∈ es, SmD (szT n) (2 * n + 1) d) ∧ (es.map cntD).sum = ((q :: (cs.map (·.2)).flatten).count b : Nat) := by
      by_cases eq : q = b
      · subst eq
        rw [hb] at h2
        have e2 : xs = vs := HO.lst.inj (Option.some.inj h2)
        subst e2
        refine ⟨_, ds ++ [.str "~"], upd_same, dgAll_snoc (.atm (.inr (.inr (.inr ⟨_, rfl⟩)))) hds, by rw [List.length_append, List.length_singleton]; omega, fun d hd => ?_, ?_⟩
        · rcases List.mem_append.mp hd with hd | hd
          · exact sds d hd
          · rw [List.mem_singleton.mp hd]
            have := szT_ge n
            exact (show SmD 8 0 (.str "~") from ⟨by decide +kernel, by simp [PyData.showable], by rw [PyData.bulk]; decide +kernel, by simp [PyData.depth], by simp [PyData.hasDict]⟩).mono (by omega) (by omega)
        · rw [List.map_append, List.sum_append, cds, List.count_cons_self]
          show _ + (cntD (.str "~") + 0) = _
          rw [cntD_wave]
          omega
      · refine ⟨vs, ds, at_upd eq h2, hds, by omega, sds, ?_⟩
        rw [cds, List.count_cons_of_ne eq]
    obtain ⟨ys, es, hq, dg, l4, sm, cn⟩ := hq
    refine ⟨_, .tup (at_upd (ne_of h1 hb (by intro z; cases z)) h1) (.cons (.atm (.inr (.inr (.inr ⟨_, rfl⟩)))) (.cons (.atm (.inr (.inr (.inr ⟨_, rfl⟩)))) (.cons (.lst hq dg) .nil))), (SmD.tup (SmDs.cons (SmD.name o1) (SmDs.cons (SmD.name o2) (SmDs.cons (SmD.lst (SmDs.of sm)) SmDs.nil)))).mono ?_ (by omega), ?_⟩
    · show _ ≤ 4 * (szT n + 1) + 30
      have : (szT n + 1) * es.length ≤ (szT n + 1) * 4 := Nat.mul_le_mul_left _ l4
      omega
    · rw [cntD_tuple]
      show (cntD (.str l) + (cntD (.str x) + (cntD (.list es) + 0)) : Int) = _
      rw [cntD_name o1, cntD_name o2, cntD_list, cn]
      omega
/-- a tree's lists, seen as nested data -/
theorem DtAt.nest {H : Hp} : ∀ {n : Nat} {v : V} {t : Tr} {L : List Addr}, DtAt n H v t L → TrNm n t → LsAt H (2 * n + 1) v L
  | n, v, .no, L, h, _ => by
    unfold DtAt at h
    exact h.elim
  | n, v, .leaf l x y, L, h, _ => by
    unfold DtAt at h
    obtain ⟨rfl, a, rfl, h⟩ := h
    have at0 : ∀ s : Str, LsAt H (2 * n) (.str s) [] := fun s => by
      cases n with
      | zero => exact ⟨.inr (.inl ⟨s, rfl⟩), rfl⟩
      | succ n => exact .inl ⟨.inr (.inl ⟨s, rfl⟩), rfl⟩
    exact .inr ⟨a, _, [[], [], []], rfl, by show 3 ≤ 1000; decide, .cons (at0 _) (.cons (at0 _) (.cons (at0 _) .nil)), .inl ⟨h, rfl⟩⟩
  | 0, v, .node l x ts, L, h, _ => by
    unfold DtAt at h
    exact h.elim
  | n + 1, v, .node l x ts, L, h, ok => by
    unfold DtAt at h
    unfold TrNm at ok
    obtain ⟨a, q, vs, cs, rfl, h1, h2, rfl, rfl, pr⟩ := h
    obtain ⟨o1, o2, o3, o4⟩ := ok
    have vl := Paired.lenR pr
    rw [List.length_map] at o3
    have sub : Paired (LsAt H (2 * n + 1)) vs (cs.map (·.2)) := by
      clear h2 o3 vl
      induction pr with
      | nil => exact .nil
      | @cons w c us ys z r ih =>
        exact .cons (DtAt.nest z (o4 c.1 (by rw [List.map_cons]; exact List.mem_cons_self))) (ih fun t ht => o4 t (by rw [List.map_cons]; exact List.mem_cons_of_mem _ ht))
    have at0 : ∀ s : Str, LsAt H (2 * n + 2) (.str s) [] := fun s => .inl ⟨.inr (.inl ⟨s, rfl⟩), rfl⟩
    have lq : LsAt H (2 * n + 2) (.ref q) (q :: (cs.map (·.2)).flatten) := .inr ⟨q, vs, cs.map (·.2), rfl, by omega, sub, .inr ⟨h2, rfl⟩⟩
    refine .inr ⟨a, _, [[], [], q :: (cs.map (·.2)).flatten], rfl, by show 3 ≤ 1000; decide, .cons (at0 _) (.cons (at0 _) (.cons lq .nil)), .inl ⟨h1, ?_⟩⟩
    simp
end U


/-! k60: the wheel and the complete graph (plain) -/
namespace U
open PySem PySem.Spec PyProof.Rows L2
def datN : Nat → Tr → PyData
  | _, .no => .none
  | _, .leaf l x y => .tuple [.str l, .str x, .str y]
  | 0, .node _ _ _ => .none
  | n + 1, .node l x ts => .tuple [.str l, .str x, .list (ts.map (datN n))]
theorem DtAt.dat {H : Hp} : ∀ {n : Nat} {v : V} {t : Tr} {L : List Addr}, DtAt n H v t L → Dg H v (datN n t)
  | n, v, .no, L, h => by
    unfold DtAt at h
    exact h.elim
  | n, v, .leaf l x y, L, h => by
    unfold DtAt at h
    unfold datN
    obtain ⟨rfl, a, rfl, h⟩ := h
    exact .tup h (.cons (.atm (.inr (.inr (.inr ⟨_, rfl⟩)))) (.cons (.atm (.inr (.inr (.inr ⟨_, rfl⟩)))) (.cons (.atm (.inr (.inr (.inr ⟨_, rfl⟩)))) .nil)))
  | 0, v, .node l x ts, L, h => by
    unfold DtAt at h
    exact h.elim
  | n + 1, v, .node l x ts, L, h => by
    unfold DtAt at h
    unfold datN
    obtain ⟨a, q, vs, cs, rfl, h1, h2, rfl, rfl, pr⟩ := h
    have all : DgAll H vs ((cs.map (·.1)).map (datN n)) := by
      clear h2
      induction pr with
      | nil => exact .nil
      | @cons w c us ys z r ih => exact .cons (DtAt.dat z) ih
    exact .tup h1 (.cons (.atm (.inr (.inr (.inr ⟨_, rfl⟩)))) (.cons (.atm (.inr (.inr (.inr ⟨_, rfl⟩)))) (.cons (.lst h2 all) .nil)))
def wheelN : List Str := ["a", "b", "c", "d", "e", "f", "g", "h"]
def wheelE : List (Str × Str) := [("a", "b"), ("a", "c"), ("a", "d"), ("a", "e"), ("a", "f"), ("b", "c"), ("b", "f"), ("c", "d"), ("d", "e"), ("e", "f"), ("g", "h")]
def cmplN : List Str := ["a", "b", "c", "d"]
def cmplE : List (Str × Str) := [("a", "b"), ("a", "c"), ("a", "d"), ("b", "c"), ("b", "d"), ("c", "d")]
theorem w_none : extF wheelN wheelE 8 [] = none := by decide +kernel
theorem c_none : extF cmplN cmplE 4 [] = none := by decide +kernel
def isTwo : Tr → Bool
  | .node _ _ (.node _ _ (_ :: _) :: _) => true
  | _ => false
theorem w_two : isTwo (treeF wheelN wheelE 8 []) = true := by decide +kernel
theorem w_shows : Shows (datN 8 (treeF wheelN wheelE 8 [])) := ⟨by decide +kernel, by decide +kernel, by decide +kernel, by decide +kernel⟩
theorem wE_asc : AscE wheelE := by
  unfold AscE eLt
  decide +kernel
end U


/-! k60: _law_wheel_holds -/
namespace Law
open PySem PySem.Spec PyProof.Rows L2 U


def spLTree8 (K : PySem.W.Frag) : Sp := fun vs H Q E => ∃ n, n ≤ 8 ∧ spLTree K n vs H Q E
def spWheel : Sp := fun vs H Q _ => vs = [] ∧ ∀ H' : Hp, Same H H' → Q (.bl true) H'
theorem DtAt.ls3 {H : Hp} : ∀ {n : Nat} {v : V} {t : Tr} {L : List Addr}, DtAt n H v t L → TrNm n t → L.length + 1 ≤ 4 ^ n ∧ ∀ q ∈ L, ∃ xs, H q = some (.lst xs) ∧ xs.length = 3
  | n, v, .no, L, h, _ => by
    unfold DtAt at h
    exact h.elim
  | n, v, .leaf l x y, L, h, _ => by
    unfold DtAt at h
    rw [h.1]
    exact ⟨Nat.one_le_pow _ _ (by decide), fun q m => nomatch m⟩
  | 0, v, .node l x ts, L, h, _ => by
    unfold DtAt at h
    exact h.elim
  | n + 1, v, .node l x ts, L, h, ok => by
    unfold DtAt at h
    unfold TrNm at ok
    obtain ⟨a, q, vs, cs, rfl, h1, h2, rfl, rfl, pr⟩ := h
    obtain ⟨_, _, o3, o4⟩ := ok
    have vl := Paired.lenR pr
    rw [List.length_map] at o3
    have sub : ((cs.map (·.2)).flatten.length + cs.length ≤ cs.length * 4 ^ n) ∧ ∀ q ∈ (cs.map (·.2)).flatten, ∃ xs, H q = some (.lst xs) ∧ xs.length = 3 := by
      clear h2 o3 vl
      induction pr with
      | nil => exact ⟨by simp, fun q m => nomatch m⟩
      | @cons w c us ys z r ih =>
        obtain ⟨a1, a2⟩ := DtAt.ls3 z (o4 c.1 (by rw [List.map_cons]; exact List.mem_cons_self))
        obtain ⟨b1, b2⟩ := ih fun t ht => o4 t (by rw [List.map_cons]; exact List.mem_cons_of_mem _ ht)
        refine ⟨?_, fun q m => ?_⟩
        · rw [List.map_cons, List.flatten_cons, List.length_append, List.length_cons, Nat.succ_mul]
          omega
        · rw [List.map_cons, List.flatten_cons] at m
          rcases List.mem_append.mp m with m | m
          · exact a2 q m
          · exact b2 q m
    refine ⟨?_, fun p m => ?_⟩
    · rw [List.length_cons, Nat.pow_succ]
      have := sub.1
      rw [o3] at this
      omega
    · rcases List.mem_cons.mp m with rfl | m
      · exact ⟨_, h2, by omega⟩
      · exact sub.2 p m
theorem dg_tup {H : Hp} {a : Addr} {vs : List V} {d : PyData} (h : Dg H (.ref a) d) (ha : H a = some (.tup vs)) : ∃ ds, d = .tuple ds ∧ DgAll H vs ds := by
  cases h with
  | atm h =>
    rcases h with h | ⟨_, h⟩ | ⟨_, h⟩ | ⟨_, h⟩ <;> cases h
  | tup h t =>
    rw [ha] at h
    cases h
    exact ⟨_, rfl, t⟩
  | lst h t =>
    rw [ha] at h
    cases h
  | dct h t =>
    rw [ha] at h
    cases h
theorem DtAt.top {H : Hp} {n : Nat} {v : V} {t : Tr} {L : List Addr} (h : DtAt n H v t L) : ∃ a vs, v = .ref a ∧ H a = some (.tup vs) := by
  match n, t, h with
  | n, .no, h =>
    unfold DtAt at h
    exact h.elim
  | n, .leaf l x y, h =>
    unfold DtAt at h
    obtain ⟨_, a, e, h⟩ := h
    exact ⟨a, _, e, h⟩
  | 0, .node l x ts, h =>
    unfold DtAt at h
    exact h.elim
  | n + 1, .node l x ts, h =>
    unfold DtAt at h
    obtain ⟨a, q, vs, cs, e, h1, _⟩ := h
    exact ⟨a, _, e, h1⟩
theorem one_t {H : Hp} {n : Nat} {a : Addr} {t : Tr} {L : List Addr} (n4 : n ≤ 4) (h : DtAt n H (.ref a) t L) (ok : TrNm n t) (nd : L.Nodup) {b : Addr} (m : b ∈ L) : OneT H a b := fun H0 xs s hb => by
  have h0 := h.same s
  obtain ⟨ys, hy, yl⟩ := (DtAt.ls3 h0 ok).2 b m
  rw [hb] at hy
  obtain rfl : xs = ys := HO.lst.inj (Option.some.inj hy)
  obtain ⟨d, dg, sm, cn⟩ := h0.wave hb ok
  obtain ⟨a2, vs, e, ha⟩ := DtAt.top h0
  cases e
  have ha2 := at_upd (o := .lst (xs ++ [.str "~"])) (ne_of ha hb (fun z => nomatch z)) ha
  obtain ⟨ds, rfl, all⟩ := dg_tup dg ha2
  have mono : ∀ {k m : Nat}, k ≤ m → szT k ≤ szT m := fun {k m} h => by
    induction h with
    | refl => exact Nat.le_refl _
    | @step m _ ih =>
      show szT k ≤ 4 * (szT m + 1) + 30
      omega
  have bound : szT n ≤ szT 4 := mono n4
  have e4 : szT 4 ≤ 2 ^ 20 := by decide +kernel
  refine ⟨by omega, vs, ds, ha2, all, ⟨sm.sh, sm.lv, by have := sm.bk; omega, by have := sm.dp; omega⟩, ?_⟩
  have := PyProof.Rows.count_cnt (PyData.tuple ds).shown 126
  rw [show ("~" : Str) = ⟨#[126]⟩ from by decide +kernel, this]
  unfold cntD at cn
  have c1 := List.nodup_iff_count.mp nd b
  have c2 := List.count_pos_iff.mpr m
  rw [cn]
  omega
theorem two_t : ∃ l x l2 x2 t ts rest, treeF wheelN wheelE 8 [] = .node l x (.node l2 x2 (t :: ts) :: rest) := by
  have h := w_two
  cases e : treeF wheelN wheelE 8 [] with
  | no => rw [e] at h; cases h
  | leaf _ _ _ => rw [e] at h; cases h
  | node l x us =>
    rw [e] at h
    match us, h with
    | .node l2 x2 (t :: ts) :: rest, _ => exact ⟨l, x, l2, x2, t, ts, rest, rfl⟩
theorem uniq_ltW {xs ys : List (Str × Str)} (a : AscE xs) (b : AscE ys) (p : xs.Perm ys) : xs = ys := p.eq_of_pairwise (fun x y _ _ h1 h2 => absurd h2 (eLt_asymm h1)) a b
theorem bcd_at : ∀ j, j < 5 → ("bcdef" : Str).cps[j]? = some (98 + j) := by decide +kernel
theorem wE_at : ∀ j, j < 5 → (wheelE.take 5)[j]? = some ((("a" : Str), (⟨#[98 + j]⟩ : Str))) := by decide +kernel
theorem GrN.updL {H : Hp} {g nA e D : Addr} {xs : List V} {o : HO} {ns : List Str} {es : List (Addr × Str × Str)} (h : GrN H g nA e ns es) (hD : H D = some (.lst xs)) : GrN (upd H D o) g nA e ns es := by
  have k : ∀ {a : Addr} {ys : List V}, H a = some (.tup ys) → (upd H D o) a = some (.tup ys) := fun ha => at_upd (ne_of ha hD (fun z => nomatch z)) ha
  exact ⟨⟨k h.gr.top, k h.gr.nodes, k h.gr.edges, fun x hx => k (h.gr.pairs x hx)⟩, h.nm, h.nd, h.mem, h.so, h.ne, h.l1, h.l2⟩
theorem gr_w {H : Hp} {g nA e : Addr} {es : List (Addr × Str × Str)} (hg : H g = some (.tup [.ref nA, .ref e])) (hn : H nA = some (.tup (wheelN.map V.str))) (he : H e = some (.tup (es.map fun x => V.ref x.1))) (tp : PrsAt H es) (ee : es.map (·.2) = wheelE) : GrN H g nA e wheelN es := by
  have f1 : ∀ x ∈ wheelN, 1 ≤ x.length ∧ x.length ≤ 8 ∧ ∀ c ∈ x.cps.toList, 97 ≤ c ∧ c ≤ 122 := by decide +kernel
  have f2 : ∀ x ∈ wheelE, (x.1 ∈ wheelN ∧ x.2 ∈ wheelN) ∧ eOf x.1 x.2 = x ∧ x.1 ≠ x.2 := by decide +kernel
  have el := congrArg List.length ee
  rw [List.length_map] at el
  refine ⟨⟨hg, hn, he, tp⟩, fun x hx => ?_, by decide +kernel, fun x hx => ?_, fun x hx => ?_, fun x hx => ?_, by decide, by rw [el]; decide⟩
  · obtain ⟨a, b, c⟩ := f1 x hx
    exact ⟨a, b, c⟩
  · rw [ee] at hx
    exact (f2 x hx).1
  · rw [ee] at hx
    exact (f2 x hx).2.1
  · rw [ee] at hx
    exact (f2 x hx).2.2
theorem gr_c {H : Hp} {g nA e : Addr} {es : List (Addr × Str × Str)} (hg : H g = some (.tup [.ref nA, .ref e])) (hn : H nA = some (.tup (cmplN.map V.str))) (he : H e = some (.tup (es.map fun x => V.ref x.1))) (tp : PrsAt H es) (ee : es.map (·.2) = cmplE) : GrN H g nA e cmplN es := by
  have f1 : ∀ x ∈ cmplN, 1 ≤ x.length ∧ x.length ≤ 8 ∧ ∀ c ∈ x.cps.toList, 97 ≤ c ∧ c ≤ 122 := by decide +kernel
  have f2 : ∀ x ∈ cmplE, (x.1 ∈ cmplN ∧ x.2 ∈ cmplN) ∧ eOf x.1 x.2 = x ∧ x.1 ≠ x.2 := by decide +kernel
  have el := congrArg List.length ee
  rw [List.length_map] at el
  refine ⟨⟨hg, hn, he, tp⟩, fun x hx => ?_, by decide +kernel, fun x hx => ?_, fun x hx => ?_, fun x hx => ?_, by decide, by rw [el]; decide⟩
  · obtain ⟨a, b, c⟩ := f1 x hx
    exact ⟨a, b, c⟩
  · rw [ee] at hx
    exact (f2 x hx).1
  · rw [ee] at hx
    exact (f2 x hx).2.1
  · rw [ee] at hx
    exact (f2 x hx).2.2
section
variable {P : Program} {w : World} {K : PySem.W.Frag} {mg : Str → Option Value} {base : Heap}
theorem ok_ltree8 {f : Addr} {fd : FuncData} (F : Fun K "_law_tree" "_law_tree" s__law_tree f fd) (B : Bt mg) (S : SelfR K mg "_law_tree" f fd ["_law_graph", "_law_tree_here", "_law_tried"]) : FnG P w K mg base CX0 10 f fd ["_law_graph", "_law_tree_here", "_law_tried"] (spLTree8 K) := by
  exact ⟨fun vs H Q E h => by
    obtain ⟨m, hm, h⟩ := h
    exact (ok_ltree (P := P) (w := w) (base := base) F B S m).len vs H Q E h, fun A outer s H args us vs Q E hr he hb hv h => by
    obtain ⟨m, hm, h⟩ := h
    exact (ok_ltree (P := P) (w := w) (base := base) F B S m).go A outer s H args us vs Q E (hr.mono (by omega)) he hb hv h⟩
structure WGa (P : Program) (w : World) (K : PySem.W.Frag) (mg : Str → Option Value) (base : Heap) : Prop where
  first_state : Cal P w K mg base CX0 11 "first_state" spFst
  case_tree : Cal P w K mg base CX0 12 "case_tree" spCaseD
  _law_tree : Cal P w K mg base CX0 10 "_law_tree" (spLTree8 K)
  is_case_tree : Cal P w K mg base CX0 11 "is_case_tree" (spCaseU K)
  _law_lists_are_distinct : Cal P w K mg base CX0 12 "_law_lists_are_distinct" spDis
theorem ok_wheel {f : Addr} {fd : FuncData} (F : Fun K "_law_wheel_holds" "_law_wheel_holds" s__law_wheel_holds f fd) (B : Bt mg) (C : WGa P w K mg base) : FnG P w K mg base CX0 13 f fd [] spWheel := by
  refine fnG0 F sc__law_wheel_holds (fun vs H Q E h => ?_) (fun cdv A outer s H vs Q E hr h => ?_)
  · obtain ⟨rfl, _⟩ := h
    rfl
  · obtain ⟨rfl, q⟩ := h
    have nd := sc__law_wheel_holds.nd
    have hu := hr.u1
    refine ⟨_, (pss_cons (ps_set (i := 0) nd rfl (by first | exact Or.inl rfl | exact Or.inr rfl) (pe_op (kAdd K rfl) (pe_lc (own := [("_law_one", 1)]) rfl nd (pi_str pe_str) (blkOk_by (own := [("_law_one", 1)]) (N := nN__law_wheel_holds) (sc := defScope s__law_wheel_holds) (by decide +kernel)) (fun _ _ _ _ _ => (pg_name (i := 1) nd rfl (by first | exact Or.inl rfl | exact Or.inr rfl))) (fun _ _ _ _ _ => pts_nil) (fun _ _ _ _ _ => (pe_tup (pa_cons pe_str (pa_cons (pv 1) pa_nil))))) (pe_lst (pa_cons (pe_tup (pa_cons pe_str (pa_cons pe_str pa_nil))) (pa_cons (pe_tup (pa_cons pe_str (pa_cons pe_str pa_nil))) (pa_cons (pe_tup (pa_cons pe_str (pa_cons pe_str pa_nil))) (pa_cons (pe_tup (pa_cons pe_str (pa_cons pe_str pa_nil))) (pa_cons (pe_tup (pa_cons pe_str (pa_cons pe_str pa_nil))) pa_nil))))))))
  (pss_cons (ps_set (i := 2) nd rfl (by first | exact Or.inl rfl | exact Or.inr rfl) (pe_tup (pa_cons (pe_tup (pa_cons pe_str (pa_cons pe_str (pa_cons pe_str (pa_cons pe_str (pa_cons pe_str (pa_cons pe_str (pa_cons pe_str (pa_cons pe_str pa_nil))))))))) (pa_cons (pe_callTy (kTuple K rfl) (by rfl) B.tuple bb_tuple (pa_cons (pe_callB (kSorted K rfl hr.u64) (by rfl) B.sorted bb_sorted (pa_cons (pe_op (kAdd K rfl) (pv 0) (pe_lst (pa_cons (pe_tup (pa_cons pe_str (pa_cons pe_str pa_nil))) pa_nil))) pa_nil)) pa_nil)) pa_nil))))
  (pss_cons (ps_set (i := 3) nd rfl (by first | exact Or.inl rfl | exact Or.inr rfl) (pe_c C.case_tree hr (by decide) rfl (pa_cons (pv 2) pa_nil)))
  (pss_cons (ps_if (PW.pt (pw_or (pt_cmpR uIsNot (pe_c C.first_state hr (by decide) rfl (pa_cons (pv 2) pa_nil)) pe_non (nomark _)) (pw_or1 (pt_not (pt_val (pe_c C._law_tree hr (by decide) rfl (pa_cons (pv 2) (pa_cons (pv 3) (pa_cons pe_dnewK pa_nil))))))))) (pss_one (ps_ret pe_bl)) pss_nil)
  (pss_cons (ps_if (pt_cmpR uIsNot (pe_c C.is_case_tree hr (by decide) rfl (pa_cons (pv 2) (pa_cons (pv 3) pa_nil))) pe_bl (nomark _)) (pss_one (ps_ret pe_bl)) pss_nil)
  (pss_cons (ps_set (i := 4) nd rfl (by first | exact Or.inl rfl | exact Or.inr rfl) (pe_lst (pa_cons (pe_tup (pa_cons pe_str (pa_cons pe_str pa_nil))) (pa_cons (pe_tup (pa_cons pe_str (pa_cons pe_str pa_nil))) (pa_cons (pe_tup (pa_cons pe_str (pa_cons pe_str pa_nil))) (pa_cons (pe_tup (pa_cons pe_str (pa_cons pe_str pa_nil))) (pa_cons (pe_tup (pa_cons pe_str (pa_cons pe_str pa_nil))) (pa_cons (pe_tup (pa_cons pe_str (pa_cons pe_str pa_nil))) pa_nil))))))))
  (pss_cons (ps_if (pt_not (pt_val (pe_c C._law_lists_are_distinct hr (by decide) rfl (pa_cons (pe_c C.case_tree hr (by decide) rfl (pa_cons (pe_tup (pa_cons (pe_tup (pa_cons pe_str (pa_cons pe_str (pa_cons pe_str (pa_cons pe_str pa_nil))))) (pa_cons (pe_callTy (kTuple K rfl) (by rfl) B.tuple bb_tuple (pa_cons (pv 4) pa_nil)) pa_nil))) pa_nil)) pa_nil)))) (pss_one (ps_ret pe_bl)) pss_nil)
  (pss_cons (ps_set (i := 5) nd rfl (by first | exact Or.inl rfl | exact Or.inr rfl) (pe_callB (kReprG hr.g hr.u64) (by rfl) B.repr bb_repr (pa_cons (pv 3) pa_nil)))
  (pss_cons (ps_expr (pe_bm PySem.F.plainAttrs_list PySem.F.slot_list_append PySem.F.type_list_append mt_append (pe_ix (kIx K rfl) (pe_ix (kIx K rfl) (pe_ix (kIx K rfl) (pv 3) pe_int (fun _ _ => rfl)) pe_int (fun _ _ => rfl)) pe_int (fun _ _ => rfl)) (pa_cons pe_non pa_nil)))
  (pss_cons (ps_expr (pe_bm PySem.F.plainAttrs_list PySem.F.slot_list_append PySem.F.type_list_append mt_append (pe_ix (kIx K rfl) (pv 3) pe_int (fun _ _ => rfl)) (pa_cons pe_non pa_nil)))
  (pss_one (ps_ret (pe_cmpR (kEq K rfl hr.u64) (pe_callB (kReprG hr.g hr.u64) (by rfl) B.repr bb_repr (pa_cons (pe_c C.case_tree hr (by decide) rfl (pa_cons (pv 2) pa_nil)) pa_nil)) (pv 5) (nomark _)))))))))))))), ?_⟩
    wtm_at "rd"
    refine ⟨"bcdef", rfl, ?_⟩
    intro D fD
    refine lcW walk_str (fun i H' => ∃ es : List (Addr × Str × Str), Same H H' ∧ H' D = some (.lst (es.map fun x => V.ref x.1)) ∧ PrsAt H' es ∧ es.map (·.2) = (wheelE.take 5).take i) ⟨[], Same.new fD, upd_same, (fun x h => nomatch h), rfl⟩ (fun _ _ _ _ => trivial) ?_ ?_
    · rintro i y H1 H1' hi ⟨es, s, hD, tp, ee⟩ ⟨rfl, c, hc, rfl⟩
      have hi : i < 5 := hi
      have ec : c = 98 + i := by
        rw [bcd_at i hi] at hc
        exact (Option.some.inj hc).symm
      subst ec
      have tk : (wheelE.take 5).take (i + 1) = (wheelE.take 5).take i ++ [((("a" : Str), (⟨#[98 + i]⟩ : Str)))] := by
        rw [List.take_succ, wE_at i hi]
        rfl
      have el := congrArg List.length ee
      rw [List.length_map, List.length_take] at el
      wtm_at "rd"
      intro t ft
      have kt := Same.new (o := .tup [.str "a", .str ⟨#[98 + i]⟩]) ft
      have ht := @upd_same H1' t (.tup [.str "a", .str ⟨#[98 + i]⟩])
      have hD2 := kt _ _ hD
      have tp2 := tp.same kt
      have s2 := s.trans kt
      generalize upd H1' t (.tup [.str "a", .str ⟨#[98 + i]⟩]) = H2 at *
      refine rd_acc hD2 (by rw [List.length_map]; omega) ?_
      refine ⟨es ++ [((t, ("a" : Str), (⟨#[98 + i]⟩ : Str)))], same_put s2 fD, by rw [upd_same, List.map_append]; rfl, fun x hx => ?_, by rw [tk, List.map_append, ee]; rfl⟩
      rcases List.mem_append.mp hx with hx | hx
      · exact at_upd (ne_of (tp2 x hx) hD2 (fun z => nomatch z)) (tp2 x hx)
      · rw [List.mem_singleton.mp hx]
        exact at_upd (ne_of ht hD2 (fun z => nomatch z)) ht
    rintro H1 ⟨es, s1, hD, tp, ee⟩
    have ee : es.map (·.2) = wheelE.take 5 := ee
    have el := congrArg List.length ee
    rw [List.length_map] at el
    have el : es.length = 5 := el
    clear fD
    wtm_at "rd"
    intro t1 ft1
    have kt1 := Same.new (o := .tup [.str "b", .str "c"]) ft1
    have ht1 := @upd_same H1 t1 (.tup [.str "b", .str "c"])
    have hD := kt1 _ _ hD
    have tp := tp.same kt1
    have s1 := s1.trans kt1
    generalize upd H1 t1 (.tup [.str "b", .str "c"]) = H2 at ht1 hD tp s1
    clear kt1 ft1
    wtm_at "rd"
    intro t2 ft2
    have kt2 := Same.new (o := .tup [.str "b", .str "f"]) ft2
    have ht2 := @upd_same H2 t2 (.tup [.str "b", .str "f"])
    have hD := kt2 _ _ hD
    have ht1 := kt2 _ _ ht1
    have tp := tp.same kt2
    have s1 := s1.trans kt2
    generalize upd H2 t2 (.tup [.str "b", .str "f"]) = H3 at ht2 hD ht1 tp s1
    clear kt2 ft2
    wtm_at "rd"
    intro t3 ft3
    have kt3 := Same.new (o := .tup [.str "c", .str "d"]) ft3
    have ht3 := @upd_same H3 t3 (.tup [.str "c", .str "d"])
    have hD := kt3 _ _ hD
    have ht1 := kt3 _ _ ht1
    have ht2 := kt3 _ _ ht2
    have tp := tp.same kt3
    have s1 := s1.trans kt3
    generalize upd H3 t3 (.tup [.str "c", .str "d"]) = H4 at ht3 hD ht1 ht2 tp s1
    clear kt3 ft3
    wtm_at "rd"
    intro t4 ft4
    have kt4 := Same.new (o := .tup [.str "d", .str "e"]) ft4
    have ht4 := @upd_same H4 t4 (.tup [.str "d", .str "e"])
    have hD := kt4 _ _ hD
    have ht1 := kt4 _ _ ht1
    have ht2 := kt4 _ _ ht2
    have ht3 := kt4 _ _ ht3
    have tp := tp.same kt4
    have s1 := s1.trans kt4
    generalize upd H4 t4 (.tup [.str "d", .str "e"]) = H5 at ht4 hD ht1 ht2 ht3 tp s1
    clear kt4 ft4
    wtm_at "rd"
    intro t5 ft5
    have kt5 := Same.new (o := .tup [.str "e", .str "f"]) ft5
    have ht5 := @upd_same H5 t5 (.tup [.str "e", .str "f"])
    have hD := kt5 _ _ hD
    have ht1 := kt5 _ _ ht1
    have ht2 := kt5 _ _ ht2
    have ht3 := kt5 _ _ ht3
    have ht4 := kt5 _ _ ht4
    have tp := tp.same kt5
    have s1 := s1.trans kt5
    generalize upd H5 t5 (.tup [.str "e", .str "f"]) = H6 at ht5 hD ht1 ht2 ht3 ht4 tp s1
    clear kt5 ft5
    wtm_at "rd"
    intro l5 fl5
    have kl5 := Same.new (o := .lst [.ref t1, .ref t2, .ref t3, .ref t4, .ref t5]) fl5
    have hl5 := @upd_same H6 l5 (.lst [.ref t1, .ref t2, .ref t3, .ref t4, .ref t5])
    have hD := kl5 _ _ hD
    have ht1 := kl5 _ _ ht1
    have ht2 := kl5 _ _ ht2
    have ht3 := kl5 _ _ ht3
    have ht4 := kl5 _ _ ht4
    have ht5 := kl5 _ _ ht5
    have tp := tp.same kl5
    have s1 := s1.trans kl5
    generalize upd H6 l5 (.lst [.ref t1, .ref t2, .ref t3, .ref t4, .ref t5]) = H7 at hl5 hD ht1 ht2 ht3 ht4 ht5 tp s1
    clear kl5 fl5
    wtm_at "rd"
    refine rd_catL hD hl5 (by rw [List.length_map, el]; show 5 + 5 ≤ 100000; decide) ?_
    intro l6 fl6
    have kl6 := Same.new (o := .lst (es.map (fun x => V.ref x.1) ++ [.ref t1, .ref t2, .ref t3, .ref t4, .ref t5])) fl6
    have hl6 := @upd_same H7 l6 (.lst (es.map (fun x => V.ref x.1) ++ [.ref t1, .ref t2, .ref t3, .ref t4, .ref t5]))
    have hD := kl6 _ _ hD
    have ht1 := kl6 _ _ ht1
    have ht2 := kl6 _ _ ht2
    have ht3 := kl6 _ _ ht3
    have ht4 := kl6 _ _ ht4
    have ht5 := kl6 _ _ ht5
    have tp := tp.same kl6
    have s1 := s1.trans kl6
    generalize upd H7 l6 (.lst (es.map (fun x => V.ref x.1) ++ [.ref t1, .ref t2, .ref t3, .ref t4, .ref t5])) = H8 at hl6 hD ht1 ht2 ht3 ht4 ht5 tp s1
    clear kl6 fl6
    wtm_at "rd"
    intro nA fnA
    have knA := Same.new (o := .tup [.str "a", .str "b", .str "c", .str "d", .str "e", .str "f", .str "g", .str "h"]) fnA
    have hnA := @upd_same H8 nA (.tup [.str "a", .str "b", .str "c", .str "d", .str "e", .str "f", .str "g", .str "h"])
    have hD := knA _ _ hD
    have ht1 := knA _ _ ht1
    have ht2 := knA _ _ ht2
    have ht3 := knA _ _ ht3
    have ht4 := knA _ _ ht4
    have ht5 := knA _ _ ht5
    have hl6 := knA _ _ hl6
    have tp := tp.same knA
    have s1 := s1.trans knA
    generalize upd H8 nA (.tup [.str "a", .str "b", .str "c", .str "d", .str "e", .str "f", .str "g", .str "h"]) = H9 at hnA hD ht1 ht2 ht3 ht4 ht5 hl6 tp s1
    clear knA fnA
    wtm_at "rd"
    intro t6 ft6
    have kt6 := Same.new (o := .tup [.str "g", .str "h"]) ft6
    have ht6 := @upd_same H9 t6 (.tup [.str "g", .str "h"])
    have hD := kt6 _ _ hD
    have ht1 := kt6 _ _ ht1
    have ht2 := kt6 _ _ ht2
    have ht3 := kt6 _ _ ht3
    have ht4 := kt6 _ _ ht4
    have ht5 := kt6 _ _ ht5
    have hl6 := kt6 _ _ hl6
    have hnA := kt6 _ _ hnA
    have tp := tp.same kt6
    have s1 := s1.trans kt6
    generalize upd H9 t6 (.tup [.str "g", .str "h"]) = H10 at ht6 hD ht1 ht2 ht3 ht4 ht5 hl6 hnA tp s1
    clear kt6 ft6
    wtm_at "rd"
    intro l7 fl7
    have kl7 := Same.new (o := .lst [.ref t6]) fl7
    have hl7 := @upd_same H10 l7 (.lst [.ref t6])
    have hD := kl7 _ _ hD
    have ht1 := kl7 _ _ ht1
    have ht2 := kl7 _ _ ht2
    have ht3 := kl7 _ _ ht3
    have ht4 := kl7 _ _ ht4
    have ht5 := kl7 _ _ ht5
    have hl6 := kl7 _ _ hl6
    have hnA := kl7 _ _ hnA
    have ht6 := kl7 _ _ ht6
    have tp := tp.same kl7
    have s1 := s1.trans kl7
    generalize upd H10 l7 (.lst [.ref t6]) = H11 at hl7 hD ht1 ht2 ht3 ht4 ht5 hl6 hnA ht6 tp s1
    clear kl7 fl7
    wtm_at "rd"
    refine rd_catL hl6 hl7 (by rw [List.length_append, List.length_map, el]; show 5 + 5 + 1 ≤ 100000; decide) ?_
    intro l8 fl8
    have kl8 := Same.new (o := .lst ((es.map (fun x => V.ref x.1) ++ [.ref t1, .ref t2, .ref t3, .ref t4, .ref t5]) ++ [.ref t6])) fl8
    have hl8 := @upd_same H11 l8 (.lst ((es.map (fun x => V.ref x.1) ++ [.ref t1, .ref t2, .ref t3, .ref t4, .ref t5]) ++ [.ref t6]))
    have hD := kl8 _ _ hD
    have ht1 := kl8 _ _ ht1
    have ht2 := kl8 _ _ ht2
    have ht3 := kl8 _ _ ht3
    have ht4 := kl8 _ _ ht4
    have ht5 := kl8 _ _ ht5
    have hl6 := kl8 _ _ hl6
    have hnA := kl8 _ _ hnA
    have ht6 := kl8 _ _ ht6
    have tp := tp.same kl8
    have s1 := s1.trans kl8
    generalize upd H11 l8 (.lst ((es.map (fun x => V.ref x.1) ++ [.ref t1, .ref t2, .ref t3, .ref t4, .ref t5]) ++ [.ref t6])) = H12 at hl8 hD ht1 ht2 ht3 ht4 ht5 hl6 hnA ht6 tp s1
    clear kl8 fl8
    obtain ⟨fs, ef, ff, tf⟩ : ∃ fs : List (Addr × Str × Str), fs.map (fun x => V.ref x.1) = (es.map (fun x => V.ref x.1) ++ [.ref t1, .ref t2, .ref t3, .ref t4, .ref t5]) ++ [.ref t6] ∧ fs.map (·.2) = wheelE.take 5 ++ ([("b", "c"), ("b", "f"), ("c", "d"), ("d", "e"), ("e", "f"), ("g", "h")] : List (Str × Str)) ∧ PrsAt H12 fs := by
      refine ⟨es ++ ([(t1, "b", "c"), (t2, "b", "f"), (t3, "c", "d"), (t4, "d", "e"), (t5, "e", "f"), (t6, "g", "h")] : List (Addr × Str × Str)), by rw [List.map_append, List.append_assoc]; rfl, by rw [List.map_append, ee]; rfl, fun x hx => ?_⟩
      rcases List.mem_append.mp hx with hx | hx
      · exact tp x hx
      · simp only [List.mem_cons, List.not_mem_nil, or_false] at hx
        rcases hx with rfl | rfl | rfl | rfl | rfl | rfl
        · exact ht1
        · exact ht2
        · exact ht3
        · exact ht4
        · exact ht5
        · exact ht6
    rw [← ef] at hl8
    clear tp ht1 ht2 ht3 ht4 ht5 ht6 hl6 hD
    wtm_at "rd"
    have fl := congrArg List.length ff
    rw [List.length_map] at fl
    refine rd_sortE (SqL.of hl8) (fun x hx => SqT.of (tf x hx)) (by rw [fl]; decide) ?_
    intro es2 pe se
    have ee2 : es2.map (·.2) = wheelE := by
      have pw : (es2.map (·.2)).Perm wheelE := by
        refine (pe.map (·.2)).trans ?_
        rw [ff]
        exact .refl _
      have nd2 : (es2.map (·.2)).Nodup := pw.nodup_iff.mpr (ascE_nodup wE_asc)
      have a2 : AscE (es2.map (·.2)) := ascE_of_sorted (List.pairwise_map.mpr se) nd2
      exact uniq_ltW a2 wE_asc pw
    have tp : PrsAt H12 es2 := fun x hx => tf x (pe.mem_iff.mp hx)
    clear tf pe se
    intro l9 fl9
    have kl9 := Same.new (o := .lst (es2.map fun x => V.ref x.1)) fl9
    have hl9 := @upd_same H12 l9 (.lst (es2.map fun x => V.ref x.1))
    have hnA := kl9 _ _ hnA
    have tp := tp.same kl9
    have s1 := s1.trans kl9
    generalize upd H12 l9 (.lst (es2.map fun x => V.ref x.1)) = H13 at hl9 hnA tp s1
    clear kl9 fl9
    wtm_at "rd"
    refine rd_tupleL (SqL.of hl9) ?_
    intro eT feT
    have keT := Same.new (o := .tup (es2.map fun x => V.ref x.1)) feT
    have heT := @upd_same H13 eT (.tup (es2.map fun x => V.ref x.1))
    have hnA := keT _ _ hnA
    have tp := tp.same keT
    have s1 := s1.trans keT
    generalize upd H13 eT (.tup (es2.map fun x => V.ref x.1)) = H14 at heT hnA tp s1
    clear keT feT
    wtm_at "rd"
    intro g fg
    have kg := Same.new (o := .tup [.ref nA, .ref eT]) fg
    have hg := @upd_same H14 g (.tup [.ref nA, .ref eT])
    have hnA := kg _ _ hnA
    have heT := kg _ _ heT
    have tp := tp.same kg
    have s1 := s1.trans kg
    generalize upd H14 g (.tup [.ref nA, .ref eT]) = H15 at hg hnA heT tp s1
    clear kg fg
    have gn := gr_w hg hnA heT tp ee2
    clear hg hnA heT tp
    wtm_at "rd"
    refine ⟨g, nA, eT, wheelN, es2, rfl, gn, by decide, fun H' s tr' ex => ?_, fun v HA L sA ex dt ndL nwL => ?_⟩
    · rw [ee2] at ex
      have : extF wheelN wheelE 8 [] = some tr' := ex
      rw [w_none] at this
      cases this
    rw [ee2] at dt
    have dt : DtAt 8 HA v (treeF wheelN wheelE 8 []) L := dt
    obtain ⟨a, vs0, rfl, ha⟩ := DtAt.top dt
    have nwL : ∀ q ∈ L, H q = none := fun q m => new_of_same s1 (nwL q m)
    have nmw : TrNm 8 (treeF wheelN wheelE 8 []) := by
      have := treeF_nm (n := 8) (tr := []) gn.nm gn.mem ex ⟨rfl, Nat.zero_le _⟩ rfl gn.nd
      rw [ee2] at this
      exact this
    have s1 := s1.trans sA
    have gn := gn.same sA
    have okw : okT wheelN (es2.map (·.2)) 8 (treeF wheelN wheelE 8 []) [] = true := by
      have := treeF_ok gn.nd gn.so gn.mem (n := 8) (tr := []) ⟨rfl, Nat.zero_le _⟩ rfl ex
      rw [ee2] at this ⊢
      exact this
    have rt : ∀ W : Addr → Prop, (∀ q ∈ L, ¬ W q) → RtAt 8 W HA (.ref a) (treeF wheelN wheelE 8 []) := fun W hw => DtAt.rt dt hw
    wtm_at "rd"
    refine ⟨g, nA, eT, wheelN, es2, rfl, gn, by decide, fun HB sB => ⟨fun _ => ?_, fun tr' ex2 => ?_⟩⟩
    case refine_2 =>
      rw [ee2] at ex2
      have : extF wheelN wheelE 8 [] = some tr' := ex2
      rw [w_none] at this
      cases this
    have s1 := s1.trans sB
    have gn := gn.same sB
    have ha := sB _ _ ha
    have dt := dt.same sB
    wtm_at "rd"
    refine rd_nno rfl ?_
    wtm_at "rd"
    intro d0 fd0
    have kd0 := Same.new (o := .dK []) fd0
    have hd0 := @upd_same HB d0 (.dK [])
    have ha := kd0 _ _ ha
    have gn := gn.same kd0
    have dt := dt.same kd0
    have s1 := s1.trans kd0
    generalize upd HB d0 (.dK []) = K21 at hd0 ha gn dt s1
    clear kd0 fd0
    wtm_at "rd"
    refine ⟨8, Nat.le_refl _, g, nA, eT, d0, fun _ => False, .ref a, wheelN, es2, [], _, rfl, gn, hd0, by decide, (fun k h => nomatch h), DtAt.rt dt (fun _ _ h => h), fun HC sC => ?_⟩
    rw [okw]
    have s1 := s1.trans sC
    have gn := gn.same sC
    have ha := sC _ _ ha
    have dt := dt.same sC
    clear hd0 sB sC sA
    wtm_at "rd"
    try refine rd_F ?_
    wtm_at "rd"
    refine ⟨g, nA, eT, fun _ => False, .ref a, wheelN, es2, 8, _, rfl, gn, Nat.le_refl _, DtAt.rt dt (fun _ _ h => h), fun HD sD => ?_⟩
    rw [okw]
    have s1 := s1.trans sD
    have gn := gn.same sD
    have ha := sD _ _ ha
    have dt := dt.same sD
    clear sD
    wtm_at "rd"
    try refine rd_nno rfl ?_
    wtm_at "rd"
    intro c1 fc1
    have kc1 := Same.new (o := .tup [.str "a", .str "b"]) fc1
    have hc1 := @upd_same HD c1 (.tup [.str "a", .str "b"])
    have ha := kc1 _ _ ha
    have gn := gn.same kc1
    have dt := dt.same kc1
    have s1 := s1.trans kc1
    generalize upd HD c1 (.tup [.str "a", .str "b"]) = K22 at hc1 ha gn dt s1
    clear kc1 fc1
    wtm_at "rd"
    intro c2 fc2
    have kc2 := Same.new (o := .tup [.str "a", .str "c"]) fc2
    have hc2 := @upd_same K22 c2 (.tup [.str "a", .str "c"])
    have ha := kc2 _ _ ha
    have hc1 := kc2 _ _ hc1
    have gn := gn.same kc2
    have dt := dt.same kc2
    have s1 := s1.trans kc2
    generalize upd K22 c2 (.tup [.str "a", .str "c"]) = K23 at hc2 ha hc1 gn dt s1
    clear kc2 fc2
    wtm_at "rd"
    intro c3 fc3
    have kc3 := Same.new (o := .tup [.str "a", .str "d"]) fc3
    have hc3 := @upd_same K23 c3 (.tup [.str "a", .str "d"])
    have ha := kc3 _ _ ha
    have hc1 := kc3 _ _ hc1
    have hc2 := kc3 _ _ hc2
    have gn := gn.same kc3
    have dt := dt.same kc3
    have s1 := s1.trans kc3
    generalize upd K23 c3 (.tup [.str "a", .str "d"]) = K24 at hc3 ha hc1 hc2 gn dt s1
    clear kc3 fc3
    wtm_at "rd"
    intro c4 fc4
    have kc4 := Same.new (o := .tup [.str "b", .str "c"]) fc4
    have hc4 := @upd_same K24 c4 (.tup [.str "b", .str "c"])
    have ha := kc4 _ _ ha
    have hc1 := kc4 _ _ hc1
    have hc2 := kc4 _ _ hc2
    have hc3 := kc4 _ _ hc3
    have gn := gn.same kc4
    have dt := dt.same kc4
    have s1 := s1.trans kc4
    generalize upd K24 c4 (.tup [.str "b", .str "c"]) = K25 at hc4 ha hc1 hc2 hc3 gn dt s1
    clear kc4 fc4
    wtm_at "rd"
    intro c5 fc5
    have kc5 := Same.new (o := .tup [.str "b", .str "d"]) fc5
    have hc5 := @upd_same K25 c5 (.tup [.str "b", .str "d"])
    have ha := kc5 _ _ ha
    have hc1 := kc5 _ _ hc1
    have hc2 := kc5 _ _ hc2
    have hc3 := kc5 _ _ hc3
    have hc4 := kc5 _ _ hc4
    have gn := gn.same kc5
    have dt := dt.same kc5
    have s1 := s1.trans kc5
    generalize upd K25 c5 (.tup [.str "b", .str "d"]) = K26 at hc5 ha hc1 hc2 hc3 hc4 gn dt s1
    clear kc5 fc5
    wtm_at "rd"
    intro c6 fc6
    have kc6 := Same.new (o := .tup [.str "c", .str "d"]) fc6
    have hc6 := @upd_same K26 c6 (.tup [.str "c", .str "d"])
    have ha := kc6 _ _ ha
    have hc1 := kc6 _ _ hc1
    have hc2 := kc6 _ _ hc2
    have hc3 := kc6 _ _ hc3
    have hc4 := kc6 _ _ hc4
    have hc5 := kc6 _ _ hc5
    have gn := gn.same kc6
    have dt := dt.same kc6
    have s1 := s1.trans kc6
    generalize upd K26 c6 (.tup [.str "c", .str "d"]) = K27 at hc6 ha hc1 hc2 hc3 hc4 hc5 gn dt s1
    clear kc6 fc6
    wtm_at "rd"
    intro cl fcl
    have kcl := Same.new (o := .lst [.ref c1, .ref c2, .ref c3, .ref c4, .ref c5, .ref c6]) fcl
    have hcl := @upd_same K27 cl (.lst [.ref c1, .ref c2, .ref c3, .ref c4, .ref c5, .ref c6])
    have ha := kcl _ _ ha
    have hc1 := kcl _ _ hc1
    have hc2 := kcl _ _ hc2
    have hc3 := kcl _ _ hc3
    have hc4 := kcl _ _ hc4
    have hc5 := kcl _ _ hc5
    have hc6 := kcl _ _ hc6
    have gn := gn.same kcl
    have dt := dt.same kcl
    have s1 := s1.trans kcl
    generalize upd K27 cl (.lst [.ref c1, .ref c2, .ref c3, .ref c4, .ref c5, .ref c6]) = K28 at hcl ha hc1 hc2 hc3 hc4 hc5 hc6 gn dt s1
    clear kcl fcl
    wtm_at "rd"
    intro cn fcn
    have kcn := Same.new (o := .tup [.str "a", .str "b", .str "c", .str "d"]) fcn
    have hcn := @upd_same K28 cn (.tup [.str "a", .str "b", .str "c", .str "d"])
    have ha := kcn _ _ ha
    have hc1 := kcn _ _ hc1
    have hc2 := kcn _ _ hc2
    have hc3 := kcn _ _ hc3
    have hc4 := kcn _ _ hc4
    have hc5 := kcn _ _ hc5
    have hc6 := kcn _ _ hc6
    have hcl := kcn _ _ hcl
    have gn := gn.same kcn
    have dt := dt.same kcn
    have s1 := s1.trans kcn
    generalize upd K28 cn (.tup [.str "a", .str "b", .str "c", .str "d"]) = K29 at hcn ha hc1 hc2 hc3 hc4 hc5 hc6 hcl gn dt s1
    clear kcn fcn
    wtm_at "rd"
    refine rd_tupleL (SqL.of hcl) ?_
    intro ct fct
    have kct := Same.new (o := .tup [.ref c1, .ref c2, .ref c3, .ref c4, .ref c5, .ref c6]) fct
    have hct := @upd_same K29 ct (.tup [.ref c1, .ref c2, .ref c3, .ref c4, .ref c5, .ref c6])
    have ha := kct _ _ ha
    have hc1 := kct _ _ hc1
    have hc2 := kct _ _ hc2
    have hc3 := kct _ _ hc3
    have hc4 := kct _ _ hc4
    have hc5 := kct _ _ hc5
    have hc6 := kct _ _ hc6
    have hcl := kct _ _ hcl
    have hcn := kct _ _ hcn
    have gn := gn.same kct
    have dt := dt.same kct
    have s1 := s1.trans kct
    generalize upd K29 ct (.tup [.ref c1, .ref c2, .ref c3, .ref c4, .ref c5, .ref c6]) = K30 at hct ha hc1 hc2 hc3 hc4 hc5 hc6 hcl hcn gn dt s1
    clear kct fct
    wtm_at "rd"
    intro cg fcg
    have kcg := Same.new (o := .tup [.ref cn, .ref ct]) fcg
    have hcg := @upd_same K30 cg (.tup [.ref cn, .ref ct])
    have ha := kcg _ _ ha
    have hc1 := kcg _ _ hc1
    have hc2 := kcg _ _ hc2
    have hc3 := kcg _ _ hc3
    have hc4 := kcg _ _ hc4
    have hc5 := kcg _ _ hc5
    have hc6 := kcg _ _ hc6
    have hcl := kcg _ _ hcl
    have hcn := kcg _ _ hcn
    have hct := kcg _ _ hct
    have gn := gn.same kcg
    have dt := dt.same kcg
    have s1 := s1.trans kcg
    generalize upd K30 cg (.tup [.ref cn, .ref ct]) = K31 at hcg ha hc1 hc2 hc3 hc4 hc5 hc6 hcl hcn hct gn dt s1
    clear kcg fcg
    have gc : GrN K31 cg cn ct cmplN ([(c1, "a", "b"), (c2, "a", "c"), (c3, "a", "d"), (c4, "b", "c"), (c5, "b", "d"), (c6, "c", "d")] : List (Addr × Str × Str)) := gr_c hcg hcn hct (fun x hx => by
      simp only [List.mem_cons, List.not_mem_nil, or_false] at hx
      rcases hx with rfl | rfl | rfl | rfl | rfl | rfl
      · exact hc1
      · exact hc2
      · exact hc3
      · exact hc4
      · exact hc5
      · exact hc6) rfl
    clear hcg hcn hct hcl hc1 hc2 hc3 hc4 hc5 hc6
    wtm_at "rd"
    refine ⟨cg, cn, ct, cmplN, _, rfl, gc, by decide, fun H' s tr' ex => ?_, fun v2 HE L2 sE ex2 dt2 ndL2 nwL2 => ?_⟩
    · have : extF cmplN cmplE 4 [] = some tr' := ex
      rw [c_none] at this
      cases this
    have dt2 : DtAt 4 HE v2 (treeF cmplN cmplE 4 []) L2 := dt2
    have nm2 : TrNm 4 (treeF cmplN cmplE 4 []) := treeF_nm (n := 4) (tr := []) gc.nm gc.mem ex2 ⟨rfl, Nat.zero_le _⟩ rfl gc.nd
    obtain ⟨a2, us2, rfl, ha2⟩ := DtAt.top dt2
    have s1 := s1.trans sE
    have gn := gn.same sE
    have ha := sE _ _ ha
    have dt := dt.same sE
    wtm_at "rd"
    refine ⟨9, a2, L2, rfl, by decide, DtAt.nest dt2 nm2, ?_, fun b m => one_t (Nat.le_refl _) dt2 nm2 ndL2 m, fun HF sF => ?_⟩
    · have l4 := (DtAt.ls3 dt2 nm2).1
      have e4 : 4 ^ 4 = 256 := by decide
      omega
    have s1 := s1.trans sF
    have gn := gn.same sF
    have ha := sF _ _ ha
    have dt := dt.same sF
    clear dt2 nm2 ha2 sF sE gc ndL2 nwL2 ex2
    wtm_at "rd"
    try refine rd_F ?_
    wtm_at "rd"
    obtain ⟨ds, ed, dg⟩ := dg_tup (DtAt.dat dt) ha
    refine rd_reprG ha dg (by rw [← ed]; exact w_shows) ?_
    rw [← ed]
    clear dg ed ds
    wtm_at "rd"
    have l3 := (DtAt.ls3 dt nmw).2
    obtain ⟨l, x, l2, x2, t, ts, rest, eTr⟩ := two_t
    have dt' : DtAt (7 + 1) HF (.ref a) (.node l x (.node l2 x2 (t :: ts) :: rest)) L := by
      rw [← eTr]
      exact dt
    unfold DtAt at dt'
    obtain ⟨a', q1, vs, cs, ea, h1, h2, h3, h4, pr⟩ := dt'
    cases ea
    obtain ⟨c, cr, rfl⟩ : ∃ c cr, cs = c :: cr := by
      cases cs with
      | nil => cases h3
      | cons c cr => exact ⟨c, cr, rfl⟩
    rw [List.map_cons] at h3
    have ec := (List.cons.inj h3).1
    obtain ⟨v0, vr, rfl, hd⟩ : ∃ v0 vr, vs = v0 :: vr ∧ DtAt 7 HF v0 c.1 c.2 := by
      cases pr with
      | cons p r => exact ⟨_, _, rfl, p⟩
    have hd : DtAt (6 + 1) HF v0 (.node l2 x2 (t :: ts)) c.2 := by
      rw [ec]
      exact hd
    unfold DtAt at hd
    obtain ⟨a0, q0, ws, cs0, rfl, g1, g2, _, g4, _⟩ := hd
    have mq : q1 ∈ L := by
      rw [h4]
      exact List.mem_cons_self
    have mq0' : q0 ∈ ((c :: cr).map (·.2)).flatten := by
      rw [List.map_cons, List.flatten_cons, g4]
      exact List.mem_append_left _ List.mem_cons_self
    have mq0 : q0 ∈ L := by
      rw [h4]
      exact List.mem_cons_of_mem _ mq0'
    have nqq : q1 ≠ q0 := fun e => by
      rw [h4] at ndL
      exact (List.nodup_cons.mp ndL).1 (e ▸ mq0')
    obtain ⟨y1, z1, z2⟩ := l3 q1 mq
    rw [h2] at z1
    obtain rfl : (V.ref a0 :: vr) = y1 := HO.lst.inj (Option.some.inj z1)
    obtain ⟨y2, z3, z4⟩ := l3 q0 mq0
    rw [g2] at z3
    obtain rfl : ws = y2 := HO.lst.inj (Option.some.inj z3)
    refine rd_ixT (SqT.of h1) (v := .ref q1) rfl ?_
    wtm_at "rd"
    refine rd_ixL (SqL.of h2) (v := .ref a0) (by exact atI_nat (j := 0) rfl) ?_
    wtm_at "rd"
    refine rd_ixT (SqT.of g1) (v := .ref q0) rfl ?_
    refine rd_tyL g2 ?_
    wtm_at "rd"
    refine rd_append g2 (by omega) ?_
    have s2 := same_put (o := .lst (ws ++ [.non])) s1 (nwL q0 mq0)
    have gn := gn.updL (o := .lst (ws ++ [.non])) g2
    have h1 := at_upd (o := .lst (ws ++ [.non])) (ne_of h1 g2 (fun z => nomatch z)) h1
    have h2 := at_upd (o := .lst (ws ++ [.non])) nqq h2
    generalize upd HF q0 (.lst (ws ++ [.non])) = HG at *
    wtm_at "rd"
    refine rd_ixT (SqT.of h1) (v := .ref q1) rfl ?_
    refine rd_tyL h2 ?_
    wtm_at "rd"
    refine rd_append h2 (by omega) ?_
    have s3 := same_put (o := .lst ((V.ref a0 :: vr) ++ [.non])) s2 (nwL q1 mq)
    have gn := gn.updL (o := .lst ((V.ref a0 :: vr) ++ [.non])) h2
    generalize upd HG q1 (.lst ((V.ref a0 :: vr) ++ [.non])) = HI at *
    wtm_at "rd"
    refine ⟨g, nA, eT, wheelN, es2, rfl, gn, by decide, fun H' s tr' ex3 => ?_, fun v3 HJ L3 sJ ex3 dt3 _ _ => ?_⟩
    · rw [ee2] at ex3
      have : extF wheelN wheelE 8 [] = some tr' := ex3
      rw [w_none] at this
      cases this
    rw [ee2] at dt3
    have dt3 : DtAt 8 HJ v3 (treeF wheelN wheelE 8 []) L3 := dt3
    obtain ⟨a3, us3, rfl, ha3⟩ := DtAt.top dt3
    obtain ⟨ds, ed, dg⟩ := dg_tup (DtAt.dat dt3) ha3
    wtm_at "rd"
    refine rd_reprG ha3 dg (by rw [← ed]; exact w_shows) ?_
    rw [← ed]
    wtm_at "rd"
    rw [decide_eq_true rfl]
    exact q HJ (s3.trans sJ)
end
end Law

/-! calls with keywords and defaults of a def that may raise -/
namespace U
open PySem PySem.Spec PyProof.Rows L2
/-- raise X(e): reading rd_rz, e's, rd_mk1 -/
def tRz (C : Addr) (f : Str) (te : TE) (W : WX) : TS := fun _ σ H => tMkO C (spInit1 C f) [] (tCons te tNil) σ H fun cls d H' => W cls d σ H'
theorem rd_rz {C : Addr} {f : Str} {te : TE} {W : WX} {D : Ends} {σ : L2.St} {H : Hp} (h : tCons te tNil σ H fun vs H1 => vs.length ≤ 1000 ∧ ∀ a, H1 a = none → spInit1 C f (.ref a :: (vs ++ [])) (upd H1 a (exo a C none))
  (fun v H2 => v = .non ∧ ∃ (d : Addr) (fs : List (Str × V)), H2 a = some (exo a C (some d)) ∧ H2 d = some (exd d fs) ∧ H1 d = none ∧ W (.ref C) (some d) σ (upd (del H2 a) d (.xd fs))) (fun _ _ _ => False)) : tRz C f te W D σ H := h
end U

/-! the facts of an own error class, gathered from the fragment -/
namespace U
open PySem PySem.Spec PyProof.Rows L2
theorem exm_sub {K : PySem.W.Frag} {S T : Addr} (h1 : PySem.W.subIn K (.ref S) (.type "BaseException") = some true) (b1 : PySem.W.subIn K (.ref T) (.type "BaseException") = some true) (h2 : PySem.W.isClsIn K T = true) (h3 : PySem.W.typeIn K (.ref T) = some (.type "type")) (h4 : PySem.W.subIn K (.ref S) (.ref T) = some true) :
    PySem.W.exmOne K (.ref S) (.ref T) = some true := by
  have e1 : (PySem.W.subIn K (.ref T) (.type "BaseException") == some true) = true := by rw [b1] <;> rfl
  have e2 : ((PySem.W.clsIn K T).isSome && PySem.W.typeIn K (.ref T) == some (.type "type")) = true := by
    have h2' : (PySem.W.clsIn K T).isSome = true := h2
    rw [h2', h3] <;> rfl
  show (if (PySem.W.subIn K (.ref T) (.type "BaseException") == some true) = true then (if ((PySem.W.clsIn K T).isSome && PySem.W.typeIn K (.ref T) == some (.type "type")) = true then PySem.W.subIn K (.ref S) (.ref T) else none) else none) = some true
  rw [if_pos e1, if_pos e2]
  exact h4
end U

/-! own exceptions with one field over any built-in class of the plain kind -/
namespace U
open PySem PySem.Spec PyProof.Rows L2
/-- the call of an own class over such a base, its __init__ a def -/
def CallOwn (newId : String) (bmB : List Value) : Prop := ∀ (P : Program) (w : World) (A : Around) (R : Result → Shared → Prop) (h : Heap) (g : Array GenState) (d : Drawn) (t : Nat) (os : OsState) (nm q : Str) (C N : Addr) (bs bm : List Value) (hdct : Bool) (sn : List Str) (sub : List Value) (ab : Bool) (col : Option Bool) (dd : Option Addr)
    (k0 k1 k2 k3 k5 : Option Value) (us : List Value) (fI : Addr), (∀ X : String, bm.contains (.type X) = bmB.contains (.type X)) → h.get? C = some (excClassObj nm q C N bs bm hdct sn sub ab col dd k0 k1 k2 k3 k5 newId) →
    PySem.W.Looks (model P w) h (typeLookup (.ref C) "__init__") (some (.ref fI)) → (∀ self, PySem.W.Looks (model P w) h (bindSpecial (.ref fI) self) (.ref fI, [self])) → us.length ≤ sizeLine →
    codeAny (model P w) (A.under (.builtin "type.__call__" ⟨.ref C :: us, []⟩)) (.call (.ref fI) ⟨.ref (h.objs.size + 1) :: us, []⟩) (PySem.W.InitBack (h.objs.size + 1) R) ⟨(h.push (PySem.W.kdv_tup us)).push (PySem.HandSPX.excO C h.objs.size), g, d, t, os⟩ →
    codeAny (model P w) A (.call (.ref C) ⟨us, []⟩) R ⟨h, g, d, t, os⟩
/-- the base's own __init__, called within it -/
def InitOwn (initId newId : String) (bmB : List Value) : Prop := ∀ (P : Program) (w : World) (A : Around) (R : Result → Shared → Prop) (h : Heap) (g : Array GenState) (d : Drawn) (t : Nat) (os : OsState) (nm q : Str) (C N : Addr) (bs bm : List Value) (hdct : Bool) (sn : List Str) (sub : List Value) (ab : Bool) (col : Option Bool) (dd : Option Addr)
    (k0 k1 k2 k3 k5 : Option Value) (us : List Value) (e t0 : Addr), (∀ X : String, bm.contains (.type X) = bmB.contains (.type X)) → h.get? C = some (excClassObj nm q C N bs bm hdct sn sub ab col dd k0 k1 k2 k3 k5 newId) → h.get? e = some (PySem.HandSPX.excO C t0) → us.length ≤ sizeLine →
    (∀ h' t1, (∀ b o, b ≠ e → h.get? b = some o → h'.get? b = some o) → h'.get? e = some (PySem.HandSPX.excO C t1) → R (.ok (.ret .none)) ⟨h', g, d, t, os⟩) → codeAny (model P w) A (.call (.builtin initId) ⟨.ref e :: us, []⟩) R ⟨h, g, d, t, os⟩
/-- what is asked of the built-in class -/
structure BasF (B newId initId : String) (bmB : List Value) : Prop where
  call : CallOwn newId bmB
  init : InitOwn initId newId bmB
  pass : ∀ self : Value, refuseLoop self "__setattr__" bmB = pure ()
  obj : bmB.contains (.type "object") = true
  typ : typeOf (.type B) = pure (.type "type")
  stub : Manifest.isStub B = false
  blt : bootBuiltins (Str.ofString B) = some (.type B)
  nam : Str.ofString B ≠ "__name__"
  dbg : (Str.ofString B == ("__debug__" : Str)) = false
  hin : PySem.W.handedIn (.builtin initId) = true
  ne : bmB ≠ []
abbrev bmOE : List Value := [.type "OverflowError", .type "ArithmeticError", .type "Exception", .type "BaseException", .type "object"]
theorem bas_OE : BasF "OverflowError" "OverflowError.__new__" "OverflowError.__init__" bmOE where
  call := fun P w A R h g d t os nm q C N bs bm hdct sn sub ab col dd k0 k1 k2 k3 k5 us fI h1 h2 h3 h4 h5 h6 => PySem.HandSPX.call_own F.excBase_OverflowError h1 h2 h3 h4 h5 h6
  init := fun P w A R h g d t os nm q C N bs bm hdct sn sub ab col dd k0 k1 k2 k3 k5 us e t0 h1 h2 h3 h4 h5 => PySem.HandSPX.init_base F.excBase_OverflowError h1 h2 h3 h4 h5
  pass := F.store_OverflowError.passes
  obj := by decide +kernel
  typ := by kernel_rfl
  stub := by decide +kernel
  blt := PyProof.Rows.Boot.«OverflowError»
  nam := by decide +kernel
  dbg := by decide +kernel
  hin := by decide +kernel
  ne := fun z => nomatch z
/-- what the written part says of the own class -/
structure OexB (K : PySem.W.Frag) (C : Addr) (newId : String) (bmB : List Value) : Prop where
  cls : ∃ nm q N bs bm sn sub ab col dd k0 k1 k2 k3 k5, K.lookup C = some (excClassObj nm q C N bs bm true sn sub ab col dd k0 k1 k2 k3 k5 newId) ∧ PySem.W.excTail bmB bm = true
  sa : PySem.W.findIn K (.ref C) "__setattr__" = some (some (.builtin "object.__setattr__"))
  exC : PySem.W.subIn K (.ref C) (.type "BaseException") = some true
  tyC : PySem.W.typeIn K (.ref C) = some (.type "type")
  kC : PySem.W.keepIn K (.ref C) = true
theorem tail_ne {bmB : List Value} (nb : bmB ≠ []) {l : List Value} (h : PySem.W.excTail bmB l = true) : l.isEmpty = false := by
  cases l with
  | nil => exact absurd (beq_iff_eq.mp h : ([] : List Value) = bmB).symm nb
  | cons _ _ => rfl
section
variable {P : Program} {w : World} {A : Around} {R : Result → Shared → Prop} {hp : Heap} {g : Array GenState} {d : Drawn} {t : Nat} {os : OsState} {B newId initId : String} {bmB : List Value}
/-- the first field -/
theorem osa_first {K : PySem.W.Frag} {f : Str} {tk : Tok} {v : Value} {a C : Addr} {fv : Array Value} {cd : ClassData} (BF : BasF B newId initId bmB) (X : K.In hp) (ha : hp.get? a = some { cls := .ref C, data := .fields fv }) (hcd : PySem.W.clsIn K C = some cd) (hm : PySem.W.excTail bmB cd.mro = true)
    (hh : cd.hasDict = true) (no : PySem.W.findIn K (.ref C) f = some none)
    (hq : ∀ h' tk' dx, (∀ b o, b ≠ a → hp.get? b = some o → h'.get? b = some o) → hp.objs.size ≤ dx → dx ≠ a → h'.get? a = some { cls := .ref C, dict := some dx, data := .fields fv } → h'.Ns1 dx (fun y => if y = f then some v else none) → R (.ok (.ret .none)) ⟨h', g, d, tk', os⟩) :
    codeAny (model P w) A (.call (.builtin "object.__setattr__") ⟨[.ref a, .str f tk, v], []⟩) R ⟨hp, g, d, t, os⟩ := by
  have I1 : PySem.W.InstAt hp a { cls := .ref C, data := .fields fv } C none := ⟨ha, rfl, rfl, trivial⟩
  have na : a ≠ hp.objs.size := Nat.ne_of_lt (Heap.lt_size ha)
  have ob := (PySem.W.excTail_contains "object" _ hm).trans BF.obj
  have inst : PySem.W.Looks (model P w) hp (isInstance (.ref a) (.type "object")) true := by
    refine I1.type.andThen (PySem.W.looks_mroIn X ?_)
    unfold PySem.W.mroIn
    rw [hcd, Option.bind_some, if_neg (by rw [tail_ne BF.ne hm]; decide), ob]
  have cl : PySem.W.Looks (model P w) hp (classData C) cd := PySem.W.looks_clsIn X hcd
  have mr : PySem.W.Looks (model P w) hp (mroOf (.ref C)) cd.mro := cl.andThen .now
  have tk0 : PySem.W.Looks (model P w) hp (Builtin.ObjectAttr.storeTaker? none) none := .now
  refine codeAny_call_builtin F.store_object.slot.plain F.store_object.entry (@PySem.W.check_slot (model P w) _ _ ⟨hp, g, d, t, os⟩ "object.__setattr__" "object" "__setattr__" (.ref a) [.str f tk, v] [] _ F.store_object.kind F.store_object.split inst (F.store_object.args (.ref a) (.str f tk) v) ?_)
  rw [PySem.W.osa_eq, refuse_eq]
  refine wpAny_bind ?_
  refine wpAny_bind (I1.type.at ?_)
  refine wpAny_bind (mr.at ?_)
  rw [PySem.W.excTail_pass _ (BF.pass _) _ hm]
  refine wpAny_pure ?_
  refine wpAny_bind (I1.type.at ?_)
  refine wpAny_bind ((PySem.W.looks_findIn X no).at ?_)
  refine wpAny_bind (tk0.at ?_)
  show wpAny _ _ (Builtin.ObjectAttr.storeInOwnDict (.ref a) (.ref C) (.str f tk) f v false) _ _ _
  obtain ⟨_, _, _, _, _, hd, _, _, _, _, _⟩ := cd
  obtain rfl : hd = true := hh
  unfold Builtin.ObjectAttr.storeInOwnDict Builtin.ObjectAttr.ownDictForStores
  repeat (first | with_reducible refine PySem.HandSPX.store_in_new ?_ ?_ | with_reducible refine wpAny_loadPart_at ha ?_ | with_reducible refine cl.at ?_ | wp_step)
  · exact ⟨_, #[], _, Eq.trans (Heap.get?_update_ne _ _ _ _ na.symm) (Heap.get?_push_at rfl rfl), rfl, (fun e he => absurd he (by simp)), fun _ => rfl⟩
  · intro h2 tk2 hn2 hs
    have old : (hp.push { cls := .type "dict", data := .dict #[] }).get? a = some { cls := .ref C, data := .fields fv } := Heap.get?_push_of_some _ ha
    refine hq h2 tk2 hp.objs.size (fun b o nb hb => ?_) (Nat.le_refl _) na.symm ?_ hn2
    · rw [hs.2 b (Nat.ne_of_lt (Heap.lt_size hb)), Heap.get?_update_ne _ _ _ _ nb]
      exact Heap.get?_push_of_some _ hb
    · rw [hs.2 a na]
      exact Heap.get?_update_self _ old rfl
end
section
variable {X : Cx} {pins : List (Addr × Obj)} {σ : L2.St} {H : Hp} {s : Shared} {a C dx : Addr} {f : Str} {y : V} {u : Value} {B newId initId : String} {bmB : List Value}
theorem ost_first {Q : Unit → Shared → Prop} {E : Value → Shared → Prop} {A : Around} (BF : BasF B newId initId bmB) (T : OexB X.K C newId bmB) (I : Inv X pins σ H s) (e : H a = some (exo a C none)) (no : PySem.W.findIn X.K (.ref C) f = some none) (ry : RelV y u)
    (h : ∀ dx s', H dx = none → dx ≠ a → Inv X pins σ (upd (upd H dx (exd dx [(f, y)])) a (exo a C (some dx))) s' → Q () s') : wpAny (model X.prog X.w) A (setAttr (.ref a) f u) Q E s := by
  obtain ⟨nm, q, N, bs, bm, sn, sub, ab, col, dd, k0, k1, k2, k3, k5, hC, hbm⟩ := T.cls
  have hcl : PySem.W.clsIn X.K C = some { name := nm, bases := bs, mro := .ref C :: bm, ns := N, qualname := q, hasDict := true, slotNames := sn, subclasses := sub, abstract := ab, collection := col, hasDel := false } := by
    unfold PySem.W.clsIn
    rw [hC] <;> rfl
  obtain ⟨t1, ho⟩ := exo_at I.hok e
  obtain ⟨hp, g, d, t, os⟩ := s
  refine PySem.W.set_plain I.kIn (od := none) (ox := { cls := .ref C, dict := none, data := .fields #[.ref t1, .none, .none, .none, .bool false, .none] }) ⟨ho, rfl, rfl, trivial⟩ T.sa ?_
  refine osa_first BF I.kIn ho hcl (show PySem.W.excTail bmB (.ref C :: bm) = true from hbm) rfl no fun h' tk' dx k dn dne hx hn => ?_
  have hnd : H dx = none := I.hok.fresh dn
  have nd : ∀ {b : Addr} {o : Obj}, hp.get? b = some o → b ≠ dx := fun {b o} q => Nat.ne_of_lt (Nat.lt_of_lt_of_le (Heap.lt_size q) dn)
  have na : ∀ {b : Addr}, H b = none → b ≠ a := fun {b} n z => by
    rw [z, e] at n
    cases n
  have old : ∀ {b : Addr} {o : HO}, H b = some o → exo a C none ≠ o → upd (upd H dx (exd dx [(f, y)])) a (exo a C (some dx)) b = some o := fun {b o} q ne => at_upd (at_ne e q ne) (at_upd (ne_of_none q hnd) q)
  have U : Un X.fs [] H (upd (upd H dx (exd dx [(f, y)])) a (exo a C (some dx))) hp h' := {
    keep := fun b o q n _ _ => k b o (na n) q
    slot := fun b o q n _ _ => ⟨_, k b o (na n) q⟩
    free := fun b o q n _ => no_upd (na n) (no_upd (nd q) n)
    there := fun b o q _ => Classical.byCases (fun hb : b = a => ⟨_, hb ▸ hx⟩) fun hb => ⟨o, k b o hb q⟩
    tups := fun b xs q => old q exo_tup
    frzs := fun b o v q => old q exo_frz
    tbls := fun b ps q => ⟨#[], by rw [old q exo_tbl]; simp⟩ }
  refine h dx _ hnd dne (I.un (t' := tk') U fun b o q => ?_)
  by_cases hb : b = a
  · subst hb
    rw [upd_same] at q
    cases q
    exact exo_ok hx
  rw [upd_ne hb] at q
  by_cases hd : b = dx
  · subst hd
    rw [upd_same] at q
    cases q
    exact exd_ok hn (relO_put (fs := []) ry fun g => True.intro)
  rw [upd_ne hd] at q
  refine (I.hok b o q).stay (fun c v hc z => k c v ?_ z) (fun c hc => old hc exo_own) fun c xs hc => old hc exo_tup
  rcases hc with rfl | hc
  · exact hb
  · exact at_ne e hc exo_own
theorem oinit_b {us : List Value} {Q : Value → Shared → Prop} {E : Value → Shared → Prop} {A : Around} (BF : BasF B newId initId bmB) (T : OexB X.K C newId bmB) (I : Inv X pins σ H s) (e : H a = some (exo a C none)) (hl : us.length ≤ sizeLine) (h : ∀ s', Inv X pins σ H s' → Q .none s') :
    wpAny (model X.prog X.w) A (call (.builtin initId) (.ref a :: us)) Q E s := by
  obtain ⟨nm, q, N, bs, bm, sn, sub, ab, col, dd, k0, k1, k2, k3, k5, hC, hbm⟩ := T.cls
  obtain ⟨t1, ho⟩ := exo_at I.hok e
  obtain ⟨hp, g, d, t, os⟩ := s
  refine wpAny_call (BF.init _ _ _ _ _ _ _ _ _ _ _ _ _ _ _ _ _ _ _ _ _ _ _ _ _ _ _ _ _ (fun Y => PySem.W.excTail_contains Y bm hbm) (I.kIn _ _ hC) ho hl fun h' t2 k hx => ?_)
  have J := I.write (t' := t) (x := a) (e := a) (o := exo a C none) (by rw [e]; exact True.intro) (.inl rfl) k ⟨_, hx⟩ (exo_ok hx)
  rw [show upd H a (exo a C none) = H from funext fun b => by
    by_cases hb : b = a
    · rw [hb, upd_same, e]
    · exact upd_ne hb] at J
  exact h _ J
/-- B.__init__(self, ..) -/
def tBtI (K : PySem.W.Frag) (newId : String) (bmB : List Value) (ta : TA) : TE := fun σ H Q => ta σ H fun vs H1 => ∃ (a C : Addr) (ws : List V), vs = .ref a :: ws ∧ ws.length ≤ 1000 ∧ OexB K C newId bmB ∧ H1 a = some (exo a C none) ∧ Q .non H1
/-- self.f = e, the first field -/
def tOstB (K : PySem.W.Frag) (newId : String) (bmB : List Value) (f : Str) (to te : TE) : TS := fun D σ H => te σ H fun y H1 => to σ H1 fun x H2 => ∃ a C : Addr, x = .ref a ∧ OexB K C newId bmB ∧ PySem.W.findIn K (.ref C) f = some none ∧
  H2 a = some (exo a C none) ∧ ∀ dx, H2 dx = none → dx ≠ a → D.nx σ (upd (upd H2 dx (exd dx [(f, y)])) a (exo a C (some dx)))
variable {o e : Expr} {es : List Expr} {to te : TE} {ta : TA} {p p' p1 p2 pos : Pos}
theorem pe_btinit (BF : BasF B newId initId bmB) {pl : Sem Bool} (hg : Gl X (Str.ofString B)) (hm : X.mg (Str.ofString B) = none) (vV : PySem.W.findCls X.K (.type B) (.type "type") "__init__" = some (.val (.builtin initId))) (ha : PA X (e :: es) ta)
    (hc : eval (.Call (.Attribute (.Name (Str.ofString B) p1) "__init__" p2) (e :: es) [] pos) X.env = (do
      let ov ← eval (.Name (Str.ofString B) p1) X.env
      standAt p2.atName
      let (f, first) ← holding [ov] (getMethod ov "__init__" pl)
      callWith pos f first (backTo pos (starEach (e :: es) X.env)) (backToKw pos (keywordEach [] X.env))) := by rfl)
    (he : starEach (e :: es) X.env = (false, eval e X.env) :: starEach es X.env := by rfl) (hpl : (backTo pos (starEach es X.env)).any (·.1) = false := by rfl) :
    PE X (.Call (.Attribute (.Name (Str.ofString B) p1) "__init__" p2) (e :: es) [] pos) (tBtI X.K newId bmB ta) := by
  refine ⟨fun pins s σ H Q I h => PySem.W.methodCall_KW (ld_blt I hg hm BF.blt ?_ BF.nam BF.dbg) hc⟩
  obtain ⟨m, fr⟩ := I.fr
  refine PySem.W.method_type fr I.ok.mod.kin BF.typ BF.stub vV BF.hin ?_
  show wpAny _ _ (callWith pos (Value.builtin initId) [] (backTo pos (starEach (e :: es) X.env)) []) _ _ _
  refine PyProof.Rows.callWith_method1 (thn (ha.run pos pins _ σ H _ (I.tok _) h) fun us s1 ⟨vs, H1, I1, r1, a, C, ws, ev, hl, T, ea, q⟩ => ?_) he hpl
  subst ev
  cases r1 with
  | @cons _ u0 _ ur ra rw' =>
    obtain rfl : u0 = Value.ref a := ra
    exact oinit_b BF T I1 ea (by rw [← Paired.length rw', sizeLine_eq]; omega) fun s' J => ⟨.non, H1, J, rfl, q⟩
theorem ps_ostB (BF : BasF B newId initId bmB) (ho : PE X o to) (he : PE X e te) (hs : swapsWith e (some (.Attribute o f p')) pos.line X.env = pure false := by rfl) : PS X (.Assign [.Attribute o f p'] e pos) (tOstB X.K newId bmB f to te) := by
  refine ⟨fun pins s σ H D I h => plainObj_wpAny_Assign_Attribute (thn (he.run pins s σ H _ I h) fun v s1 ⟨y, H1, I1, r1, q1⟩ => ?_) hs⟩
  refine thn (ho.run pins s1 σ H1 _ I1 q1) fun u s2 ⟨x, H2, I2, r2, a, C, ex, T, hno, ea, q⟩ => ?_
  subst ex
  obtain rfl : u = Value.ref a := r2
  exact ost_first BF T I2 ea hno r1 fun dx s' n ne J => ⟨σ, _, J, q dx n ne⟩
theorem pmk_b (BF : BasF B newId initId bmB) {CX : CXT} {x : Str} {fI : Addr} {k : Nat} {fd : FuncData} {ps : List Str} {sp : Sp} {ds : List Value} {dvs : List V} (T : OexB X.K C newId bmB) (iC : PySem.W.findIn X.K (.ref C) "__init__" = some (some (.ref fI))) (tI : PySem.W.typeIn X.K (.ref fI) = some (.type "function"))
    (F1 : FnOk X.prog X.w X.K X.mg X.base CX k fI fd ps sp) (hr : Room (k + 1) X.A) (hb : Binds X.K fd ps ds) (hd : Vals dvs ds) (hx : Passes CX X (fun _ _ _ => False)) (hg : Gl X x) (hm : X.mg x = some (.ref C)) (ha : PA X (e :: es) ta)
    (hdb : (x == ("__debug__" : Str)) = false := by decide) (he : starEach (e :: es) X.env = (false, eval e X.env) :: starEach es X.env := by rfl) (hpl : (backTo pos (starEach es X.env)).any (·.1) = false := by rfl) :
    PMk X (.Call (.Name x p) (e :: es) [] pos) (tMkO C sp dvs ta) := by
  intro pins s σ H Q I h
  obtain ⟨nm, q, N, bs, bm, sn, sub, ab, col, dd, k0, k1, k2, k3, k5, hC, hbm⟩ := T.cls
  refine wpAny_Call_Name_kw (ld_glob I hg hm ?_ hdb)
  refine PySem.W.callWith_K (h₀ := X.base) I.ok.mod.kin T.kC (thn (ha.run pos pins s σ H _ I h) fun us s1 ⟨vs, H1, I1, r1, hz, q1⟩ => ⟨I1.kIn, ?_⟩) he hpl
  obtain ⟨hp, g, dr, tk, os⟩ := s1
  show wpAny _ _ (call (.ref C) us) _ _ _
  have le : hp.objs.size ≤ hp.objs.size + 1 := Nat.le_succ _
  have want := q1 (hp.objs.size + 1) (I1.hok.fresh le)
  generalize hG : (hp.push (PySem.W.kdv_tup us)).push (PySem.HandSPX.excO C hp.objs.size) = G
  have kk : ∀ b o, hp.get? b = some o → G.get? b = some o := fun b o z => by
    rw [← hG]
    exact Heap.get?_push_of_some _ (Heap.get?_push_of_some _ z)
  have at1 : G.get? (hp.objs.size + 1) = some (PySem.HandSPX.excO C hp.objs.size) := by
    rw [← hG]
    heap_get
  have I2 : Inv X pins σ (upd H1 (hp.objs.size + 1) (exo (hp.objs.size + 1) C none)) ⟨G, g, dr, tk, os⟩ := I1.laid (a := hp.objs.size + 1) (o := exo (hp.objs.size + 1) C none) (t' := tk) (h' := G) kk le (exo_ok at1)
  have r2 : Vals (V.ref (hp.objs.size + 1) :: (vs ++ dvs)) (Value.ref (hp.objs.size + 1) :: (us ++ ds)) := .cons rfl (r1.append hd)
  have cnt : (Value.ref (hp.objs.size + 1) :: us ++ ds).length = ps.length := by
    rw [← F1.len _ _ _ _ want]
    exact r2.length.symm
  have small : us.length ≤ sizeLine := by
    rw [← Paired.length r1, sizeLine_eq]
    omega
  have run := F1.run _ X.stack _ _ ⟨Value.ref (hp.objs.size + 1) :: us, []⟩ (Value.ref (hp.objs.size + 1) :: (us ++ ds)) _ _ (fun _ _ _ => False) (hr.make C us []) (I2.env0.make C us []) (hb _ (Value.ref (hp.objs.size + 1) :: us) I2.kIn cnt) r2 want
  refine wpAny_call (BF.call _ _ _ _ _ _ _ _ _ _ _ _ _ _ _ _ _ _ _ _ _ _ _ _ _ _ _ fI (fun Y => PySem.W.excTail_contains Y bm hbm) (I1.kIn _ _ hC) (PySem.W.looks_findIn I1.kIn iC) (fun self => PySem.W.bind_fn I1.kIn self tI) small ?_)
  rw [hG]
  refine codeAny_mono run fun r s' hq' => ?_
  match r, hq' with
  | .error er, hq' => exact hx pins σ _ _ er s' I2 hq'
  | .ok (.ret u), ⟨v, H2, os2, bare2, un2, hok2, rv, ev, d, fs, ea, ed, hd1, q2⟩ =>
    subst ev
    exact ⟨rv, mk_end (raises_own T.exC T.tyC) I1 le kk un2 hok2 os2 bare2 ea ed hd1 q2⟩
end
/-- the class's facts, gathered -/
structure OwnB (K : PySem.W.Frag) (mg : Str → Option Value) (x f : Str) (B newId initId : String) (bmB : List Value) (C fI : Addr) : Prop where
  gC : mg x = some (.ref C)
  ox : OexB K C newId bmB
  no : PySem.W.findIn K (.ref C) f = some none
  iC : PySem.W.findIn K (.ref C) "__init__" = some (some (.ref fI))
  tI : PySem.W.typeIn K (.ref fI) = some (.type "function")
  xf : XfC K C
  gB : mg (Str.ofString B) = none
  vV : PySem.W.findCls K (.type B) (.type "type") "__init__" = some (.val (.builtin initId))
  ex : PySem.W.exmOne K (.ref C) (.ref C) = some true
/-- an own error with one field, its __init__ done -/
structure ErrB (P : Program) (w : World) (K : PySem.W.Frag) (mg : Str → Option Value) (base : Heap) (x f : Str) (B newId initId : String) (bmB : List Value) (C : Addr) : Prop where
  bf : BasF B newId initId bmB
  ex : ∃ (fI : Addr) (fd : FuncData), OwnB K mg x f B newId initId bmB C fI ∧ FnOk P w K mg base CX0 1 fI fd ["self", f] (spInit1 C f) ∧ Binds K fd ["self", f] []
section
variable {X : Cx} {W : WX} {j : Nat} {x f : Str} {B newId initId : String} {bmB : List Value} {C : Addr} {e : Expr} {te : TE} {p p2 pos : Pos}
theorem ps_rzB (T : ErrB X.prog X.w X.K X.mg X.base x f B newId initId bmB C) (hr : Rm j X.A) (hk : 2 ≤ j) (hc : X.calm = true) (tk : Takes X W) (hg : Gl X x) (he : PE X e te)
    (hdb : (x == ("__debug__" : Str)) = false := by decide) (hs : starEach [e] X.env = (false, eval e X.env) :: starEach [] X.env := by rfl) (hpl : (backTo p2 (starEach [] X.env)).any (·.1) = false := by rfl) :
    PS X (.Raise (some (.Call (.Name x p) [e] [] p2)) none pos) (tRz C f te W) := by
  obtain ⟨fI, fd, T1, F1, b⟩ := T.ex
  exact ps_raise (pos := pos) hc tk (pmk_b T.bf (p := p) (pos := p2) (dvs := []) T1.ox T1.iC T1.tI F1 (hr.r.mono hk) b .nil pass0 hg T1.gC (pa_cons he pa_nil (hs := hs)) hdb hs hpl)
end
section
variable {K : PySem.W.Frag} {H : Hp} {Q : VK} {D : Ends} {σ : L2.St} {newId : String} {bmB : List Value} {ta : TA} {te : TE}
theorem rd_bti {v : V} (h : ta σ H fun vs H1 => ∃ (a C : Addr) (ws : List V), vs = .ref a :: ws ∧ ws.length ≤ 1000 ∧ OexB K C newId bmB ∧ H1 a = some (exo a C none) ∧ Q .non H1) : tBtI K newId bmB ta σ H Q := h
theorem rd_ostB {f : Str} {to : TE} (h : te σ H fun y H1 => to σ H1 fun x H2 => ∃ a C : Addr, x = .ref a ∧ OexB K C newId bmB ∧ PySem.W.findIn K (.ref C) f = some none ∧
  H2 a = some (exo a C none) ∧ ∀ dx, H2 dx = none → dx ≠ a → D.nx σ (upd (upd H2 dx (exd dx [(f, y)])) a (exo a C (some dx)))) : tOstB K newId bmB f to te D σ H := h
end
theorem ownB_mk {K : PySem.W.Frag} {mg : Str → Option Value} {x f : Str} {B newId initId : String} {bmB : List Value} {C fI : Addr} {nm q : Str} {N : Addr} {bs bm : List Value} {sn : List Str} {sub : List Value} {ab : Bool} {col : Option Bool} {dd : Option Addr} {m0 m1 m2 m3 m5 : Option Value}
    (gC : mg x = some (.ref C)) (gB : mg (Str.ofString B) = none)
    (xL : K.lookup C = some (excClassObj nm q C N bs bm true sn sub ab col dd m0 m1 m2 m3 m5 newId)) (tl : PySem.W.excTail bmB bm = true)
    (sa : PySem.W.findIn K (.ref C) "__setattr__" = some (some (.builtin "object.__setattr__"))) (ga : PySem.W.findIn K (.ref C) "__getattribute__" = some (some (.builtin "BaseException.__getattribute__"))) (gg : PySem.W.findIn K (.ref C) "__getattr__" = some none) (nb : PySem.W.findIn K (.ref C) f = some none)
    (a1 : PySem.W.findIn K (.ref C) "__init__" = some (some (.ref fI))) (t1 : PySem.W.typeIn K (.ref fI) = some (.type "function"))
    (kC : PySem.W.keepIn K (.ref C) = true) (eC : PySem.W.subIn K (.ref C) (.type "BaseException") = some true) (tC : PySem.W.typeIn K (.ref C) = some (.type "type")) (hC : PySem.W.hasDictIn K C = true) (iC : PySem.W.isClsIn K C = true) (sC : PySem.W.subIn K (.ref C) (.ref C) = some true)
    (vV : PySem.W.findCls K (.type B) (.type "type") "__init__" = some (.val (.builtin initId))) : OwnB K mg x f B newId initId bmB C fI where
  gC := gC
  ox := ⟨⟨nm, q, N, bs, _, sn, sub, ab, col, dd, m0, m1, m2, m3, m5, xL, tl⟩, sa, eC, tC, kC⟩
  no := nb
  iC := a1
  tI := t1
  xf := ⟨ga, gg, eC, hC⟩
  gB := gB
  vV := vV
  ex := exm_sub eC eC iC tC sC
end U

/-! tuples, lists and dicts within each other: equal, so not unequal -/
namespace U
open PySem PySem.Spec PyProof.Rows L2 SeqAt
open MeetsSeq MeetsSeq2 MeetsSeq3
section
variable {P : Program} {w : World}
theorem teq_run (t1 t2 : Addr) (xs ys : Array Value) (m1 m2 : Nat) (e1 e2 : Option Addr) (c1 c2 : Array (Option Value)) (sz : xs.size = ys.size) :
    MeetsIn P w (Builtin.«tuple.__eq__» ⟨[.ref t1, .ref t2], []⟩) (fun A R s => s.heap.get? t1 = some ⟨.type "tuple", e1, .seq xs m1, c1⟩ ∧ s.heap.get? t2 = some ⟨.type "tuple", e2, .seq ys m2, c2⟩ ∧
      (∀ j (ha : j < xs.size) (hb : j < ys.size), EqP P w A.in1 s xs[j] ys[j] true) ∧ R (.ok (.ret (.bool true))) s) := by
  rintro A R ⟨hp, g, d, tk, os⟩ ⟨hl, hb, he, hR⟩
  have st := AutoSeq1.sub_tuple_tuple
  wp_walk using AutoSeq1.wpAny_loadPart' hl, AutoSeq1.wpAny_loadPart' hb, wpAny_forIn_list _ (fun rest b s' => b.1 = none ∧ s' = ⟨hp, g, d, tk, os⟩ ∧ ∃ i, rest = (xs.toList.zip ys.toList).drop i) _
  case turn =>
    rintro ⟨y, x⟩ rest b s' ⟨hn, rfl, i, hz⟩
    have hm : i < xs.size := Nat.lt_of_not_le fun q => by
      rw [List.drop_of_length_le (by simp; omega)] at hz
      cases hz
    rw [List.drop_eq_getElem_cons (by simp; omega)] at hz
    injection hz with h1 h2
    have hx : y = xs[i] ∧ x = ys[i] := by simpa using h1
    rw [hx.1, hx.2]
    refine wpAny_bind (he i hm (by omega) _ _ ?_)
    wp_walk
    exact ⟨rfl, rfl, i + 1, h2⟩
  case fin =>
    rintro ⟨b1, b2⟩ s' ⟨hn, rfl, i, hz⟩
    cases (show b1 = none from hn)
    wp_walk
    show R (.ok (.ret (Builtin.Tuple.tupleCompareSizes .Eq xs.size ys.size))) _
    rw [sz, show Builtin.Tuple.tupleCompareSizes .Eq ys.size ys.size = .bool true from by simp [Builtin.Tuple.tupleCompareSizes, bne]]
    exact hR
  case h =>
    exact ⟨rfl, rfl, 0, rfl⟩
theorem tne_run (t1 t2 : Addr) (xs ys : Array Value) (m1 m2 : Nat) (e1 e2 : Option Addr) (c1 c2 : Array (Option Value)) (sz : xs.size = ys.size) :
    MeetsIn P w (Builtin.«tuple.__ne__» ⟨[.ref t1, .ref t2], []⟩) (fun A R s => s.heap.get? t1 = some ⟨.type "tuple", e1, .seq xs m1, c1⟩ ∧ s.heap.get? t2 = some ⟨.type "tuple", e2, .seq ys m2, c2⟩ ∧
      (∀ j (ha : j < xs.size) (hb : j < ys.size), EqP P w A.in1 s xs[j] ys[j] true) ∧ R (.ok (.ret (.bool false))) s) := by
  rintro A R ⟨hp, g, d, tk, os⟩ ⟨hl, hb, he, hR⟩
  have st := AutoSeq1.sub_tuple_tuple
  wp_walk using AutoSeq1.wpAny_loadPart' hl, AutoSeq1.wpAny_loadPart' hb, wpAny_forIn_list _ (fun rest b s' => b.1 = none ∧ s' = ⟨hp, g, d, tk, os⟩ ∧ ∃ i, rest = (xs.toList.zip ys.toList).drop i) _
  case turn =>
    rintro ⟨y, x⟩ rest b s' ⟨hn, rfl, i, hz⟩
    have hm : i < xs.size := Nat.lt_of_not_le fun q => by
      rw [List.drop_of_length_le (by simp; omega)] at hz
      cases hz
    rw [List.drop_eq_getElem_cons (by simp; omega)] at hz
    injection hz with h1 h2
    have hx : y = xs[i] ∧ x = ys[i] := by simpa using h1
    rw [hx.1, hx.2]
    refine wpAny_bind (he i hm (by omega) _ _ ?_)
    wp_walk
    exact ⟨rfl, rfl, i + 1, h2⟩
  case fin =>
    rintro ⟨b1, b2⟩ s' ⟨hn, rfl, i, hz⟩
    cases (show b1 = none from hn)
    wp_walk
    show R (.ok (.ret (Builtin.Tuple.tupleCompareSizes .NotEq xs.size ys.size))) _
    rw [sz, show Builtin.Tuple.tupleCompareSizes .NotEq ys.size ys.size = .bool false from by simp [Builtin.Tuple.tupleCompareSizes, bne]]
    exact hR
  case h =>
    exact ⟨rfl, rfl, 0, rfl⟩
theorem lne_loop (t1 t2 : Addr) (xs ys : Array Value) (m1 m2 : Nat) (e1 e2 : Option Addr) (c1 c2 : Array (Option Value)) (sz : xs.size = ys.size) (k : Nat) : ∀ i : Nat, xs.size - i = k →
    MeetsIn P w (Builtin.«list.__eq__.loop» ⟨[.ref t1, .ref t2, rawInt i, rawInt 3], []⟩) (fun A R s => s.heap.get? t1 = some ⟨.type "list", e1, .seq xs m1, c1⟩ ∧ s.heap.get? t2 = some ⟨.type "list", e2, .seq ys m2, c2⟩ ∧
      (∀ j (ha : j < xs.size) (hb : j < ys.size), EqP P w A.in1 s xs[j] ys[j] true) ∧ R (.ok (.ret (.bool false))) s) := by
  induction k with
  | zero =>
    rintro i hk A R ⟨hp, g, d, tk, os⟩ ⟨hl, hb, he, hR⟩
    wp_walk using AutoSeq1.wpAny_loadPart' hl, AutoSeq1.wpAny_loadPart' hb
    rw [show xs[((i : Nat) : Int).toNat]? = none by simp; omega, show ys[((i : Nat) : Int).toNat]? = none by simp; omega]
    wp_walk using AutoSeq1.wpAny_loadPart' hl, AutoSeq1.wpAny_loadPart' hb
    show R (.ok (.ret (.bool (xs.size != ys.size)))) _
    rw [sz, show (ys.size != ys.size) = false by simp]
    exact hR
  | succ k ih =>
    rintro i hk A R ⟨hp, g, d, tk, os⟩ ⟨hl, hb, he, hR⟩
    wp_walk using AutoSeq1.wpAny_loadPart' hl, AutoSeq1.wpAny_loadPart' hb
    have h1 : i < xs.size := by omega
    have h2 : i < ys.size := by omega
    rw [show xs[((i : Nat) : Int).toNat]? = some xs[i] by simp [h1], show ys[((i : Nat) : Int).toNat]? = some ys[i] by simp [h2]]
    refine wpAny_bind (he i h1 h2 _ _ ?_)
    wp_walk
    rw [show ((i : Int) + 1) = ((i + 1 : Nat) : Int) by omega]
    refine ⟨plainId_quiet plain_eq_loop _, codeAny_builtin entry_eq_loop ?_⟩
    rw [Around.under_plainId plain_eq_loop _]
    exact ih (i + 1) (by omega) A R _ ⟨hl, hb, he, hR⟩
theorem lne_run (t1 t2 : Addr) (xs ys : Array Value) (m1 m2 : Nat) (e1 e2 : Option Addr) (c1 c2 : Array (Option Value)) (sz : xs.size = ys.size) :
    MeetsIn P w (Builtin.«list.__ne__» ⟨[.ref t1, .ref t2], []⟩) (fun A R s => s.heap.get? t1 = some ⟨.type "list", e1, .seq xs m1, c1⟩ ∧ s.heap.get? t2 = some ⟨.type "list", e2, .seq ys m2, c2⟩ ∧
      (∀ j (ha : j < xs.size) (hb : j < ys.size), EqP P w A.in1 s xs[j] ys[j] true) ∧ R (.ok (.ret (.bool false))) s) := by
  rintro A R ⟨hp, g, d, tk, os⟩ ⟨hl, hb, he, hR⟩
  have st := AutoSeq1.sub_list_list
  have hne : ¬ (xs.size != ys.size) = true := by simp [sz]
  wp_walk using AutoSeq1.wpAny_loadPart' hl, AutoSeq1.wpAny_loadPart' hb
  refine ⟨plainId_quiet plain_eq_loop _, codeAny_builtin entry_eq_loop ?_⟩
  rw [Around.under_plainId plain_eq_loop _]
  exact lne_loop t1 t2 xs ys m1 m2 e1 e2 c1 c2 sz _ 0 rfl A R _ ⟨hl, hb, he, hR⟩
section
variable {A : Around} {s : Shared} {t1 t2 : Addr} {xs ys : Array Value} {E Q : Value → Shared → Prop}
theorem rcP_teq (hl : s.heap.IsTuple t1 xs) (hb : s.heap.IsTuple t2 ys) (sz : xs.size = ys.size) (hu : A.units < cLine) (he : ∀ j (ha : j < xs.size) (hb : j < ys.size), EqP P w A.in1 s xs[j] ys[j] true) (h : Q (.bool true) s) :
    wpAny (model P w) A (richCompare .Eq (.ref t1) (.ref t2)) Q E s := by
  obtain ⟨⟨_, e1, _, c1⟩, g1, rfl, m1, rfl⟩ := id hl
  obtain ⟨⟨_, e2, _, c2⟩, g2, rfl, m2, rfl⟩ := id hb
  have a1 : s.TypeIs (.ref t1) "tuple" := ⟨_, g1, rfl⟩
  have a2 : s.TypeIs (.ref t2) "tuple" := ⟨_, g2, rfl⟩
  exact wpAny_richCompare_same_room (op := .Eq) a1 a2 F.slot_tuple_eq (call_meetsIn F.slot_tuple_eq a1 F.entry_tuple_eq (F.args_tuple_eq_2 _ _) (teq_run t1 t2 xs ys m1 m2 e1 e2 c1 c2 sz) ⟨g1, g2, he, ⟨(fun z => nomatch z), h⟩⟩) hu
theorem rcP_tne (hl : s.heap.IsTuple t1 xs) (hb : s.heap.IsTuple t2 ys) (sz : xs.size = ys.size) (hu : A.units < cLine) (he : ∀ j (ha : j < xs.size) (hb : j < ys.size), EqP P w A.in1 s xs[j] ys[j] true) (h : Q (.bool false) s) :
    wpAny (model P w) A (richCompare .NotEq (.ref t1) (.ref t2)) Q E s := by
  obtain ⟨⟨_, e1, _, c1⟩, g1, rfl, m1, rfl⟩ := id hl
  obtain ⟨⟨_, e2, _, c2⟩, g2, rfl, m2, rfl⟩ := id hb
  have a1 : s.TypeIs (.ref t1) "tuple" := ⟨_, g1, rfl⟩
  have a2 : s.TypeIs (.ref t2) "tuple" := ⟨_, g2, rfl⟩
  exact wpAny_richCompare_same_room (op := .NotEq) a1 a2 F.slot_tuple_ne (call_meetsIn F.slot_tuple_ne a1 F.entry_tuple_ne (F.args_tuple_ne_2 _ _) (tne_run t1 t2 xs ys m1 m2 e1 e2 c1 c2 sz) ⟨g1, g2, he, ⟨(fun z => nomatch z), h⟩⟩) hu
theorem rcP_lne (hl : s.heap.IsList t1 xs) (hb : s.heap.IsList t2 ys) (sz : xs.size = ys.size) (hu : A.units < cLine) (he : ∀ j (ha : j < xs.size) (hb : j < ys.size), EqP P w A.in1 s xs[j] ys[j] true) (h : Q (.bool false) s) :
    wpAny (model P w) A (richCompare .NotEq (.ref t1) (.ref t2)) Q E s := by
  obtain ⟨⟨_, e1, _, c1⟩, g1, rfl, m1, rfl⟩ := id hl
  obtain ⟨⟨_, e2, _, c2⟩, g2, rfl, m2, rfl⟩ := id hb
  have a1 : s.TypeIs (.ref t1) "list" := ⟨_, g1, rfl⟩
  have a2 : s.TypeIs (.ref t2) "list" := ⟨_, g2, rfl⟩
  exact wpAny_richCompare_same_room (op := .NotEq) a1 a2 F.slot_list_ne (call_meetsIn F.slot_list_ne a1 F.entry_list_ne (F.args_list_ne_2 _ _) (lne_run t1 t2 xs ys m1 m2 e1 e2 c1 c2 sz) ⟨g1, g2, he, ⟨(fun z => nomatch z), h⟩⟩) hu
end
end
/-- equal in each other's items: two tuples, two lists, two dicts -/
def EqT1 (K : PySem.W.Frag) (H : Hp) (E : V → V → Prop) (x y : V) : Prop := (∃ a b xs ys, x = .ref a ∧ y = .ref b ∧ SqT K H a xs ∧ SqT K H b ys ∧ Paired E xs ys) ∨ EqR K H E x y
/-- equal, of nesting below n -/
def EqT (K : PySem.W.Frag) (H : Hp) : Nat → V → V → Prop
  | 0 => fun _ _ => False
  | n + 1 => fun x y => (x = y ∧ flatB x = true) ∨ (∃ a, x = .ref a ∧ y = .ref a) ∨ EqT1 K H (EqT K H n) x y
section
variable {X : Cx} {pins : List (Addr × Obj)} {σ : L2.St} {H : Hp} {s : Shared}
theorem eqT1_run (I : Inv X pins σ H s) {A : Around} {F : V → V → Prop} (hu : A.units < cLine) (ih : ∀ x y v u, F x y → RelV x v → RelV y u → EqP X.prog X.w A.in1 s v u true) {x y : V} {v u : Value} (h : EqT1 X.K H F x y) (rx : RelV x v) (ry : RelV y u)
    (E Q : Value → Shared → Prop) (q : Q (.bool true) s) : wpAny (model X.prog X.w) A (richCompare .Eq v u) Q E s := by
  rcases h with ⟨a, b, xs, ys, rfl, rfl, ha, hb, hp⟩ | h
  · cases (show v = Value.ref a from rx)
    cases (show u = Value.ref b from ry)
    obtain ⟨us, r1, p1, _⟩ := I.tuple ha
    obtain ⟨ws, r2, p2, _⟩ := I.tuple hb
    have hsz : us.toArray.size = ws.toArray.size := by
      rw [List.size_toArray, List.size_toArray, ← r1.length, ← r2.length]
      exact Paired.length hp
    exact rcP_teq p1 p2 hsz hu (fun j h1 h2 => by simpa using items_run ih hp r1 r2 j (by simpa using h1) (by simpa using h2)) q
  · exact eqR_run I hu ih h rx ry E Q q
theorem eqT1_refs {K : PySem.W.Frag} {F : V → V → Prop} {x y : V} (h : EqT1 K H F x y) : ∃ a b, x = .ref a ∧ y = .ref b := by
  rcases h with ⟨a, b, _, _, e1, e2, _⟩ | ⟨a, b, _, _, e1, e2, _⟩ | ⟨a, b, _, _, e1, e2, _⟩ <;> exact ⟨a, b, e1, e2⟩
theorem eqT_run (I : Inv X pins σ H s) : ∀ (n : Nat) (A : Around), A.units + n < cLine → ∀ (x y : V) (v u : Value), EqT X.K H n x y → RelV x v → RelV y u → EqP X.prog X.w A s v u true
  | 0, _, _, _, _, _, _, h, _, _ => (show False from h).elim
  | n + 1, A, hu, x, y, v, u, h, rx, ry => by
    rcases h with ⟨rfl, f⟩ | ⟨a, rfl, rfl⟩ | h
    · exact (eqAt_same rx ry f).eqP
    · cases (show v = Value.ref a from rx)
      cases (show u = Value.ref a from ry)
      exact (EqAt.same _).eqP
    · have step := eqT1_run I (A := A) (by omega) (eqT_run I n A.in1 (by show A.units + 1 + n < cLine; omega)) h rx ry
      obtain ⟨a, b, rfl, rfl⟩ := eqT1_refs h
      cases (show v = Value.ref a from rx)
      cases (show u = Value.ref b from ry)
      by_cases e : a = b
      · subst e
        exact (EqAt.same _).eqP
      · exact eqP_refs e step
end
/-- a != b of two tuples or two lists that are equal -/
def rNeN (K : PySem.W.Frag) : R2 := fun x y H Q => ∃ n a b xs ys, n ≤ 60 ∧ x = .ref a ∧ y = .ref b ∧ ((SqT K H a xs ∧ SqT K H b ys) ∨ (SqL K H a xs ∧ SqL K H b ys)) ∧ Paired (EqT K H n) xs ys ∧ Q (.bl false) H
theorem kNeN {X : Cx} (K : PySem.W.Frag) (hK : X.K = K) (hu : X.A.units + 64 < cLine) : OpR X (compareOp .NotEq) (rNeN K) := by
  subst hK
  intro pins s σ H x y v u Q I rx ry h
  obtain ⟨n, a, b, xs, ys, hn, rfl, rfl, hs, hp, q⟩ := h
  cases (show v = Value.ref a from rx)
  cases (show u = Value.ref b from ry)
  have ih := eqT_run I n X.A.in1 (by show X.A.units + 1 + n < cLine; omega)
  rcases hs with ⟨ha, hb⟩ | ⟨ha, hb⟩
  · obtain ⟨us, r1, p1, _⟩ := I.tuple ha
    obtain ⟨ws, r2, p2, _⟩ := I.tuple hb
    have hsz : us.toArray.size = ws.toArray.size := by
      rw [List.size_toArray, List.size_toArray, ← r1.length, ← r2.length]
      exact Paired.length hp
    exact rcP_tne p1 p2 hsz (by omega) (fun j h1 h2 => by simpa using items_run ih hp r1 r2 j (by simpa using h1) (by simpa using h2)) ⟨.bl false, H, I, rfl, q⟩
  · obtain ⟨us, r1, p1, _⟩ := I.list ha
    obtain ⟨ws, r2, p2, _⟩ := I.list hb
    have hsz : us.toArray.size = ws.toArray.size := by
      rw [List.size_toArray, List.size_toArray, ← r1.length, ← r2.length]
      exact Paired.length hp
    exact rcP_lne p1.isList p2.isList hsz (by omega) (fun j h1 h2 => by simpa using items_run ih hp r1 r2 j (by simpa using h1) (by simpa using h2)) ⟨.bl false, H, I, rfl, q⟩
section
variable {K : PySem.W.Frag} {H : Hp} {Q : VK} {p q : Addr} {xs ys : List V}
theorem rd_neNT (n : Nat) (hn : n ≤ 60) (hp : SqT K H p xs) (hq : SqT K H q ys) (e : Paired (EqT K H n) xs ys) (h : Q (.bl false) H) : rNeN K (.ref p) (.ref q) H Q := ⟨n, p, q, xs, ys, hn, rfl, rfl, .inl ⟨hp, hq⟩, e, h⟩
theorem EqT.flat {n : Nat} {x : V} (h : flatB x = true) : EqT K H (n + 1) x x := .inl ⟨rfl, h⟩
theorem EqT.self {n : Nat} {a : Addr} : EqT K H (n + 1) (.ref a) (.ref a) := .inr (.inl ⟨a, rfl, rfl⟩)
theorem EqT.tup {n : Nat} {a b : Addr} {xs ys : List V} (ha : SqT K H a xs) (hb : SqT K H b ys) (h : Paired (EqT K H n) xs ys) : EqT K H (n + 1) (.ref a) (.ref b) := .inr (.inr (.inl ⟨a, b, xs, ys, rfl, rfl, ha, hb, h⟩))
theorem EqT.lst {n : Nat} {a b : Addr} {xs ys : List V} (ha : SqL K H a xs) (hb : SqL K H b ys) (h : Paired (EqT K H n) xs ys) : EqT K H (n + 1) (.ref a) (.ref b) := .inr (.inr (.inr (.inl ⟨a, b, xs, ys, rfl, rfl, ha, hb, h⟩)))
end
end U


/-! k60: TooLarge -/
namespace Law
open PySem PySem.Spec PyProof.Rows L2 U


theorem rd_c2A {sp : Sp} {W : WX} {tr : TA} {σ : L2.St} {H : Hp} {Q : VK} (h : tr σ H fun vs H1 => sp vs H1 Q fun cls d H' => W cls d σ H') : tC2 sp W tr σ H Q := h
theorem pe_xkA {X : Cx} {K : PySem.W.Frag} (hK : X.K = K) {e : Expr} {te : TE} {pos : Pos} {n : Str} (he : PE X e te) (hb : attributeBase e n X.env (eval e X.env) = eval e X.env := by rfl) : PE X (.Attribute e n pos) (tXk K n te) := by
  subst hK
  exact pe_xk he hb
theorem lk_A {k : Str} {v : V} : List.lookup k [(k, v)] = some v := by
  have e : (k == k) = true := beq_self_eq_true k
  simp only [List.lookup, e]
theorem rd_tXkA {K : PySem.W.Frag} {f : Str} {te : TE} {σ : L2.St} {H : Hp} {Q : VK} (h : te σ H fun x H1 => ∃ (a C dd : Addr) (fs : List (Str × V)) (v : V), x = .ref a ∧ H1 a = some (exk a (.ref C) (some dd)) ∧ XfC K C ∧ PySem.W.findIn K (.ref C) f = some none ∧ H1 dd = some (.xd fs) ∧ fs.lookup f = some v ∧ Q v H1) : tXk K f te σ H Q := h
/-- what isinstance says of TooLarge -/
structure IsA (K : PySem.W.Frag) (mg : Str → Option Value) (C : Addr) : Prop where
  cls : ExcC K C
  gK : mg "OverflowError" = none
  key : PySem.W.kitOne K (.ref C) (.type "OverflowError") = some true
def FldT (C : Addr) (v : V) (H : Hp) (E : XK) : Prop := ∀ (d : Addr) (H' : Hp), Same H H' → H' d = some (.xd [("total", v)]) → E (.ref C) (some d) H'
def spFstE (CT : Addr) : Sp := fun vs H Q E => ∃ (g nA e : Addr) (ns : List Str) (es : List (Addr × Str × Str)), vs = [.ref g] ∧
  ((H g = some (.tup [.ref nA, .ref e]) ∧ H nA = some (.tup (ns.map V.str)) ∧ 8 < ns.length ∧ FldT CT (.int ns.length) H E) ∨
   (GrN H g nA e ns es ∧ ns.length ≤ 8 ∧ ∀ H', Same H H' → (extF ns (es.map (·.2)) ns.length [] = none → Q .non H') ∧ ∀ tr', extF ns (es.map (·.2)) ns.length [] = some tr' → ∀ d', H' d' = some (.dK (trK tr')) → Q (.ref d') H'))
def spCaseE (CT : Addr) : Sp := fun vs H Q E => ∃ (g nA e : Addr) (ns : List Str) (es : List (Addr × Str × Str)), vs = [.ref g] ∧
  ((H g = some (.tup [.ref nA, .ref e]) ∧ H nA = some (.tup (ns.map V.str)) ∧ 8 < ns.length ∧ FldT CT (.int ns.length) H E) ∨
   (GrN H g nA e ns es ∧ ns.length ≤ 8 ∧ extF ns (es.map (·.2)) ns.length [] ≠ none ∧ ∀ H', Same H H' → Q .non H'))
theorem ext_none0 {ns : List Str} : ∀ {n : Nat} {tr : List (Str × Int)}, extF ns [] n tr ≠ none
  | 0, tr => by
    unfold extF confF
    simp
  | n + 1, tr => by
    unfold extF confF
    have := ext_none0 (ns := ns) (n := n) (tr := putS tr (ns.getD tr.length "") 0)
    simp only [List.find?_nil, Option.isSome_none, Bool.false_eq_true, if_false]
    intro z
    exact this (Option.or_eq_none_iff.mp z).1
def nmK (k : Nat) : Str := timesS (⟨#[97 + k % 26]⟩ : Str) ((1 + k / 26 : Nat) : Int)
theorem gr_eight {H : Hp} {g nA e : Addr} {ys : List Str} (hg : H g = some (.tup [.ref nA, .ref e])) (hn : H nA = some (.tup (ys.map V.str))) (he : H e = some (.tup [])) (py : ys.Perm ((List.range 8).map nmK)) : GrN H g nA e ys [] := by
  have ok : ∀ x ∈ (List.range 8).map nmK, 1 ≤ x.length ∧ x.length ≤ 8 ∧ ∀ c ∈ x.cps.toList, 97 ≤ c ∧ c ≤ 122 := by decide +kernel
  have nd : ((List.range 8).map nmK).Nodup := by decide +kernel
  refine ⟨⟨hg, hn, he, fun x h => nomatch h⟩, fun x hx => ?_, py.nodup_iff.mpr nd, (fun x h => nomatch h), (fun x h => nomatch h), (fun x h => nomatch h), by rw [py.length_eq]; decide, by decide⟩
  obtain ⟨a, b, c⟩ := ok x (py.mem_iff.mp hx)
  exact ⟨a, b, c⟩
section
variable {P : Program} {w : World} {K : PySem.W.Frag} {mg : Str → Option Value} {base : Heap}
theorem ok_initTA {f : Addr} {fd : FuncData} {C : Addr} (F : Fun K "__init__" "TooLarge.__init__" s_TooLarge_init f fd) (T : OwnB K mg "TooLarge" "total" "OverflowError" "OverflowError.__new__" "OverflowError.__init__" bmOE C f) : FnOk P w K mg base CX0 1 f fd ["self", "total"] (spInit1 C "total") := by
  refine F.ok sc_TooLarge_init (fun vs H Q E h => ?_) (fun cdv A outer s H vs Q E hr h => ?_)
  · obtain ⟨a, v, rfl, _⟩ := h
    rfl
  · obtain ⟨a, v, rfl, ha, q⟩ := h
    refine ⟨_, pss_cons (ps_expr (pe_btinit bas_OE rfl T.gB T.vV (pa_cons (pv 0) (pa_cons pe_str pa_nil)))) (pss_one (ps_ostB bas_OE (pv 0) (pv 1))), ?_⟩
    wtm_at "rd"
    refine rd_bti (v := v) ?_
    wtm_at "rd"
    refine ⟨a, C, _, rfl, by decide, T.ox, ha, ?_⟩
    dsimp only
    refine rd_ostB ?_
    wtm_at "rd"
    exact ⟨a, C, rfl, T.ox, T.no, ha, fun dx n1 n2 => q dx n1 n2⟩
theorem ok_fstE {f : Addr} {fd : FuncData} {CT : Addr} (F : Fun K "first_state" "first_state" s_first_state f fd) (B : Bt mg) (C : DDa P w K mg base) (TT : ErrB P w K mg base "TooLarge" "total" "OverflowError" "OverflowError.__new__" "OverflowError.__init__" bmOE CT) : FnG P w K mg base (L2.CX P w) 11 f fd ["graph"] (spFstE CT) := by
  refine fnG F sc_first_state (fun vs H Q E h => ?_) (fun cdv A outer s H vs Q E hr h => ?_)
  · obtain ⟨g, nA, e, ns, es, rfl, _⟩ := h
    rfl
  · obtain ⟨g, nA, e, ns, es, rfl, h⟩ := h
    have nd := sc_first_state.nd
    have hu := hr.u1
    refine ⟨_, (pss_cons (ps_if (pt_cmpR uGt (pe_callB (kLen K rfl) (by rfl) B.len bb_len (pa_cons (pe_ix (kIx K rfl) (pv 0) pe_int (fun _ _ => rfl)) pa_nil)) (pe_gl rfl C.MAX_CASE_NODES) (nomark _)) (pss_one (ps_rzB TT hr (by decide) rfl (takes_of rfl rfl rfl rfl) rfl (pe_callB (kLen K rfl) (by rfl) B.len bb_len (pa_cons (pe_ix (kIx K rfl) (pv 0) pe_int (fun _ _ => rfl)) pa_nil)))) pss_nil)
  (pss_one (ps_ret (pe_c C.first_extension hr (by decide) rfl (pa_cons (pv 0) (pa_cons pe_dnewK pa_nil)))))), ?_⟩
    wtm_at "rd"
    rcases h with ⟨hg, hn, n8, er⟩ | ⟨gn, n8, q⟩
    · refine rd_ixT (SqT.of hg) (v := .ref nA) rfl ?_
      wtm_at "rd"
      refine rd_lenT (SqT.of hn) ?_
      rw [List.length_map]
      wtm_at "rd"
      refine rd_yes (by omega) ?_
      wtm_at "rd"
      refine rd_rz ?_
      wtm_at "rd"
      refine rd_ixT (SqT.of hg) (v := .ref nA) rfl ?_
      wtm_at "rd"
      refine rd_lenT (SqT.of hn) ?_
      rw [List.length_map]
      exact rd_mk1 fun dd H' s nd hd => er dd H' s hd
    · refine rd_ixT (SqT.of gn.gr.top) (v := .ref nA) rfl ?_
      wtm_at "rd"
      refine rd_lenT (SqT.of gn.gr.nodes) ?_
      rw [List.length_map]
      wtm_at "rd"
      refine rd_no (by omega) ?_
      wtm_at "rd"
      intro d fd
      have k := Same.new (o := .dK []) fd
      refine ⟨ns.length, n8, g, nA, e, d, ns, es, [], rfl, gn.same k, upd_same, ⟨rfl, Nat.zero_le _⟩, by simp, fun H' s => q H' (k.trans s)⟩
structure WAb (P : Program) (w : World) (K : PySem.W.Frag) (mg : Str → Option Value) (base : Heap) (CT : Addr) : Prop where
  first_state : Cal P w K mg base (L2.CX P w) 11 "first_state" (spFstE CT)
  tree_below : Cal P w K mg base CX0 10 "tree_below" spBelowDU
theorem ok_caseE {f : Addr} {fd : FuncData} {CT : Addr} (F : Fun K "case_tree" "case_tree" s_case_tree f fd) (B : Bt mg) (C : WAb P w K mg base CT) : FnG P w K mg base (L2.CX P w) 12 f fd ["graph"] (spCaseE CT) := by
  refine fnG F sc_case_tree (fun vs H Q E h => ?_) (fun cdv A outer s H vs Q E hr h => ?_)
  · obtain ⟨g, nA, e, ns, es, rfl, _⟩ := h
    rfl
  · obtain ⟨g, nA, e, ns, es, rfl, h⟩ := h
    have nd := sc_case_tree.nd
    have hu := hr.u1
    refine ⟨_, (pss_one (ps_ret (pe_ifExp (pt_cmpR uIs (pe_cX C.first_state hr (by decide) rfl (takes_of rfl rfl rfl rfl) (pa_cons (pv 0) pa_nil)) pe_non (nomark _)) (pe_c C.tree_below hr (by decide) rfl (pa_cons (pv 0) (pa_cons pe_dnewK pa_nil))) pe_non))), ?_⟩
    wtm_at "rd"
    rcases h with ⟨hg, hn, n8, er⟩ | ⟨gn, n8, ex, q⟩
    · exact ⟨g, nA, e, ns, es, rfl, .inl ⟨hg, hn, n8, er⟩⟩
    · refine ⟨g, nA, e, ns, es, rfl, .inr ⟨gn, n8, fun H' s => ⟨fun z => absurd z ex, fun tr' _ d' hd' => ?_⟩⟩⟩
      wtm_at "rd"
      refine rd_no (fun z => by cases z) ?_
      wtm_at "rd"
      exact q H' s
structure WAc (P : Program) (w : World) (K : PySem.W.Frag) (mg : Str → Option Value) (base : Heap) (CT : Addr) : Prop where
  first_state : Cal P w K mg base (L2.CX P w) 11 "first_state" (spFstE CT)
  case_tree : Cal P w K mg base (L2.CX P w) 12 "case_tree" (spCaseE CT)
def spTooL : Sp := fun vs H Q _ => ∃ (c dir : Nat), vs = [.int (c : Int), .int (dir : Int)] ∧ 8 ≤ c ∧ c ≤ 40 ∧ dir < 2 ∧ (c = 8 → ∀ H', Same H H' → Q .non H') ∧ (8 < c → ∀ t H', Same H H' → H' t = some (.tup [.int (c : Int), .bl true]) → Q (.ref t) H')
theorem ok_tooL {f : Addr} {fd : FuncData} {CT fI : Addr} (F : Fun K "_law_too_large" "_law_too_large" s__law_too_large f fd) (B : Bt mg) (C : WAc P w K mg base CT) (O : OwnB K mg "TooLarge" "total" "OverflowError" "OverflowError.__new__" "OverflowError.__init__" bmOE CT fI) (IN : IsA K mg CT) : FnG P w K mg base CX0 13 f fd ["_law_count", "_law_direction"] spTooL := by
  refine fnG0 F sc__law_too_large (fun vs H Q E h => ?_) (fun cdv A outer s H vs Q E hr h => ?_)
  · obtain ⟨c, dir, rfl, _⟩ := h
    rfl
  · obtain ⟨c, dir, rfl, c8, c40, d2, q0, q1⟩ := h
    have nd := sc__law_too_large.nd
    have hu := hr.u1
    refine ⟨_, (pss_cons (ps_set (i := 2) nd rfl (by first | exact Or.inl rfl | exact Or.inr rfl) pe_non)
  (pss_cons (ps_set (i := 3) nd rfl (by first | exact Or.inl rfl | exact Or.inr rfl) (pe_callB (kSorted K rfl hr.u64) (by rfl) B.sorted bb_sorted (pa_cons (pe_lc (own := [("_law_k", 4)]) rfl nd (pi_range1 rfl B.range (pa_cons (pv 0) pa_nil)) (blkOk_by (own := [("_law_k", 4)]) (N := nN__law_too_large) (sc := defScope s__law_too_large) (by decide +kernel)) (fun _ _ _ _ _ => (pg_name (i := 4) nd rfl (by first | exact Or.inl rfl | exact Or.inr rfl))) (fun _ _ _ _ _ => pts_nil) (fun _ _ _ _ _ => (pe_op uMul (pe_ix (kIx K rfl) pe_str (pe_op uMod (pv 4) pe_int) (fun _ _ => rfl)) (pe_op (kAdd K rfl) pe_int (pe_op uDiv (pv 4) pe_int))))) pa_nil)))
  (pss_cons (ps_try_keep (i := 5) (Wout := fun _ _ _ _ => False) rfl rfl nd rfl rfl ⟨rfl, by decide, Or.inl O.gC⟩ takes0 (fun W pn xe tk _ => pss_one (ps_if (pt_cmpR (kEq K rfl hr.u64) (pv 1) pe_int (nomark _)) (pss_one (ps_expr (pe_cX C.first_state hr (by decide) rfl tk (pa_cons (pe_tup (pa_cons (pe_callTy (kTuple K rfl) (by rfl) B.tuple bb_tuple (pa_cons (pv 3) pa_nil)) (pa_cons (pe_tup pa_nil) pa_nil))) pa_nil)))) (pss_one (ps_expr (pe_cX C.case_tree hr (by decide) rfl tk (pa_cons (pe_tup (pa_cons (pe_callTy (kTuple K rfl) (by rfl) B.tuple bb_tuple (pa_cons (pv 3) pa_nil)) (pa_cons (pe_tup pa_nil) pa_nil))) pa_nil)))))) (fun a pn => pss_one (ps_set (i := 2) nd rfl (Or.inl rfl) (pe_tup (pa_cons (pe_xkA (K := K) rfl (pv 5)) (pa_cons (pe_callB (kIsK K rfl) (by rfl) B.isinstance bb_isinstance (pa_cons (pv 5) (pa_cons (pe_ty rfl IN.gK bas_OE.blt) pa_nil))) pa_nil))))))
  (pss_one (ps_ret (pv 2)))))), ?_⟩
    wtm_at "rd"
    intro D fD
    rw [Int.toNat_natCast]
    refine lcR (fun i H' => Same H H' ∧ H' D = some (.lst (((List.range i).map nmK).map V.str))) ⟨Same.new fD, upd_same⟩ ?_ ?_
    · rintro i H' hi ⟨s, hD⟩
      have hi : i < c := hi
      wtm_at "rd"
      rw [Int.zero_add]
      refine rd_ixS letters_len (letters_at (by omega) (by omega)) ?_
      wtm_at "rd"
      refine ⟨⟨by omega, by omega, by show 1 ≤ 1000; decide⟩, ?_⟩
      have e : timesS (⟨#[97 + ((i : Int) % 26).toNat]⟩ : Str) (1 + (i : Int) / 26) = nmK i := by
        unfold nmK
        rw [show ((i : Int) % 26).toNat = i % 26 from by omega, show (1 + (i : Int) / 26) = ((1 + i / 26 : Nat) : Int) from by omega]
      rw [e]
      refine rd_acc hD (by rw [List.length_map, List.length_map, List.length_range]; omega) ?_
      refine ⟨same_put s fD, ?_⟩
      rw [upd_same, List.range_succ, List.map_append, List.map_append]
      rfl
    rintro H1 ⟨s1, hD⟩
    have hD : H1 D = some (.lst (((List.range c).map nmK).map V.str)) := hD
    wtm_at "rd"
    refine rd_sortS (SqL.of hD) (by rw [List.length_map, List.length_range]; omega) ?_
    intro ys py sy l fl
    have k1 := Same.new (o := .lst (ys.map V.str)) fl
    have hl := @upd_same H1 l (.lst (ys.map V.str))
    have s2 := s1.trans k1
    generalize upd H1 l (.lst (ys.map V.str)) = H2 at s2 hl
    have yl : ys.length = c := by rw [py.length_eq, List.length_map, List.length_range]
    clear k1 fl s1 hD fD
    wtm_at "rd"
    refine rd_split (fun c1 => ?_) (fun c1 => ?_)
    · refine rd_c2A ?_
      wtm_at "rd"
      refine rd_tupleL (SqL.of hl) ?_
      intro nA fnA
      have knA := Same.new (o := .tup (ys.map V.str)) fnA
      have hnA := @upd_same H2 nA (.tup (ys.map V.str))
      have hl := knA _ _ hl
      have s2 := s2.trans knA
      generalize upd H2 nA (.tup (ys.map V.str)) = H3 at hnA hl s2
      clear knA fnA
      wtm_at "rd"
      intro eA feA
      have keA := Same.new (o := .tup []) feA
      have heA := @upd_same H3 eA (.tup [])
      have hnA := keA _ _ hnA
      have s2 := s2.trans keA
      generalize upd H3 eA (.tup []) = H4 at heA hnA s2
      clear keA feA
      wtm_at "rd"
      intro g fg
      have kg := Same.new (o := .tup [.ref nA, .ref eA]) fg
      have hg := @upd_same H4 g (.tup [.ref nA, .ref eA])
      have hnA := kg _ _ hnA
      have heA := kg _ _ heA
      have s2 := s2.trans kg
      generalize upd H4 g (.tup [.ref nA, .ref eA]) = H5 at hg hnA heA s2
      clear kg fg
      wtm_at "rd"
      by_cases c8e : c = 8
      · subst c8e
        have gn := gr_eight hg hnA heA py
        refine ⟨g, nA, eA, ys, [], rfl, .inr ⟨gn, by omega, fun H6 s6 => ⟨fun _ => ?_, fun tr' _ d' _ => ?_⟩⟩⟩
        · wtm_at "rd"
          exact q0 rfl _ (s2.trans s6)
        · wtm_at "rd"
          exact q0 rfl _ (s2.trans s6)
      · refine ⟨g, nA, eA, ys, [], rfl, .inl ⟨hg, hnA, by omega, fun d H6 s6 hd => ?_⟩⟩
        rw [yl] at hd
        refine ⟨true, O.ex, (fun z => nomatch z), fun _ a na => ?_⟩
        have kk := Same.new (o := exk a (.ref CT) (some d)) na
        have ha := @upd_same H6 a (exk a (.ref CT) (some d))
        have hd2 := kk _ _ hd
        have s7 := (s2.trans s6).trans kk
        generalize upd H6 a (exk a (.ref CT) (some d)) = H7 at ha hd2 s7
        wtm_at "rd"
        refine rd_tXkA ?_
        wtm_at "rd"
        refine ⟨a, CT, d, _, _, rfl, ha, O.xf, O.no, hd2, lk_A, ?_⟩
        wtm_at "rd"
        refine rd_isK ha hd2 IN.cls (fun u hu => hu) IN.key ?_
        wtm_at "rd"
        intro t1 ft1
        have kt1 := Same.new (o := .tup [.int (c : Int), .bl true]) ft1
        have ht1 := @upd_same H7 t1 (.tup [.int (c : Int), .bl true])
        have s7 := s7.trans kt1
        generalize upd H7 t1 (.tup [.int (c : Int), .bl true]) = H8 at ht1 s7
        clear kt1 ft1
        wtm_at "rd"
        exact q1 (by omega) _ _ s7 ht1
    · refine rd_c2A ?_
      wtm_at "rd"
      refine rd_tupleL (SqL.of hl) ?_
      intro nA fnA
      have knA := Same.new (o := .tup (ys.map V.str)) fnA
      have hnA := @upd_same H2 nA (.tup (ys.map V.str))
      have hl := knA _ _ hl
      have s2 := s2.trans knA
      generalize upd H2 nA (.tup (ys.map V.str)) = H3 at hnA hl s2
      clear knA fnA
      wtm_at "rd"
      intro eA feA
      have keA := Same.new (o := .tup []) feA
      have heA := @upd_same H3 eA (.tup [])
      have hnA := keA _ _ hnA
      have s2 := s2.trans keA
      generalize upd H3 eA (.tup []) = H4 at heA hnA s2
      clear keA feA
      wtm_at "rd"
      intro g fg
      have kg := Same.new (o := .tup [.ref nA, .ref eA]) fg
      have hg := @upd_same H4 g (.tup [.ref nA, .ref eA])
      have hnA := kg _ _ hnA
      have heA := kg _ _ heA
      have s2 := s2.trans kg
      generalize upd H4 g (.tup [.ref nA, .ref eA]) = H5 at hg hnA heA s2
      clear kg fg
      wtm_at "rd"
      by_cases c8e : c = 8
      · subst c8e
        have gn := gr_eight hg hnA heA py
        refine ⟨g, nA, eA, ys, [], rfl, .inr ⟨gn, by omega, ext_none0, fun H6 s6 => ?_⟩⟩
        wtm_at "rd"
        exact q0 rfl _ (s2.trans s6)
      · refine ⟨g, nA, eA, ys, [], rfl, .inl ⟨hg, hnA, by omega, fun d H6 s6 hd => ?_⟩⟩
        rw [yl] at hd
        refine ⟨true, O.ex, (fun z => nomatch z), fun _ a na => ?_⟩
        have kk := Same.new (o := exk a (.ref CT) (some d)) na
        have ha := @upd_same H6 a (exk a (.ref CT) (some d))
        have hd2 := kk _ _ hd
        have s7 := (s2.trans s6).trans kk
        generalize upd H6 a (exk a (.ref CT) (some d)) = H7 at ha hd2 s7
        wtm_at "rd"
        refine rd_tXkA ?_
        wtm_at "rd"
        refine ⟨a, CT, d, _, _, rfl, ha, O.xf, O.no, hd2, lk_A, ?_⟩
        wtm_at "rd"
        refine rd_isK ha hd2 IN.cls (fun u hu => hu) IN.key ?_
        wtm_at "rd"
        intro t1 ft1
        have kt1 := Same.new (o := .tup [.int (c : Int), .bl true]) ft1
        have ht1 := @upd_same H7 t1 (.tup [.int (c : Int), .bl true])
        have s7 := s7.trans kt1
        generalize upd H7 t1 (.tup [.int (c : Int), .bl true]) = H8 at ht1 s7
        clear kt1 ft1
        wtm_at "rd"
        exact q1 (by omega) _ _ s7 ht1
end
end Law

/-! components, root paths, basis cycles: the plain law -/
namespace U
open PySem PySem.Spec PyProof.Rows L2
theorem risingS_pw : ∀ {xs : List Str} {p : Str}, risingS p xs = true → (∀ x ∈ xs, ¬ sLt x p) ∧ xs.Pairwise (fun a b => ¬ sLt b a)
  | [], _, _ => ⟨(fun x hx => nomatch hx), List.Pairwise.nil⟩
  | x :: r, p, h => by
    rw [risingS, Bool.and_eq_true, Bool.not_eq_true', ltCps_eq, decide_eq_false_iff_not] at h
    obtain ⟨h1, h2⟩ := h
    obtain ⟨k1, k2⟩ := risingS_pw h2
    refine ⟨fun y hy => ?_, List.pairwise_cons.mpr ⟨k1, k2⟩⟩
    rcases List.mem_cons.mp hy with rfl | hy
    · exact h1
    · exact nlt_trans h1 (k1 y hy)
theorem sortedS_pw : ∀ {xs : List Str}, sortedS xs = true → xs.Pairwise (fun a b => ¬ sLt b a)
  | [], _ => List.Pairwise.nil
  | x :: r, h => by
    obtain ⟨a, b⟩ := risingS_pw (show risingS x r = true from h)
    exact List.pairwise_cons.mpr ⟨a, b⟩
abbrev ptF (es : List (Str × Str)) (x : Str) : List (Str × List Str) := pathsF (nbS es) (fun _ _ => true) x
abbrev Con (es : List (Str × Str)) (x y : Str) : Prop := Reach (nbS es) (fun _ _ => true) x y
section
variable {ns : List Str} {es : List (Str × Str)} {x y : Str}
theorem con_symm (h : Con es x y) : Con es y x := by
  induction h with
  | refl => exact .refl
  | step _ m _ ih =>
    refine Reach.trans (.step .refl ?_ rfl) ih
    exact nbS_mem.mpr ((nbS_mem.mp m).symm)
theorem pt_mem (ok : GrOk ns es) (l : ns.length ≤ 1000) (hx : x ∈ ns) : y ∈ keysF (ptF es x) ↔ Con es x y :=
  ⟨fun h => stF_reach h, fun h => stF_all (by have := stF_len (ok := fun _ _ => true) (adj := nbS es) (ns := ns) (fun a _ b hb => nbS_in ok hb) hx 1000; omega) h⟩
theorem pt_nodup : (keysF (ptF es x)).Nodup := stF_nodup 1000
theorem pt_in (ok : GrOk ns es) (hx : x ∈ ns) (h : y ∈ keysF (ptF es x)) : y ∈ ns := reach_mem (fun a _ b hb => nbS_in ok hb) hx (stF_reach h)
def comp (es : List (Str × Str)) (x : Str) : List Str := sortS (keysF (ptF es x))
theorem comp_mem (ok : GrOk ns es) (l : ns.length ≤ 1000) (hx : x ∈ ns) : y ∈ comp es x ↔ Con es x y := by
  unfold comp
  rw [(sortS_perm _).mem_iff, pt_mem ok l hx]
def compStep (es : List (Str × Str)) (cs : List (List Str)) (n : Str) : List (List Str) := if n ∈ cs.flatten then cs else cs ++ [comp es n]
/-- components found from the nodes ds, all in ns -/
structure Cmps (ns : List Str) (es : List (Str × Str)) (ds : List Str) (cs : List (List Str)) : Prop where
  of : ∀ c ∈ cs, ∃ r ∈ ns, c = comp es r
  nd : cs.flatten.Nodup
  all : ∀ x ∈ ds, x ∈ cs.flatten
theorem Cmps.nil : Cmps ns es [] [] := ⟨(fun c hc => nomatch hc), List.nodup_nil, (fun x hx => nomatch hx)⟩
theorem Cmps.in_ {ds : List Str} {cs : List (List Str)} (h : Cmps ns es ds cs) (ok : GrOk ns es) : ∀ x ∈ cs.flatten, x ∈ ns := fun x hx => by
  obtain ⟨c, hc, hx⟩ := List.mem_flatten.mp hx
  obtain ⟨r, hr, rfl⟩ := h.of c hc
  exact pt_in ok hr ((sortS_perm _).mem_iff.mp hx)
theorem Cmps.step {ds : List Str} {cs : List (List Str)} {n : Str} (h : Cmps ns es ds cs) (ok : GrOk ns es) (l : ns.length ≤ 1000) (hn : n ∈ ns) : Cmps ns es (ds ++ [n]) (compStep es cs n) := by
  unfold compStep
  by_cases m : n ∈ cs.flatten
  · rw [if_pos m]
    refine ⟨h.of, h.nd, fun x hx => ?_⟩
    rcases List.mem_append.mp hx with hx | hx
    · exact h.all x hx
    · rw [List.mem_singleton] at hx
      rw [hx]
      exact m
  · rw [if_neg m]
    refine ⟨fun c hc => ?_, ?_, fun x hx => ?_⟩
    · rcases List.mem_append.mp hc with hc | hc
      · exact h.of c hc
      · rw [List.mem_singleton] at hc
        exact ⟨n, hn, hc⟩
    · rw [List.flatten_append, List.nodup_append]
      refine ⟨h.nd, ?_, fun a ha b hb z => ?_⟩
      · rw [List.flatten_singleton]
        exact (sortS_perm _).nodup_iff.mpr pt_nodup
      · rw [List.flatten_singleton] at hb
        subst z
        obtain ⟨c, hc, ha⟩ := List.mem_flatten.mp ha
        obtain ⟨r, hr, rfl⟩ := h.of c hc
        have h1 := (comp_mem ok l hr).mp ha
        have h2 := (comp_mem ok l hn).mp hb
        exact m (List.mem_flatten.mpr ⟨_, hc, (comp_mem ok l hr).mpr (h1.trans (con_symm h2))⟩)
    · rw [List.flatten_append, List.flatten_singleton]
      rcases List.mem_append.mp hx with hx | hx
      · exact List.mem_append_left _ (h.all x hx)
      · rw [List.mem_singleton] at hx
        subst hx
        exact List.mem_append_right _ ((comp_mem ok l hn).mpr .refl)
theorem Cmps.len {ds : List Str} {cs : List (List Str)} (h : Cmps ns es ds cs) (ok : GrOk ns es) : cs.flatten.length ≤ ns.length := nodup_len h.nd (h.in_ ok)
/-! root paths -/
end
end U


/-! k60's law -/
namespace U
open PySem PySem.Spec PyProof.Rows L2
theorem put_vals {x : Str} {v : Int} {tr : List (Str × Int)} (hv : v = 0 ∨ v = 1 ∨ v = 2) (h : ∀ k ∈ tr, k.2 = 0 ∨ k.2 = 1 ∨ k.2 = 2) : ∀ k ∈ putS tr x v, k.2 = 0 ∨ k.2 = 1 ∨ k.2 = 2 := by
  intro k hk
  unfold putS at hk
  split at hk
  · obtain ⟨y, hy, rfl⟩ := List.mem_map.mp hk
    split
    · exact hv
    · exact h y hy
  · rcases List.mem_append.mp hk with hk | hk
    · exact h k hk
    · rw [List.mem_singleton.mp hk]
      exact hv
theorem ext_vals {ns : List Str} {es : List (Str × Str)} : ∀ {n : Nat} {tr tr' : List (Str × Int)}, extF ns es n tr = some tr' → (∀ k ∈ tr, k.2 = 0 ∨ k.2 = 1 ∨ k.2 = 2) → ∀ k ∈ tr', k.2 = 0 ∨ k.2 = 1 ∨ k.2 = 2
  | 0, tr, tr', h, a => by
    unfold extF at h
    split at h
    · cases h
    · cases h
      exact a
  | n + 1, tr, tr', h, a => by
    unfold extF at h
    split at h
    · cases h
    · rcases Option.or_eq_some_iff.mp h with h | ⟨_, h⟩
      · exact ext_vals h (put_vals (.inl rfl) a)
      · rcases Option.or_eq_some_iff.mp h with h | ⟨_, h⟩
        · exact ext_vals h (put_vals (.inr (.inl rfl)) a)
        · exact ext_vals h (put_vals (.inr (.inr rfl)) a)
end U
namespace Law
open PySem PySem.Spec PyProof.Rows L2 U


theorem keysZ {ns : List Str} {pv : List Int} (h : ns.length ≤ pv.length) : (trK (ns.zip pv)).map (·.1) = ns.map Sum.inr := by
  have e : (trK (ns.zip pv)).map (·.1) = ((ns.zip pv).map Prod.fst).map Sum.inr := by
    unfold trK
    rw [List.map_map, List.map_map]
    rfl
  rw [e, List.map_fst_zip h]
def spLaw (K : PySem.W.Frag) : Sp := fun vs H Q _ => ∃ (a : Addr) (nums : List Int), vs = [.ref a] ∧ SqL K H a (nums.map V.int) ∧ nums.length ≤ 63 ∧ ∀ H' : Hp, Q (.bl true) H'
section
variable {P : Program} {w : World} {K : PySem.W.Frag} {mg : Str → Option Value} {base : Heap}
structure N60c (P : Program) (w : World) (K : PySem.W.Frag) (mg : Str → Option Value) (base : Heap) : Prop where
  _law_box : Cal P w K mg base CX0 1 "_law_box" (spBox K)
  _law_draw : Cal P w K mg base CX0 1 "_law_draw" spDraw
  _law_random_graph : Cal P w K mg base CX0 3 "_law_random_graph" spGraphN
  _law_wheel_holds : Cal P w K mg base CX0 13 "_law_wheel_holds" spWheel
  _law_first : Cal P w K mg base CX0 1 "_law_first" (spFirstL K)
  first_state : Cal P w K mg base CX0 11 "first_state" spFst
  case_tree : Cal P w K mg base CX0 12 "case_tree" spCaseD
  _law_too_large : Cal P w K mg base CX0 13 "_law_too_large" spTooL
  _law_tree : Cal P w K mg base CX0 10 "_law_tree" (spLTree8 K)
  is_case_tree : Cal P w K mg base CX0 11 "is_case_tree" (spCaseU K)
theorem ok_law {f : Addr} {fd : FuncData} (F : Fun K "law" "law" s_law f fd) (B : Bt mg) (C : N60c P w K mg base) : FnG P w K mg base CX0 14 f fd ["_law_script"] (spLaw K) := by
  refine fnG0 F sc_law (fun vs H Q E h => ?_) (fun cdv A outer s H vs Q E hr h => ?_)
  · obtain ⟨a, nums, rfl, _⟩ := h
    rfl
  · obtain ⟨a, nums, rfl, hs, hl, q⟩ := h
    have nd := sc_law.nd
    have hu := hr.u1
    refine ⟨_, (pss_cons (ps_set (i := 1) nd rfl (by first | exact Or.inl rfl | exact Or.inr rfl) (pe_c C._law_box hr (by decide) rfl (pa_cons (pv 0) pa_nil)))
  (pss_cons (ps_set (i := 2) nd rfl (by first | exact Or.inl rfl | exact Or.inr rfl) (pe_c C._law_random_graph hr (by decide) rfl (pa_cons (pv 1) (pa_cons pe_int pa_nil))))
  (pss_cons (ps_if (pt_not (pt_val (pe_cG0 C._law_wheel_holds hr (by decide) rfl pass0))) (pss_one (ps_ret pe_bl)) pss_nil)
  (pss_cons (ps_set (i := 3) nd rfl (by first | exact Or.inl rfl | exact Or.inr rfl) (pe_c C._law_first hr (by decide) rfl (pa_cons (pv 2) pa_nil)))
  (pss_cons (ps_set (i := 4) nd rfl (by first | exact Or.inl rfl | exact Or.inr rfl) (pe_c C.first_state hr (by decide) rfl (pa_cons (pv 2) pa_nil)))
  (pss_cons (ps_set (i := 5) nd rfl (by first | exact Or.inl rfl | exact Or.inr rfl) (pe_c C.case_tree hr (by decide) rfl (pa_cons (pv 2) pa_nil)))
  (pss_cons (ps_set (i := 6) nd rfl (by first | exact Or.inl rfl | exact Or.inr rfl) (pe_op (kAdd K rfl) pe_int (pe_c C._law_draw hr (by decide) rfl (pa_cons (pv 1) (pa_cons pe_int pa_nil)))))
  (pss_cons (ps_for PassesOwn.never rfl (pi_range1 rfl B.range (pa_cons pe_int pa_nil)) (pg_name (i := 7) nd rfl (by first | exact Or.inl rfl | exact Or.inr rfl)) (pss_cons (ps_if (PW.pt (pw_or (pt_cmpR (kNeN K rfl hr.u64) (pe_c C._law_too_large hr (by decide) rfl (pa_cons (pv 6) (pa_cons (pv 7) pa_nil))) (pe_tup (pa_cons (pv 6) (pa_cons pe_bl pa_nil))) (nomark _)) (pw_or1 (pt_cmpR (kNeN K rfl hr.u64) (pe_c C._law_too_large hr (by decide) rfl (pa_cons pe_int (pa_cons (pv 7) pa_nil))) (pe_tup (pa_cons pe_int (pa_cons pe_bl pa_nil))) (nomark _))))) (pss_one (ps_ret pe_bl)) pss_nil)
  (pss_one (ps_if (pt_cmpR uIsNot (pe_c C._law_too_large hr (by decide) rfl (pa_cons pe_int (pa_cons (pv 7) pa_nil))) pe_non (nomark _)) (pss_one (ps_ret pe_bl)) pss_nil))))
  (pss_cons (ps_if (pt_cmpR uIs (pv 3) pe_non (nomark _)) (pss_cons (ps_if (pt_cmpR uIsNot (pv 4) pe_non (nomark _)) (pss_one (ps_ret pe_bl)) pss_nil)
  (pss_one (ps_ret (pe_and (pe_c C._law_tree hr (by decide) rfl (pa_cons (pv 2) (pa_cons (pv 5) (pa_cons pe_dnewK pa_nil)))) (pe_one (pe_cmpR uIs (pe_c C.is_case_tree hr (by decide) rfl (pa_cons (pv 2) (pa_cons (pv 5) pa_nil))) pe_bl (nomark _))))))) pss_nil)
  (pss_cons (ps_if (PW.pt (pw_or (pt_cmpR uIsNot (pv 5) pe_non (nomark _)) (pw_or (pt_not (pt_val (pe_callB (kIsi K rfl) (by rfl) B.isinstance bb_isinstance (pa_cons (pv 4) (pa_cons (pe_ty rfl B.dict bb_dict) pa_nil))))) (pw_or1 (pt_cmpR (kNe K rfl hr.u64) (pe_callB (call_sortedD rfl) (by rfl) B.sorted bb_sorted (pa_cons (pv 4) pa_nil)) (pe_callTy (kList K rfl rfl) (by rfl) B.list bb_list (pa_cons (pe_ix (kIx K rfl) (pv 2) pe_int (fun _ _ => rfl)) pa_nil)) (nomark _)))))) (pss_one (ps_ret pe_bl)) pss_nil)
  (pss_one (ps_ret (pe_cmpR (kEq K rfl hr.u64) (pe_callB (kReprL K rfl hr.g hr.u64) (by rfl) B.repr bb_repr (pa_cons (pe_lc (own := [("_law_node", 8)]) rfl nd (ki_tup K rfl (pe_ix (kIx K rfl) (pv 2) pe_int (fun _ _ => rfl))) (blkOk_by (own := [("_law_node", 8)]) (N := nN_law) (sc := defScope s_law) (by decide +kernel)) (fun _ _ _ _ _ => (pg_name (i := 8) nd rfl (by first | exact Or.inl rfl | exact Or.inr rfl))) (fun _ _ _ _ _ => pts_nil) (fun _ _ _ _ _ => (pe_dget hu (pv 4) (pv 8) (fun _ _ => rfl)))) pa_nil)) (pe_callB (kReprL K rfl hr.g hr.u64) (by rfl) B.repr bb_repr (pa_cons (pv 3) pa_nil)) (nomark _)))))))))))))), ?_⟩
    wtm_at "rd"
    refine ⟨a, nums, rfl, hs, hl, fun p H1 s1 fp hp => ?_⟩
    wtm_at "rd"
    refine ⟨p, 7, rfl, hp, by decide, by decide, fun g nA e ns es H2 g2 gn ⟨nl, el, asc⟩ => ?_⟩
    have hp2 := g2.pool
    have n7 : ns.length ≤ 7 := by omega
    clear g2 hp s1 fp hs nl
    wtm_at "rd"
    refine ⟨rfl, fun H3 s3 => ?_⟩
    have gn := gn.same s3
    have hp3 := (Go.of_same hp2 s3).pool
    clear s3 hp2
    wtm_at "rd"
    try refine rd_F ?_
    wtm_at "rd"
    refine ⟨g, nA, e, ns, es, rfl, gn, n7, fun H4 s4 ex => ?_, fun H4 l pv s4 ex pl fl hl => ?_⟩
    · wtm_at "rd"
      refine ⟨g, nA, e, ns, es, rfl, gn.same s4, by omega, fun H5 s5 => ⟨fun _ => ?_, fun tr' z => by rw [ex] at z; cases z⟩⟩
      wtm_at "rd"
      refine ⟨g, nA, e, ns, es, rfl, (gn.same s4).same s5, by omega, (fun H' s tr' z => by rw [ex] at z; cases z), fun v H7 L s7 _ dt ndL nwL => ?_⟩
      have s47 := (s4.trans s5).trans s7
      have gn := gn.same s47
      have hp7 := (Go.of_same hp3 s47).pool
      have nLp : ∀ q ∈ L, q ≠ p := fun q m z => by
        have hp5 := (Go.of_same hp3 (s4.trans s5)).pool
        exact hp5.ne (nwL q m) z.symm
      obtain ⟨av, vs0, rfl, ha⟩ := DtAt.top dt
      wtm_at "rd"
      refine use_draw hp7 (by decide) (by decide) fun c0 H8 d0 d1 g8 => ?_
      obtain ⟨cn, rfl⟩ := Int.eq_ofNat_of_zero_le d0
      have dt := DtAt.keep (fun c xs h => g8.at h (hp7.offTB h)) (fun c xs m h => g8.at h (nLp c m)) dt
      have gn := gn.go hp7 g8
      clear g8 hp7
      wtm_at "rd"
      refine turnsR (fun i σ H' => ∃ u7 u8 : Option V, σ = [some (.ref a), some (.ref p), some (.ref g), some .non, some .non, some (.ref av), some (.int (9 + (cn : Int))), u7, u8] ∧ Same H8 H') ⟨_, _, rfl, fun b o h => h⟩ ?_ ?_
      · rintro i σ H9 hi ⟨u7, u8, rfl, s⟩
        have hi : i < 2 := hi
        wtm_at "rd"
        refine ⟨9 + cn, i, by rw [Int.zero_add]; rfl, by omega, by omega, hi, fun z => absurd z (by omega), fun _ t1 K1 s1 ht1 => ?_⟩
        wtm_at "rd"
        intro t2 ft2
        have kt2 := Same.new (o := .tup [.int (9 + (cn : Int)), .bl true]) ft2
        have ht2 := @upd_same K1 t2 (.tup [.int (9 + (cn : Int)), .bl true])
        have ht1 := kt2 _ _ ht1
        have s1 := s1.trans kt2
        generalize upd K1 t2 (.tup [.int (9 + (cn : Int)), .bl true]) = K2 at ht2 ht1 s1
        clear kt2 ft2
        refine rd_neNT 10 (by decide) (SqT.of ht1) (SqT.of ht2) (.cons (EqT.flat rfl) (.cons (EqT.flat rfl) .nil)) ?_
        wtm_at "rd"
        refine ⟨9, i, by rw [Int.zero_add]; rfl, by omega, by omega, hi, fun z => absurd z (by decide), fun _ t3 K3 s3 ht3 => ?_⟩
        wtm_at "rd"
        intro t4 ft4
        have kt4 := Same.new (o := .tup [.int 9, .bl true]) ft4
        have ht4 := @upd_same K3 t4 (.tup [.int 9, .bl true])
        have ht3 := kt4 _ _ ht3
        have s3 := s3.trans kt4
        generalize upd K3 t4 (.tup [.int 9, .bl true]) = K4 at ht4 ht3 s3
        clear kt4 ft4
        refine rd_neNT 10 (by decide) (SqT.of ht3) (SqT.of ht4) (.cons (EqT.flat rfl) (.cons (EqT.flat rfl) .nil)) ?_
        wtm_at "rd"
        refine ⟨8, i, by rw [Int.zero_add]; rfl, by omega, by omega, hi, fun _ K5 s5 => ?_, fun z => absurd z (by decide)⟩
        wtm_at "rd"
        refine rd_nno rfl ?_
        wtm_at "rd"
        exact ⟨_, _, rfl, ((s.trans s1).trans s3).trans s5⟩
      rintro σ H9 ⟨u7, u8, rfl, s9⟩
      have gn := gn.same s9
      wtm_at "rd"
      have dt := dt.same s9
      refine rd_yes rfl ?_
      wtm_at "rd"
      refine rd_nno rfl ?_
      have okw := treeF_ok gn.nd gn.so gn.mem (n := ns.length) (tr := []) ⟨rfl, Nat.zero_le _⟩ (by simp) ex
      wtm_at "rd"
      intro d0 fd0
      have kd0 := Same.new (o := .dK []) fd0
      have hd0 := @upd_same H9 d0 (.dK [])
      have gn := gn.same kd0
      have dt := dt.same kd0
      generalize upd H9 d0 (.dK []) = HA at hd0 gn dt
      clear kd0 fd0
      wtm_at "rd"
      refine ⟨ns.length, by omega, g, nA, e, d0, fun _ => False, .ref av, ns, es, [], _, rfl, gn, hd0, by show 0 + ns.length ≤ 100; omega, (fun k h => nomatch h), DtAt.rt dt (fun _ _ h => h), fun HB sB => ?_⟩
      rw [okw]
      wtm_at "rd"
      refine ⟨g, nA, e, fun _ => False, .ref av, ns, es, ns.length, _, rfl, gn.same sB, by omega, DtAt.rt (dt.same sB) (fun _ _ h => h), fun HC sC => ?_⟩
      rw [okw]
      wtm_at "rd"
      first
        | exact q _
        | (show Q (.bl true) HC
           exact q _)
    · wtm_at "rd"
      refine ⟨g, nA, e, ns, es, rfl, gn.same s4, by omega, fun H5 s5 => ⟨fun z => by (rw [ex] at z; cases z), fun tr' z d' hd' => ?_⟩⟩
      obtain rfl : ns.zip pv = tr' := by
        rw [ex] at z
        exact Option.some.inj z
      wtm_at "rd"
      refine ⟨g, nA, e, ns, es, rfl, (gn.same s4).same s5, by omega, fun H7 s7 tr' _ => ?_, (fun v H' L s z => by rw [ex] at z; cases z)⟩
      have s47 := (s4.trans s5).trans s7
      have gn := gn.same s47
      have hp7 := (Go.of_same hp3 s47).pool
      have nlp : l ≠ p := Ne.symm (hp3.ne fl)
      have hl := s7 _ _ (s5 _ _ hl)
      have hd' := s7 _ _ hd'
      wtm_at "rd"
      refine use_draw hp7 (by decide) (by decide) fun c0 H8 d0 d1 g8 => ?_
      obtain ⟨cn, rfl⟩ := Int.eq_ofNat_of_zero_le d0
      have hl := g8.at hl nlp
      have nd' : d' ≠ p := fun z => by
        obtain ⟨ys, hy⟩ := hp7.isL
        rw [z, hy] at hd'
        cases hd'
      have hd' := g8.at hd' nd'
      have gn := gn.go hp7 g8
      clear g8 hp7
      wtm_at "rd"
      refine turnsR (fun i σ H' => ∃ u7 u8 : Option V, σ = [some (.ref a), some (.ref p), some (.ref g), some (.ref l), some (.ref d'), some .non, some (.int (9 + (cn : Int))), u7, u8] ∧ Same H8 H') ⟨_, _, rfl, fun b o h => h⟩ ?_ ?_
      · rintro i σ H9 hi ⟨u7, u8, rfl, s⟩
        have hi : i < 2 := hi
        wtm_at "rd"
        refine ⟨9 + cn, i, by rw [Int.zero_add]; rfl, by omega, by omega, hi, fun z => absurd z (by omega), fun _ t1 K1 s1 ht1 => ?_⟩
        wtm_at "rd"
        intro t2 ft2
        have kt2 := Same.new (o := .tup [.int (9 + (cn : Int)), .bl true]) ft2
        have ht2 := @upd_same K1 t2 (.tup [.int (9 + (cn : Int)), .bl true])
        have ht1 := kt2 _ _ ht1
        have s1 := s1.trans kt2
        generalize upd K1 t2 (.tup [.int (9 + (cn : Int)), .bl true]) = K2 at ht2 ht1 s1
        clear kt2 ft2
        refine rd_neNT 10 (by decide) (SqT.of ht1) (SqT.of ht2) (.cons (EqT.flat rfl) (.cons (EqT.flat rfl) .nil)) ?_
        wtm_at "rd"
        refine ⟨9, i, by rw [Int.zero_add]; rfl, by omega, by omega, hi, fun z => absurd z (by decide), fun _ t3 K3 s3 ht3 => ?_⟩
        wtm_at "rd"
        intro t4 ft4
        have kt4 := Same.new (o := .tup [.int 9, .bl true]) ft4
        have ht4 := @upd_same K3 t4 (.tup [.int 9, .bl true])
        have ht3 := kt4 _ _ ht3
        have s3 := s3.trans kt4
        generalize upd K3 t4 (.tup [.int 9, .bl true]) = K4 at ht4 ht3 s3
        clear kt4 ft4
        refine rd_neNT 10 (by decide) (SqT.of ht3) (SqT.of ht4) (.cons (EqT.flat rfl) (.cons (EqT.flat rfl) .nil)) ?_
        wtm_at "rd"
        refine ⟨8, i, by rw [Int.zero_add]; rfl, by omega, by omega, hi, fun _ K5 s5 => ?_, fun z => absurd z (by decide)⟩
        wtm_at "rd"
        refine rd_nno rfl ?_
        wtm_at "rd"
        exact ⟨_, _, rfl, ((s.trans s1).trans s3).trans s5⟩
      rintro σ H9 ⟨u7, u8, rfl, s9⟩
      have gn := gn.same s9
      wtm_at "rd"
      have hl := s9 _ _ hl
      have hd' := s9 _ _ hd'
      refine rd_no (fun z => by cases z) ?_
      wtm_at "rd"
      dsimp only
      wtm_at "rd"
      refine rd_nno rfl ?_
      wtm_at "rd"
      refine rd_isi (ty_dK hd') rfl ?_
      rw [show isT Ty.dct Ty.dct = true from rfl]
      wtm_at "rd"
      refine ⟨d', _, ns, rfl, .inl hd', keysZ (by omega), by omega, fun ys p1 pys sys fp1 => ?_⟩
      have ye : ys = ns := asc_uniq (asc_of_sorted (sortedS_pw sys) (pys.nodup_iff.mpr gn.nd)) asc pys
      subst ye
      have hl := (Same.new (o := .lst (ys.map V.str)) fp1) _ _ hl
      have hd' := (Same.new (o := .lst (ys.map V.str)) fp1) _ _ hd'
      have gn := gn.same (Same.new (o := .lst (ys.map V.str)) fp1)
      have hp1 := @upd_same H9 p1 (.lst (ys.map V.str))
      generalize upd H9 p1 (.lst (ys.map V.str)) = HA at *
      wtm_at "rd"
      refine rd_ixT (SqT.of gn.gr.top) (v := .ref nA) rfl ?_
      wtm_at "rd"
      refine rd_listT (SqT.of gn.gr.nodes) ?_
      intro l2 fl2
      have kl2 := Same.new (o := .lst (ys.map V.str)) fl2
      have hl2 := @upd_same HA l2 (.lst (ys.map V.str))
      have hl := kl2 _ _ hl
      have hd' := kl2 _ _ hd'
      have hp1 := kl2 _ _ hp1
      have gn := gn.same kl2
      generalize upd HA l2 (.lst (ys.map V.str)) = HB at hl2 hl hd' hp1 gn
      clear kl2 fl2
      have sok : ∀ x ∈ ys, PyData.strOk x = true := fun x hx => (gn.nm x hx).sok
      refine rd_neSame (.lst (SqL.of hp1) (dp_strs _)) (.lst (SqL.of hl2) (dp_strs _)) (shp_strs sok) ?_
      clear hp1 hl2
      wtm_at "rd"
      try refine rd_F ?_
      wtm_at "rd"
      refine rd_ixT (SqT.of gn.gr.top) (v := .ref nA) rfl ?_
      refine rd_forT (SqT.of gn.gr.nodes) ?_
      intro D fD
      refine lcT (K := K) (xs := ys.map V.str) (fun i H' => Same HB H' ∧ H' D = some (.lst ((pv.take i).map V.int))) ⟨Same.new fD, upd_same⟩ ?_ ?_ ?_
      · rintro i H' hi ⟨s, _⟩
        exact SqT.of (s _ _ gn.gr.nodes)
      · rintro i y H' hy ⟨s, hD⟩
        obtain ⟨hi, rfl⟩ := map_at hy
        have hip : i < pv.length := by omega
        have tk : pv.take (i + 1) = pv.take i ++ [pv[i]] := tk_snoc2 hip
        wtm_at "rd"
        refine rd_dat (.inl (s _ _ hd')) (v := .int pv[i]) (by rw [valS_K, valS_zipI gn.nd hi hip]; rfl) rfl ?_
        refine rd_acc hD (by rw [List.length_map, List.length_take]; omega) ?_
        refine ⟨same_put s fD, ?_⟩
        rw [upd_same, tk, List.map_append]
        rfl
      rintro HC ⟨sC, hD⟩
      rw [List.length_map, List.take_of_length_le (by omega)] at hD
      have vals : ∀ v ∈ pv, v = 0 ∨ v = 1 ∨ v = 2 := fun v hv => by
        obtain ⟨k, hk, rfl⟩ := List.mem_iff_getElem.mp hv
        have hk2 : k < (ys.zip pv).length := by rw [List.length_zip]; omega
        have m : (ys.zip pv)[k] ∈ ys.zip pv := List.getElem_mem hk2
        have := ext_vals ex (fun k h => nomatch h) _ m
        rw [List.getElem_zip] at this
        exact this
      have sm : SmD ((8 + 1) * pv.length + 4) 1 (.list (pv.map PyData.int)) := by
        have h : ∀ d ∈ pv.map PyData.int, SmD 8 0 d := fun d hd => by
          obtain ⟨v, hv, rfl⟩ := List.mem_map.mp hd
          have := vals v hv
          exact sm_int (by omega) (by omega)
        have := SmD.lst (SmDs.of h)
        rw [List.length_map] at this
        exact this.mono (by omega) (by omega)
      have shw : Shows (.list (pv.map PyData.int)) := ⟨sm.sh, sm.lv, by have := sm.bk; omega, by have := sm.dp; omega⟩
      wtm_at "rd"
      refine .inr ⟨_, .lst (SqL.of hD) (dp_ints2 _), sm.nd, shw, ?_⟩
      wtm_at "rd"
      refine .inr ⟨_, .lst (SqL.of (sC _ _ hl)) (dp_ints2 _), sm.nd, shw, ?_⟩
      wtm_at "rd"
      rw [decide_eq_true rfl]
      exact q _
end
end Law

/-! a lambda with parameters and without captured names: entered -/
namespace U
open PySem PySem.Spec PyProof.Rows L2
end U
namespace U
open PySem PySem.Spec PyProof.Rows L2 PySem.W
end U
namespace U
open PySem PySem.Spec PyProof.Rows L2 PySem.W
/-- no more than new things, the callers' frames but for their slots -/
def Jm (X : Cx) (s0 s' : Shared) : Prop := s'.os = s0.os ∧ AllBare s'.gens ∧ Un (frs X.stack) [] (fun _ => none) (fun _ => none) s0.heap s'.heap
/-- the paths stand, known to the object -/
def Hc (H : Hp) (s0 : Shared) (items : List (Addr × List Str)) : Hp := fun b => match H b, s0.heap.get? b with
  | some (.lst xs), some o => if b ∈ items.map (·.1) then some (.frz o (.lst xs)) else none
  | _, _ => none
section
variable {X : Cx} {pins : List (Addr × Obj)} {σ : L2.St} {H : Hp} {s0 s : Shared}
theorem Jm.refl (I : Inv X pins σ H s0) : Jm X s0 s0 := ⟨rfl, I.bare, Un.refl⟩
variable {A : Around} {q : Str} {params : Arguments} {body : Expr} {scope : Scope} {pm ctv : Value} {f c' l : Addr} {items : List (Addr × List Str)} {its : List Value} {N : List Str} {p : Str} {tb : TE} {k : Nat}
end
end U
namespace U
open PySem PySem.Spec PyProof.Rows L2 PySem.W LamX
end U

/-! a def whose code object is known (its table of lambdas is tracked) -/
namespace U
open PySem PySem.Spec PyProof.Rows L2 LamX
section
variable {P : Program} {w : World} {K : PySem.W.Frag} {mg : Str → Option Value} {base : Heap}
end
end U

/-! the law's own head, one table of code objects tracked -/
namespace U
open PySem PySem.Spec PyProof.Rows L2 LamX
end U
namespace U
open PySem PySem.Spec PyProof.Rows L2
end U

end
namespace Law
open PySem PySem.Spec PyProof.Rows L2 U
theorem all_mk {l : PySem.W.OpenLaw} {w : World} {K : PySem.W.Frag} {h : Heap} {mg : Str → Option Value} {fa : Addr} (X : K.In h) (G : h.Ns mainGlobals mg) (hfa : mg "law" = some (.ref fa))
    {od0 an0 : Option Addr} {sl0 : Array (Option Value)} {f0 : Addr} {oc0 kV0 dc0 pm0 cd0 ct0 : Value}
    {od1 an1 : Option Addr} {sl1 : Array (Option Value)} {f1 : Addr} {oc1 kV1 dc1 pm1 cd1 ct1 : Value}
    {od2 an2 : Option Addr} {sl2 : Array (Option Value)} {f2 : Addr} {oc2 kV2 dc2 pm2 cd2 ct2 : Value}
    {od3 an3 : Option Addr} {sl3 : Array (Option Value)} {f3 : Addr} {oc3 kV3 dc3 pm3 cd3 ct3 : Value}
    {od4 an4 : Option Addr} {sl4 : Array (Option Value)} {f4 : Addr} {oc4 kV4 dc4 pm4 cd4 ct4 : Value}
    {od5 an5 : Option Addr} {sl5 : Array (Option Value)} {f5 : Addr} {oc5 kV5 dc5 pm5 cd5 ct5 : Value}
    {od6 an6 : Option Addr} {sl6 : Array (Option Value)} {f6 : Addr} {oc6 kV6 dc6 pm6 cd6 ct6 : Value}
    {od7 an7 : Option Addr} {sl7 : Array (Option Value)} {f7 : Addr} {oc7 kV7 dc7 pm7 cd7 ct7 : Value}
    {od8 an8 : Option Addr} {sl8 : Array (Option Value)} {f8 : Addr} {oc8 kV8 dc8 pm8 cd8 ct8 : Value}
    {od9 an9 : Option Addr} {sl9 : Array (Option Value)} {f9 : Addr} {oc9 kV9 dc9 pm9 cd9 ct9 : Value}
    {od10 an10 : Option Addr} {sl10 : Array (Option Value)} {f10 : Addr} {oc10 kV10 dc10 pm10 cd10 ct10 : Value}
    {od11 an11 : Option Addr} {sl11 : Array (Option Value)} {f11 : Addr} {oc11 kV11 dc11 pm11 cd11 ct11 : Value}
    {od12 an12 : Option Addr} {sl12 : Array (Option Value)} {f12 : Addr} {oc12 kV12 dc12 pm12 cd12 ct12 : Value}
    {od13 an13 : Option Addr} {sl13 : Array (Option Value)} {f13 : Addr} {oc13 kV13 dc13 pm13 cd13 ct13 : Value}
    {od14 an14 : Option Addr} {sl14 : Array (Option Value)} {f14 : Addr} {oc14 kV14 dc14 pm14 cd14 ct14 : Value}
    {od15 an15 : Option Addr} {sl15 : Array (Option Value)} {f15 : Addr} {oc15 kV15 dc15 pm15 cd15 ct15 : Value}
    {od16 an16 : Option Addr} {sl16 : Array (Option Value)} {f16 : Addr} {oc16 kV16 dc16 pm16 cd16 ct16 : Value}
    {od17 an17 : Option Addr} {sl17 : Array (Option Value)} {f17 : Addr} {oc17 kV17 dc17 pm17 cd17 ct17 : Value}
    {od18 an18 : Option Addr} {sl18 : Array (Option Value)} {f18 : Addr} {oc18 kV18 dc18 pm18 cd18 ct18 : Value}
    {od19 an19 : Option Addr} {sl19 : Array (Option Value)} {f19 : Addr} {oc19 kV19 dc19 pm19 cd19 ct19 : Value}
    {tk0 : Tok}
    {va : Addr} {odV : Option Addr} {nV : Nat} {slV : Array (Option Value)} {q0 q1 q2 : Tok}
    {CQ0 fQ0 : Addr} {nmQ0 qQ0 : Str} {NQ0 : Addr} {bsQ0 : List Value} {snQ0 : List Str} {subQ0 : List Value} {abQ0 : Bool} {colQ0 : Option Bool} {ddQ0 : Option Addr} {maQ0 mbQ0 mcQ0 mdQ0 meQ0 : Option Value} {odQ0 anQ0 : Option Addr} {slQ0 : Array (Option Value)} {ocQ0 kVQ0 dcQ0 pmQ0 cdQ0 ctQ0 : Value}
    (a0 : PySem.W.nsIn K mainGlobals "has_node" = some (some (.ref f0))) (l0 : K.lookup f0 = some ⟨oc0, od0, .func (PySem.W.fnOf "has_node" "has_node" (defArgs s_has_node) (defBody s_has_node) (defScope s_has_node) .none kV0 dc0 pm0 an0 cd0 ct0), sl0⟩) (c0 : PySem.W.codeIn K cd0 "has_node" = true) (k0 : PySem.W.keepIn K (.ref f0) = true)
    (a1 : PySem.W.nsIn K mainGlobals "edge_of" = some (some (.ref f1))) (l1 : K.lookup f1 = some ⟨oc1, od1, .func (PySem.W.fnOf "edge_of" "edge_of" (defArgs s_edge_of) (defBody s_edge_of) (defScope s_edge_of) .none kV1 dc1 pm1 an1 cd1 ct1), sl1⟩) (c1 : PySem.W.codeIn K cd1 "edge_of" = true) (k1 : PySem.W.keepIn K (.ref f1) = true)
    (a2 : PySem.W.nsIn K mainGlobals "first_conflict" = some (some (.ref f2))) (l2 : K.lookup f2 = some ⟨oc2, od2, .func (PySem.W.fnOf "first_conflict" "first_conflict" (defArgs s_first_conflict) (defBody s_first_conflict) (defScope s_first_conflict) .none kV2 dc2 pm2 an2 cd2 ct2), sl2⟩) (c2 : PySem.W.codeIn K cd2 "first_conflict" = true) (k2 : PySem.W.keepIn K (.ref f2) = true)
    (a3 : PySem.W.nsIn K mainGlobals "first_extension" = some (some (.ref f3))) (l3 : K.lookup f3 = some ⟨oc3, od3, .func (PySem.W.fnOf "first_extension" "first_extension" (defArgs s_first_extension) (defBody s_first_extension) (defScope s_first_extension) .none kV3 dc3 pm3 an3 cd3 ct3), sl3⟩) (c3 : PySem.W.codeIn K cd3 "first_extension" = true) (k3 : PySem.W.keepIn K (.ref f3) = true)
    (a4 : PySem.W.nsIn K mainGlobals "first_state" = some (some (.ref f4))) (l4 : K.lookup f4 = some ⟨oc4, od4, .func (PySem.W.fnOf "first_state" "first_state" (defArgs s_first_state) (defBody s_first_state) (defScope s_first_state) .none kV4 dc4 pm4 an4 cd4 ct4), sl4⟩) (c4 : PySem.W.codeIn K cd4 "first_state" = true) (k4 : PySem.W.keepIn K (.ref f4) = true)
    (a5 : PySem.W.nsIn K mainGlobals "tree_below" = some (some (.ref f5))) (l5 : K.lookup f5 = some ⟨oc5, od5, .func (PySem.W.fnOf "tree_below" "tree_below" (defArgs s_tree_below) (defBody s_tree_below) (defScope s_tree_below) .none kV5 dc5 pm5 an5 cd5 ct5), sl5⟩) (c5 : PySem.W.codeIn K cd5 "tree_below" = true) (k5 : PySem.W.keepIn K (.ref f5) = true)
    (a6 : PySem.W.nsIn K mainGlobals "case_tree" = some (some (.ref f6))) (l6 : K.lookup f6 = some ⟨oc6, od6, .func (PySem.W.fnOf "case_tree" "case_tree" (defArgs s_case_tree) (defBody s_case_tree) (defScope s_case_tree) .none kV6 dc6 pm6 an6 cd6 ct6), sl6⟩) (c6 : PySem.W.codeIn K cd6 "case_tree" = true) (k6 : PySem.W.keepIn K (.ref f6) = true)
    (a7 : PySem.W.nsIn K mainGlobals "is_tree_below" = some (some (.ref f7))) (l7 : K.lookup f7 = some ⟨oc7, od7, .func (PySem.W.fnOf "is_tree_below" "is_tree_below" (defArgs s_is_tree_below) (defBody s_is_tree_below) (defScope s_is_tree_below) .none kV7 dc7 pm7 an7 cd7 ct7), sl7⟩) (c7 : PySem.W.codeIn K cd7 "is_tree_below" = true) (k7 : PySem.W.keepIn K (.ref f7) = true)
    (a8 : PySem.W.nsIn K mainGlobals "is_case_tree" = some (some (.ref f8))) (l8 : K.lookup f8 = some ⟨oc8, od8, .func (PySem.W.fnOf "is_case_tree" "is_case_tree" (defArgs s_is_case_tree) (defBody s_is_case_tree) (defScope s_is_case_tree) .none kV8 dc8 pm8 an8 cd8 ct8), sl8⟩) (c8 : PySem.W.codeIn K cd8 "is_case_tree" = true) (k8 : PySem.W.keepIn K (.ref f8) = true)
    (a9 : PySem.W.nsIn K mainGlobals "_law_box" = some (some (.ref f9))) (l9 : K.lookup f9 = some ⟨oc9, od9, .func (PySem.W.fnOf "_law_box" "_law_box" (defArgs s__law_box) (defBody s__law_box) (defScope s__law_box) .none kV9 dc9 pm9 an9 cd9 ct9), sl9⟩) (c9 : PySem.W.codeIn K cd9 "_law_box" = true) (k9 : PySem.W.keepIn K (.ref f9) = true)
    (a10 : PySem.W.nsIn K mainGlobals "_law_draw" = some (some (.ref f10))) (l10 : K.lookup f10 = some ⟨oc10, od10, .func (PySem.W.fnOf "_law_draw" "_law_draw" (defArgs s__law_draw) (defBody s__law_draw) (defScope s__law_draw) .none kV10 dc10 pm10 an10 cd10 ct10), sl10⟩) (c10 : PySem.W.codeIn K cd10 "_law_draw" = true) (k10 : PySem.W.keepIn K (.ref f10) = true)
    (a11 : PySem.W.nsIn K mainGlobals "_law_stem" = some (some (.ref f11))) (l11 : K.lookup f11 = some ⟨oc11, od11, .func (PySem.W.fnOf "_law_stem" "_law_stem" (defArgs s__law_stem) (defBody s__law_stem) (defScope s__law_stem) .none kV11 dc11 pm11 an11 cd11 ct11), sl11⟩) (c11 : PySem.W.codeIn K cd11 "_law_stem" = true) (k11 : PySem.W.keepIn K (.ref f11) = true)
    (a12 : PySem.W.nsIn K mainGlobals "_law_random_graph" = some (some (.ref f12))) (l12 : K.lookup f12 = some ⟨oc12, od12, .func (PySem.W.fnOf "_law_random_graph" "_law_random_graph" (defArgs s__law_random_graph) (defBody s__law_random_graph) (defScope s__law_random_graph) .none kV12 dc12 pm12 an12 cd12 ct12), sl12⟩) (c12 : PySem.W.codeIn K cd12 "_law_random_graph" = true) (k12 : PySem.W.keepIn K (.ref f12) = true)
    (a13 : PySem.W.nsIn K mainGlobals "_law_tree" = some (some (.ref f13))) (l13 : K.lookup f13 = some ⟨oc13, od13, .func (PySem.W.fnOf "_law_tree" "_law_tree" (defArgs s__law_tree) (defBody s__law_tree) (defScope s__law_tree) .none kV13 dc13 pm13 an13 cd13 ct13), sl13⟩) (c13 : PySem.W.codeIn K cd13 "_law_tree" = true) (k13 : PySem.W.keepIn K (.ref f13) = true)
    (a14 : PySem.W.nsIn K mainGlobals "_law_first" = some (some (.ref f14))) (l14 : K.lookup f14 = some ⟨oc14, od14, .func (PySem.W.fnOf "_law_first" "_law_first" (defArgs s__law_first) (defBody s__law_first) (defScope s__law_first) .none kV14 dc14 pm14 an14 cd14 ct14), sl14⟩) (c14 : PySem.W.codeIn K cd14 "_law_first" = true) (k14 : PySem.W.keepIn K (.ref f14) = true)
    (a15 : PySem.W.nsIn K mainGlobals "_law_too_large" = some (some (.ref f15))) (l15 : K.lookup f15 = some ⟨oc15, od15, .func (PySem.W.fnOf "_law_too_large" "_law_too_large" (defArgs s__law_too_large) (defBody s__law_too_large) (defScope s__law_too_large) .none kV15 dc15 pm15 an15 cd15 ct15), sl15⟩) (c15 : PySem.W.codeIn K cd15 "_law_too_large" = true) (k15 : PySem.W.keepIn K (.ref f15) = true)
    (a16 : PySem.W.nsIn K mainGlobals "_law_lists_in" = some (some (.ref f16))) (l16 : K.lookup f16 = some ⟨oc16, od16, .func (PySem.W.fnOf "_law_lists_in" "_law_lists_in" (defArgs s__law_lists_in) (defBody s__law_lists_in) (defScope s__law_lists_in) .none kV16 dc16 pm16 an16 cd16 ct16), sl16⟩) (c16 : PySem.W.codeIn K cd16 "_law_lists_in" = true) (k16 : PySem.W.keepIn K (.ref f16) = true)
    (a17 : PySem.W.nsIn K mainGlobals "_law_lists_are_distinct" = some (some (.ref f17))) (l17 : K.lookup f17 = some ⟨oc17, od17, .func (PySem.W.fnOf "_law_lists_are_distinct" "_law_lists_are_distinct" (defArgs s__law_lists_are_distinct) (defBody s__law_lists_are_distinct) (defScope s__law_lists_are_distinct) .none kV17 dc17 pm17 an17 cd17 ct17), sl17⟩) (c17 : PySem.W.codeIn K cd17 "_law_lists_are_distinct" = true) (k17 : PySem.W.keepIn K (.ref f17) = true)
    (a18 : PySem.W.nsIn K mainGlobals "_law_wheel_holds" = some (some (.ref f18))) (l18 : K.lookup f18 = some ⟨oc18, od18, .func (PySem.W.fnOf "_law_wheel_holds" "_law_wheel_holds" (defArgs s__law_wheel_holds) (defBody s__law_wheel_holds) (defScope s__law_wheel_holds) .none kV18 dc18 pm18 an18 cd18 ct18), sl18⟩) (c18 : PySem.W.codeIn K cd18 "_law_wheel_holds" = true) (k18 : PySem.W.keepIn K (.ref f18) = true)
    (a19 : PySem.W.nsIn K mainGlobals "law" = some (some (.ref f19))) (l19 : K.lookup f19 = some ⟨oc19, od19, .func (PySem.W.fnOf "law" "law" (defArgs s_law) (defBody s_law) (defScope s_law) .none kV19 dc19 pm19 an19 cd19 ct19), sl19⟩) (c19 : PySem.W.codeIn K cd19 "law" = true) (k19 : PySem.W.keepIn K (.ref f19) = true)
    (z0 : PySem.W.nsIn K mainGlobals "len" = some none)
    (z1 : PySem.W.nsIn K mainGlobals "abs" = some none)
    (z2 : PySem.W.nsIn K mainGlobals "max" = some none)
    (z3 : PySem.W.nsIn K mainGlobals "min" = some none)
    (z4 : PySem.W.nsIn K mainGlobals "sorted" = some none)
    (z5 : PySem.W.nsIn K mainGlobals "isinstance" = some none)
    (z6 : PySem.W.nsIn K mainGlobals "int" = some none)
    (z7 : PySem.W.nsIn K mainGlobals "list" = some none)
    (z8 : PySem.W.nsIn K mainGlobals "tuple" = some none)
    (z9 : PySem.W.nsIn K mainGlobals "str" = some none)
    (z10 : PySem.W.nsIn K mainGlobals "range" = some none)
    (z11 : PySem.W.nsIn K mainGlobals "enumerate" = some none)
    (z12 : PySem.W.nsIn K mainGlobals "dict" = some none)
    (z13 : PySem.W.nsIn K mainGlobals "sum" = some none)
    (z14 : PySem.W.nsIn K mainGlobals "all" = some none)
    (z15 : PySem.W.nsIn K mainGlobals "any" = some none)
    (z16 : PySem.W.nsIn K mainGlobals "repr" = some none)
    (z17 : PySem.W.nsIn K mainGlobals "set" = some none)
    (z18 : PySem.W.nsIn K mainGlobals "zip" = some none)
    (z19 : PySem.W.nsIn K mainGlobals "reversed" = some none)
    (z20 : PySem.W.nsIn K mainGlobals "bool" = some none)
    (w0 : PySem.W.nsIn K mainGlobals "MAX_CASE_NODES" = some (some (.int 8 tk0)))
    (v0 : PySem.W.nsIn K mainGlobals "VALUES" = some (some (.ref va))) (v1 : K.lookup va = some ⟨.type "tuple", odV, .seq #[.int 0 q0, .int 1 q1, .int 2 q2] nV, slV⟩)
    (qa0 : PySem.W.nsIn K mainGlobals "TooLarge" = some (some (.ref CQ0))) (qb0 : K.lookup CQ0 = some (excClassObj nmQ0 qQ0 CQ0 NQ0 bsQ0 bmOE true snQ0 subQ0 abQ0 colQ0 ddQ0 maQ0 mbQ0 mcQ0 mdQ0 meQ0 "OverflowError.__new__")) (qc0 : PySem.W.findIn K (.ref CQ0) "__setattr__" = some (some (.builtin "object.__setattr__"))) (qd0 : PySem.W.findIn K (.ref CQ0) "__getattribute__" = some (some (.builtin "BaseException.__getattribute__"))) (qe0 : PySem.W.findIn K (.ref CQ0) "__getattr__" = some none) (qf0 : PySem.W.findIn K (.ref CQ0) "total" = some none) (qg0 : PySem.W.findIn K (.ref CQ0) "__init__" = some (some (.ref fQ0))) (qh0 : PySem.W.typeIn K (.ref fQ0) = some (.type "function")) (qi0 : K.lookup fQ0 = some ⟨ocQ0, odQ0, .func (PySem.W.fnOf "__init__" "TooLarge.__init__" (defArgs s_TooLarge_init) (defBody s_TooLarge_init) (defScope s_TooLarge_init) .none kVQ0 dcQ0 pmQ0 anQ0 cdQ0 ctQ0), slQ0⟩) (qj0 : PySem.W.codeIn K cdQ0 "TooLarge.__init__" = true) (qk0 : PySem.W.keepIn K (.ref fQ0) = true) (ql0 : PySem.W.keepIn K (.ref CQ0) = true) (qm0 : PySem.W.subIn K (.ref CQ0) (.type "BaseException") = some true) (qn0 : PySem.W.typeIn K (.ref CQ0) = some (.type "type")) (qo0 : PySem.W.hasDictIn K CQ0 = true) (qp0 : PySem.W.isClsIn K CQ0 = true) (qq0 : PySem.W.subIn K (.ref CQ0) (.ref CQ0) = some true) (qs0 : PySem.W.nsIn K mainGlobals "OverflowError" = some none) (qt0 : PySem.W.findCls K (.type "OverflowError") (.type "type") "__init__" = some (.val (.builtin "OverflowError.__init__")))
    (qu0 : PySem.W.findIn K (.ref CQ0) "__class__" = some (some (.builtin "object.__class__")))
    (qv0 : PySem.W.specialIn K (.builtin "object.__class__") "__get__" = some (some (.builtin "getset_descriptor.__get__")))
    (qw0 : PySem.W.takesIn K (.builtin "object.__class__") = some true)
    (qx0 : PySem.W.mroIn K CQ0 (.type "object") = some true)
    (qy0 : PySem.W.subIn K (.ref CQ0) (.type "OverflowError") = some true) :
    ∃ fd : FuncData, (∀ (s : Shared) (u : Value), BindsTo s fd ⟨[u], []⟩ [("_law_script", u)]) ∧ ∀ base : Heap, K.In base → base.Ns mainGlobals mg → FnG l.prog w K mg base CX0 14 fa fd ["_law_script"] (spLaw K) := by
  have e := hfa.symm.trans (PySem.W.mg_of X G a19)
  cases e
  have n_len := PySem.W.mg_none_of X G z0
  have n_abs := PySem.W.mg_none_of X G z1
  have n_max := PySem.W.mg_none_of X G z2
  have n_min := PySem.W.mg_none_of X G z3
  have n_sorted := PySem.W.mg_none_of X G z4
  have n_isinstance := PySem.W.mg_none_of X G z5
  have n_int := PySem.W.mg_none_of X G z6
  have n_list := PySem.W.mg_none_of X G z7
  have n_tuple := PySem.W.mg_none_of X G z8
  have n_str := PySem.W.mg_none_of X G z9
  have n_range := PySem.W.mg_none_of X G z10
  have n_enumerate := PySem.W.mg_none_of X G z11
  have n_dict := PySem.W.mg_none_of X G z12
  have n_sum := PySem.W.mg_none_of X G z13
  have n_all := PySem.W.mg_none_of X G z14
  have n_any := PySem.W.mg_none_of X G z15
  have n_repr := PySem.W.mg_none_of X G z16
  have n_set := PySem.W.mg_none_of X G z17
  have n_zip := PySem.W.mg_none_of X G z18
  have n_reversed := PySem.W.mg_none_of X G z19
  have n_bool := PySem.W.mg_none_of X G z20
  have B : Bt mg := { len := n_len, abs := n_abs, max := n_max, min := n_min, sorted := n_sorted, isinstance := n_isinstance, int := n_int, list := n_list, tuple := n_tuple, str := n_str, range := n_range, enumerate := n_enumerate, dict := n_dict, sum := n_sum, all := n_all, any := n_any, repr := n_repr, set := n_set, zip := n_zip, reversed := n_reversed }
  have g_MAX_CASE_NODES : ∃ u, mg "MAX_CASE_NODES" = some u ∧ RelV (.int 8) u := ⟨_, PySem.W.mg_of X G w0, ⟨_, rfl⟩⟩
  have hV := PySem.W.mg_of X G v0
  have sV : ∀ H, SqT K H va ([0, 1, 2].map V.int) := fun H => .inr ⟨_, _, _, v1, rfl, rfl, (by show 3 ≤ sizeLine; decide), .cons ⟨_, rfl⟩ (.cons ⟨_, rfl⟩ (.cons ⟨_, rfl⟩ .nil))⟩
  have F0 := fun_mk (st := s_has_node) l0 c0 k0
  have b0 := F0.binds (ps := ["graph", "candidate"]) fun _ _ _ _ _ _ us hl => match us, hl with | [_, _], _ => rfl
  have F1 := fun_mk (st := s_edge_of) l1 c1 k1
  have b1 := F1.binds (ps := ["first", "second"]) fun _ _ _ _ _ _ us hl => match us, hl with | [_, _], _ => rfl
  have F2 := fun_mk (st := s_first_conflict) l2 c2 k2
  have b2 := F2.binds (ps := ["graph", "values"]) fun _ _ _ _ _ _ us hl => match us, hl with | [_, _], _ => rfl
  have F3 := fun_mk (st := s_first_extension) l3 c3 k3
  have b3 := F3.binds (ps := ["graph", "values"]) fun _ _ _ _ _ _ us hl => match us, hl with | [_, _], _ => rfl
  have F4 := fun_mk (st := s_first_state) l4 c4 k4
  have b4 := F4.binds (ps := ["graph"]) fun _ _ _ _ _ _ us hl => match us, hl with | [_], _ => rfl
  have F5 := fun_mk (st := s_tree_below) l5 c5 k5
  have b5 := F5.binds (ps := ["graph", "values"]) fun _ _ _ _ _ _ us hl => match us, hl with | [_, _], _ => rfl
  have F6 := fun_mk (st := s_case_tree) l6 c6 k6
  have b6 := F6.binds (ps := ["graph"]) fun _ _ _ _ _ _ us hl => match us, hl with | [_], _ => rfl
  have F7 := fun_mk (st := s_is_tree_below) l7 c7 k7
  have b7 := F7.binds (ps := ["graph", "candidate", "values"]) fun _ _ _ _ _ _ us hl => match us, hl with | [_, _, _], _ => rfl
  have F8 := fun_mk (st := s_is_case_tree) l8 c8 k8
  have b8 := F8.binds (ps := ["graph", "candidate"]) fun _ _ _ _ _ _ us hl => match us, hl with | [_, _], _ => rfl
  have F9 := fun_mk (st := s__law_box) l9 c9 k9
  have b9 := F9.binds (ps := ["_law_script"]) fun _ _ _ _ _ _ us hl => match us, hl with | [_], _ => rfl
  have F10 := fun_mk (st := s__law_draw) l10 c10 k10
  have b10 := F10.binds (ps := ["_law_source", "_law_many"]) fun _ _ _ _ _ _ us hl => match us, hl with | [_, _], _ => rfl
  have F11 := fun_mk (st := s__law_stem) l11 c11 k11
  have b11 := F11.binds (ps := ["_law_source"]) fun _ _ _ _ _ _ us hl => match us, hl with | [_], _ => rfl
  have F12 := fun_mk (st := s__law_random_graph) l12 c12 k12
  have b12 := F12.binds (ps := ["_law_source", "_law_most"]) fun _ _ _ _ _ _ us hl => match us, hl with | [_, _], _ => rfl
  have F13 := fun_mk (st := s__law_tree) l13 c13 k13
  have b13 := F13.binds (ps := ["_law_graph", "_law_tree_here", "_law_tried"]) fun _ _ _ _ _ _ us hl => match us, hl with | [_, _, _], _ => rfl
  have F14 := fun_mk (st := s__law_first) l14 c14 k14
  have b14 := F14.binds (ps := ["_law_graph"]) fun _ _ _ _ _ _ us hl => match us, hl with | [_], _ => rfl
  have F15 := fun_mk (st := s__law_too_large) l15 c15 k15
  have b15 := F15.binds (ps := ["_law_count", "_law_direction"]) fun _ _ _ _ _ _ us hl => match us, hl with | [_, _], _ => rfl
  have F16 := fun_mk (st := s__law_lists_in) l16 c16 k16
  have b16 := F16.binds (ps := ["_law_candidate"]) fun _ _ _ _ _ _ us hl => match us, hl with | [_], _ => rfl
  have F17 := fun_mk (st := s__law_lists_are_distinct) l17 c17 k17
  have b17 := F17.binds (ps := ["_law_tree_here"]) fun _ _ _ _ _ _ us hl => match us, hl with | [_], _ => rfl
  have F18 := fun_mk (st := s__law_wheel_holds) l18 c18 k18
  have b18 := F18.binds (ps := []) fun _ _ _ _ _ _ us hl => match us, hl with | [], _ => rfl
  have F19 := fun_mk (st := s_law) l19 c19 k19
  have b19 := F19.binds (ps := ["_law_script"]) fun _ _ _ _ _ _ us hl => match us, hl with | [_], _ => rfl
  have ownB0 := ownB_mk (x := "TooLarge") (f := "total") (B := "OverflowError") (newId := "OverflowError.__new__") (initId := "OverflowError.__init__") (bmB := bmOE) (PySem.W.mg_of X G qa0) (PySem.W.mg_none_of X G qs0) qb0 (by decide +kernel) qc0 qd0 qe0 qf0 qg0 qh0 ql0 qm0 qn0 qo0 qp0 qq0 qt0
  have FQ0 := fun_mk (st := s_TooLarge_init) qi0 qj0 qk0
  have bQ0 := FQ0.binds (ps := ["self", "total"]) fun _ _ _ _ _ _ us hl => match us, hl with | [_, _], _ => rfl
  have isA0 : IsA K mg CQ0 := ⟨⟨qd0, qe0, qm0, qo0, qu0, qv0, qw0, qx0⟩, PySem.W.mg_none_of X G qs0, kit_ty (by decide +kernel) qy0⟩
  refine ⟨PySem.W.fnOf "law" "law" (defArgs s_law) (defBody s_law) (defScope s_law) .none kV19 dc19 pm19 an19 cd19 ct19, fun s v => .of_eq rfl, fun base _ _ => ?_⟩
  have errB0 : ErrB l.prog w K mg base "TooLarge" "total" "OverflowError" "OverflowError.__new__" "OverflowError.__init__" bmOE CQ0 := ⟨bas_OE, ⟨_, _, ownB0, ok_initTA FQ0 ownB0, bQ0⟩⟩
  have c_has_node : Cal l.prog w K mg base (CX0) 1 "has_node" (spHasT K) := ⟨⟨_, _, _, ok_hasT F0 B, PySem.W.mg_of X G a0, k0, b0⟩⟩
  have c_edge_of : Cal l.prog w K mg base (CX0) 1 "edge_of" (spEdgeT) := ⟨⟨_, _, _, ok_edgeT F1 B, PySem.W.mg_of X G a1, k1, b1⟩⟩
  have c_first_conflict : Cal l.prog w K mg base (CX0) 1 "first_conflict" (spConf) := ⟨⟨_, _, _, ok_conf F2 B, PySem.W.mg_of X G a2, k2, b2⟩⟩
  have c_first_extension : Cal l.prog w K mg base (CX0) 10 "first_extension" (spExtU) := ⟨⟨_, _, _, ok_extU F3 B ⟨c_first_conflict⟩ ⟨PySem.W.mg_of X G a3, k3, b3⟩ hV sV, PySem.W.mg_of X G a3, k3, b3⟩⟩
  have c_first_state : Cal l.prog w K mg base (CX0) 11 "first_state" (spFst) := ⟨⟨_, _, _, ok_fst F4 B ⟨g_MAX_CASE_NODES, c_first_extension⟩, PySem.W.mg_of X G a4, k4, b4⟩⟩
  have c_tree_below : Cal l.prog w K mg base (CX0) 10 "tree_below" (spBelowDU) := ⟨⟨_, _, _, ok_belowDU F5 B ⟨c_first_conflict⟩ ⟨PySem.W.mg_of X G a5, k5, b5⟩ hV sV, PySem.W.mg_of X G a5, k5, b5⟩⟩
  have c_case_tree : Cal l.prog w K mg base (CX0) 12 "case_tree" (spCaseD) := ⟨⟨_, _, _, ok_caseD F6 B ⟨c_first_state, c_tree_below⟩, PySem.W.mg_of X G a6, k6, b6⟩⟩
  have c_is_tree_below : Cal l.prog w K mg base (CX0) 10 "is_tree_below" (spTreeW K) := ⟨⟨_, _, _, ok_treeW F7 B ⟨c_has_node, c_edge_of⟩ ⟨PySem.W.mg_of X G a7, k7, b7⟩ hV sV, PySem.W.mg_of X G a7, k7, b7⟩⟩
  have c_is_case_tree : Cal l.prog w K mg base (CX0) 11 "is_case_tree" (spCaseU K) := ⟨⟨_, _, _, ok_caseU F8 B ⟨c_is_tree_below⟩, PySem.W.mg_of X G a8, k8, b8⟩⟩
  have c__law_box : Cal l.prog w K mg base (CX0) 1 "_law_box" (spBox K) := ⟨⟨_, _, _, ok_box F9 B, PySem.W.mg_of X G a9, k9, b9⟩⟩
  have c__law_draw : Cal l.prog w K mg base (CX0) 1 "_law_draw" (spDraw) := ⟨⟨_, _, _, ok_draw F10 B, PySem.W.mg_of X G a10, k10, b10⟩⟩
  have c__law_stem : Cal l.prog w K mg base (CX0) 2 "_law_stem" (spStem) := ⟨⟨_, _, _, ok_stem F11 B ⟨c__law_draw⟩, PySem.W.mg_of X G a11, k11, b11⟩⟩
  have c__law_random_graph : Cal l.prog w K mg base (CX0) 3 "_law_random_graph" (spGraphN) := ⟨⟨_, _, _, ok_graphN F12 B ⟨c__law_draw, c__law_stem⟩, PySem.W.mg_of X G a12, k12, b12⟩⟩
  have c__law_tree : Cal l.prog w K mg base (CX0) 10 "_law_tree" (spLTree8 K) := ⟨⟨_, _, _, ok_ltree8 F13 B ⟨PySem.W.mg_of X G a13, k13, b13⟩, PySem.W.mg_of X G a13, k13, b13⟩⟩
  have c__law_first : Cal l.prog w K mg base (CX0) 1 "_law_first" (spFirstL K) := ⟨⟨_, _, _, ok_first F14 B, PySem.W.mg_of X G a14, k14, b14⟩⟩
  have c__law_too_large : Cal l.prog w K mg base (CX0) 13 "_law_too_large" (spTooL) := ⟨⟨_, _, _, ok_tooL F15 B ⟨⟨⟨_, _, _, ok_fstE F4 B ⟨g_MAX_CASE_NODES, c_first_extension⟩ errB0, PySem.W.mg_of X G a4, k4, b4⟩⟩, ⟨⟨_, _, _, ok_caseE F6 B ⟨⟨⟨_, _, _, ok_fstE F4 B ⟨g_MAX_CASE_NODES, c_first_extension⟩ errB0, PySem.W.mg_of X G a4, k4, b4⟩⟩, c_tree_below⟩, PySem.W.mg_of X G a6, k6, b6⟩⟩⟩ ownB0 isA0, PySem.W.mg_of X G a15, k15, b15⟩⟩
  have c__law_lists_in : Cal l.prog w K mg base (CX0) 11 "_law_lists_in" (spLinU) := ⟨⟨_, _, _, ok_linU F16 B ⟨PySem.W.mg_of X G a16, k16, b16⟩, PySem.W.mg_of X G a16, k16, b16⟩⟩
  have c__law_lists_are_distinct : Cal l.prog w K mg base (CX0) 12 "_law_lists_are_distinct" (spDis) := ⟨⟨_, _, _, ok_dis F17 B ⟨c__law_lists_in⟩, PySem.W.mg_of X G a17, k17, b17⟩⟩
  have c__law_wheel_holds : Cal l.prog w K mg base (CX0) 13 "_law_wheel_holds" (spWheel) := ⟨⟨_, _, _, ok_wheel F18 B ⟨c_first_state, c_case_tree, c__law_tree, c_is_case_tree, c__law_lists_are_distinct⟩, PySem.W.mg_of X G a18, k18, b18⟩⟩
  exact ok_law F19 B ⟨c__law_box, c__law_draw, c__law_random_graph, c__law_wheel_holds, c__law_first, c_first_state, c_case_tree, c__law_too_large, c__law_tree, c_is_case_tree⟩
theorem walk {l : PySem.W.OpenLaw} {q : Program} {loose : List Str} {XP : (Str → Option Value) → Heap → Prop} {YP : World → Heap → Prop} {d : DefRec} {K : Params → PySem.W.Frag} (hn : l.most = some 63) (hdf : d.params.defaults = [])
    (hY : ∀ (w : World) (h : Heap), YP w h → (K w.params).In h)
    (F : ∀ (w : World) (mg : Str → Option Value) (fa : Addr) (h : Heap), (K w.params).In h → h.Ns mainGlobals mg → mg d.name = some (.ref fa) →
      ∃ fd : FuncData, (∀ (s : Shared) (u : Value), BindsTo s fd ⟨[u], []⟩ [("_law_script", u)]) ∧ ∀ base : Heap, (K w.params).In base → base.Ns mainGlobals mg → FnG l.prog w (K w.params) mg base CX0 14 fa fd ["_law_script"] (spLaw (K w.params))) :
    PySem.W.WalkO q loose XP YP l.row.toRowW d [] (fun f vs => PySem.call f vs) :=
  walk_G (n := 63) (k := 14) (x := "_law_script") (sp := spLaw) hn (by decide) hdf ⟨rfl, by decide, by decide⟩ hY F fun K H a ns hl _ _ hS => ⟨a, ns, rfl, hS, hl, fun _ => rfl⟩
end Law
open PySem PySem.W PyProof.Rows
set_option maxRecDepth 100000 in
set_option maxHeartbeats 0 in
theorem PySem.Challenge.cw_threeturned_k60_whole_first_states_holds : PySem.Challenge.rw_threeturned_k60_whole_first_states.Holds := by
  w_on; o_law; k_head; (case hw => w_witness2)
  k_fill
  refine Law.walk (l := PySem.Challenge.rw_threeturned_k60_whole_first_states) rfl rfl (fun w h Y => PySem.W.kIn_of Y) ?F
  case F =>
    intro w mg fa h KX G hmg
    refine' Law.all_mk KX G hmg ?a0 ?l0 ?c0 ?k0 ?a1 ?l1 ?c1 ?k1 ?a2 ?l2 ?c2 ?k2 ?a3 ?l3 ?c3 ?k3 ?a4 ?l4 ?c4 ?k4 ?a5 ?l5 ?c5 ?k5 ?a6 ?l6 ?c6 ?k6 ?a7 ?l7 ?c7 ?k7 ?a8 ?l8 ?c8 ?k8 ?a9 ?l9 ?c9 ?k9 ?a10 ?l10 ?c10 ?k10 ?a11 ?l11 ?c11 ?k11 ?a12 ?l12 ?c12 ?k12 ?a13 ?l13 ?c13 ?k13 ?a14 ?l14 ?c14 ?k14 ?a15 ?l15 ?c15 ?k15 ?a16 ?l16 ?c16 ?k16 ?a17 ?l17 ?c17 ?k17 ?a18 ?l18 ?c18 ?k18 ?a19 ?l19 ?c19 ?k19 ?z0 ?z1 ?z2 ?z3 ?z4 ?z5 ?z6 ?z7 ?z8 ?z9 ?z10 ?z11 ?z12 ?z13 ?z14 ?z15 ?z16 ?z17 ?z18 ?z19 ?z20 ?w0 ?v0 ?v1 ?qa0 ?qb0 ?qc0 ?qd0 ?qe0 ?qf0 ?qg0 ?qh0 ?qi0 ?qj0 ?qk0 ?ql0 ?qm0 ?qn0 ?qo0 ?qp0 ?qq0 ?qs0 ?qt0 ?qu0 ?qv0 ?qw0 ?qx0 ?qy0
    (case a0 => k_is); (case l0 => k_is); (case c0 => k_is); (case k0 => k_is)
    (case a1 => k_is); (case l1 => k_is); (case c1 => k_is); (case k1 => k_is)
    (case a2 => k_is); (case l2 => k_is); (case c2 => k_is); (case k2 => k_is)
    (case a3 => k_is); (case l3 => k_is); (case c3 => k_is); (case k3 => k_is)
    (case a4 => k_is); (case l4 => k_is); (case c4 => k_is); (case k4 => k_is)
    (case a5 => k_is); (case l5 => k_is); (case c5 => k_is); (case k5 => k_is)
    (case a6 => k_is); (case l6 => k_is); (case c6 => k_is); (case k6 => k_is)
    (case a7 => k_is); (case l7 => k_is); (case c7 => k_is); (case k7 => k_is)
    (case a8 => k_is); (case l8 => k_is); (case c8 => k_is); (case k8 => k_is)
    (case a9 => k_is); (case l9 => k_is); (case c9 => k_is); (case k9 => k_is)
    (case a10 => k_is); (case l10 => k_is); (case c10 => k_is); (case k10 => k_is)
    (case a11 => k_is); (case l11 => k_is); (case c11 => k_is); (case k11 => k_is)
    (case a12 => k_is); (case l12 => k_is); (case c12 => k_is); (case k12 => k_is)
    (case a13 => k_is); (case l13 => k_is); (case c13 => k_is); (case k13 => k_is)
    (case a14 => k_is); (case l14 => k_is); (case c14 => k_is); (case k14 => k_is)
    (case a15 => k_is); (case l15 => k_is); (case c15 => k_is); (case k15 => k_is)
    (case a16 => k_is); (case l16 => k_is); (case c16 => k_is); (case k16 => k_is)
    (case a17 => k_is); (case l17 => k_is); (case c17 => k_is); (case k17 => k_is)
    (case a18 => k_is); (case l18 => k_is); (case c18 => k_is); (case k18 => k_is)
    (case a19 => k_is); (case l19 => k_is); (case c19 => k_is); (case k19 => k_is)
    (case z0 => k_is); (case z1 => k_is); (case z2 => k_is); (case z3 => k_is)
    (case z4 => k_is); (case z5 => k_is); (case z6 => k_is); (case z7 => k_is)
    (case z8 => k_is); (case z9 => k_is); (case z10 => k_is); (case z11 => k_is)
    (case z12 => k_is); (case z13 => k_is); (case z14 => k_is); (case z15 => k_is)
    (case z16 => k_is); (case z17 => k_is); (case z18 => k_is); (case z19 => k_is)
    (case z20 => k_is); (case w0 => k_is); (case v0 => k_is); (case v1 => k_is)
    (case qa0 => k_is); (case qb0 => k_is); (case qc0 => k_is); (case qd0 => k_is)
    (case qe0 => k_is); (case qf0 => k_is); (case qg0 => k_is); (case qh0 => k_is)
    (case qi0 => k_is); (case qj0 => k_is); (case qk0 => k_is); (case ql0 => k_is)
    (case qm0 => k_is); (case qn0 => k_is); (case qo0 => k_is); (case qp0 => k_is)
    (case qq0 => k_is); (case qs0 => k_is); (case qt0 => k_is); (case qu0 => k_is)
    (case qv0 => k_is); (case qw0 => k_is); (case qx0 => k_is); (case qy0 => k_is)

