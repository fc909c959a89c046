import PyProof.Rows.All
import Wide.All
import OpenK.AllK
import Wide.FinOn
import HandS.ForMost
import HandS.Exc
import HandS.EndBits
import HandS.Wide
import HandS.Codes
import HandS.TupAny
import HandS.IsInst
import HandS.Walk
import HandS.Flow
import HandS.SetKeys
import HandS.SortKw
import HandS.Style
import KE.SortData
import HandS.More
import HandS.DictComp
import PySem.Challenge.RW_threeturned_k42_apply_one_round
import HandS.Defaults
import HandS.Deep
import PyProof.RowDictHeap
import PyProof.ReprRoads
import PyProof.ReprBulk
import HandS.Finally
import PyProof.DictUpdate
import HandS.ExcInit
import HandS.ExcIs
import HandS.ExcField
import PyProof.P3In
import HandS.Nested
import KE.GoesEnum
import KE.GoesMore
import KE.DataCmp
import HandS.Lambda
import KE.DataMinKey
import HandS.RaiseMore
import HandS.Iter
import HandS.Conv
import KE.KDictSum
import HandS.DictTup
import HandS.ListItems
import KE.KExcInit
import HandS.WordsExc
import HandS.EndTab
set_option Elab.async false
set_option linter.all false
set_option maxRecDepth 100000
set_option maxHeartbeats 4000000
/-! calls with room and with nothing being shown (guards known) -/
namespace U
open PySem PySem.Spec PyProof.Rows L2

/-- room for k calls, and no repr is under way -/
structure Rm (k : Nat) (A : Around) : Prop where
  r : Room k A
  g : A.guards = some []
theorem Rm.mono {j k : Nat} {A : Around} (h : Rm k A) (hj : j ≤ k) : Rm j A := ⟨h.r.mono hj, h.g⟩
theorem Rm.deeper {k : Nat} {A : Around} (h : Rm (k + 1) A) (env : Env) : Rm k (A.deeper env) := ⟨h.r.deeper env, h.g⟩
theorem Rm.u1 {k : Nat} {A : Around} (h : Rm k A) : A.units + 1 < cLine := by
  have z := h.r.un
  omega
theorem Rm.u64 {k : Nat} {A : Around} (h : Rm k A) : A.units + 64 < cLine := h.r.units
theorem Rm.u0 {k : Nat} {A : Around} (h : Rm k A) : A.units < cLine := by
  have z := h.r.un
  omega
theorem Rm.u100 {k : Nat} {A : Around} (h : Rm k A) : A.units + 150 < cLine := by
  have z := h.r.un
  omega

/-- the def at f keeps the promise sp -/
structure FnG (P : Program) (w : World) (K : PySem.W.Frag) (mg : Str → Option Value) (base : Heap) (CX : CXT) (k : Nat) (f : Addr) (fd : FuncData) (ps : List Str) (sp : Sp) : Prop where
  len : ∀ vs H Q E, sp vs H Q E → vs.length = ps.length
  go : ∀ (A : Around) (outer : List Env) (s : Shared) (H : Hp) (args : Args) (us : List Value) (vs : List V) (Q : VK) (E : XK), Rm k A →
    Env0 P w K mg base A outer s H → BindsTo s fd args (ps.zip us) → Vals vs us → sp vs H Q E → codeAny (model P w) A (.call (.ref f) args) (CR CX outer P w H s Q E) s
/-- room ran out of is no way: L2's own promise serves -/
theorem FnG.of {P : Program} {w : World} {K : PySem.W.Frag} {mg : Str → Option Value} {base : Heap} {CX : CXT} {k : Nat} {f : Addr} {fd : FuncData} {ps : List Str} {sp : Sp} (F : FnOk P w K mg base CX k f fd ps sp) : FnG P w K mg base CX k f fd ps sp :=
  ⟨F.len, fun A outer s H args us vs Q E hr => F.run A outer s H args us vs Q E hr.r⟩

section
variable {P : Program} {w : World} {K : PySem.W.Frag} {mg : Str → Option Value} {base : Heap} {CX : CXT}
/-- a def by its body -/
theorem fnG {x qual : Str} {st : Stmt} {f : Addr} {fd : FuncData} {N ps : List Str} {k : Nat} {sp : Sp} (F : Fun K x qual st f fd) (S : FnScope N ps (defScope st)) (len : ∀ vs H Q E, sp vs H Q E → vs.length = ps.length)
    (body : ∀ (cdv : Value) (A : Around) (outer : List Env) (s : Shared) (H : Hp) (vs : List V) (Q : VK) (E : XK), Rm k (A.deeper (envOfC qual (defScope st) s.heap.objs.size f cdv)) → sp vs H Q E →
      ∃ t, PSs (cxOf CX P w K mg base N qual (defScope st) f cdv A outer s H E) (defBody st) t ∧ t { nx := fun _ H' => Q .non H', rt := Q } (start N vs) H) :
    FnG P w K mg base CX (k + 1) f fd ps sp := by
  obtain ⟨oc, od, kV, doc, pm, an, cdv, ct, osl, rfl, lk, hcd⟩ := F.ex
  refine ⟨len, fun A outer s H args us vs Q E room e0 bd rel want => ?_⟩
  have count := len _ _ _ _ want
  have kin : K.In s.heap := e0.mod.kin.keeps fun b o e => (e0.bs b o e).1
  have kinds : ∀ y ∈ ps.zip us, (defScope st).names.lookup y.1 = some .local ∨ ((defScope st).names.lookup y.1 = some .cell ∧ ((cellsFrom (s.heap.objs.size + 1) (defScope st).names []).lookup y.1).isSome = true) := by
    rintro ⟨n, v⟩ hy
    cases S.par n (List.of_mem_zip hy).1 with
    | inl q => exact .inl q
    | inr q => exact .inr ⟨q, PySem.W.cellsFrom_some _ _ _ (.inl q)⟩
  apply codeAny_call_function room.r.depth (kin _ _ lk) rfl S.co S.gen rfl (PySem.W.codeRec_of kin hcd) (bd _ _ _ _ _)
  apply wpAny_newFunctionEnv_cells S.kind kinds
  intro env he s1 x
  subst he
  have lim : s.heap.NoLimit := e0.mod.nolimit.keeps fun b o e => (e0.bs b o e).1
  refine ⟨lim.keeps x.toInCall.keep, codeAny_func ?_⟩
  obtain ⟨t, ht, want'⟩ := body cdv A outer s H vs Q E (room.deeper _) want
  have I := inv_start (CX := CX) (P := P) (w := w) (K := K) (mg := mg) (base := base) (E := E) S room.r.hd e0 count rel x
  refine wpAny_mono (ht.run [] s1 (start N vs) H _ I want') ?_ fun e s' hs => hs
  intro fl s' hs
  cases fl with
  | ret u =>
    obtain ⟨v, σ', H', J, rv, q⟩ := hs
    exact ⟨v, H', J.os, J.bare, J.base, J.hok, rv, q⟩
  | next =>
    obtain ⟨σ', H', J, q⟩ := hs
    exact ⟨V.non, H', J.os, J.bare, J.base, J.hok, rfl, q⟩
  | brk => exact hs.elim fun _ z => z.elim fun _ z => z.2.elim
  | cont => exact hs.elim fun _ z => z.elim fun _ z => z.2.elim
/-- a def that no exception leaves -/
theorem fnG0 {x qual : Str} {st : Stmt} {f : Addr} {fd : FuncData} {N ps : List Str} {k : Nat} {sp : Sp} (F : Fun K x qual st f fd) (S : FnScope N ps (defScope st)) (len : ∀ vs H Q E, sp vs H Q E → vs.length = ps.length)
    (body : ∀ (cdv : Value) (A : Around) (outer : List Env) (s : Shared) (H : Hp) (vs : List V) (Q : VK) (E : XK), Rm k (A.deeper (envOfC qual (defScope st) s.heap.objs.size f cdv)) → sp vs H Q E →
      ∃ t, PSs (cxOf CX0 P w K mg base N qual (defScope st) f cdv A outer s H E).nox (defBody st) t ∧ t { nx := fun _ H' => Q .non H', rt := Q } (start N vs) H) :
    FnG P w K mg base CX0 (k + 1) f fd ps sp := fnG F S len fun cdv A outer s H vs Q E hr h => by
  obtain ⟨t, p, q⟩ := body cdv A outer s H vs Q E hr h
  exact ⟨t, p.nox, q⟩
/-- a def that may be called by its global name -/
structure Cal (P : Program) (w : World) (K : PySem.W.Frag) (mg : Str → Option Value) (base : Heap) (CX : CXT) (k : Nat) (x : Str) (sp : Sp) : Prop where
  ex : ∃ (f : Addr) (fd : FuncData) (ps : List Str), FnG P w K mg base CX k f fd ps sp ∧ mg x = some (.ref f) ∧ PySem.W.keepIn K (.ref f) = true ∧ Binds K fd ps []
end

section
variable {X : Cx} {CX : L2.CXT} {k j : Nat} {f : Addr} {fd : FuncData} {ps : List Str} {sp : Sp} {E : XK} {x : Str} {p pos : Pos} {e : Expr} {es : List Expr} {t : TA}
theorem callG {pins : List (Addr × Obj)} {σ : L2.St} {H : Hp} {s : Shared} {Q : VK} {us : List Value} {vs : List V} (F : FnG X.prog X.w X.K X.mg X.base CX k f fd ps sp) (hr : Rm k X.A) (hb : Binds X.K fd ps []) (hx : Passes CX X E)
    (I : Inv X pins σ H s) (r : Vals vs us) (h : sp vs H Q E) : wpAny (model X.prog X.w) X.A (call (.ref f) us) (EP X pins σ Q) X.xe s := by
  have count : us.length = ps.length := r.length ▸ F.len _ _ _ _ h
  have bd := hb s us I.kIn (by rw [List.append_nil]; exact count)
  rw [List.append_nil] at bd
  refine wpAny_call (codeAny_mono (F.go X.A X.stack s H ⟨us, []⟩ us vs Q E hr I.env0 bd r h) ?_)
  intro res s' hq
  cases res with
  | error er => exact hx pins σ H s er s' I hq
  | ok fl =>
    cases fl with
    | ret u => exact I.after hq
    | next => exact hq.elim
    | brk => exact hq.elim
    | cont => exact hq.elim
/-- f(..): the promise -/
def tC1 (sp : Sp) (E : XK) (t : TA) : TE := fun σ H Q => t σ H fun vs H1 => sp vs H1 Q E
theorem pe_cG (c : Cal X.prog X.w X.K X.mg X.base CX k x sp) (hr : Rm j X.A) (hk : k ≤ j) (hg : Gl X x) (hx : Passes CX X E) (ha : PA X (e :: es) t)
    (hdb : (x == ("__debug__" : Str)) = false := by decide) (he : starEach (e :: es) X.env = (false, eval e X.env) :: starEach es X.env := by rfl) (hpl : (backTo pos (starEach es X.env)).any (·.1) = false := by rfl) :
    PE X (.Call (.Name x p) (e :: es) [] pos) (tC1 sp E t) := by
  obtain ⟨f, fd, ps, F, hm, kp, b⟩ := c.ex
  refine ⟨fun pins s σ H Q I h => wpAny_Call_Name_kw (ld_glob I hg hm ?_ hdb)⟩
  refine PySem.W.callWith_K (h₀ := X.base) I.ok.mod.kin kp (thn (ha.run pos pins s σ H _ I h) ?_) he hpl
  rintro us s1 ⟨vs, H1, I1, r, q⟩
  exact ⟨I1.kIn, callG F (hr.mono hk) b hx I1 r q⟩
theorem pe_c (c : Cal X.prog X.w X.K X.mg X.base CX0 k x sp) (hr : Rm j X.A) (hk : k ≤ j) (hg : Gl X x) (ha : PA X (e :: es) t)
    (hdb : (x == ("__debug__" : Str)) = false := by decide) (he : starEach (e :: es) X.env = (false, eval e X.env) :: starEach es X.env := by rfl) (hpl : (backTo pos (starEach es X.env)).any (·.1) = false := by rfl) :
    PE X (.Call (.Name x p) (e :: es) [] pos) (tC1 sp E0 t) := pe_cG c hr hk hg pass0 ha hdb he hpl
/-- .. what is raised is wished for at the caller's slots -/
def tC2 (sp : Sp) (W : WX) (t : TA) : TE := fun σ H Q => t σ H fun vs H1 => sp vs H1 Q fun cls d H' => W cls d σ H'
theorem pe_cX {W : WX} (c : Cal X.prog X.w X.K X.mg X.base (L2.CX X.prog X.w) k x sp) (hr : Rm j X.A) (hk : k ≤ j) (hg : Gl X x) (tk : Takes X W) (ha : PA X (e :: es) t)
    (hdb : (x == ("__debug__" : Str)) = false := by decide) (he : starEach (e :: es) X.env = (false, eval e X.env) :: starEach es X.env := by rfl) (hpl : (backTo pos (starEach es X.env)).any (·.1) = false := by rfl) :
    PE X (.Call (.Name x p) (e :: es) [] pos) (tC2 sp W t) := by
  obtain ⟨f, fd, ps, F, hm, kp, b⟩ := c.ex
  refine ⟨fun pins s σ H Q I h => wpAny_Call_Name_kw (ld_glob I hg hm ?_ hdb)⟩
  refine PySem.W.callWith_K (h₀ := X.base) I.ok.mod.kin kp (thn (ha.run pos pins s σ H _ I h) ?_) he hpl
  rintro us s1 ⟨vs, H1, I1, r, q⟩
  refine ⟨I1.kIn, ?_⟩
  have count : us.length = ps.length := r.length ▸ F.len _ _ _ _ q
  have bd := b s1 us I1.kIn (by rw [List.append_nil]; exact count)
  rw [List.append_nil] at bd
  refine wpAny_call (codeAny_mono (F.go X.A X.stack s1 H1 ⟨us, []⟩ us vs _ _ (hr.mono hk) I1.env0 bd r q) ?_)
  intro res s' hq
  cases res with
  | error er => exact tk er s' (XE.of_call I1 (fun cls d H' z => z) hq)
  | ok fl =>
    cases fl with
    | ret u => exact I1.after hq
    | next => exact hq.elim
    | brk => exact hq.elim
    | cont => exact hq.elim
end

/-! ### the law's own head -/
theorem law_G {P : Program} {w : World} {K : PySem.W.Frag} {mg mb : Str → Option Value} {k : Nat} {fa a : Addr} {fd : FuncData} {x : Str} {sp : Sp} {s₁ : Shared} {vs : List Value} {ns : List Int}
    (KX : K.In s₁.heap) (hns : s₁.heap.Ns mainGlobals mg) (hb : s₁.heap.Ns builtinsNs mb) (hbb : ∀ x : Str, x ≠ "__name__" → mb x = bootBuiltins x) (hlim : s₁.heap.NoLimit) (hg : s₁.gens = #[])
    (ha : s₁.heap.get? a = some { cls := .type "list", data := .seq vs.toArray }) (hi : IntsAre vs ns) (hl : ns.length ≤ sizeLine) (hr : Room k callerA)
    (F : ∀ base : Heap, K.In base → base.Ns mainGlobals mg → FnG P w K mg base CX0 k fa fd [x] sp) (hbind : ∀ (s : Shared) (u : Value), BindsTo s fd ⟨[u], []⟩ [(x, u)])
    (hsp : ∀ H : Hp, Only H → SqL K H a (ns.map V.int) → sp [.ref a] H (fun v _ => v = .bl true) fun _ _ _ => False) :
    codeAny (model P w) callerA (.call (.ref fa) ⟨[.ref a], []⟩) (fun r s' => r = .ok (.ret (.bool true)) ∧ OldK s₁.heap s'.heap ∧ s'.os = s₁.os ∧ AllBare s'.gens) s₁ := by
  /- the promise as L2's head asks it: of room alone; it asks it of callerA alone -/
  have Z : ∀ base : Heap, K.In base → base.Ns mainGlobals mg → ∀ (outer : List Env) (s : Shared) (H : Hp) (args : Args) (us : List Value) (vs : List V) (Q : VK) (E : XK),
      Env0 P w K mg base callerA outer s H → BindsTo s fd args ([x].zip us) → Vals vs us → sp vs H Q E → codeAny (model P w) callerA (.call (.ref fa) args) (CR CX0 outer P w H s Q E) s :=
    fun base h1 h2 outer s H args us vs Q E e b r q => (F base h1 h2).go callerA outer s H args us vs Q E ⟨hr, rfl⟩ e b r q
  have rv := vals_ints hi
  have lenV := hi.length
  have main : ∀ H : Hp, Only H → SqL K H a (ns.map V.int) → HOk P w H s₁.heap → (∀ b, H b ≠ none → b = a) → (H a ≠ none → K.lookup a = none) →
      codeAny (model P w) callerA (.call (.ref fa) ⟨[.ref a], []⟩) (fun r s' => r = .ok (.ret (.bool true)) ∧ OldK s₁.heap s'.heap ∧ s'.os = s₁.os ∧ AllBare s'.gens) s₁ := by
    intro H only seq ok only_a own
    have free_dict : ∀ {b : Addr} {o : Obj} {es : Array DictEntry} {ep : Nat}, s₁.heap.get? b = some o → o.data = .dict es ep → H b = none := by
      intro b o es ep e d
      cases q : H b with
      | none => rfl
      | some u =>
        obtain rfl : b = a := only_a b (by rw [q]; simp)
        obtain rfl := Option.some.inj (ha.symm.trans e)
        cases d
    have stays : ∀ {b : Addr} {m : Str → Option Value}, s₁.heap.Ns b m → (hidT s₁.heap H).Ns b m := by
      rintro b m ⟨o, es, ep, e, d, r⟩
      exact ⟨o, es, ep, hidT_get e (free_dict e d), d, r⟩
    have kin : K.In (hidT s₁.heap H) := by
      intro b o e
      refine hidT_get (KX b o e) ?_
      cases q : H b with
      | none => rfl
      | some u =>
        obtain rfl : b = a := only_a b (by rw [q]; simp)
        rw [own (by rw [q]; simp)] at e
        cases e
    have md : Mod K mg (hidT s₁.heap H) := ⟨kin, stays hns, ⟨mb, stays hb, hbb⟩, by
      obtain ⟨mc, h1, h2⟩ := hlim
      exact ⟨mc, stays h1, h2⟩⟩
    have e0 : Env0 P w K mg (hidT s₁.heap H) callerA [] s₁ H := ⟨rfl, md, fun b o e => of_hidT e, Nat.le_of_eq (hidT_size _ _), trivial, fun b z => (List.not_mem_nil z).elim, ok, .of_eq hg⟩
    refine codeAny_mono (Z _ kin (stays hns) [] s₁ H ⟨[.ref a], []⟩ [.ref a] [.ref a] _ _ e0 (hbind s₁ (.ref a)) (.cons rfl .nil) (hsp H only seq)) ?_
    intro r s' h
    cases r with
    | error e => exact h.elim
    | ok fl =>
      cases fl with
      | next => exact h.elim
      | brk => exact h.elim
      | cont => exact h.elim
      | ret u =>
        obtain ⟨v, H', os, bare, un, ok', r', q⟩ := h
        have q' : v = .bl true := q
        subst q'
        obtain rfl : u = Value.bool true := r'
        refine ⟨rfl, OldK.of_keep ?_, os, bare⟩
        intro b o e
        cases q : H b with
        | none => exact un.keep b o e q (fun z => (List.not_mem_nil z).elim) (fun z => (List.not_mem_nil z).elim)
        | some u =>
          rcases only b with z | ⟨ob, xs, z⟩
          · rw [q] at z; cases z
          · obtain ⟨e1, _⟩ := ok b _ z
            obtain ⟨e2, _⟩ := ok' b _ (un.frzs b ob _ z)
            exact (Option.some.inj (e1.symm.trans e)) ▸ e2
  cases hk : K.lookup a with
  | some o =>
    obtain rfl := Option.some.inj (ha.symm.trans (KX a o hk))
    refine main (fun _ => none) (fun _ => .inl rfl) (.inr ⟨_, vs.toArray, _, hk, rfl, rfl, rfl, ?_, by simpa using rv⟩) (fun b u z => nomatch z) (fun b z => (z rfl).elim) fun z => (z rfl).elim
    rw [List.size_toArray, lenV]
    exact hl
  | none =>
    refine main (fun b => if b = a then some (.frz { cls := .type "list", data := .seq vs.toArray } (.lst (ns.map V.int))) else none) (fun b => ?_) (.inl (.inr ⟨_, if_pos rfl⟩)) (fun b u z => ?_) (fun b z => ?_) fun _ => hk
    · by_cases hb : b = a
      · exact .inr ⟨_, _, if_pos hb⟩
      · exact .inl (if_neg hb)
    · by_cases hb : b = a
      · subst hb
        obtain rfl := Option.some.inj ((if_pos rfl).symm.trans z)
        exact ⟨ha, by rw [List.length_map]; exact hl, vs, _, rv, ha⟩
      · exact nomatch (if_neg hb).symm.trans z
    · by_cases hb : b = a
      · exact hb
      · exact absurd (if_neg hb) z
theorem walk_G {l : PySem.W.OpenLaw} {n k : Nat} {q : Program} {loose : List Str} {XP : (Str → Option Value) → Heap → Prop} {YP : World → Heap → Prop} {d : DefRec} {K : Params → PySem.W.Frag} {sp : PySem.W.Frag → Sp} {x : Str}
    (hn : l.most = some n) (hn2 : n ≤ sizeLine) (hdf : d.params.defaults = []) (hr : Room k callerA)
    (hY : ∀ (w : World) (h : Heap), YP w h → (K w.params).In h)
    (F : ∀ (w : World) (mg : Str → Option Value) (fa : Addr) (h : Heap), (K w.params).In h → h.Ns mainGlobals mg → mg d.name = some (.ref fa) →
      ∃ fd : FuncData, (∀ (s : Shared) (u : Value), BindsTo s fd ⟨[u], []⟩ [(x, u)]) ∧
        ∀ base : Heap, (K w.params).In base → base.Ns mainGlobals mg → FnG l.prog w (K w.params) mg base CX0 k fa fd [x] (sp (K w.params)))
    (hsp : ∀ (K : PySem.W.Frag) (H : Hp) (a : Addr) (ns : List Int), ns.length ≤ n → (∀ z ∈ ns, Builtin.Int.intBits z ≤ 1048576) → Only H → SqL K H a (ns.map V.int) → sp K [.ref a] H (fun v _ => v = .bl true) fun _ _ _ => False) :
    PySem.W.WalkO q loose XP YP l.row.toRowW d [] (fun f vs => PySem.call f vs) := by
  refine Att.attach_callB hn hdf ?_
  intro w s₀ s₁ mg mb fa o pm cd doc a vs ns G Y ho hd hcd hmg hobj hints hlen bits hg
  obtain ⟨fd, hb, hF⟩ := F w mg fa _ (hY w _ Y) G.T.g hmg
  exact law_G (hY w _ Y) G.T.g G.T.b G.T.builtins G.T.nolimit hg hobj hints (Nat.le_trans hlen hn2) hr hF hb fun H only seq => hsp _ H a ns hlen bits only seq
end U

/-! operators by the values that come: one rule an operator -/
namespace U
open PySem PySem.Spec PyProof.Rows L2
section
variable {X : Cx}

/-! ### names of the world -/
theorem bb_len : bootBuiltins "len" = some (.builtin "len") := by decide +kernel
theorem bb_abs : bootBuiltins "abs" = some (.builtin "abs") := by decide +kernel
theorem bb_sorted : bootBuiltins "sorted" = some (.builtin "sorted") := by decide +kernel
theorem bb_isinstance : bootBuiltins "isinstance" = some (.builtin "isinstance") := by decide +kernel
theorem bb_repr : bootBuiltins "repr" = some (.builtin "repr") := by decide +kernel
theorem bb_int : bootBuiltins "int" = some (.type "int") := by decide +kernel
theorem bb_list : bootBuiltins "list" = some (.type "list") := by decide +kernel
theorem bb_tuple : bootBuiltins "tuple" = some (.type "tuple") := by decide +kernel
theorem bb_dict : bootBuiltins "dict" = some (.type "dict") := by decide +kernel
theorem bb_str : bootBuiltins "str" = some (.type "str") := by decide +kernel
theorem bb_bool : bootBuiltins "bool" = some (.type "bool") := by decide +kernel
theorem pe_ty {x : Str} {T : String} {pos : Pos} (hg : Gl X x) (hm : X.mg x = none) (hv : bootBuiltins x = some (.type T)) (hn : x ≠ "__name__" := by decide) (hd : (x == ("__debug__" : Str)) = false := by decide) :
    PE X (.Name x pos) (tC (.ty T)) := pe_bltn hg hm hv rfl hn hd
theorem pe_gl {x : Str} {v : V} {pos : Pos} (hg : Gl X x) (h : ∃ u, X.mg x = some u ∧ RelV v u) (hd : (x == ("__debug__" : Str)) = false := by decide) : PE X (.Name x pos) (tC v) := by
  obtain ⟨u, hm, r⟩ := h
  exact pe_glob hg hm r hd

/-! ### + - * % // ** -/
/-- what is wanted where a new list, a new tuple comes -/
def nL (xs : List V) (H : Hp) (Q : VK) : Prop := ∀ p, H p = none → Q (.ref p) (upd H p (.lst xs))
def nT (xs : List V) (H : Hp) (Q : VK) : Prop := ∀ p, H p = none → Q (.ref p) (upd H p (.tup xs))
def rAddU (K : PySem.W.Frag) : R2 := fun x y H Q => match x, y with
  | .int i, .int j => Q (.int (i + j)) H
  | .str a, .str b => a.length + b.length ≤ sizeLine ∧ Q (.str (a ++ b)) H
  | .ref a, .ref b => (∃ xs ys, H a = some (.lst xs) ∧ H b = some (.lst ys) ∧ xs.length + ys.length ≤ sizeLine ∧ nL (xs ++ ys) H Q) ∨ rCatA K (.ref a) (.ref b) H Q
  | _, _ => False
theorem uAdd : OpR X (binaryOp .Add) (rAddU X.K) := by
  intro pins s σ H x y v u Q I rx ry h
  cases x <;> cases y <;> first | exact h.elim | skip
  · exact op_add pins s σ H _ _ v u Q I rx ry ⟨_, _, rfl, rfl, h⟩
  · exact op_add_str pins s σ H _ _ v u Q I rx ry ⟨_, _, rfl, rfl, h⟩
  · rcases h with ⟨xs, ys, h1, h2, h3, h4⟩ | h
    · exact op_cat pins s σ H _ _ v u Q I rx ry ⟨_, _, _, _, rfl, rfl, h1, h2, h3, h4⟩
    · exact op_catA pins s σ H _ _ v u Q I rx ry h
def rSubU : R2 := fun x y H Q => match x, y with
  | .int i, .int j => Q (.int (i - j)) H
  | _, _ => False
theorem uSub : OpR X (binaryOp .Sub) rSubU := by
  intro pins s σ H x y v u Q I rx ry h
  cases x <;> cases y <;> first | exact h.elim | exact op_sub pins s σ H _ _ v u Q I rx ry ⟨_, _, rfl, rfl, h⟩
/-- a text k times -/
def timesS (z : Str) (k : Int) : Str := ⟨((List.replicate k.toNat z.cps.toList).flatten).toArray⟩
theorem timesS_one (z : Str) : timesS z 1 = z := by
  unfold timesS
  simp
theorem timesS_neg {z : Str} {k : Int} (h : k < 1) : timesS z k = Str.empty := by
  unfold timesS
  have e : k.toNat = 0 := by omega
  rw [e]
  rfl
theorem fold_rep (a : Array Nat) : ∀ (n : Nat) (acc : Array Nat), (List.replicate n a).foldl (· ++ ·) acc = acc ++ ((List.replicate n a.toList).flatten).toArray
  | 0, acc => by simp
  | n + 1, acc => by
    rw [List.replicate_succ, List.foldl_cons, fold_rep a n, List.replicate_succ, List.flatten_cons]
    apply Array.ext'
    simp
theorem timesS_nil {z : Str} {k : Int} (h : z.length = 0) : timesS z k = z := by
  obtain ⟨a⟩ := z
  have e : a = #[] := Array.size_eq_zero_iff.mp h
  subst e
  unfold timesS
  have : (List.replicate k.toNat ([] : List Nat)).flatten = [] := by
    rw [List.flatten_eq_nil_iff]
    intro l hl
    exact List.eq_of_mem_replicate hl
  show (⟨((List.replicate k.toNat ([] : List Nat)).flatten).toArray⟩ : Str) = ⟨#[]⟩
  rw [this]
def rMulU : R2 := fun x y H Q => match x, y with
  | .int i, .int j => (CMul i j ∨ CMulW i j) ∧ Q (.int (i * j)) H
  | .str z, .int k => (0 ≤ k ∧ k ≤ 1000 ∧ z.length ≤ 1000) ∧ Q (.str (timesS z k)) H
  | .ref l, .int k => rRep (.ref l) (.int k) H Q
  | _, _ => False
theorem uMul : OpR X (binaryOp .Mult) rMulU := by
  intro pins s σ H x y v u Q I rx ry h
  cases x <;> cases y <;> first | exact h.elim | skip
  · obtain ⟨c | c, h⟩ := h
    · exact op_mul pins s σ H _ _ v u Q I rx ry ⟨_, _, rfl, rfl, c, h⟩
    · exact op_mulW pins s σ H _ _ v u Q I rx ry ⟨_, _, rfl, rfl, c, h⟩
  · rename_i z k
    obtain ⟨⟨h0, h1, hz⟩, q⟩ := h
    obtain ⟨t, rfl⟩ := rx
    obtain ⟨t', rfl⟩ := ry
    have hl : z.length * k.toNat ≤ 1000 * 1000 := Nat.mul_le_mul hz (by omega)
    refine P.mul_str ?_ ?_ ?_ ?_
    · have a : ¬ k < -(2 ^ 63) := by omega
      have b : ¬ k ≥ 2 ^ 63 := by omega
      rw [decide_eq_false a, decide_eq_false b]
      rfl
    · intro _ _ bad
      have : (z.length : Int) ≤ 1000 := by omega
      have e : (1000 : Int) ≤ (2 ^ 63 - 1) / k := by
        rw [Int.le_ediv_iff_mul_le (by omega)]
        have : (1000 : Int) * k ≤ 1000 * 1000 := Int.mul_le_mul_of_nonneg_left h1 (by decide)
        omega
      omega
    · intro _ _
      unfold Builtin.Str.tooLong
      have : z.length * k.toNat ≤ sizeLine := Nat.le_trans hl (by decide)
      simp
      exact this
    · split
      · rename_i hk
        rw [timesS_neg hk] at q
        exact ⟨by decide, ⟨.str Str.empty, H, I.tok _, ⟨_, rfl⟩, q⟩⟩
      · split
        · rename_i hk hc
          have e : timesS z k = z := by
            rcases (Bool.or_eq_true _ _).mp hc with c | c
            · have : k = 1 := by simpa using c
              rw [this, timesS_one]
            · exact timesS_nil (by simpa using c)
          rw [e] at q
          exact ⟨.str z, H, I.tok _, ⟨_, rfl⟩, q⟩
        · have e : (⟨(List.replicate k.toNat z.cps).foldl (· ++ ·) #[]⟩ : Str) = timesS z k := by
            rw [fold_rep]
            unfold timesS
            congr 1
            simp
          rw [e]
          refine ⟨?_, ⟨.str (timesS z k), H, I.tok _, ⟨_, rfl⟩, q⟩⟩
          have : (timesS z k).length = k.toNat * z.length := by
            unfold timesS Str.length
            simp
          rw [this, Nat.mul_comm]
          exact Nat.le_trans hl (by decide)
  · exact op_rep pins s σ H _ _ v u Q I rx ry h
def rModU : R2 := fun x y H Q => match x, y with
  | .int i, .int j => 0 < j ∧ Q (.int (i % j)) H
  | _, _ => False
theorem uMod : OpR X (binaryOp .Mod) rModU := by
  intro pins s σ H x y v u Q I rx ry h
  cases x <;> cases y <;> first | exact h.elim | exact op_mod pins s σ H _ _ v u Q I rx ry ⟨_, _, rfl, rfl, h.1, h.2⟩
def rDivU : R2 := fun x y H Q => match x, y with
  | .int i, .int j => (0 < j ∧ j < 1073741824) ∧ Q (.int (i / j)) H
  | _, _ => False
theorem uDiv : OpR X (binaryOp .FloorDiv) rDivU := by
  intro pins s σ H x y v u Q I rx ry h
  cases x <;> cases y <;> first | exact h.elim | exact op_fdiv pins s σ H _ _ v u Q I rx ry ⟨_, _, rfl, rfl, h.1, h.2⟩
def rPowU : R2 := fun x y H Q => match x, y with
  | .int i, .int j => CPow i j ∧ Q (.int (i ^ j.toNat)) H
  | _, _ => False
theorem uPow : OpR X (binaryOp .Pow) rPowU := by
  intro pins s σ H x y v u Q I rx ry h
  cases x <;> cases y <;> first | exact h.elim | exact op_pow pins s σ H _ _ v u Q I rx ry ⟨_, _, rfl, rfl, h.1, h.2⟩

/-! ### < <= > >= -/
def rLtU : R2 := fun x y H Q => match x, y with
  | .int i, .int j => Q (.bl (decide (i < j))) H
  | .str a, .str b => Q (.bl (decide (a.cps.toList < b.cps.toList))) H
  | _, _ => False
theorem uLt : OpR X (compareOp .Lt) rLtU := by
  intro pins s σ H x y v u Q I rx ry h
  cases x <;> cases y <;> first | exact h.elim | exact op_lt pins s σ H _ _ v u Q I rx ry ⟨_, _, rfl, rfl, h⟩ | exact op_lt_str pins s σ H _ _ v u Q I rx ry ⟨_, _, rfl, rfl, h⟩
def rLeU : R2 := fun x y H Q => match x, y with
  | .int i, .int j => Q (.bl (decide (i ≤ j))) H
  | _, _ => False
theorem uLe : OpR X (compareOp .LtE) rLeU := by
  intro pins s σ H x y v u Q I rx ry h
  cases x <;> cases y <;> first | exact h.elim | exact op_le pins s σ H _ _ v u Q I rx ry ⟨_, _, rfl, rfl, h⟩
def rGtU : R2 := fun x y H Q => match x, y with
  | .int i, .int j => Q (.bl (decide (j < i))) H
  | _, _ => False
theorem uGt : OpR X (compareOp .Gt) rGtU := by
  intro pins s σ H x y v u Q I rx ry h
  cases x <;> cases y <;> first | exact h.elim | exact op_gt pins s σ H _ _ v u Q I rx ry ⟨_, _, rfl, rfl, h⟩
def rGeU : R2 := fun x y H Q => match x, y with
  | .int i, .int j => Q (.bl (decide (j ≤ i))) H
  | _, _ => False
theorem uGe : OpR X (compareOp .GtE) rGeU := by
  intro pins s σ H x y v u Q I rx ry h
  cases x <;> cases y <;> first | exact h.elim | exact op_ge pins s σ H _ _ v u Q I rx ry ⟨_, _, rfl, rfl, h⟩

/-! ### == != is, is not -/
/-- == of any two: what is told of them is data -/
def eqB (x y : V) : Option Bool := match x, y with
  | .int i, .int j => some (decide (i = j))
  | .str a, .str b => some (decide (a = b))
  | .bl a, .bl b => some (decide (a = b))
  | .non, .non => some true
  | .int _, .str _ => some false
  | .str _, .int _ => some false
  | .non, .str _ => some false
  | .str _, .non => some false
  | .non, .int _ => some false
  | .int _, .non => some false
  | .bl _, .str _ => some false
  | .str _, .bl _ => some false
  | .bl _, .non => some false
  | .non, .bl _ => some false
  | _, _ => none
theorem eqB_scal {x y : V} {b : Bool} (h : eqB x y = some b) : scal x y = true ∧ decide (x = y) = b := by
  cases x <;> cases y <;> simp_all [eqB, scal]
def rEqU (K : PySem.W.Frag) : R2 := fun x y H Q => match eqB x y with
  | some b => Q (.bl b) H
  | none => rEqD K x y H Q
def rNeU (K : PySem.W.Frag) : R2 := fun x y H Q => match eqB x y with
  | some b => Q (.bl (!b)) H
  | none => rNeD K x y H Q
theorem uEq' (hu : X.A.units + 64 < cLine) : OpR X (compareOp .Eq) (rEqU X.K) := by
  intro pins s σ H x y v u Q I rx ry h
  unfold rEqU at h
  cases e : eqB x y with
  | some b =>
    rw [e] at h
    obtain ⟨z1, z2⟩ := eqB_scal e
    exact op_eq pins s σ H _ _ v u Q I rx ry ⟨z1, by rw [z2]; exact h⟩
  | none =>
    rw [e] at h
    exact op_eqD hu pins s σ H _ _ v u Q I rx ry h
theorem uNe' (hu : X.A.units + 64 < cLine) : OpR X (compareOp .NotEq) (rNeU X.K) := by
  intro pins s σ H x y v u Q I rx ry h
  unfold rNeU at h
  cases e : eqB x y with
  | some b =>
    rw [e] at h
    obtain ⟨z1, z2⟩ := eqB_scal e
    exact op_ne pins s σ H _ _ v u Q I rx ry ⟨z1, by rw [z2]; exact h⟩
  | none =>
    rw [e] at h
    exact op_neD hu pins s σ H _ _ v u Q I rx ry h
def rIsU : R2 := fun x y H Q => match y with
  | .non => Q (.bl (decide (x = .non))) H
  | .bl b => ∃ a, x = .bl a ∧ Q (.bl (decide (a = b))) H
  | _ => False
def rIsNotU : R2 := fun x y H Q => match y with
  | .non => Q (.bl (!decide (x = .non))) H
  | .bl b => ∃ a, x = .bl a ∧ Q (.bl (!decide (a = b))) H
  | _ => False
/-! ### in, not in: lists and tuples -/
def rInU (K : PySem.W.Frag) : R2 := fun x y H Q => match y with
  | .ref p => ∃ xs, (SqL K H p xs ∨ SqT K H p xs) ∧ ((flatV x = true ∧ xs.all flatV = true ∧ Q (.bl (inV x xs)) H))
  | _ => False
theorem uIn : OpR X (compareOp .In) (rInU X.K) := by
  intro pins s σ H x y v u Q I rx ry h
  cases y <;> first | exact h.elim | skip
  obtain ⟨xs, h1, h2, h3, h4⟩ := h
  exact op_in_seq pins s σ H _ _ v u Q I rx ry ⟨_, xs, rfl, h1, h2, h3, h4⟩
def rNotInU (K : PySem.W.Frag) : R2 := fun x y H Q => match y with
  | .ref p => ∃ xs, (SqL K H p xs ∨ SqT K H p xs) ∧ ((flatV x = true ∧ xs.all flatV = true ∧ Q (.bl (!inV x xs)) H))
  | _ => False
theorem uNotIn : OpR X (compareOp .NotIn) (rNotInU X.K) := by
  intro pins s σ H x y v u Q I rx ry h
  cases y <;> first | exact h.elim | skip
  obtain ⟨xs, h1, h2, h3, h4⟩ := h
  exact op_notIn_seq pins s σ H _ _ v u Q I rx ry ⟨_, xs, rfl, h1, h2, h3, h4⟩

/-! ### o[i], o[a:b] -/
def rIxU (K : PySem.W.Frag) : R2 := fun x y H Q => match x, y with
  | .str z, .int i => z.length ≤ sizeLine ∧ ∃ c, atI z.cps.toList i = some c ∧ Q (.str ⟨#[c]⟩) H
  | .ref p, .int i => ∃ xs, (SqL K H p xs ∨ SqT K H p xs) ∧ ∃ v, atI xs i = some v ∧ Q v H
  | _, _ => False
theorem uIx : IxR X (rIxU X.K) := by
  intro a b pins s σ H x y v u Q I rx ry h hs
  cases x <;> cases y <;> first | exact h.elim | skip
  · obtain ⟨h1, c, h2, h3⟩ := h
    exact ix_str a b pins s σ H _ _ v u Q I rx ry ⟨_, _, c, rfl, rfl, h1, h2, h3⟩ hs
  · obtain ⟨xs, h1 | h1, w', h2, h3⟩ := h
    · exact ix_list a b pins s σ H _ _ v u Q I rx ry ⟨_, xs, _, w', rfl, rfl, h1, h2, h3⟩ hs
    · exact ix_tup a b pins s σ H _ _ v u Q I rx ry ⟨_, xs, _, w', rfl, rfl, h1, h2, h3⟩ hs
end
end U

/-! slices, built-in functions by the values that come -/
namespace U
open PySem PySem.Spec PyProof.Rows L2
section
variable {X : Cx}
/-! ### slices -/
def rSlU (K : PySem.W.Frag) : V → Option Int → Option Int → Hp → VK → Prop := fun x lo hi H Q => match x with
  | .str z => z.length ≤ sizeLine ∧ Q (.str (cutS z lo hi)) H
  | .ref a => (∃ xs, SqL K H a xs ∧ nL (cutV xs lo hi) H Q) ∨ rSlA K (.ref a) lo hi H Q
  | _ => False
theorem uSl : SlR X (rSlU X.K) := by
  intro pins s σ H x v vl vu lo hi sl Q I rx hs pl pu h
  cases x <;> first | exact h.elim | skip
  · exact sl_str pins s σ H _ v vl vu lo hi sl Q I rx hs pl pu ⟨_, rfl, h.1, h.2⟩
  · rcases h with ⟨xs, h1, h2⟩ | h
    · exact sl_list pins s σ H _ v vl vu lo hi sl Q I rx hs pl pu ⟨_, xs, rfl, h1, h2⟩
    · exact sl_tupA pins s σ H _ v vl vu lo hi sl Q I rx hs pl pu h

/-! ### len, abs, max, min, int, list, tuple -/
def rLenU (K : PySem.W.Frag) : List V → Hp → VK → Prop := fun xs H Q => match xs with
  | [.str z] => z.length ≤ sizeLine ∧ Q (.int z.length) H
  | [.ref p] => (∃ ys, (SqL K H p ys ∨ SqT K H p ys) ∧ Q (.int ys.length) H) ∨ ∃ kvs, H p = some (.dK kvs) ∧ Q (.int kvs.length) H
  | _ => False
theorem cLen : CallR X (.builtin "len") (rLenU X.K) := by
  intro pins s σ H xs us Q I r h
  match xs, h with
  | [.str z], h => exact call_len_str pins s σ H _ us Q I r ⟨z, rfl, h.1, h.2⟩
  | [.ref p], .inl ⟨ys, h1, h2⟩ => exact call_len_seq pins s σ H _ us Q I r ⟨p, ys, rfl, h1, h2⟩
  | [.ref p], .inr ⟨kvs, h1, h2⟩ => exact call_lenD pins s σ H _ us Q I r ⟨p, kvs, rfl, h1, h2⟩
def rAbsU : List V → Hp → VK → Prop := fun xs H Q => match xs with
  | [.int i] => Q (.int (i.natAbs : Int)) H
  | _ => False
theorem cAbs : CallR X (.builtin "abs") rAbsU := by
  intro pins s σ H xs us Q I r h
  match xs, h with
  | [.int i], h =>
    refine call_abs pins s σ H _ us Q I r ⟨i, rfl, ?_⟩
    have e : (if i < 0 then -i else i) = (i.natAbs : Int) := by split <;> omega
    rw [e]
    exact h
def rMaxU : List V → Hp → VK → Prop := fun xs H Q => match xs with
  | [.int i, .int j] => Q (.int (max i j)) H
  | _ => False
def rMinU : List V → Hp → VK → Prop := fun xs H Q => match xs with
  | [.int i, .int j] => Q (.int (min i j)) H
  | _ => False
def bToI (k : Bool) : Int := if k then 1 else 0
def rIntU : List V → Hp → VK → Prop := fun xs H Q => match xs with
  | [.int i] => Q (.int i) H
  | [.bl k] => Q (.int (bToI k)) H
  | _ => False
def rListU (K : PySem.W.Frag) : List V → Hp → VK → Prop := fun xs H Q => match xs with
  | [.ref p] => (∃ ys, (SqL K H p ys ∨ SqT K H p ys) ∧ nL ys H Q) ∨ ∃ kvs : List (Key × V), Rd H p (.dK kvs) ∧ nL (kvs.map fun kv => kV kv.1) H Q
  | _ => False
theorem cList (hc : X.calm = true) : CallR X (.type "list") (rListU X.K) := by
  intro pins s σ H xs us Q I r h
  match xs, h with
  | [.ref p], .inl ⟨ys, h1, h2⟩ => exact call_list_of pins s σ H _ us Q I r ⟨p, ys, rfl, h1, h2⟩
  | [.ref p], .inr ⟨kvs, h1, h2⟩ => exact call_listD hc pins s σ H _ us Q I r ⟨p, kvs, rfl, h1, h2⟩
def rTupleU (K : PySem.W.Frag) : List V → Hp → VK → Prop := fun xs H Q => match xs with
  | [.ref p] => (∃ ys, SqL K H p ys ∧ nT ys H Q) ∨ ((∃ ys, SqT K H p ys) ∧ Q (.ref p) H)
  | _ => False
theorem cTuple : CallR X (.type "tuple") (rTupleU X.K) := by
  intro pins s σ H xs us Q I r h
  match xs, h with
  | [.ref p], .inl ⟨ys, h1, h2⟩ => exact call_tuple_of pins s σ H _ us Q I r ⟨p, ys, rfl, .inl ⟨h1, h2⟩⟩
  | [.ref p], .inr ⟨⟨ys, h1⟩, h2⟩ => exact call_tuple_of pins s σ H _ us Q I r ⟨p, ys, rfl, .inr ⟨h1, h2⟩⟩
def rDictU : List V → Hp → VK → Prop := fun xs H Q => match xs with
  | [.ref p] => ∃ kvs : List (Key × V), Rd H p (.dK kvs) ∧ ∀ d, H d = none → Q (.ref d) (upd H d (.dK kvs))
  | _ => False
theorem cDict : CallR X (.type "dict") rDictU := by
  intro pins s σ H xs us Q I r h
  match xs, h with
  | [.ref p], ⟨kvs, h1, h2⟩ => exact call_dictD pins s σ H _ us Q I r ⟨p, kvs, rfl, h1, h2⟩

/-! ### sorted -/
/-- a < b, of data -/
abbrev dLt (a b : PyData) : Bool := PySem.W.dataLt a b
/-- a list of what may be sorted -/
structure Sorts (K : PySem.W.Frag) (H : Hp) (bs : List (V × PyData)) : Prop where
  dat : ∀ b ∈ bs, Dp K H b.1 b.2
  alk : PySem.W.AllAlike (bs.map (·.2))
  srt : PySem.W.Sortable (bs.map (·.2))
  dep : ∀ b ∈ bs, b.2.depth ≤ 50
  len : bs.length ≤ 100000
def rSortU (K : PySem.W.Frag) : List V → Hp → VK → Prop := fun xs H Q => match xs with
  | [.ref p] => ∃ bs : List (V × PyData), SqL K H p (bs.map (·.1)) ∧ Sorts K H bs ∧
      ∀ cs : List (V × PyData), cs.Perm bs → cs.Pairwise (fun a b => dLt b.2 a.2 = false) → nL (cs.map (·.1)) H Q
  | _ => False
theorem each_vals : ∀ {bs : List (V × PyData)} {us : List Value}, Vals (bs.map (·.1)) us → PySem.W.EachIs (fun u b => RelV b.1 u) us bs
  | [], _, r => by
    cases r
    exact .nil
  | b :: bs, _, r => by
    cases r with
    | cons r1 r2 => exact .cons r1 (each_vals r2)
theorem vals_each : ∀ {bs : List (V × PyData)} {us : List Value}, PySem.W.EachIs (fun u b => RelV b.1 u) us bs → Vals (bs.map (·.1)) us
  | [], _, r => by
    cases r
    exact .nil
  | b :: bs, _, r => by
    cases r with
    | cons r1 r2 => exact .cons r1 (vals_each r2)
theorem each_reads {pins : List (Addr × Obj)} {σ : L2.St} {H : Hp} {s : Shared} (I : Inv X pins σ H s) : ∀ {bs : List (V × PyData)} {us : List Value}, (∀ b ∈ bs, Dp X.K H b.1 b.2) → Vals (bs.map (·.1)) us → PySem.W.EachIs (fun u b => ∃ as, Reads s.heap u b.2 as) us bs
  | [], _, _, r => by
    cases r
    exact .nil
  | b :: bs, _, h, r => by
    cases r with
    | cons r1 r2 => exact .cons (Dp.reads I _ _ _ (h b List.mem_cons_self) r1) (each_reads I (fun c hc => h c (List.mem_cons_of_mem _ hc)) r2)
theorem cSorted (hu : X.A.units + 64 < cLine) : CallR X (.builtin "sorted") (rSortU X.K) := by
  intro pins s σ H xs us Q I r h
  match xs, h with
  | [.ref p], ⟨bs, hs, S, q⟩ =>
    cases r with
    | cons r rr =>
      cases rr
      cases r
      obtain ⟨its, rv, pl, hz⟩ := I.list hs
      have e1 := each_vals rv
      have hb : ∀ b, b ∈ bs → X.A.units + 2 + b.2.depth < cLine := fun b hb => by
        have := S.dep b hb
        omega
      refine PySem.W.sorted_data (vs := its) (bs := bs) (enc := fun b : V × PyData => b.2) (R := fun u b => RelV b.1 u) pl.isList e1 (each_reads I S.dat rv) S.alk S.srt ?_ hb ?_
      · rw [List.length_map] at hz
        exact hz
      · intro out ol oe
        have perm : (bs.mergeSort (PySem.W.dataLe false fun b : V × PyData => b.2)).Perm bs := List.mergeSort_perm _ _
        have srt : (bs.mergeSort (PySem.W.dataLe false fun b : V × PyData => b.2)).Pairwise (fun a b => dLt b.2 a.2 = false) :=
          (PySem.W.sort_pairwise (PySem.W.sortLe_total _ _ _) bs).imp fun {a b} z => by
            have z' : (!dLt b.2 a.2) = true := z
            simpa using z'
        generalize bs.mergeSort (PySem.W.dataLe false fun b : V × PyData => b.2) = cs at perm srt oe
        have rv2 := vals_each oe
        have hfr : s.heap.objs.size ≤ s.heap.objs.size + 1 := Nat.le_succ _
        obtain ⟨e, he⟩ := sortedAll_at s.heap its out.toArray
        have new : ObjOk X.prog X.w (upd H (s.heap.objs.size + 1) (.lst (cs.map (·.1)))) (sortedAll s.heap its out.toArray) (s.heap.objs.size + 1) (.lst (cs.map (·.1))) :=
          ⟨by rw [List.length_map, perm.length_eq]; rw [List.length_map] at hz; exact hz, out, e, rv2, he⟩
        exact ⟨.ref (s.heap.objs.size + 1), _, I.laid (t' := s.toks) (fun b u z => sortedAll_old z) hfr new, rfl, q cs perm srt _ (I.hok.fresh hfr)⟩

/-! ### isinstance of built-in classes -/
inductive Ty where
  | non | bl | int | str | lst | tup | dct
  deriving DecidableEq
def Ty.nm : Ty → String
  | .non => "NoneType"
  | .bl => "bool"
  | .int => "int"
  | .str => "str"
  | .lst => "list"
  | .tup => "tuple"
  | .dct => "dict"
def isT (a b : Ty) : Bool := decide (a = b) || (decide (a = .bl) && decide (b = .int))
theorem isT_ok (a b : Ty) (hb : b ≠ .non) : kitB a.nm b.nm = some (isT a b) := by
  cases a <;> cases b <;> first | exact absurd rfl hb | decide +kernel
/-- a value's class -/
def TyIs (K : PySem.W.Frag) (H : Hp) (x : V) (a : Ty) : Prop := TyX K H x (.type a.nm)
def tyOf : String → Option Ty
  | "bool" => some .bl
  | "int" => some .int
  | "str" => some .str
  | "list" => some .lst
  | "tuple" => some .tup
  | "dict" => some .dct
  | _ => none
theorem tyOf_ok {n : String} {t : Ty} (h : tyOf n = some t) : n = t.nm ∧ t ≠ .non := by
  unfold tyOf at h
  split at h <;> first | (cases h; exact ⟨rfl, by decide⟩) | cases h
def rIsiU (K : PySem.W.Frag) : List V → Hp → VK → Prop := fun xs H Q => match xs with
  | [x, .ty n] => ∃ a t, TyIs K H x a ∧ tyOf n = some t ∧ Q (.bl (isT a t)) H
  | _ => False
theorem cIsi : CallR X (.builtin "isinstance") (rIsiU X.K) := by
  intro pins s σ H xs us Q I r h
  match xs, h with
  | [x, .ty n], ⟨a, t, h1, h2, h3⟩ =>
    obtain ⟨e, hn⟩ := tyOf_ok h2
    exact call_isi pins s σ H _ us Q I r ⟨x, _, _, _, _, rfl, .ty n, h1, kit_ty (by rw [e]; exact isT_ok a t hn), h3⟩
theorem ty_str {K : PySem.W.Frag} {H : Hp} {x : Str} : TyIs K H (.str x) .str := .base (.str x)
theorem ty_int {K : PySem.W.Frag} {H : Hp} {x : Int} : TyIs K H (.int x) .int := .base (.int x)
theorem ty_bl {K : PySem.W.Frag} {H : Hp} {x : Bool} : TyIs K H (.bl x) .bl := .base (.bl x)
theorem ty_non {K : PySem.W.Frag} {H : Hp} : TyIs K H .non .non := .base .non
theorem ty_lst {K : PySem.W.Frag} {H : Hp} {a : Addr} {xs : List V} (h : H a = some (.lst xs)) : TyIs K H (.ref a) .lst := .base (.lst h)
theorem ty_tup {K : PySem.W.Frag} {H : Hp} {a : Addr} {xs : List V} (h : H a = some (.tup xs)) : TyIs K H (.ref a) .tup := .base (.tup h)
theorem ty_dK {K : PySem.W.Frag} {H : Hp} {a : Addr} {kvs : List (Key × V)} (h : H a = some (.dK kvs)) : TyIs K H (.ref a) .dct := .base (.dK h)
theorem ty_seqT {K : PySem.W.Frag} {H : Hp} {a : Addr} {xs : List V} (h : SqT K H a xs) : TyIs K H (.ref a) .tup := by
  rcases h with (h | ⟨o, h⟩) | ⟨o, its, n, h1, h2, _⟩
  · exact ty_tup h
  · exact .fTuple h
  · exact .kTuple h1 h2
end
end U
namespace U
open PySem PySem.Spec PyProof.Rows L2
/-! the rules with the fragment told: they serve within a comprehension's block -/
section
variable {X : Cx} (K : PySem.W.Frag) (hK : X.K = K)
include hK
theorem kAdd : OpR X (binaryOp .Add) (rAddU K) := hK ▸ uAdd
theorem kEq (hu : X.A.units + 64 < cLine) : OpR X (compareOp .Eq) (rEqU K) := hK ▸ uEq' hu
theorem kNe (hu : X.A.units + 64 < cLine) : OpR X (compareOp .NotEq) (rNeU K) := hK ▸ uNe' hu
theorem kIn : OpR X (compareOp .In) (rInU K) := hK ▸ uIn
theorem kNotIn : OpR X (compareOp .NotIn) (rNotInU K) := hK ▸ uNotIn
theorem kIx : IxR X (rIxU K) := hK ▸ uIx
theorem kSl : SlR X (rSlU K) := hK ▸ uSl
theorem kLen : CallR X (.builtin "len") (rLenU K) := hK ▸ cLen
theorem kList (hc : X.calm = true) : CallR X (.type "list") (rListU K) := hK ▸ cList hc
theorem kTuple : CallR X (.type "tuple") (rTupleU K) := hK ▸ cTuple
theorem kSorted (hu : X.A.units + 64 < cLine) : CallR X (.builtin "sorted") (rSortU K) := hK ▸ cSorted hu
theorem kIsi : CallR X (.builtin "isinstance") (rIsiU K) := hK ▸ cIsi
theorem ki_list {tg l : Expr} {tl : TE} (hl : PE X l tl) : PI X tg l (iList K tl) := hK ▸ pi_list hl
theorem ki_tup {tg l : Expr} {tl : TE} (hl : PE X l tl) : PI X tg l (iTup K tl) := hK ▸ pi_tup hl
theorem kg_tup {pos : Pos} {es : List Expr} {k : Nat} {t : TGs} {n : Nat} (hc : X.calm = true) (h : PGs X es t)
    (hn : (assignEach es X.env).length = n := by rfl) (hst : (assignEach es X.env).findIdx? (·.1) = none := by rfl) : PG X (.Tuple es k pos) (gTup K n t) := hK ▸ pg_tup hc h hn hst
end
end U

/-! the readings, step by step: one lemma a form, one word for all that need no thought -/
namespace U
open PySem PySem.Spec PyProof.Rows L2
section
variable {σ : L2.St} {H : Hp} {Q : VK} {D : Ends} {v x y : V} {i j : Int} {a b : Str} {ta tb tc te : TE} {t u : TS} {K : PySem.W.Frag}
theorem rd_seq (h : t { D with nx := u D } σ H) : tSeq t u D σ H := h
theorem rd_var {n : Nat} (e : σ[n]? = some (some v)) (h : Q v H) : tVar n σ H Q := ⟨v, e, h⟩
theorem rd_c (h : Q v H) : tC v σ H Q := h
theorem rd_asg {g : TG} (h : te σ H fun x H1 => g x σ H1 D.nx) : tAsg te g D σ H := h
theorem rd_name {n : Nat} {Q : L2.St → Hp → Prop} (h : Q (σ.set n (some v)) H) : gName n v σ H Q := h
theorem rd_ret (h : te σ H D.rt) : tRet te D σ H := h
theorem rd_retN (h : D.rt .non H) : tRetN D σ H := h
theorem rd_drop (h : te σ H fun _ H1 => D.nx σ H1) : tDrop te D σ H := h
theorem rd_next (h : D.nx σ H) : tNext D σ H := h
theorem rd_if {c : TT} (h : c σ H fun b H1 => if b = true then t D σ H1 else u D σ H1) : tIfS c t u D σ H := h
theorem rd_break (h : D.bk σ H) : tBreak D σ H := h
theorem rd_cont (h : D.ct σ H) : tCont D σ H := h
theorem rd_op {r : R2} (h : ta σ H fun x H1 => tb σ H1 fun y H2 => r x y H2 Q) : tOp r ta tb σ H Q := h
theorem rd_test {Q : Bool → Hp → Prop} (h : te σ H fun x H1 => ∃ k, x = .bl k ∧ Q k H1) : tTest te σ H Q := h
theorem rd_B {Q : Bool → Hp → Prop} (h : te σ H fun x H1 => ∃ k, x = .bl k ∧ Q k H1) : tB te σ H Q := h
theorem rd_bl {Q : Bool → Prop} {k : Bool} (h : Q k) : ∃ c, V.bl k = .bl c ∧ Q c := ⟨k, rfl, h⟩
theorem rd_chain {r r' : R2} (h : ta σ H fun x H1 => tb σ H1 fun y H2 => r x y H2 fun z H3 => ∃ k, z = .bl k ∧ (if k = true then tc σ H3 fun w' H4 => r' y w' H4 Q else Q (.bl false) H3)) : tChain r r' ta tb tc σ H Q := h
theorem rd_nil {Q : List V → Hp → Prop} (h : Q [] H) : tNil σ H Q := h
theorem rd_cons {tr : TA} {Q : List V → Hp → Prop} (h : ta σ H fun x H1 => tr σ H1 fun xs H2 => Q (x :: xs) H2) : tCons ta tr σ H Q := h
theorem rd_cb {r : List V → Hp → VK → Prop} {tr : TA} (h : tr σ H fun vs H1 => r vs H1 Q) : tCB r tr σ H Q := h
theorem rd_c1 {sp : Sp} {E : XK} {tr : TA} (h : tr σ H fun vs H1 => sp vs H1 Q E) : tC1 sp E tr σ H Q := h
theorem rd_c2 {sp : Sp} {W : WX} {tr : TA} (h : tr σ H fun vs H1 => sp vs H1 Q fun cls d H' => W cls d σ H') : tC2 sp W tr σ H Q := h
theorem rd_lst {tr : TA} (h : tr σ H fun xs H1 => xs.length ≤ sizeLine ∧ nL xs H1 Q) : tLst tr σ H Q := h
theorem rd_tup {tr : TA} (h : tr σ H fun xs H1 => xs.length ≤ sizeLine ∧ nT xs H1 Q) : tTup tr σ H Q := h
theorem rd_sz {xs : List V} {P : Prop} (h : Nat.ble xs.length 1000 = true) (q : P) : xs.length ≤ sizeLine ∧ P :=
  ⟨Nat.le_trans (Nat.le_of_ble_eq_true h) (by decide), q⟩
theorem rd_addI (h : Q (.int (i + j)) H) : rAddU K (.int i) (.int j) H Q := h
theorem rd_subI (h : Q (.int (i - j)) H) : rSubU (.int i) (.int j) H Q := h
theorem rd_mulI (c : CMul i j ∨ CMulW i j) (h : Q (.int (i * j)) H) : rMulU (.int i) (.int j) H Q := ⟨c, h⟩
theorem rd_modI (c : 0 < j) (h : Q (.int (i % j)) H) : rModU (.int i) (.int j) H Q := ⟨c, h⟩
theorem rd_divI (c : 0 < j ∧ j < 1073741824) (h : Q (.int (i / j)) H) : rDivU (.int i) (.int j) H Q := ⟨c, h⟩
theorem rd_addS (c : a.length + b.length ≤ sizeLine) (h : Q (.str (a ++ b)) H) : rAddU K (.str a) (.str b) H Q := ⟨c, h⟩
theorem rd_ltI (h : Q (.bl (decide (i < j))) H) : rLtU (.int i) (.int j) H Q := h
theorem rd_ltS (h : Q (.bl (decide (a.cps.toList < b.cps.toList))) H) : rLtU (.str a) (.str b) H Q := h
theorem rd_leI (h : Q (.bl (decide (i ≤ j))) H) : rLeU (.int i) (.int j) H Q := h
theorem rd_gtI (h : Q (.bl (decide (j < i))) H) : rGtU (.int i) (.int j) H Q := h
theorem rd_geI (h : Q (.bl (decide (j ≤ i))) H) : rGeU (.int i) (.int j) H Q := h
theorem rd_eqI (h : Q (.bl (decide (i = j))) H) : rEqU K (.int i) (.int j) H Q := h
theorem rd_eqS (h : Q (.bl (decide (a = b))) H) : rEqU K (.str a) (.str b) H Q := h
theorem rd_neI (h : Q (.bl (!decide (i = j))) H) : rNeU K (.int i) (.int j) H Q := h
theorem rd_neS (h : Q (.bl (!decide (a = b))) H) : rNeU K (.str a) (.str b) H Q := h
theorem rd_is (h : Q (.bl (decide (x = .non))) H) : rIsU x .non H Q := h
theorem rd_isNot (h : Q (.bl (!decide (x = .non))) H) : rIsNotU x .non H Q := h
theorem rd_absI (h : Q (.int (i.natAbs : Int)) H) : rAbsU [.int i] H Q := h
theorem rd_maxI (h : Q (.int (max i j)) H) : rMaxU [.int i, .int j] H Q := h
theorem rd_minI (h : Q (.int (min i j)) H) : rMinU [.int i, .int j] H Q := h
theorem rd_intI (h : Q (.int i) H) : rIntU [.int i] H Q := h
theorem rd_intB {k : Bool} (h : Q (.int (bToI k)) H) : rIntU [.bl k] H Q := h
theorem rd_neg {g : Int → Int} (h : Q (.int (g i)) H) : rU (fun i => .int (g i)) (.int i) H Q := ⟨i, rfl, h⟩
theorem rd_sub {to ti : TE} {t : TSet} {Q : L2.St → Hp → Prop} (h : to σ H fun o H1 => ti σ H1 fun i H2 => t o i v H2 fun H3 => Q σ H3) : gSub to ti t v σ H Q := h
theorem rd_and {t u : TT} {Q : Bool → Hp → Prop} (h : t σ H fun c H1 => if c = true then u σ H1 Q else Q false H1) : tAnd t u σ H Q := h
theorem rd_or {t u : TT} {Q : Bool → Hp → Prop} (h : t σ H fun c H1 => if c = true then Q true H1 else u σ H1 Q) : tOr t u σ H Q := h
theorem rd_not {t : TT} {Q : Bool → Hp → Prop} (h : t σ H fun c H1 => Q (!c) H1) : tNot t σ H Q := h
theorem rd_andV (h : ta σ H fun x H1 => ∃ c, x = .bl c ∧ if c = true then tb σ H1 Q else Q (.bl false) H1) : tAndV ta tb σ H Q := h
theorem rd_orV (h : ta σ H fun x H1 => ∃ c, x = .bl c ∧ if c = true then Q (.bl true) H1 else tb σ H1 Q) : tOrV ta tb σ H Q := h
theorem rd_notV (h : ta σ H fun x H1 => ∃ c, x = .bl c ∧ Q (.bl (!c)) H1) : tNotV ta σ H Q := h
theorem rd_ifE {t : TT} (h : t σ H fun c H1 => if c = true then ta σ H1 Q else tb σ H1 Q) : tIf t ta tb σ H Q := h
theorem rd_T {A B : Prop} (h : A) : if true = true then A else B := by
  rw [if_pos rfl]
  exact h
theorem rd_F {A B : Prop} (h : B) : if false = true then A else B := by
  rw [if_neg Bool.false_ne_true]
  exact h
/-- a test that is known -/
theorem rd_yes {c : Prop} {_ : Decidable c} {A B : Prop} (hc : c) (h : A) : if decide c = true then A else B := by
  rw [if_pos (decide_eq_true hc)]
  exact h
theorem rd_no {c : Prop} {_ : Decidable c} {A B : Prop} (hc : ¬ c) (h : B) : if decide c = true then A else B := by
  rw [if_neg (by rw [decide_eq_false hc]; exact Bool.false_ne_true)]
  exact h
theorem rd_nyes {c : Prop} {_ : Decidable c} {A B : Prop} (hc : ¬ c) (h : A) : if (!decide c) = true then A else B := by
  rw [if_pos (by rw [decide_eq_false hc]; rfl)]
  exact h
theorem rd_nno {c : Prop} {_ : Decidable c} {A B : Prop} (hc : c) (h : B) : if (!decide c) = true then A else B := by
  rw [if_neg (by rw [decide_eq_true hc]; exact Bool.false_ne_true)]
  exact h
theorem rd_split {c : Prop} {_ : Decidable c} {A B : Prop} (h1 : c → A) (h2 : ¬ c → B) : if decide c = true then A else B := by
  by_cases h : c
  · exact rd_yes h (h1 h)
  · exact rd_no h (h2 h)
theorem rd_nsplit {c : Prop} {_ : Decidable c} {A B : Prop} (h1 : ¬ c → A) (h2 : c → B) : if (!decide c) = true then A else B := by
  by_cases h : c
  · exact rd_nno h (h2 h)
  · exact rd_nyes h (h1 h)
theorem rd_b {c : Bool} {A B : Prop} (h1 : c = true → A) (h2 : c = false → B) : if c = true then A else B := by
  cases c with
  | true => exact rd_T (h1 rfl)
  | false => exact rd_F (h2 rfl)
/-- an item of a list, a tuple -/
theorem rd_ixL {p : Addr} {xs : List V} (hs : SqL K H p xs) (hv : atI xs i = some v) (h : Q v H) : rIxU K (.ref p) (.int i) H Q := ⟨xs, .inl hs, v, hv, h⟩
theorem rd_ixT {p : Addr} {xs : List V} (hs : SqT K H p xs) (hv : atI xs i = some v) (h : Q v H) : rIxU K (.ref p) (.int i) H Q := ⟨xs, .inr hs, v, hv, h⟩
theorem rd_ixS {c : Nat} (hz : a.length ≤ 100000) (hv : atI a.cps.toList i = some c) (h : Q (.str ⟨#[c]⟩) H) : rIxU K (.str a) (.int i) H Q := ⟨Nat.le_trans hz (by decide), c, hv, h⟩
theorem rd_lenL {p : Addr} {xs : List V} (hs : SqL K H p xs) (h : Q (.int xs.length) H) : rLenU K [.ref p] H Q := .inl ⟨xs, .inl hs, h⟩
theorem rd_lenT {p : Addr} {xs : List V} (hs : SqT K H p xs) (h : Q (.int xs.length) H) : rLenU K [.ref p] H Q := .inl ⟨xs, .inr hs, h⟩
theorem rd_setL {p : Addr} {xs : List V} {n : Nat} {Q : Hp → Prop} (hs : H p = some (.lst xs)) (hi : ixN xs.length i = some n) (h : Q (upd H p (.lst (xs.set n v)))) : rSetL (.ref p) (.int i) v H Q := ⟨p, xs, i, n, rfl, rfl, hs, hi, h⟩
theorem rd_listL {p : Addr} {xs : List V} (hs : SqL K H p xs) (h : nL xs H Q) : rListU K [.ref p] H Q := .inl ⟨xs, .inl hs, h⟩
theorem rd_tupleL {p : Addr} {xs : List V} (hs : SqL K H p xs) (h : nT xs H Q) : rTupleU K [.ref p] H Q := .inl ⟨xs, hs, h⟩
theorem rd_slL {lo hi : Option Int} {p : Addr} {xs : List V} (hs : SqL K H p xs) (h : nL (cutV xs lo hi) H Q) : rSlU K (.ref p) lo hi H Q := .inl ⟨xs, hs, h⟩
theorem rd_sl {tl th : TO} {r : V → Option Int → Option Int → Hp → VK → Prop} (h : te σ H fun x H1 => tl σ H1 fun lo H2 => th σ H2 fun hi H3 => r x lo hi H3 Q) : tSl r te tl th σ H Q := h
theorem rd_noPart {Q : Option Int → Hp → Prop} (h : Q none H) : tNoPart σ H Q := h
theorem rd_part {Q : Option Int → Hp → Prop} (h : te σ H fun x H1 => ∃ i, x = .int i ∧ Q (some i) H1) : tPart te σ H Q := h
theorem rd_exI {Q : Int → Prop} (h : Q i) : ∃ k, V.int i = .int k ∧ Q k := ⟨i, rfl, h⟩
theorem rd_bm {T : String} {r : V → List V → Hp → VK → Prop} {tr : TA} (h : te σ H fun x H1 => tyV K T x H1 ∧ tr σ H1 fun xs H2 => r x xs H2 Q) : tBM K T r te tr σ H Q := h
theorem rd_bm0 {T : String} {r : V → List V → Hp → VK → Prop} (h : te σ H fun x H1 => tyV K T x H1 ∧ r x [] H1 Q) : tBM0 K T r te σ H Q := h
theorem rd_tyL {p : Addr} {xs : List V} {P : Prop} (hs : H p = some (.lst xs)) (h : P) : tyV K "list" (.ref p) H ∧ P := ⟨.inl ⟨rfl, xs, .inl (.inl hs)⟩, h⟩
theorem rd_append {p : Addr} {xs : List V} (hs : H p = some (.lst xs)) (hz : xs.length < 100000) (h : Q .non (upd H p (.lst (xs ++ [v])))) : rAppend (.ref p) [v] H Q :=
  ⟨p, xs, v, rfl, rfl, hs, Nat.lt_of_lt_of_le hz (by decide), h⟩
theorem mul_bI {i : Int} {b : Bool} : CMul i (bToI b) ∨ CMulW i (bToI b) := .inl (.inr (by cases b <;> decide))
theorem rd_powI (c : CPow i j) (h : Q (.int (i ^ j.toNat)) H) : rPowU (.int i) (.int j) H Q := ⟨c, h⟩
/-! heaps -/
theorem new_ne {p q : Addr} {o : HO} (h : upd H p o q = none) : q ≠ p := fun e => by
  rw [e, upd_same] at h
  cases h
theorem new_old {p q : Addr} {o : HO} (h : upd H p o q = none) : H q = none := by
  rw [upd_ne (new_ne h)] at h
  exact h
theorem at_upd {p q : Addr} {o u : HO} (n : q ≠ p) (h : H q = some u) : upd H p o q = some u := (upd_ne n).trans h
theorem no_upd {p q : Addr} {o : HO} (n : q ≠ p) (h : H q = none) : upd H p o q = none := (upd_ne n).trans h
/-- all that is tracked stays, but the object at p -/
def But (p : Addr) (H H' : Hp) : Prop := ∀ b o, b ≠ p → H b = some o → H' b = some o
theorem But.refl {p : Addr} : But p H H := fun _ _ _ h => h
theorem But.trans {p : Addr} {H1 H2 : Hp} (a : But p H H1) (b : But p H1 H2) : But p H H2 := fun c o n h => b c o n (a c o n h)
theorem But.of_same {p : Addr} {H1 : Hp} (a : Same H H1) : But p H H1 := fun c o _ h => a c o h
theorem But.upd {p : Addr} {o : HO} : But p H (upd H p o) := fun _ _ n h => at_upd n h
theorem But.new {p q : Addr} {o : HO} (h : H q = none) : But p H (L2.upd H q o) := fun _ _ _ e => at_upd (ne_of_none e h) e
theorem Same.new {q : Addr} {o : HO} (h : H q = none) : Same H (L2.upd H q o) := fun _ _ e => at_upd (ne_of_none e h) e
theorem But.free {p q : Addr} {H1 : Hp} (a : But p H H1) (n : q ≠ p) (h : H1 q = none) : H q = none := by
  cases e : H q with
  | none => rfl
  | some o =>
    rw [a q o n e] at h
    cases h
theorem new_of_same {q : Addr} {H1 : Hp} (a : Same H H1) (h : H1 q = none) : H q = none := a.free h
theorem Same.seqT {H' : Hp} {a : Addr} {xs : List V} (e : Same H H') (h : SqT K H a xs) : SqT K H' a xs := by
  rcases h with (h | ⟨o, h⟩) | h
  · exact .inl (.inl (e _ _ h))
  · exact .inl (.inr ⟨o, e _ _ h⟩)
  · exact .inr h
theorem But.seqT {p : Addr} {H' : Hp} {a : Addr} {xs : List V} (e : But p H H') (n : ∃ ys, H p = some (.lst ys)) (h : SqT K H a xs) : SqT K H' a xs := by
  obtain ⟨ys, hy⟩ := n
  rcases h with (h | ⟨o, h⟩) | h
  · exact .inl (.inl (e _ _ (ne_of h hy (by intro z; cases z)) h))
  · exact .inl (.inr ⟨o, e _ _ (ne_of h hy (by intro z; cases z)) h⟩)
  · exact .inr h
theorem rd_un {r : V → Hp → VK → Prop} (h : ta σ H fun x H1 => r x H1 Q) : tUn r ta σ H Q := h
end
local macro_rules | `(tactic| wtm_at "rd1") => `(tactic| first
  | with_reducible refine rd_seq ?_
  | ((with_reducible refine rd_var (v := ?vv) ?hv ?_); (case hv => exact rfl))
  | with_reducible refine rd_c ?_
  | with_reducible refine rd_cons ?_
  | with_reducible refine rd_nil ?_
  | with_reducible refine rd_op ?_
  | with_reducible refine rd_asg ?_
  | with_reducible refine rd_name ?_
  | with_reducible refine rd_c1 ?_
  | with_reducible refine rd_cb ?_
  | with_reducible refine rd_test ?_
  | with_reducible refine rd_B ?_
  | with_reducible refine rd_bl ?_
  | with_reducible refine rd_if ?_
  | with_reducible refine rd_ret ?_
  | with_reducible refine rd_drop ?_
  | with_reducible refine rd_next ?_
  | with_reducible refine rd_addI ?_
  | with_reducible refine rd_ltI ?_
  | with_reducible refine rd_eqI ?_
  | with_reducible refine rd_neI ?_
  | with_reducible refine rd_eqS ?_
  | with_reducible refine rd_neS ?_
  | with_reducible refine rd_gtI ?_
  | with_reducible refine rd_geI ?_
  | with_reducible refine rd_leI ?_
  | with_reducible refine rd_ltS ?_
  | with_reducible refine rd_subI ?_
  | ((with_reducible refine rd_modI ?hc ?_); (case hc => first | decide | omega))
  | ((with_reducible refine rd_mulI ?hc ?_); (case hc => first | exact mul_bI | exact .inl (.inr (by decide)) | exact .inl (.inl (by decide)) | exact .inl (.inr (by omega)) | exact .inl (.inl (by omega))))
  | ((with_reducible refine rd_divI ?hc ?_); (case hc => first | decide | omega))
  | ((with_reducible refine rd_powI ?hc ?_); (case hc => exact ⟨by decide, by decide, by decide⟩))
  | with_reducible refine rd_lst ?_
  | with_reducible refine rd_tup ?_
  | ((with_reducible refine rd_sz ?hv ?_); (case hv => exact rfl))
  | with_reducible refine rd_and ?_
  | with_reducible refine rd_or ?_
  | with_reducible refine rd_not ?_
  | with_reducible refine rd_andV ?_
  | with_reducible refine rd_orV ?_
  | with_reducible refine rd_notV ?_
  | with_reducible refine rd_ifE ?_
  | with_reducible refine rd_T ?_
  | with_reducible refine rd_F ?_
  | with_reducible refine rd_chain ?_
  | with_reducible refine rd_is ?_
  | with_reducible refine rd_isNot ?_
  | with_reducible refine rd_absI ?_
  | with_reducible refine rd_maxI ?_
  | with_reducible refine rd_minI ?_
  | with_reducible refine rd_intI ?_
  | with_reducible refine rd_intB ?_
  | with_reducible refine rd_sub ?_
  | with_reducible refine rd_sl ?_
  | with_reducible refine rd_noPart ?_
  | with_reducible refine rd_part ?_
  | with_reducible refine rd_exI ?_
  | with_reducible refine rd_bm ?_
  | with_reducible refine rd_bm0 ?_
  | with_reducible refine rd_un ?_
  | with_reducible refine rd_neg ?_
  | with_reducible refine rd_c2 ?_
  | with_reducible refine rd_retN ?_
  | with_reducible refine rd_break ?_
  | with_reducible refine rd_cont ?_)
local macro_rules | `(tactic| wtm_at "rd") => `(tactic| repeat wtm_at "rd1")
end U

/-! texts in order, names -/
namespace U
open PySem PySem.Spec PyProof.Rows L2
/-- the order of texts -/
def sLt (a b : Str) : Prop := a.cps.toList < b.cps.toList
instance (a b : Str) : Decidable (sLt a b) := inferInstanceAs (Decidable (a.cps.toList < b.cps.toList))
theorem str_ext {a b : Str} (h : a.cps.toList = b.cps.toList) : a = b := by
  obtain ⟨x⟩ := a
  obtain ⟨y⟩ := b
  have e : x = y := Array.toList_inj.mp h
  rw [e]
theorem sLt_irrefl (a : Str) : ¬ sLt a a := List.lt_irrefl _
theorem sLt_trans {a b c : Str} (h : sLt a b) (h' : sLt b c) : sLt a c := List.lt_trans h h'
theorem sLt_asymm {a b : Str} (h : sLt a b) : ¬ sLt b a := fun h' => sLt_irrefl a (sLt_trans h h')
theorem sLt_total {a b : Str} (h : ¬ sLt b a) (n : a ≠ b) : sLt a b := by
  have h1 : a.cps.toList ≤ b.cps.toList := List.not_lt.mp h
  rcases List.le_iff_lt_or_eq.mp h1 with z | z
  · exact z
  · exact absurd (str_ext z) n
theorem sLt_tri (a b : Str) : sLt a b ∨ a = b ∨ sLt b a := by
  by_cases h : sLt b a
  · exact .inr (.inr h)
  · by_cases e : a = b
    · exact .inr (.inl e)
    · exact .inl (sLt_total h e)
/-- strictly upwards -/
abbrev Asc (xs : List Str) : Prop := xs.Pairwise sLt
theorem asc_nodup {xs : List Str} (h : Asc xs) : xs.Nodup := by
  refine List.Pairwise.imp ?_ h
  intro a b z e
  subst e
  exact sLt_irrefl _ z
/-- two lists upwards with the same members are one -/
theorem asc_unique : ∀ {xs ys : List Str}, Asc xs → Asc ys → (∀ z, z ∈ xs ↔ z ∈ ys) → xs = ys
  | [], [], _, _, _ => rfl
  | [], y :: ys, _, _, h => absurd ((h y).mpr List.mem_cons_self) List.not_mem_nil
  | x :: xs, [], _, _, h => absurd ((h x).mp List.mem_cons_self) List.not_mem_nil
  | x :: xs, y :: ys, hx, hy, h => by
    rw [Asc, List.pairwise_cons] at hx hy
    have e : x = y := by
      rcases List.mem_cons.mp ((h x).mp List.mem_cons_self) with z | z
      · exact z
      · rcases List.mem_cons.mp ((h y).mpr List.mem_cons_self) with z2 | z2
        · exact z2.symm
        · exact absurd (hx.1 _ z2) (sLt_asymm (hy.1 _ z))
    subst e
    have t : xs = ys := asc_unique hx.2 hy.2 fun z => by
      constructor
      · intro hz
        rcases List.mem_cons.mp ((h z).mp (List.mem_cons_of_mem _ hz)) with e | e
        · subst e
          exact absurd (hx.1 _ hz) (sLt_irrefl _)
        · exact e
      · intro hz
        rcases List.mem_cons.mp ((h z).mpr (List.mem_cons_of_mem _ hz)) with e | e
        · subst e
          exact absurd (hy.1 _ hz) (sLt_irrefl _)
        · exact e
    rw [t]
theorem asc_of_sorted {xs : List Str} (h : xs.Pairwise fun a b => ¬ sLt b a) (n : xs.Nodup) : Asc xs := by
  have z : xs.Pairwise fun a b => ¬ sLt b a ∧ a ≠ b := List.Pairwise.and h n
  exact z.imp fun {a b} q => sLt_total q.1 q.2
/-- an edge's order -/
def eLt (a b : Str × Str) : Prop := sLt a.1 b.1 ∨ (a.1 = b.1 ∧ sLt a.2 b.2)
instance (a b : Str × Str) : Decidable (eLt a b) := inferInstanceAs (Decidable (_ ∨ _))
theorem eLt_irrefl (a : Str × Str) : ¬ eLt a a := fun h => h.elim (sLt_irrefl _) fun z => sLt_irrefl _ z.2
theorem eLt_total {a b : Str × Str} (h : ¬ eLt b a) (n : a ≠ b) : eLt a b := by
  rcases sLt_tri a.1 b.1 with z | z | z
  · exact .inl z
  · rcases sLt_tri a.2 b.2 with y | y | y
    · exact .inr ⟨z, y⟩
    · exact absurd (Prod.ext z y) n
    · exact absurd (.inr ⟨z.symm, y⟩) h
  · exact absurd (.inl z) h
abbrev AscE (xs : List (Str × Str)) : Prop := xs.Pairwise eLt
theorem ascE_nodup {xs : List (Str × Str)} (h : AscE xs) : xs.Nodup := by
  refine List.Pairwise.imp ?_ h
  intro a b z e
  subst e
  exact eLt_irrefl _ z
theorem ascE_of_sorted {xs : List (Str × Str)} (h : xs.Pairwise fun a b => ¬ eLt b a) (n : xs.Nodup) : AscE xs := by
  have z : xs.Pairwise fun a b => ¬ eLt b a ∧ a ≠ b := List.Pairwise.and h n
  exact z.imp fun {a b} q => eLt_total q.1 q.2

section
variable {K : PySem.W.Frag} {H : Hp} {Q : VK} {p : Addr}
theorem perm_of_map {α β : Type} {f : α → β} : ∀ {l : List β} {xs : List α}, l.Perm (xs.map f) → ∃ ys : List α, ys.Perm xs ∧ l = ys.map f := by
  intro l xs h
  generalize hm : xs.map f = m at h
  induction h generalizing xs with
  | nil =>
    cases xs with
    | nil => exact ⟨[], .nil, rfl⟩
    | cons _ _ => cases hm
  | cons x hp ih =>
    cases xs with
    | nil => cases hm
    | cons a as =>
      injection hm with h1 h2
      obtain ⟨ys, py, e⟩ := ih h2
      exact ⟨a :: ys, py.cons a, by rw [e, List.map_cons, h1]⟩
  | swap x y l =>
    cases xs with
    | nil => cases hm
    | cons a as =>
      cases as with
      | nil => cases hm
      | cons b bs =>
        injection hm with h1 h2
        injection h2 with h2 h3
        exact ⟨b :: a :: bs, .swap a b bs, by rw [List.map_cons, List.map_cons, h1, h2, h3]⟩
  | trans _ _ ih1 ih2 =>
    obtain ⟨ys, py, e⟩ := ih2 hm
    obtain ⟨zs, pz, e'⟩ := ih1 e.symm
    exact ⟨zs, pz.trans py, e'⟩
/-- sorted(a list of texts) -/
theorem rd_sortS {xs : List Str} (hs : SqL K H p (xs.map V.str)) (hl : xs.length ≤ 100000) (k : ∀ ys : List Str, ys.Perm xs → ys.Pairwise (fun a b => ¬ sLt b a) → nL (ys.map V.str) H Q) : rSortU K [.ref p] H Q := by
  refine ⟨xs.map fun x => (V.str x, PyData.str x), ?_, ⟨?_, ?_, ?_, ?_, ?_⟩, ?_⟩
  · rw [List.map_map]
    exact hs
  · intro b hb
    obtain ⟨x, _, rfl⟩ := List.mem_map.mp hb
    exact .str x
  · rw [List.map_map]
    exact PySem.W.AllAlike.of (enc := PyData.str) fun a b => by simp [PySem.W.alike]
  · rw [List.map_map]
    exact PySem.W.Sortable.others (enc := PyData.str) fun b => ⟨by simp, by simp⟩
  · intro b hb
    obtain ⟨x, _, rfl⟩ := List.mem_map.mp hb
    simp [PyData.depth]
  · rw [List.length_map]
    omega
  · intro cs pc sc
    obtain ⟨ys, py, rfl⟩ := perm_of_map pc
    rw [List.map_map]
    refine k ys py ?_
    rw [List.pairwise_map] at sc
    refine sc.imp fun {a b} z h => ?_
    have z' : PySem.W.dataLt (PyData.str b) (PyData.str a) = false := z
    rw [PySem.W.dataLt_str] at z'
    exact of_decide_eq_false z' h
/-- sorted(a list of pairs of texts): e is the pair's place, then the two -/
theorem rd_sortE {xs : List (Addr × Str × Str)} (hs : SqL K H p (xs.map fun e => V.ref e.1)) (ht : ∀ e ∈ xs, SqT K H e.1 [.str e.2.1, .str e.2.2]) (hl : xs.length ≤ 100000)
    (k : ∀ ys : List (Addr × Str × Str), ys.Perm xs → ys.Pairwise (fun a b => ¬ eLt b.2 a.2) → nL (ys.map fun e => V.ref e.1) H Q) : rSortU K [.ref p] H Q := by
  refine ⟨xs.map fun e => (V.ref e.1, PyData.tuple [.str e.2.1, .str e.2.2]), ?_, ⟨?_, ?_, ?_, ?_, ?_⟩, ?_⟩
  · rw [List.map_map]
    exact hs
  · intro b hb
    obtain ⟨x, hx, rfl⟩ := List.mem_map.mp hb
    exact .tup (ht x hx) (.cons (.str _) (.cons (.str _) .nil))
  · rw [List.map_map]
    exact PySem.W.AllAlike.of (enc := fun e : Addr × Str × Str => PyData.tuple [.str e.2.1, .str e.2.2]) fun a b => by simp [PySem.W.alike, PySem.W.alikeAll]
  · rw [List.map_map]
    exact PySem.W.Sortable.tuples (enc := fun e : Addr × Str × Str => PyData.tuple [.str e.2.1, .str e.2.2]) fun b => ⟨_, _, rfl⟩
  · intro b hb
    obtain ⟨x, _, rfl⟩ := List.mem_map.mp hb
    simp [PyData.depth, PyData.depthAll]
  · rw [List.length_map]
    omega
  · intro cs pc sc
    obtain ⟨ys, py, rfl⟩ := perm_of_map pc
    rw [List.map_map]
    refine k ys py ?_
    rw [List.pairwise_map] at sc
    refine sc.imp fun {a b} z h => ?_
    have z' : PySem.W.dataLt (PyData.tuple [.str b.2.1, .str b.2.2]) (PyData.tuple [.str a.2.1, .str a.2.2]) = false := z
    rw [PySem.W.dataLt_pair (by simp [PySem.W.alike]) (by simp [PySem.W.alike]), PySem.W.dataLt_str, PySem.W.dataLt_str] at z'
    simp only [PyData.eqv, beq_iff_eq] at z'
    rcases h with h | ⟨e, h⟩
    · have n : ¬ b.2.1 = a.2.1 := fun e => sLt_irrefl _ (by rw [e] at h; exact h)
      rw [if_neg n] at z'
      exact of_decide_eq_false z' h
    · rw [if_pos e] at z'
      have n : ¬ b.2.2 = a.2.2 := fun e => sLt_irrefl _ (by rw [e] at h; exact h)
      rw [if_neg n] at z'
      exact of_decide_eq_false z' h
end
end U

/-! names as the laws draw them -/
namespace U
open PySem PySem.Spec PyProof.Rows L2
/-- 1 to 8 small letters -/
structure IsName (z : Str) : Prop where
  lo : 1 ≤ z.length
  hi : z.length ≤ 8
  ch : ∀ c ∈ z.cps.toList, 97 ≤ c ∧ c ≤ 122
theorem letters_at {i : Int} (h0 : 0 ≤ i) (h1 : i < 26) : atI (Str.ofString "abcdefghijklmnopqrstuvwxyz").cps.toList i = some (97 + i.toNat) := by
  obtain ⟨n, rfl⟩ : ∃ n : Nat, i = (n : Int) := ⟨i.toNat, by omega⟩
  have all : ∀ n : Fin 26, (Str.ofString "abcdefghijklmnopqrstuvwxyz").cps.toList[(n : Nat)]? = some (97 + (n : Nat)) := by decide +kernel
  have hn : n < 26 := by omega
  rw [Int.toNat_natCast]
  exact atI_nat (all ⟨n, hn⟩)
theorem letters_len : (Str.ofString "abcdefghijklmnopqrstuvwxyz").length ≤ 100000 := by decide +kernel
theorem pick4 {a b c d r : Int} (h0 : 0 ≤ r) (h1 : r < 4) : ∃ v, atI [V.int a, .int b, .int c, .int d] r = some (.int v) ∧ (v = a ∨ v = b ∨ v = c ∨ v = d) := by
  have : r = 0 ∨ r = 1 ∨ r = 2 ∨ r = 3 := by omega
  rcases this with rfl | rfl | rfl | rfl
  · exact ⟨a, rfl, .inl rfl⟩
  · exact ⟨b, rfl, .inr (.inl rfl)⟩
  · exact ⟨c, rfl, .inr (.inr (.inl rfl))⟩
  · exact ⟨d, rfl, .inr (.inr (.inr rfl))⟩
/-- names, strictly upwards -/
structure Names (ys : List Str) : Prop where
  asc : Asc ys
  ok : ∀ y ∈ ys, IsName y
/-- names, each once, in any order -/
structure NamesU (ys : List Str) : Prop where
  nd : ys.Nodup
  ok : ∀ y ∈ ys, IsName y
theorem Names.u {ys : List Str} (h : Names ys) : NamesU ys := ⟨asc_nodup h.asc, h.ok⟩
theorem NamesU.perm {xs ys : List Str} (h : NamesU xs) (p : ys.Perm xs) : NamesU ys := ⟨p.nodup_iff.mpr h.nd, fun y hy => h.ok y (p.mem_iff.mp hy)⟩
/-! slices of a text -/
end U

/-! loops, dictionaries, unpacking: their readings by steps -/
namespace U
open PySem PySem.Spec PyProof.Rows L2
/-- what a loop over J asks -/
def ForB (J : It) (g : TG) (tb : TS) (D : Ends) (σ : L2.St) (H : Hp) : Prop := ∃ W : Nat → Nat → L2.St → Hp → Prop, (∃ m, W 0 m σ H) ∧ ∀ i m σ H, W i m σ H →
  (J.stop i H ∧ D.nx σ H) ∨ (J.go i H ∧ ∃ N : L2.St → Hp → Prop, (∀ σ' H', N σ' H' → ∃ m', m' < m ∧ W (i + 1) m' σ' H') ∧ ∀ x H', J.yld i H x H' → g x σ H' fun σ2 H2 => tb { D with nx := N, ct := N, bk := D.nx } σ2 H2)
def LcB (J : It) (g : TG) (tt : TT) (te : TE) (vs : List Nat) (σ : L2.St) (H1 : Hp) (D : Addr) (Qd : Hp → Prop) : Prop := ∃ W : Nat → Nat → Hp → Prop, (∃ m, W 0 m (upd H1 D (.lst []))) ∧ ∀ i m H, W i m H →
  (J.stop i H ∧ Qd H) ∨ (J.go i H ∧ ∃ Nx : Hp → Prop, (∀ H', Nx H' → ∃ m', m' < m ∧ W (i + 1) m' H') ∧ ∀ x H', J.yld i H x H' → g x (wipe σ vs) H' fun σ2 H2 => wipe σ2 vs = wipe σ vs ∧ tt σ2 H2 fun b H3 =>
    if b = true then te σ2 H3 fun y H4 => ∃ acc, H4 D = some (.lst acc) ∧ acc.length < sizeLine ∧ Nx (upd H4 D (.lst (acc ++ [y]))) else Nx H3)
section
variable {σ : L2.St} {H : Hp} {Q : VK} {D : Ends} {v x y : V} {i j : Int} {ta tb tc te td ty tv : TE} {t u : TS} {K : PySem.W.Frag} {g : TG} {wi : TI} {R : It → Hp → Prop} {tr : TA}
theorem rd_for (h : wi σ H fun J H1 => ForB J g t D σ H1) : tFor wi g t D σ H := h
theorem rd_rng1 (h : tr σ H fun vs H1 => ∃ j : Int, vs = [.int j] ∧ -(2 ^ 62) ≤ j ∧ j < 2 ^ 62 ∧ R (Itr 0 j.toNat) H1) : iRng1 tr σ H R := h
theorem rd_rng2 (h : tr σ H fun vs H1 => ∃ i j : Int, vs = [.int i, .int j] ∧ (-(2 ^ 62) ≤ i ∧ i < 2 ^ 62 ∧ -(2 ^ 62) ≤ j ∧ j < 2 ^ 62) ∧ R (Itr i (j - i).toNat) H1) : iRng2 tr σ H R := h
theorem rd_iList (h : te σ H fun x H1 => ∃ a, x = .ref a ∧ (∃ xs, SqL K H1 a xs) ∧ R (Itl K a) H1) : iList K te σ H R := h
theorem rd_iTup (h : te σ H fun x H1 => ∃ a, x = .ref a ∧ (∃ xs, SqT K H1 a xs) ∧ R (Itt K a) H1) : iTup K te σ H R := h
theorem rd_iEnum (h : tr σ H fun vs H1 => ∃ a xs, vs = [.ref a] ∧ SqL K H1 a xs ∧ R (Ite K a) H1) : iEnum K tr σ H R := h
theorem rd_forL {p : Addr} {xs : List V} {R : Addr → Prop} (hs : SqL K H p xs) (h : R p) : ∃ a, V.ref p = .ref a ∧ (∃ xs, SqL K H a xs) ∧ R a := ⟨p, rfl, ⟨xs, hs⟩, h⟩
theorem rd_forT {p : Addr} {xs : List V} {R : Addr → Prop} (hs : SqT K H p xs) (h : R p) : ∃ a, V.ref p = .ref a ∧ (∃ xs, SqT K H a xs) ∧ R a := ⟨p, rfl, ⟨xs, hs⟩, h⟩
theorem rd_forR {R : Int → Prop} (h0 : -(2 ^ 62) ≤ j) (h1 : j < 2 ^ 62) (h : R j) : ∃ k : Int, [V.int j] = [.int k] ∧ -(2 ^ 62) ≤ k ∧ k < 2 ^ 62 ∧ R k := ⟨j, rfl, h0, h1, h⟩
theorem rd_forE {p : Addr} {xs : List V} {R : Addr → Prop} (hs : SqL K H p xs) (h : R p) : ∃ a xs, [V.ref p] = [.ref a] ∧ SqL K H a xs ∧ R a := ⟨p, xs, rfl, hs, h⟩
theorem turnsR {lo : Int} {n : Nat} (Pv : Nat → L2.St → Hp → Prop) (h0 : Pv 0 σ H) (hs : ∀ i σ H, i < n → Pv i σ H → g (.int (lo + i)) σ H fun σ2 H2 => t { D with nx := Pv (i + 1), ct := Pv (i + 1), bk := D.nx } σ2 H2)
    (hd : ∀ σ H, Pv n σ H → D.nx σ H) : ForB (Itr lo n) g t D σ H := for_range Pv h0 hs hd
theorem turnsL {a : Addr} {xs : List V} (Pv : Nat → L2.St → Hp → Prop) (h0 : Pv 0 σ H) (hl : ∀ i σ H, i ≤ xs.length → Pv i σ H → SqL K H a xs)
    (hs : ∀ i x σ H, xs[i]? = some x → Pv i σ H → g x σ H fun σ2 H2 => t { D with nx := Pv (i + 1), ct := Pv (i + 1), bk := D.nx } σ2 H2) (hd : ∀ σ H, Pv xs.length σ H → D.nx σ H) : ForB (Itl K a) g t D σ H := for_list Pv h0 hl hs hd
theorem turnsT {a : Addr} {xs : List V} (Pv : Nat → L2.St → Hp → Prop) (h0 : Pv 0 σ H) (hl : ∀ i σ H, i ≤ xs.length → Pv i σ H → SqT K H a xs)
    (hs : ∀ i x σ H, xs[i]? = some x → Pv i σ H → g x σ H fun σ2 H2 => t { D with nx := Pv (i + 1), ct := Pv (i + 1), bk := D.nx } σ2 H2) (hd : ∀ σ H, Pv xs.length σ H → D.nx σ H) : ForB (Itt K a) g t D σ H := for_tup Pv h0 hl hs hd
theorem turnsW {J : It} {n : Nat} {G : Hp → Prop} {Y : Nat → Hp → V → Hp → Prop} (w : Walk J n G Y) (Pv : Nat → L2.St → Hp → Prop) (h0 : Pv 0 σ H) (hG : ∀ i σ H, i ≤ n → Pv i σ H → G H)
    (hs : ∀ i x σ H H', i < n → Pv i σ H → Y i H x H' → g x σ H' fun σ2 H2 => t { D with nx := Pv (i + 1), ct := Pv (i + 1), bk := D.nx } σ2 H2) (hd : ∀ σ H, Pv n σ H → D.nx σ H) : ForB J g t D σ H := for_it w Pv h0 hG hs hd
theorem rd_lc {tt : TT} {vs : List Nat} (h : wi σ H fun J H1 => ∀ D, H1 D = none → LcB J g tt te vs σ H1 D fun H2 => Q (.ref D) H2) : tLc wi g tt te vs σ H Q := h
theorem lcT {a : Addr} {xs : List V} {tt : TT} {vs : List Nat} {D : Addr} {Qd : Hp → Prop} (Pv : Nat → Hp → Prop) (h0 : Pv 0 (upd H D (.lst []))) (hl : ∀ i H, i ≤ xs.length → Pv i H → SqT K H a xs)
    (hs : ∀ i x H, xs[i]? = some x → Pv i H → g x (wipe σ vs) H fun σ2 H2 => wipe σ2 vs = wipe σ vs ∧ tt σ2 H2 fun b H3 =>
      if b = true then te σ2 H3 fun y H4 => ∃ acc, H4 D = some (.lst acc) ∧ acc.length < sizeLine ∧ Pv (i + 1) (upd H4 D (.lst (acc ++ [y]))) else Pv (i + 1) H3) (hd : ∀ H, Pv xs.length H → Qd H) : LcB (Itt K a) g tt te vs σ H D Qd := lc_tup Pv h0 hl hs hd
theorem lcL {a : Addr} {xs : List V} {tt : TT} {vs : List Nat} {D : Addr} {Qd : Hp → Prop} (Pv : Nat → Hp → Prop) (h0 : Pv 0 (upd H D (.lst []))) (hl : ∀ i H, i ≤ xs.length → Pv i H → SqL K H a xs)
    (hs : ∀ i x H, xs[i]? = some x → Pv i H → g x (wipe σ vs) H fun σ2 H2 => wipe σ2 vs = wipe σ vs ∧ tt σ2 H2 fun b H3 =>
      if b = true then te σ2 H3 fun y H4 => ∃ acc, H4 D = some (.lst acc) ∧ acc.length < sizeLine ∧ Pv (i + 1) (upd H4 D (.lst (acc ++ [y]))) else Pv (i + 1) H3) (hd : ∀ H, Pv xs.length H → Qd H) : LcB (Itl K a) g tt te vs σ H D Qd := lc_list Pv h0 hl hs hd
theorem lcR {lo : Int} {n : Nat} {tt : TT} {vs : List Nat} {D : Addr} {Qd : Hp → Prop} (Pv : Nat → Hp → Prop) (h0 : Pv 0 (upd H D (.lst [])))
    (hs : ∀ i H, i < n → Pv i H → g (.int (lo + i)) (wipe σ vs) H fun σ2 H2 => wipe σ2 vs = wipe σ vs ∧ tt σ2 H2 fun b H3 =>
      if b = true then te σ2 H3 fun y H4 => ∃ acc, H4 D = some (.lst acc) ∧ acc.length < sizeLine ∧ Pv (i + 1) (upd H4 D (.lst (acc ++ [y]))) else Pv (i + 1) H3) (hd : ∀ H, Pv n H → Qd H) : LcB (Itr lo n) g tt te vs σ H D Qd := lc_range Pv h0 hs hd
/-- unpacking -/
theorem rd_unp {n : Nat} {ts : TGs} {p : Addr} {xs : List V} {Q : L2.St → Hp → Prop} (hs : SqT K H p xs) (hl : xs.length = n) (h : ts xs σ H Q) : gTup K n ts (.ref p) σ H Q := ⟨p, xs, rfl, hs, hl, h⟩
theorem rd_gcons {tg : TG} {u : TGs} {vr : List V} {Q : L2.St → Hp → Prop} (h : tg v σ H fun σ1 H1 => u vr σ1 H1 Q) : gCons tg u (v :: vr) σ H Q := ⟨v, vr, rfl, h⟩
theorem rd_gnil {Q : L2.St → Hp → Prop} (h : Q σ H) : gNil [] σ H Q := ⟨rfl, h⟩
/-- dictionaries -/
theorem rd_dget (h : td σ H fun x H1 => ty σ H1 fun y H2 => ∃ a v, x = .ref a ∧ DGet H2 a y (some v) ∧ Q v H2) : tDGet td ty σ H Q := h
theorem rd_dat {p : Addr} {kvs : List (Key × V)} {k : Key} (hs : Rd H p (.dK kvs)) (hv : valV kvs k = some v) {R : V → Prop} (hy : y = kV k) (h : R v) : ∃ a v, V.ref p = .ref a ∧ DGet H a y (some v) ∧ R v := ⟨p, v, rfl, .inl ⟨kvs, k, hs, hy, hv.symm⟩, h⟩
theorem rd_dput (h : tv σ H fun v H1 => td σ H1 fun x H2 => ty σ H2 fun y H3 => ∃ a H4, x = .ref a ∧ DPut H3 a y v H4 ∧ D.nx σ H4) : sDPut td ty tv D σ H := h
end
end U

/-! lists of texts as data -/
namespace U
open PySem PySem.Spec PyProof.Rows L2
theorem IsName.sok {z : Str} (h : IsName z) : PyData.strOk z = true := by
  unfold PyData.strOk
  rw [Array.all_eq_true_iff_forall_mem]
  intro x hx
  have := h.ch x (by simpa using hx)
  rw [decide_eq_true_eq]
  omega
section
variable {K : PySem.W.Frag} {H : Hp} {Q : VK} {p q : Addr}
theorem dp_strs : ∀ (xs : List Str), DpAll K H (xs.map V.str) (xs.map PyData.str)
  | [] => .nil
  | x :: xs => .cons (.str x) (dp_strs xs)
theorem can_strs : ∀ {xs : List Str}, (∀ x ∈ xs, PyData.strOk x = true) → PyData.canLayAll0 (xs.map PyData.str) = true
  | [], _ => by simp [PyData.canLayAll0]
  | x :: xs, h => by
    rw [List.map_cons, PyData.canLayAll0, PyData.canLay0, h x List.mem_cons_self, can_strs fun y hy => h y (List.mem_cons_of_mem _ hy)]
    rfl
theorem dep_strs : ∀ {xs : List Str}, PyData.depthAll (xs.map PyData.str) = 0
  | [] => by simp [PyData.depthAll]
  | x :: xs => by
    rw [List.map_cons, PyData.depthAll, dep_strs, PyData.depth]
    rfl
theorem shp_strs {xs : List Str} (h : ∀ x ∈ xs, PyData.strOk x = true) : SeqAt.shaped (.list (xs.map PyData.str)) = true := by
  unfold SeqAt.shaped
  rw [PyData.canLay0, can_strs h, PyData.depth, dep_strs]
  rfl
theorem eqv_nil {xs : List Str} : PyData.eqv (.list (xs.map PyData.str)) (.list []) = xs.isEmpty := by
  cases xs with
  | nil => simp [PyData.eqv, PyData.eqvAll]
  | cons _ _ => simp [PyData.eqv, PyData.eqvAll]
/-- xs != [] -/
theorem rd_neNil {xs : List Str} (hp : SqL K H p (xs.map V.str)) (hq : SqL K H q []) (ok : ∀ x ∈ xs, PyData.strOk x = true) (h : Q (.bl (!xs.isEmpty)) H) : rNeU K (.ref p) (.ref q) H Q := by
  refine ⟨_, _, .lst hp (dp_strs xs), .lst hq .nil, shp_strs ok, by decide, ?_⟩
  rw [eqv_nil]
  exact h
end
end U

/-! graphs and states as the laws draw them -/
namespace U
open PySem PySem.Spec PyProof.Rows L2
/-- the two names, the lower first -/
def eOf (a b : Str) : Str × Str := if sLt a b then (a, b) else (b, a)
theorem eOf_cases (a b : Str) : eOf a b = (a, b) ∨ eOf a b = (b, a) := by
  unfold eOf
  split
  · exact .inl rfl
  · exact .inr rfl
theorem eOf_lt {a b : Str} (n : a ≠ b) : sLt (eOf a b).1 (eOf a b).2 := by
  unfold eOf
  split
  · assumption
  · rename_i h
    exact sLt_total h (Ne.symm n)
theorem eOf_inj {a b c d : Str} (h : eOf a b = eOf c d) : (a = c ∧ b = d) ∨ (a = d ∧ b = c) := by
  rcases eOf_cases a b with e | e <;> rcases eOf_cases c d with e' | e' <;> rw [e, e'] at h <;> injection h with h1 h2
  · exact .inl ⟨h1, h2⟩
  · exact .inr ⟨h1, h2⟩
  · exact .inr ⟨h2, h1⟩
  · exact .inl ⟨h2, h1⟩
/-- the state's pairs -/
abbrev kvsOf (ws : List (Str × Int)) : List (Key × V) := ws.map fun p => (Sum.inr p.1, V.int p.2)
/-- the number of the node n -/
def numOf (ws : List (Str × Int)) (n : Str) : Int := (ws.lookup n).getD 0
theorem val_kvs : ∀ {ws : List (Str × Int)} {n : Str}, n ∈ ws.map (·.1) → valV (kvsOf ws) (.inr n) = some (.int (numOf ws n))
  | p :: ws, n, h => by
    by_cases e : n = p.1
    · subst e
      rw [kvsOf, List.map_cons, valV_pos rfl]
      unfold numOf
      rw [List.lookup_cons_self]
      rfl
    · have e' : ¬ (Sum.inr p.1 : Key) = Sum.inr n := fun z => e (Sum.inr.inj z).symm
      rw [kvsOf, List.map_cons, valV_neg e']
      have : n ∈ ws.map (·.1) := by
        rcases List.mem_cons.mp h with z | z
        · exact absurd z e
        · exact z
      have r := val_kvs this
      rw [kvsOf] at r
      rw [r]
      unfold numOf
      rw [List.lookup_cons, show (n == p.1) = false from beq_eq_false_iff_ne.mpr e]
theorem num_mem : ∀ {ws : List (Str × Int)} {n : Str}, n ∈ ws.map (·.1) → (n, numOf ws n) ∈ ws
  | p :: ws, n, h => by
    unfold numOf
    rw [List.lookup_cons]
    by_cases e : n = p.1
    · rw [show (n == p.1) = true from beq_iff_eq.mpr e]
      subst e
      exact List.mem_cons_self
    · rw [show (n == p.1) = false from beq_eq_false_iff_ne.mpr e]
      have : n ∈ ws.map (·.1) := by
        rcases List.mem_cons.mp h with z | z
        · exact absurd z e
        · exact z
      exact List.mem_cons_of_mem _ (num_mem this)
/-- a state: each name once, in the order ord, a number of 0, 1, 2 -/
structure StOk (ord : List Str) (ws : List (Str × Int)) : Prop where
  key : ws.map (·.1) = ord
  num : ∀ p ∈ ws, 0 ≤ p.2 ∧ p.2 < 3
theorem StOk.at {ord : List Str} {ws : List (Str × Int)} (h : StOk ord ws) {n : Str} (hn : n ∈ ord) : 0 ≤ numOf ws n ∧ numOf ws n < 3 := h.num _ (num_mem (by rw [h.key]; exact hn))
theorem StOk.val {ord : List Str} {ws : List (Str × Int)} (h : StOk ord ws) {n : Str} (hn : n ∈ ord) : valV (kvsOf ws) (.inr n) = some (.int (numOf ws n)) := val_kvs (by rw [h.key]; exact hn)
/-- the edges as they are found: at turn i, j -/
structure EdgesIn (ord : List Str) (f : Str → Int) (i j : Nat) (es : List (Addr × Str × Str)) : Prop where
  nd : (es.map (·.2)).Nodup
  of : ∀ e ∈ es, ∃ i' j', ∃ (hi : i' < ord.length) (hj : j' < ord.length), j' < i' ∧ (i' < i ∨ (i' = i ∧ j' < j)) ∧ e.2 = eOf ord[i'] ord[j'] ∧ f ord[i'] ≠ f ord[j']
theorem EdgesIn.step {ord : List Str} {f : Str → Int} {i j i2 j2 : Nat} {es : List (Addr × Str × Str)} (h : EdgesIn ord f i j es) (c : i < i2 ∨ (i = i2 ∧ j ≤ j2)) : EdgesIn ord f i2 j2 es :=
  ⟨h.nd, fun e he => by
    obtain ⟨i', j', hi, hj, h1, h2, h3⟩ := h.of e he
    exact ⟨i', j', hi, hj, h1, by omega, h3⟩⟩
theorem EdgesIn.add {ord : List Str} {f : Str → Int} {i j : Nat} {es : List (Addr × Str × Str)} {t : Addr} (h : EdgesIn ord f i j es) (nd : ord.Nodup) (hij : j < i) (hi : i < ord.length) (hj : j < ord.length) (hf : f ord[i] ≠ f ord[j]) :
    EdgesIn ord f i (j + 1) (es ++ [(t, eOf ord[i] ord[j])]) := by
  have inj : ∀ {a b : Nat} (ha : a < ord.length) (hb : b < ord.length), ord[a] = ord[b] → a = b := by
    intro a b ha hb e
    have z := List.pairwise_iff_getElem.mp (List.nodup_iff_pairwise_ne.mp nd)
    rcases Nat.lt_trichotomy a b with h | h | h
    · exact absurd e (z a b ha hb h)
    · exact h
    · exact absurd e.symm (z b a hb ha h)
  refine ⟨?_, ?_⟩
  · rw [List.map_append, List.nodup_append]
    refine ⟨h.nd, by simp, ?_⟩
    intro x hx y hy e
    obtain ⟨z, hz, rfl⟩ := List.mem_map.mp hx
    have : y = eOf ord[i] ord[j] := by simpa using hy
    subst this
    obtain ⟨i', j', hi', hj', h1, h2, h3, _⟩ := h.of z hz
    rw [h3] at e
    rcases eOf_inj e with ⟨e1, e2⟩ | ⟨e1, e2⟩
    · have := inj _ _ e1
      have := inj _ _ e2
      omega
    · have := inj _ _ e1
      have := inj _ _ e2
      omega
  · intro e he
    rcases List.mem_append.mp he with he | he
    · obtain ⟨i', j', hi', hj', h1, h2, h3⟩ := h.of e he
      exact ⟨i', j', hi', hj', h1, by omega, h3⟩
    · have : e = (t, eOf ord[i] ord[j]) := by simpa using he
      subst this
      exact ⟨i, j, hi, hj, hij, by omega, rfl, hf⟩
/-- a graph: names upwards, edges upwards, each with its lower name first -/
structure GrOk (ns : List Str) (es : List (Str × Str)) : Prop where
  names : Names ns
  asc : AscE es
  lt : ∀ e ∈ es, sLt e.1 e.2
  mem : ∀ e ∈ es, e.1 ∈ ns ∧ e.2 ∈ ns
/-- the graph stands at g -/
structure GrAt (H : Hp) (g n e : Addr) (ns : List Str) (es : List (Addr × Str × Str)) : Prop where
  top : H g = some (.tup [.ref n, .ref e])
  nodes : H n = some (.tup (ns.map V.str))
  edges : H e = some (.tup (es.map fun x => V.ref x.1))
  pairs : ∀ x ∈ es, H x.1 = some (.tup [.str x.2.1, .str x.2.2])
theorem cutV_to {xs : List V} {i : Nat} (h : i ≤ xs.length) : cutV xs none (some (i : Int)) = xs.take i := by
  unfold cutV HT.sIx
  simp only [Nat.sub_zero, List.drop_zero]
  rw [if_neg (by omega), Int.toNat_natCast, Nat.min_eq_left h]
theorem map_at {α : Type} {f : α → V} {xs : List α} {i : Nat} {x : V} (h : (xs.map f)[i]? = some x) : ∃ hi : i < xs.length, x = f xs[i] := by
  rw [List.getElem?_map] at h
  by_cases hi : i < xs.length
  · rw [List.getElem?_eq_getElem hi] at h
    exact ⟨hi, (Option.some.inj h).symm⟩
  · rw [List.getElem?_eq_none (by omega)] at h
    cases h
theorem StOk.nil : StOk [] [] := ⟨rfl, fun _ h => nomatch h⟩
theorem StOk.add {ord : List Str} {ws : List (Str × Int)} {i : Nat} {v : Int} (h : StOk (ord.take i) ws) (hi : i < ord.length) (h0 : 0 ≤ v) (h1 : v < 3) : StOk (ord.take (i + 1)) (ws ++ [(ord[i], v)]) := by
  refine ⟨?_, ?_⟩
  · rw [List.map_append, h.key, List.take_succ, List.getElem?_eq_getElem hi]
    rfl
  · intro p hp
    rcases List.mem_append.mp hp with hp | hp
    · exact h.num p hp
    · have : p = (ord[i], v) := by simpa using hp
      subst this
      exact ⟨h0, h1⟩
theorem StOk.not {ord : List Str} {ws : List (Str × Int)} {i : Nat} (h : StOk (ord.take i) ws) (nd : ord.Nodup) (hi : i < ord.length) : ord[i] ∉ ws.map (·.1) := by
  rw [h.key]
  intro hm
  obtain ⟨j, hj, e⟩ := List.mem_iff_getElem.mp hm
  rw [List.length_take] at hj
  have e' : ord[j] = ord[i] := by rw [← e, List.getElem_take]
  have z := List.pairwise_iff_getElem.mp (List.nodup_iff_pairwise_ne.mp nd)
  exact z j i (by omega) hi (by omega) e'
section
variable {K : PySem.W.Frag} {H : Hp} {Q : VK} {p q : Addr} {σ : L2.St}
theorem rd_dnew (h : ∀ d, H d = none → Q (.ref d) (upd H d (.dK []))) : tDNewK σ H Q := h
theorem rd_dset {kvs : List (Key × V)} {k : Key} {y v : V} {R : Hp → Prop} (hs : H p = some (.dK kvs)) (hy : y = kV k) (hl : kvs.length < 100000) (h : R (upd H p (.dK (putK kvs k v)))) :
    ∃ a H4, V.ref p = .ref a ∧ DPut H a y v H4 ∧ R H4 := ⟨p, _, rfl, .inl ⟨kvs, k, hs, hy, Nat.lt_of_lt_of_le hl (by decide), rfl⟩, h⟩
end
end U

/-! comprehensions, locks, statements that are never reached: their readings -/
namespace U
open PySem PySem.Spec PyProof.Rows L2
/-- f(e, .., k = v, ..): the keywords in the parameters' order, behind the rest -/
structure CalK (P : Program) (w : World) (K : PySem.W.Frag) (mg : Str → Option Value) (base : Heap) (CX : CXT) (k : Nat) (x : Str) (np : Nat) (ks : List Str) (sp : Sp) : Prop where
  ex : ∃ (f : Addr) (fd : FuncData) (ps : List Str), FnG P w K mg base CX k f fd ps sp ∧ mg x = some (.ref f) ∧ PySem.W.keepIn K (.ref f) = true ∧
    ∀ us ws : List Value, us.length = np → ws.length = ks.length → bindArgs fd ⟨us, ks.zip ws⟩ = pure (ps.zip (us ++ ws))
def tCK (sp : Sp) (np nk : Nat) (E : XK) (t tk : TA) : TE := fun σ H Q => t σ H fun vs H1 => vs.length = np ∧ tk σ H1 fun zs H2 => zs.length = nk ∧ sp (vs ++ zs) H2 Q E
theorem vals_app {vs zs : List V} {us ws : List Value} (a : Vals vs us) (b : Vals zs ws) : Vals (vs ++ zs) (us ++ ws) := a.append b
theorem pe_cK {X : Cx} {CX : L2.CXT} {k j : Nat} {x : Str} {np : Nat} {ks : List Str} {sp : Sp} {E : XK} {e : Expr} {es : List Expr} {kws : List Keyword} {t tk : TA} {p pos : Pos} (c : CalK X.prog X.w X.K X.mg X.base CX k x np ks sp) (hr : Rm j X.A) (hk : k ≤ j) (hg : Gl X x) (hx : Passes CX X E)
    (ha : PA X (e :: es) t) (hkw : PK X kws tk) (hall : (backToKw pos (keywordEach kws X.env)).all (·.1.isSome) = true := by rfl) (hks : (backToKw pos (keywordEach kws X.env)).filterMap (·.1) = ks := by rfl)
    (hdb : (x == ("__debug__" : Str)) = false := by decide) (he : starEach (e :: es) X.env = (false, eval e X.env) :: starEach es X.env := by rfl)
    (hpl : ((backTo pos (starEach (e :: es) X.env)).any (·.1) || (backToKw pos (keywordEach kws X.env)).any (·.1.isNone)) = false := by rfl) :
    PE X (.Call (.Name x p) (e :: es) kws pos) (tCK sp np ks.length E t tk) := by
  obtain ⟨f, fd, ps, F, hm, kp, b⟩ := c.ex
  refine ⟨fun pins s σ H Q I h => wpAny_Call_Name_kw (ld_glob I hg hm ?_ hdb)⟩
  refine PySem.W.callWith_KW (h₀ := X.base) I.ok.mod.kin kp hall (thn (ha.run pos pins s σ H _ I h) fun us s1 ⟨vs, H1, I1, r, hn, q⟩ => ?_) hpl he
  refine thn (hkw.run pos pins s1 σ H1 _ I1 q) fun ws s2 ⟨zs, H2, I2, rz, hz, q2⟩ => ⟨I2.kIn, ?_⟩
  rw [hks]
  have bd : BindsTo s2 fd ⟨us, ks.zip ws⟩ (ps.zip (us ++ ws)) := .of_eq (b us ws (by rw [← r.length]; exact hn) (by rw [← rz.length]; exact hz))
  refine wpAny_call (codeAny_mono (F.go X.A X.stack s2 H2 ⟨us, ks.zip ws⟩ (us ++ ws) (vs ++ zs) Q E (hr.mono hk) I2.env0 bd (vals_app r rz) q2) ?_)
  intro res s' hq
  cases res with
  | error er => exact hx pins σ H2 s2 er s' I2 hq
  | ok fl =>
    cases fl with
    | ret u => exact I2.after hq
    | next => exact hq.elim
    | brk => exact hq.elim
    | cont => exact hq.elim
theorem ps_dead {X : Cx} {st : Stmt} : PS X st (fun _ _ _ => False) := ⟨fun _ _ _ _ _ _ h => h.elim⟩
def DcB (J : It) (g : TG) (tt : TT) (tk tv : TE) (vs : List Nat) (σ : L2.St) (H1 : Hp) (D : Addr) (Qd : Hp → Prop) : Prop := ∃ W : Nat → Nat → Hp → Prop, (∃ m, W 0 m (upd H1 D (.dK []))) ∧ ∀ i m H, W i m H →
  (J.stop i H ∧ Qd H) ∨ (J.go i H ∧ ∃ Nx : Hp → Prop, (∀ H', Nx H' → ∃ m', m' < m ∧ W (i + 1) m' H') ∧ ∀ x H', J.yld i H x H' → g x (wipe σ vs) H' fun σ2 H2 => wipe σ2 vs = wipe σ vs ∧ tt σ2 H2 fun b H3 =>
    if b = true then tk σ2 H3 fun y H4 => tv σ2 H4 fun z H5 => ∃ kvs k, y = kV k ∧ H5 D = some (.dK kvs) ∧ kvs.length < sizeLine ∧ Nx (upd H5 D (.dK (putK kvs k z))) else Nx H3)
section
variable {σ : L2.St} {H : Hp} {Q : VK} {D : Ends} {te td ty tv : TE} {t : TS} {g : TG} {wi : TI} {R : It → Hp → Prop} {tt : TT} {vs : List Nat} {L : Addr} {Qd : Hp → Prop} {J : It} {n : Nat} {G : Hp → Prop} {Y : Nat → Hp → V → Hp → Prop} {K : PySem.W.Frag}
theorem dcW {tk : TE} (w : Walk J n G Y) (Pv : Nat → Hp → Prop) (h0 : Pv 0 (upd H L (.dK []))) (hG : ∀ i H, i ≤ n → Pv i H → G H)
    (hs : ∀ i x H H', i < n → Pv i H → Y i H x H' → g x (wipe σ vs) H' fun σ2 H2 => wipe σ2 vs = wipe σ vs ∧ tt σ2 H2 fun b H3 =>
      if b = true then tk σ2 H3 fun y H4 => tv σ2 H4 fun z H5 => ∃ kvs k, y = kV k ∧ H5 L = some (.dK kvs) ∧ kvs.length < sizeLine ∧ Pv (i + 1) (upd H5 L (.dK (putK kvs k z))) else Pv (i + 1) H3) (hd : ∀ H, Pv n H → Qd H) : DcB J g tt tk tv vs σ H L Qd := by
  refine ⟨fun i m H => m = n - i ∧ i ≤ n ∧ Pv i H, ⟨n, by simp, Nat.zero_le _, h0⟩, ?_⟩
  rintro i m H ⟨rfl, hi, p⟩
  have q := hG i H hi p
  by_cases hlt : i < n
  · refine .inr ⟨w.goes i H hlt q, Pv (i + 1), fun H' p' => ⟨n - (i + 1), by omega, rfl, hlt, p'⟩, fun x H' y => hs i x H H' hlt p (w.yields i H x H' hlt q y)⟩
  · have e : i = n := by omega
    subst e
    exact .inl ⟨w.stops H q, hd H p⟩
theorem rd_dc {tk : TE} (h : wi σ H fun J H1 => ∀ D, H1 D = none → DcB J g tt tk tv vs σ H1 D fun H2 => Q (.ref D) H2) : tDc wi g tt tk tv vs σ H Q := h
/-- under a lock: what the block leaves at the lock's place is the locked thing -/
theorem rd_lockE {d : Addr} {kvs : List (Key × V)} (hd : H d = some (.dK kvs)) (h : ∀ od, te σ (upd H d (.frz od (.dK kvs))) fun v H' => H' d = some (.frz od (.dK kvs)) ∧ Q v (upd H' d (.dK kvs))) : tLockE te σ H Q := ⟨d, _, hd, trivial, h⟩
theorem rd_iItems (h : td σ H fun x H1 => ∃ d o kvs, x = .ref d ∧ H1 d = some (.frz o (.dK kvs)) ∧ R (Iti d o kvs) H1) : iItems td σ H R := h
theorem rd_iKeys (h : td σ H fun x H1 => ∃ d o, x = .ref d ∧ ((∃ kvs, H1 d = some (.frz o (.dK kvs)) ∧ R (Itk d o kvs) H1) ∨ ∃ kvs, H1 d = some (.frz o (.dT kvs)) ∧ R (Itkt d o kvs) H1)) : iKeys td σ H R := h
theorem rd_forI {d : Addr} {o : Obj} {kvs : List (Key × V)} {R : Addr → Obj → List (Key × V) → Prop} (hd : H d = some (.frz o (.dK kvs))) (h : R d o kvs) : ∃ d' o kvs, V.ref d = .ref d' ∧ H d' = some (.frz o (.dK kvs)) ∧ R d' o kvs := ⟨d, o, kvs, rfl, hd, h⟩
theorem rd_wp {vs : List Nat} {σ1 σ2 : L2.St} {P : Prop} (e : wipe σ1 vs = wipe σ2 vs) (h : P) : wipe σ1 vs = wipe σ2 vs ∧ P := ⟨e, h⟩
theorem rd_yesT {Q : Bool → Hp → Prop} (h : Q true H) : tYes σ H Q := h
theorem rd_acc {L : Addr} {acc : List V} {R : List V → Prop} (hL : H L = some (.lst acc)) (hz : acc.length < 100000) (h : R acc) : ∃ acc, H L = some (.lst acc) ∧ acc.length < sizeLine ∧ R acc := ⟨acc, hL, Nat.lt_of_lt_of_le hz (by decide), h⟩
theorem rd_accD {L : Addr} {y : V} {kvs : List (Key × V)} {k : Key} {R : List (Key × V) → Key → Prop} (hy : y = kV k) (hL : H L = some (.dK kvs)) (hz : kvs.length < 100000) (h : R kvs k) : ∃ kvs k, y = kV k ∧ H L = some (.dK kvs) ∧ kvs.length < sizeLine ∧ R kvs k := ⟨kvs, k, hy, hL, Nat.lt_of_lt_of_le hz (by decide), h⟩
theorem inV_int {v : Int} {xs : List Int} : inV (.int v) (xs.map V.int) = decide (v ∈ xs) := by
  induction xs with
  | nil => rfl
  | cons x xs ih =>
    unfold inV at ih ⊢
    rw [List.map_cons, List.any_cons, ih]
    simp only [eqV, List.mem_cons, Bool.decide_or]
    congr 1
    exact decide_eq_decide.mpr ⟨Eq.symm, Eq.symm⟩
theorem inV_str {v : Str} {xs : List Str} : inV (.str v) (xs.map V.str) = decide (v ∈ xs) := by
  induction xs with
  | nil => rfl
  | cons x xs ih =>
    unfold inV at ih ⊢
    rw [List.map_cons, List.any_cons, ih]
    simp only [eqV, List.mem_cons, Bool.decide_or]
    congr 1
    exact decide_eq_decide.mpr ⟨Eq.symm, Eq.symm⟩
theorem flat_int {xs : List Int} : (xs.map V.int).all flatV = true := by
  rw [List.all_eq_true]
  intro x hx
  obtain ⟨i, _, rfl⟩ := List.mem_map.mp hx
  rfl
theorem flat_str {xs : List Str} : (xs.map V.str).all flatV = true := by
  rw [List.all_eq_true]
  intro x hx
  obtain ⟨i, _, rfl⟩ := List.mem_map.mp hx
  rfl
theorem rd_inIL {p : Addr} {v : Int} {xs : List Int} (hs : SqL K H p (xs.map V.int)) (h : Q (.bl (decide (v ∈ xs))) H) : rInU K (.int v) (.ref p) H Q := ⟨_, .inl hs, rfl, flat_int, by rw [inV_int]; exact h⟩
theorem rd_ninIL {p : Addr} {v : Int} {xs : List Int} (hs : SqL K H p (xs.map V.int)) (h : Q (.bl (!decide (v ∈ xs))) H) : rNotInU K (.int v) (.ref p) H Q := ⟨_, .inl hs, rfl, flat_int, by rw [inV_int]; exact h⟩
theorem rd_inSL {p : Addr} {v : Str} {xs : List Str} (hs : SqL K H p (xs.map V.str)) (h : Q (.bl (decide (v ∈ xs))) H) : rInU K (.str v) (.ref p) H Q := ⟨_, .inl hs, rfl, flat_str, by rw [inV_str]; exact h⟩
theorem rd_inST {p : Addr} {v : Str} {xs : List Str} (hs : SqT K H p (xs.map V.str)) (h : Q (.bl (decide (v ∈ xs))) H) : rInU K (.str v) (.ref p) H Q := ⟨_, .inr hs, rfl, flat_str, by rw [inV_str]; exact h⟩
theorem rd_ninST {p : Addr} {v : Str} {xs : List Str} (hs : SqT K H p (xs.map V.str)) (h : Q (.bl (!decide (v ∈ xs))) H) : rNotInU K (.str v) (.ref p) H Q := ⟨_, .inr hs, rfl, flat_str, by rw [inV_str]; exact h⟩
theorem rd_catL {p q : Addr} {xs ys : List V} (h1 : H p = some (.lst xs)) (h2 : H q = some (.lst ys)) (hz : xs.length + ys.length ≤ 100000) (h : nL (xs ++ ys) H Q) : rAddU K (.ref p) (.ref q) H Q := .inl ⟨xs, ys, h1, h2, Nat.le_trans hz (by decide), h⟩
theorem GrAt.same {H' : Hp} {g n e : Addr} {ns : List Str} {es : List (Addr × Str × Str)} (h : GrAt H g n e ns es) (s : Same H H') : GrAt H' g n e ns es :=
  ⟨s _ _ h.top, s _ _ h.nodes, s _ _ h.edges, fun x hx => s _ _ (h.pairs x hx)⟩
theorem GrAt.but {H' : Hp} {p g n e : Addr} {ys : List V} {ns : List Str} {es : List (Addr × Str × Str)} (h : GrAt H g n e ns es) (hp : H p = some (.lst ys)) (b : But p H H') : GrAt H' g n e ns es := by
  have k : ∀ {a : Addr} {xs : List V}, H a = some (.tup xs) → H' a = some (.tup xs) := fun {a xs} ha => b _ _ (ne_of ha hp (by intro z; cases z)) ha
  exact ⟨k h.top, k h.nodes, k h.edges, fun x hx => k (h.pairs x hx)⟩
theorem But.dK {H' : Hp} {p d : Addr} {ys : List V} {kvs : List (Key × V)} (b : But p H H') (hp : H p = some (.lst ys)) (h : H d = some (.dK kvs)) : H' d = some (.dK kvs) := b _ _ (ne_of h hp (by intro z; cases z)) h
theorem But.tup {H' : Hp} {p d : Addr} {ys xs : List V} (b : But p H H') (hp : H p = some (.lst ys)) (h : H d = some (.tup xs)) : H' d = some (.tup xs) := b _ _ (ne_of h hp (by intro z; cases z)) h
theorem same_put {H1 : Hp} {a : Addr} {o : HO} (s : Same H H1) (n : H a = none) : Same H (upd H1 a o) := fun c u h => at_upd (ne_of_none h n) (s c u h)
theorem same_add {H1 : Hp} {a : Addr} {o : HO} (s : Same H H1) (n : H1 a = none) : Same H (upd H1 a o) := fun c u h => at_upd (ne_of_none (s c u h) n) (s c u h)
/-- xs != [], whatever data -/
theorem rd_neNilD {p q : Addr} {xs : List V} {ds : List PyData} (hp : SqL K H p xs) (hd : DpAll K H xs ds) (hq : SqL K H q []) (ok : PyData.canLayAll0 ds = true) (dep : PyData.depthAll ds ≤ 60) (h : Q (.bl (!xs.isEmpty)) H) : rNeU K (.ref p) (.ref q) H Q := by
  refine ⟨_, _, .lst hp hd, .lst hq .nil, ?_, by decide, ?_⟩
  · unfold SeqAt.shaped
    rw [PyData.canLay0, ok, PyData.depth, decide_eq_true (by omega)]
    rfl
  · have : PyData.eqv (.list ds) (.list []) = xs.isEmpty := by
      cases hd with
      | nil => simp [PyData.eqv, PyData.eqvAll]
      | cons _ _ => simp [PyData.eqv, PyData.eqvAll]
    rw [this]
    exact h
theorem rd_isi {x : V} {n : String} {a t : Ty} (h1 : TyIs K H x a) (h2 : tyOf n = some t) (h : Q (.bl (isT a t)) H) : rIsiU K [x, .ty n] H Q := ⟨a, t, h1, h2, h⟩
theorem rd_din (h : ty σ H fun y H1 => td σ H1 fun x H2 => ∃ a o, x = .ref a ∧ DGet H2 a y o ∧ Q (.bl o.isSome) H2) : tDIn ty td σ H Q := h
theorem rd_dnin (h : ty σ H fun y H1 => td σ H1 fun x H2 => ∃ a o, x = .ref a ∧ DGet H2 a y o ∧ Q (.bl (!o.isSome)) H2) : tDNotIn ty td σ H Q := h
theorem rd_nT {A B : Prop} (h : B) : if (!true) = true then A else B := h
theorem rd_nF {A B : Prop} (h : A) : if (!false) = true then A else B := h
/-- repr of a truth value -/
def shB (b : Bool) : Str := if b then "True" else "False"
def rReprU : List V → Hp → VK → Prop := fun xs H Q => match xs with
  | [.bl b] => Q (.str (shB b)) H
  | _ => False
theorem rd_reprB {b : Bool} (h : Q (.str (shB b)) H) : rReprU [.bl b] H Q := h
theorem rd_ck {sp : Sp} {E : XK} {np nk : Nat} {t tk : TA} (h : t σ H fun vs H1 => vs.length = np ∧ tk σ H1 fun zs H2 => zs.length = nk ∧ sp (vs ++ zs) H2 Q E) : tCK sp np nk E t tk σ H Q := h
theorem rd_len {vs : List V} {k : Nat} {P : Prop} (e : vs.length = k) (h : P) : vs.length = k ∧ P := ⟨e, h⟩
theorem rd_par {i j : Nat} {ta : TA} (h : ta σ H fun vs H1 => ∃ v w, vs = [v, w] ∧ D.nx ((σ.set i (some v)).set j (some w)) H1) : tPar i j ta D σ H := h
theorem rd_two {v w' : V} {R : V → V → Prop} (h : R v w') : ∃ x y, [v, w'] = [x, y] ∧ R x y := ⟨v, w', rfl, h⟩
theorem rd_isB {a b : Bool} (h : Q (.bl (decide (a = b))) H) : rIsU (.bl a) (.bl b) H Q := ⟨a, rfl, h⟩
theorem rd_isNotB {a b : Bool} (h : Q (.bl (!decide (a = b))) H) : rIsNotU (.bl a) (.bl b) H Q := ⟨a, rfl, h⟩
theorem rd_daug {rd : V → V → Hp → VK → Prop} (h : td σ H fun x H1 => ty σ H1 fun y H2 => ∃ a v, x = .ref a ∧ DGet H2 a y (some v) ∧
  tv σ H2 fun y2 H3 => rd v y2 H3 fun z H4 => ∃ H5, DPut H4 a y z H5 ∧ D.nx σ H5) : sDAug td ty tv rd D σ H := h
end
end U

namespace Law
open PySem PySem.Spec PyProof.Rows L2 U
def top (i : Nat) : Stmt := PySem.Challenge.pw_threeturned_k42_apply_one_round.main.body.getD i (.Pass ⟨0, 0, 0, 0⟩)
abbrev s_InvalidMove_init : Stmt := inClass (top 2) 0
theorem sc_InvalidMove_init : FnScope ["self", "position"] ["self", "position"] (defScope s_InvalidMove_init) := ⟨rfl, rfl, rfl, by decide +kernel, rfl, by decide +kernel, by decide +kernel⟩
abbrev s_DuplicateNode_init : Stmt := inClass (top 3) 0
theorem sc_DuplicateNode_init : FnScope ["self", "node"] ["self", "node"] (defScope s_DuplicateNode_init) := ⟨rfl, rfl, rfl, by decide +kernel, rfl, by decide +kernel, by decide +kernel⟩
abbrev s_AdjacentMoves_init : Stmt := inClass (top 4) 0
theorem sc_AdjacentMoves_init : FnScope ["self", "edge"] ["self", "edge"] (defScope s_AdjacentMoves_init) := ⟨rfl, rfl, rfl, by decide +kernel, rfl, by decide +kernel, by decide +kernel⟩
abbrev s_has_node : Stmt := top 6
theorem sc_has_node : FnScope ["graph", "candidate"] ["graph", "candidate"] (defScope s_has_node) := ⟨rfl, rfl, rfl, by decide +kernel, rfl, by decide +kernel, by decide +kernel⟩
abbrev s_edge_of : Stmt := top 7
theorem sc_edge_of : FnScope ["first", "second"] ["first", "second"] (defScope s_edge_of) := ⟨rfl, rfl, rfl, by decide +kernel, rfl, by decide +kernel, by decide +kernel⟩
abbrev s_adjacency : Stmt := top 8
abbrev nN_adjacency : List Str := ["graph", "nodes", "edges", "found", "node", "one", "other", "some"]
theorem sc_adjacency : FnScope ["graph", "nodes", "edges", "found", "node", "one", "other", "some"] ["graph"] (defScope s_adjacency) := ⟨rfl, rfl, rfl, by decide +kernel, rfl, by decide +kernel, by decide +kernel⟩
abbrev s_is_integer : Stmt := top 11
theorem sc_is_integer : FnScope ["candidate"] ["candidate"] (defScope s_is_integer) := ⟨rfl, rfl, rfl, by decide +kernel, rfl, by decide +kernel, by decide +kernel⟩
abbrev s_is_value : Stmt := top 12
theorem sc_is_value : FnScope ["candidate"] ["candidate"] (defScope s_is_value) := ⟨rfl, rfl, rfl, by decide +kernel, rfl, by decide +kernel, by decide +kernel⟩
abbrev s_values_for : Stmt := top 13
abbrev nN_values_for : List Str := ["state", "node", "adjacent", "pinned", "excluded", "other", "value"]
theorem sc_values_for : FnScope ["state", "node", "adjacent", "pinned", "excluded", "other", "value"] ["state", "node", "adjacent", "pinned"] (defScope s_values_for) := ⟨rfl, rfl, rfl, by decide +kernel, rfl, by decide +kernel, by decide +kernel⟩
abbrev s_available_moves : Stmt := top 14
abbrev nN_available_moves : List Str := ["graph", "state", "pinned", "adjacent", "node", "value"]
theorem sc_available_moves : FnScope ["graph", "state", "pinned", "adjacent", "node", "value"] ["graph", "state", "pinned"] (defScope s_available_moves) := ⟨rfl, rfl, rfl, by decide +kernel, rfl, by decide +kernel, by decide +kernel⟩
abbrev s_is_move : Stmt := top 15
theorem sc_is_move : FnScope ["graph", "state", "adjacent", "candidate", "pinned"] ["graph", "state", "adjacent", "candidate", "pinned"] (defScope s_is_move) := ⟨rfl, rfl, rfl, by decide +kernel, rfl, by decide +kernel, by decide +kernel⟩
abbrev s_apply_moves : Stmt := top 16
theorem sc_apply_moves : FnScope ["graph", "state", "moves", "pinned", "adjacent", "result", "position", "move"] ["graph", "state", "moves", "pinned"] (defScope s_apply_moves) := ⟨rfl, rfl, rfl, by decide +kernel, rfl, by decide +kernel, by decide +kernel⟩
abbrev s_check_each : Stmt := top 18
theorem sc_check_each : FnScope ["graph", "state", "moves", "pinned", "possible", "position", "move"] ["graph", "state", "moves", "pinned"] (defScope s_check_each) := ⟨rfl, rfl, rfl, by decide +kernel, rfl, by decide +kernel, by decide +kernel⟩
abbrev s_check_distinct : Stmt := top 19
theorem sc_check_distinct : FnScope ["nodes", "position", "node"] ["nodes"] (defScope s_check_distinct) := ⟨rfl, rfl, rfl, by decide +kernel, rfl, by decide +kernel, by decide +kernel⟩
abbrev s_apply_round : Stmt := top 20
abbrev nN_apply_round : List Str := ["graph", "state", "moves", "pinned", "nodes", "node", "value", "position", "earlier", "new_state"]
theorem sc_apply_round : FnScope ["graph", "state", "moves", "pinned", "nodes", "node", "value", "position", "earlier", "new_state"] ["graph", "state", "moves", "pinned"] (defScope s_apply_round) := ⟨rfl, rfl, rfl, by decide +kernel, rfl, by decide +kernel, by decide +kernel⟩
abbrev s__law_box : Stmt := top 22
abbrev nN__law_box : List Str := ["_law_script", "_law_cell"]
theorem sc__law_box : FnScope ["_law_script", "_law_cell"] ["_law_script"] (defScope s__law_box) := ⟨rfl, rfl, rfl, by decide +kernel, rfl, by decide +kernel, by decide +kernel⟩
abbrev s__law_draw : Stmt := top 23
theorem sc__law_draw : FnScope ["_law_source", "_law_count", "_law_cell", "_law_found"] ["_law_source", "_law_count"] (defScope s__law_draw) := ⟨rfl, rfl, rfl, by decide +kernel, rfl, by decide +kernel, by decide +kernel⟩
abbrev s__law_stem : Stmt := top 24
abbrev nN__law_stem : List Str := ["_law_source", "_law_k"]
theorem sc__law_stem : FnScope ["_law_source", "_law_k"] ["_law_source"] (defScope s__law_stem) := ⟨rfl, rfl, rfl, by decide +kernel, rfl, by decide +kernel, by decide +kernel⟩
abbrev s__law_random_names : Stmt := top 25
theorem sc__law_random_names : FnScope ["_law_source", "_law_count", "_law_front", "_law_alike", "_law_shift", "_law_step", "_law_stem_here", "_law_words", "_law_k", "_law_letter"] ["_law_source", "_law_count"] (defScope s__law_random_names) := ⟨rfl, rfl, rfl, by decide +kernel, rfl, by decide +kernel, by decide +kernel⟩
abbrev s__law_random_problem : Stmt := top 26
abbrev nN__law_random_problem : List Str := ["_law_source", "_law_most", "_law_values", "_law_pairs", "_law_k", "_law_value", "_law_direction", "_law_near", "_law_density", "_law_words", "_law_edges", "_law_one", "_law_other", "_law_state", "_law_share", "_law_pins", "_law_word"]
theorem sc__law_random_problem : FnScope ["_law_source", "_law_most", "_law_values", "_law_pairs", "_law_k", "_law_value", "_law_direction", "_law_near", "_law_density", "_law_words", "_law_edges", "_law_one", "_law_other", "_law_state", "_law_share", "_law_pins", "_law_word"] ["_law_source", "_law_most"] (defScope s__law_random_problem) := ⟨rfl, rfl, rfl, by decide +kernel, rfl, by decide +kernel, by decide +kernel⟩
abbrev s__law_neighbors : Stmt := top 27
abbrev nN__law_neighbors : List Str := ["_law_graph", "_law_node", "_law_one", "_law_other"]
theorem sc__law_neighbors : FnScope ["_law_graph", "_law_node", "_law_one", "_law_other"] ["_law_graph", "_law_node"] (defScope s__law_neighbors) := ⟨rfl, rfl, rfl, by decide +kernel, rfl, by decide +kernel, by decide +kernel⟩
abbrev s__law_possible : Stmt := top 28
abbrev nN__law_possible : List Str := ["_law_graph", "_law_state", "_law_pins", "_law_node", "_law_seen", "_law_other", "_law_value"]
theorem sc__law_possible : FnScope ["_law_graph", "_law_state", "_law_pins", "_law_node", "_law_seen", "_law_other", "_law_value"] ["_law_graph", "_law_state", "_law_pins", "_law_node"] (defScope s__law_possible) := ⟨rfl, rfl, rfl, by decide +kernel, rfl, by decide +kernel, by decide +kernel⟩
abbrev s__law_unused_name : Stmt := top 29
abbrev nN__law_unused_name : List Str := ["_law_graph", "_law_letter"]
theorem sc__law_unused_name : FnScope ["_law_graph", "_law_letter"] ["_law_graph"] (defScope s__law_unused_name) := ⟨rfl, rfl, rfl, by decide +kernel, rfl, by decide +kernel, by decide +kernel⟩
abbrev s__law_random_moves : Stmt := top 30
abbrev nN__law_random_moves : List Str := ["_law_source", "_law_graph", "_law_state", "_law_pins", "_law_possible_here", "_law_node", "_law_value", "_law_items", "_law_k", "_law_direction", "_law_invalid"]
theorem sc__law_random_moves : FnScope ["_law_source", "_law_graph", "_law_state", "_law_pins", "_law_possible_here", "_law_node", "_law_value", "_law_items", "_law_k", "_law_direction", "_law_invalid"] ["_law_source", "_law_graph", "_law_state", "_law_pins"] (defScope s__law_random_moves) := ⟨rfl, rfl, rfl, by decide +kernel, rfl, by decide +kernel, by decide +kernel⟩
abbrev s__law_is_impossible : Stmt := top 31
theorem sc__law_is_impossible : FnScope ["_law_possible_here", "_law_candidate"] ["_law_possible_here", "_law_candidate"] (defScope s__law_is_impossible) := ⟨rfl, rfl, rfl, by decide +kernel, rfl, by decide +kernel, by decide +kernel⟩
abbrev s__law_compute_expected : Stmt := top 32
abbrev nN__law_compute_expected : List Str := ["_law_graph", "_law_state", "_law_possible_here", "_law_items", "_law_at", "_law_nodes", "_law_candidate", "_law_near", "_law_node", "_law_current", "_law_value"]
theorem sc__law_compute_expected : FnScope ["_law_graph", "_law_state", "_law_possible_here", "_law_items", "_law_at", "_law_nodes", "_law_candidate", "_law_near", "_law_node", "_law_current", "_law_value"] ["_law_graph", "_law_state", "_law_possible_here", "_law_items"] (defScope s__law_compute_expected) := ⟨rfl, rfl, rfl, by decide +kernel, rfl, by decide +kernel, by decide +kernel⟩
abbrev s__law_call : Stmt := top 33
theorem sc__law_call : FnScope ["_law_graph", "_law_state", "_law_items", "_law_pins", "_law_found", "e", "_law_others"] ["_law_graph", "_law_state", "_law_items", "_law_pins"] (defScope s__law_call) := ⟨rfl, rfl, rfl, by decide +kernel, rfl, by decide +kernel, by decide +kernel⟩
abbrev s_law : Stmt := top 34
theorem sc_law : FnScope ["_law_script", "_law_source", "_law_graph", "_law_state", "_law_pins", "_law_possible_here", "_law_items", "_law_saved", "_law_expected", "_law_turn", "_law_later", "_law_wrong"] ["_law_script"] (defScope s_law) := ⟨rfl, rfl, rfl, by decide +kernel, rfl, by decide +kernel, by decide +kernel⟩
end Law

namespace Law
open PySem PySem.Spec PyProof.Rows L2 U
local macro_rules | `(tactic| wtm_at "rd1") => `(tactic| first
  | with_reducible refine rd_seq ?_
  | ((with_reducible refine rd_var (v := ?vv) ?hv ?_); (case hv => exact rfl))
  | with_reducible refine rd_c ?_
  | with_reducible refine rd_cons ?_
  | with_reducible refine rd_nil ?_
  | with_reducible refine rd_op ?_
  | with_reducible refine rd_asg ?_
  | with_reducible refine rd_name ?_
  | with_reducible refine rd_c1 ?_
  | with_reducible refine rd_cb ?_
  | with_reducible refine rd_test ?_
  | with_reducible refine rd_B ?_
  | with_reducible refine rd_bl ?_
  | with_reducible refine rd_if ?_
  | with_reducible refine rd_ret ?_
  | with_reducible refine rd_drop ?_
  | with_reducible refine rd_next ?_
  | with_reducible refine rd_addI ?_
  | with_reducible refine rd_ltI ?_
  | with_reducible refine rd_eqI ?_
  | with_reducible refine rd_neI ?_
  | with_reducible refine rd_eqS ?_
  | with_reducible refine rd_neS ?_
  | with_reducible refine rd_gtI ?_
  | with_reducible refine rd_geI ?_
  | with_reducible refine rd_leI ?_
  | with_reducible refine rd_ltS ?_
  | with_reducible refine rd_subI ?_
  | ((with_reducible refine rd_modI ?hc ?_); (case hc => first | decide | omega))
  | ((with_reducible refine rd_mulI ?hc ?_); (case hc => first | exact mul_bI | exact .inl (.inr (by decide)) | exact .inl (.inl (by decide)) | exact .inl (.inr (by omega)) | exact .inl (.inl (by omega))))
  | ((with_reducible refine rd_divI ?hc ?_); (case hc => first | decide | omega))
  | ((with_reducible refine rd_powI ?hc ?_); (case hc => exact ⟨by decide, by decide, by decide⟩))
  | with_reducible refine rd_lst ?_
  | with_reducible refine rd_tup ?_
  | ((with_reducible refine rd_sz ?hv ?_); (case hv => exact rfl))
  | with_reducible refine rd_and ?_
  | with_reducible refine rd_or ?_
  | with_reducible refine rd_not ?_
  | with_reducible refine rd_andV ?_
  | with_reducible refine rd_orV ?_
  | with_reducible refine rd_notV ?_
  | with_reducible refine rd_ifE ?_
  | with_reducible refine rd_T ?_
  | with_reducible refine rd_F ?_
  | with_reducible refine rd_chain ?_
  | with_reducible refine rd_is ?_
  | with_reducible refine rd_isNot ?_
  | with_reducible refine rd_absI ?_
  | with_reducible refine rd_maxI ?_
  | with_reducible refine rd_minI ?_
  | with_reducible refine rd_intI ?_
  | with_reducible refine rd_intB ?_
  | with_reducible refine rd_sub ?_
  | with_reducible refine rd_sl ?_
  | with_reducible refine rd_noPart ?_
  | with_reducible refine rd_part ?_
  | with_reducible refine rd_exI ?_
  | with_reducible refine rd_bm ?_
  | with_reducible refine rd_bm0 ?_
  | with_reducible refine rd_un ?_
  | with_reducible refine rd_neg ?_
  | with_reducible refine rd_c2 ?_
  | with_reducible refine rd_retN ?_
  | with_reducible refine rd_break ?_
  | with_reducible refine rd_cont ?_
  | with_reducible refine rd_for ?_
  | with_reducible refine rd_rng1 ?_
  | with_reducible refine rd_rng2 ?_
  | with_reducible refine rd_iList ?_
  | with_reducible refine rd_iTup ?_
  | with_reducible refine rd_iEnum ?_
  | ((with_reducible refine rd_forR ?h0 ?h1 ?_); (case h0 => omega); (case h1 => omega))
  | with_reducible refine rd_lc ?_
  | with_reducible refine rd_gcons ?_
  | with_reducible refine rd_gnil ?_
  | with_reducible refine rd_dget ?_
  | with_reducible refine rd_dput ?_
  | with_reducible refine rd_dnew ?_
  | with_reducible refine rd_dc ?_
  | with_reducible refine rd_iItems ?_
  | with_reducible refine rd_iKeys ?_
  | with_reducible refine rd_din ?_
  | with_reducible refine rd_lc2 ?_
  | with_reducible refine rd_cd ?_
  | with_reducible refine rd_par ?_
  | with_reducible refine rd_two ?_
  | with_reducible refine rd_reprB ?_
  | with_reducible refine rd_ck ?_
  | ((with_reducible refine rd_len ?hl ?_); (case hl => exact rfl))
  | with_reducible refine rd_nT ?_
  | with_reducible refine rd_nF ?_
  | with_reducible refine rd_dnin ?_
  | with_reducible refine rd_isB ?_
  | with_reducible refine rd_isNotB ?_
  | with_reducible refine rd_daug ?_
  | with_reducible refine rd_yesT ?_
  | ((with_reducible refine rd_wp ?hw ?_); (case hw => exact rfl)))
local macro_rules | `(tactic| wtm_at "rd") => `(tactic| repeat wtm_at "rd1")
/-- the names of the world are the world's -/
structure Bt (mg : Str → Option Value) : Prop where
  len : mg "len" = none
  abs : mg "abs" = none
  max : mg "max" = none
  min : mg "min" = none
  sorted : mg "sorted" = none
  isinstance : mg "isinstance" = none
  int : mg "int" = none
  list : mg "list" = none
  tuple : mg "tuple" = none
  str : mg "str" = none
  range : mg "range" = none
  enumerate : mg "enumerate" = none
  dict : mg "dict" = none
  sum : mg "sum" = none
  all : mg "all" = none
  any : mg "any" = none
  repr : mg "repr" = none
  set : mg "set" = none
  zip : mg "zip" = none
  reversed : mg "reversed" = none
/-- a source of draws: the cells, how many are used, what is left of a great one, the seed -/
abbrev srcO (c : Addr) (pos big seed : Int) : HO := .lst [.ref c, .int pos, .int big, .int seed]
structure SrcOk (xs : List Int) (pos big seed : Int) : Prop where
  xs : ∀ x ∈ xs, 0 ≤ x
  pos : 0 ≤ pos
  big : 0 ≤ big
  s0 : 0 ≤ seed
  s1 : seed < 2147483647
def SrcAt (H : Hp) (p c : Addr) (xs : List Int) : Prop := ∃ pos big seed, H p = some (srcO c pos big seed) ∧ H c = some (.lst (xs.map V.int)) ∧ SrcOk xs pos big seed
def PoolAt (H : Hp) (p : Addr) : Prop := ∃ c xs, SrcAt H p c xs
theorem src_ne {xs : List Int} {c : Addr} {pos big seed : Int} : srcO c pos big seed ≠ .lst (xs.map V.int) := fun z => by
  match xs, HO.lst.inj z with
  | _ :: _, e => cases e
theorem PoolAt.ne {H : Hp} {p q : Addr} (h : PoolAt H p) (n : H q = none) : p ≠ q := by
  obtain ⟨c, xs, b, g, s, h, _⟩ := h
  exact ne_of_none h n
theorem PoolAt.isL {H : Hp} {p : Addr} (h : PoolAt H p) : ∃ ys, H p = some (.lst ys) := by
  obtain ⟨c, xs, b, g, s, h, _⟩ := h
  exact ⟨_, h⟩
theorem PoolAt.off {H : Hp} {p q : Addr} {xs : List Str} (h : PoolAt H p) (hq : H q = some (.lst (xs.map V.str))) : q ≠ p := by
  rintro rfl
  obtain ⟨c, ys, b, g, s, h, _⟩ := h
  rw [hq] at h
  have e := HO.lst.inj (Option.some.inj h)
  match xs, e with
  | _ :: _, e => cases e
/-- from H to H' all stays but the draws' source at p, which is one still; new things may have come -/
structure Go (p : Addr) (H H' : Hp) : Prop where
  but : But p H H'
  free : ∀ b, H' b = none → H b = none
  pool : PoolAt H' p
  cell : ∀ c pos big seed, H' p = some (srcO c pos big seed) → H c ≠ none ∧ ∃ pos big seed, H p = some (srcO c pos big seed)
theorem Go.refl {p : Addr} {H : Hp} (h : PoolAt H p) : Go p H H := ⟨But.refl, fun _ n => n, h, fun c pos big seed e => by
  obtain ⟨c', xs, b, g, s, h1, h2, _⟩ := h
  have e2 := Option.some.inj (e.symm.trans h1)
  have e3 := (List.cons.inj (HO.lst.inj e2)).1
  have e4 : c = c' := V.ref.inj e3
  subst e4
  exact ⟨(fun z => by rw [z] at h2; cases h2), _, _, _, e⟩⟩
theorem Go.trans {p : Addr} {H H1 H2 : Hp} (a : Go p H H1) (b : Go p H1 H2) : Go p H H2 := ⟨a.but.trans b.but, fun c n => a.free c (b.free c n), b.pool, fun c _ _ _ e => by
  obtain ⟨_, _, _, _, e2⟩ := b.cell c _ _ _ e
  exact a.cell c _ _ _ e2⟩
/-- an object that was not there at H is written -/
theorem Go.put {p q : Addr} {H H1 : Hp} {o : HO} (a : Go p H H1) (n : H q = none) (ne : p ≠ q) : Go p H (L2.upd H1 q o) := by
  obtain ⟨c, xs, b, g, s, h1, h2, ok⟩ := a.pool
  have nc : c ≠ q := fun z => (a.cell _ _ _ _ h1).1 (z ▸ n)
  exact ⟨fun b u h e => at_upd (ne_of_none e n) (a.but b u h e), fun c z => a.free c (new_old z), ⟨c, xs, b, g, s, at_upd ne h1, at_upd nc h2, ok⟩, fun c' _ _ _ e => a.cell c' _ _ _ ((upd_ne ne).symm.trans e)⟩
theorem Go.new {p q : Addr} {H H1 : Hp} {o : HO} (a : Go p H H1) (n : H1 q = none) : Go p H (L2.upd H1 q o) := a.put (a.free _ n) (a.pool.ne n)
theorem Go.at {p q : Addr} {H H1 : Hp} {o : HO} (a : Go p H H1) (h : H q = some o) (n : q ≠ p) : H1 q = some o := a.but q o n h
theorem Go.seqT {p a : Addr} {H H1 : Hp} {xs : List V} {K : PySem.W.Frag} (g : Go p H H1) (hp : PoolAt H p) (h : SqT K H a xs) : SqT K H1 a xs := g.but.seqT hp.isL h
theorem Go.of_same {p : Addr} {H H' : Hp} (hp : PoolAt H p) (s : Same H H') : Go p H H' := by
  obtain ⟨c, xs, b, g, sd, h1, h2, ok⟩ := hp
  refine ⟨But.of_same s, fun b n => new_of_same s n, ⟨c, xs, b, g, sd, s _ _ h1, s _ _ h2, ok⟩, fun c' _ _ _ e => ?_⟩
  have e2 := Option.some.inj (e.symm.trans (s _ _ h1))
  have e4 : c' = c := V.ref.inj (List.cons.inj (HO.lst.inj e2)).1
  subst e4
  exact ⟨(fun z => by rw [z] at h2; cases h2), _, _, _, h1⟩
theorem PoolAt.keep {p : Addr} {H H' : Hp} (h : PoolAt H p) (k : ∀ a xs, H a = some (.lst xs) → H' a = some (.lst xs)) : PoolAt H' p := by
  obtain ⟨c, xs, b, g, sd, h1, h2, ok⟩ := h
  exact ⟨c, xs, b, g, sd, k _ _ h1, k _ _ h2, ok⟩
def spBox (K : PySem.W.Frag) : Sp := fun vs H Q _ => ∃ (a : Addr) (ns : List Int), vs = [.ref a] ∧ SqL K H a (ns.map V.int) ∧ ns.length ≤ 63 ∧
  ∀ (p : Addr) (H' : Hp), Same H H' → H p = none → PoolAt H' p → Q (.ref p) H'
def spDraw : Sp := fun vs H Q _ => ∃ (p : Addr) (many : Int), vs = [.ref p, .int many] ∧ 0 < many ∧ many < 1000000 ∧ PoolAt H p ∧
  ∀ (r : Int) (H' : Hp), 0 ≤ r → r < many → Go p H H' → Q (.int r) H'
/-- _law_draw, as it is used -/
theorem use_draw {H : Hp} {p : Addr} {many : Int} {Q : VK} {E : XK} (h : PoolAt H p) (m0 : 0 < many) (m1 : many < 1000000)
    (k : ∀ (r : Int) (H' : Hp), 0 ≤ r → r < many → Go p H H' → Q (.int r) H') : spDraw [.ref p, .int many] H Q E := ⟨p, many, rfl, m0, m1, h, k⟩
section
variable {P : Program} {w : World} {K : PySem.W.Frag} {mg : Str → Option Value} {base : Heap}
theorem ok_box {f : Addr} {fd : FuncData} (F : Fun K "_law_box" "_law_box" s__law_box f fd) (B : Bt mg) : FnG P w K mg base CX0 1 f fd ["_law_script"] (spBox K) := by
  refine fnG0 F sc__law_box (fun vs H Q E h => ?_) (fun cdv A outer s H vs Q E hr h => ?_)
  · obtain ⟨a, ns, rfl, _⟩ := h
    rfl
  · obtain ⟨a, ns, rfl, hs, hl, q⟩ := h
    have nd := sc__law_box.nd
    refine ⟨_, (pss_one (ps_ret (pe_lst (pa_cons (pe_lc (own := [("_law_cell", 1)]) rfl nd (ki_list K rfl (pe_slice (kSl K rfl) (pv 0) po_none (po_some pe_int))) (blkOk_by (own := [("_law_cell", 1)]) (N := nN__law_box) (sc := defScope s__law_box) (by decide +kernel)) (fun _ _ _ _ _ => (pg_name (i := 1) nd rfl (by first | exact Or.inl rfl | exact Or.inr rfl))) (fun _ _ _ _ _ => pts_nil) (fun _ _ _ _ _ => (pe_callB cAbs (by rfl) B.abs bb_abs (pa_cons (pv 1) pa_nil)))) (pa_cons pe_int (pa_cons pe_int (pa_cons pe_int pa_nil))))))), ?_⟩
    wtm_at "rd"
    refine rd_slL hs ?_
    intro t ft
    have ht := @upd_same H t (.lst (cutV (ns.map V.int) none (some 63)))
    have s1 := Same.new (o := .lst (cutV (ns.map V.int) none (some 63))) ft
    have e63 : cutV (ns.map V.int) none (some 63) = ns.map V.int := by
      unfold cutV HT.sIx
      simp only [Nat.sub_zero, List.drop_zero]
      rw [if_neg (by decide)]
      have : (ns.map V.int).length = ns.length := List.length_map _
      rw [List.take_of_length_le]
      rw [Nat.min_def]
      split <;> omega
    rw [e63] at ht s1 ⊢
    generalize upd H t (.lst (ns.map V.int)) = H1 at ht s1
    wtm_at "rd"
    refine rd_forL (SqL.of ht) ?_
    intro D fD
    refine lcL (K := K) (xs := ns.map V.int) (fun i H' => Same H1 H' ∧ H' D = some (.lst (((ns.take i).map fun z => (z.natAbs : Int)).map V.int))) ⟨Same.new fD, upd_same⟩ ?_ ?_ ?_
    · rintro i H' hi ⟨s, _⟩
      exact SqL.of (s _ _ ht)
    · rintro i y H' hy ⟨s, hD⟩
      obtain ⟨hi, rfl⟩ := map_at hy
      wtm_at "rd"
      refine rd_acc hD (by rw [List.length_map, List.length_map, List.length_take]; omega) ?_
      refine ⟨same_put s fD, ?_⟩
      rw [upd_same, show ns.take (i + 1) = ns.take i ++ [ns[i]] from by rw [List.take_succ, List.getElem?_eq_getElem hi]; rfl, List.map_append, List.map_append]
      rfl
    · rintro H2 ⟨s2, hD⟩
      rw [List.length_map, List.take_length] at hD
      wtm_at "rd"
      intro p fp
      have k := Same.new (o := srcO D 0 0 7) fp
      refine q p _ ((s1.trans s2).trans k) (new_of_same (s1.trans s2) fp) ⟨D, _, 0, 0, 7, upd_same, k _ _ hD, ⟨fun x hx => ?_, by decide, by decide, by decide, by decide⟩⟩
      obtain ⟨z, _, rfl⟩ := List.mem_map.mp hx
      omega
theorem ok_draw {f : Addr} {fd : FuncData} (F : Fun K "_law_draw" "_law_draw" s__law_draw f fd) (B : Bt mg) : FnG P w K mg base CX0 1 f fd ["_law_source", "_law_count"] spDraw := by
  refine fnG0 F sc__law_draw (fun vs H Q E h => ?_) (fun cdv A outer s H vs Q E hr h => ?_)
  · obtain ⟨p, many, rfl, _⟩ := h
    rfl
  · obtain ⟨p, many, rfl, m0, m1, hp, q⟩ := h
    have nd := sc__law_draw.nd
    have g0 := Go.refl hp
    obtain ⟨c, xs, pos, big, seed, h1, h2, ok⟩ := hp
    have ncp : c ≠ p := fun z => by
      subst z
      exact src_ne (Option.some.inj (h1.symm.trans h2))
    have set : ∀ {H1 : Hp} {pos' big' seed' pos2 big2 seed2 : Int}, Go p H H1 → H1 p = some (srcO c pos' big' seed') → H1 c = some (.lst (xs.map V.int)) → SrcOk xs pos2 big2 seed2 → Go p H (upd H1 p (srcO c pos2 big2 seed2)) ∧ upd H1 p (srcO c pos2 big2 seed2) p = some (srcO c pos2 big2 seed2) ∧ upd H1 p (srcO c pos2 big2 seed2) c = some (.lst (xs.map V.int)) := by
      intro H1 pos' big' seed' pos2 big2 seed2 g e1 e2 ok2
      refine ⟨⟨g.but.trans But.upd, fun b z => g.free b (new_old z), ⟨c, xs, _, _, _, upd_same, at_upd ncp e2, ok2⟩, fun c' _ _ _ e => ?_⟩, upd_same, at_upd ncp e2⟩
      rw [upd_same] at e
      have e4 : c = c' := V.ref.inj (List.cons.inj (HO.lst.inj (Option.some.inj e))).1
      subst e4
      exact g.cell c _ _ _ e1
    refine ⟨_, (C8.pss_cut (ps_if (PW.pt (pw_and (pt_cmpR (kEq K rfl hr.u64) (pe_ix (kIx K rfl) (pv 0) pe_int (fun _ _ => rfl)) pe_int (nomark _)) (pw_and1 (pt_cmpR uLt (pe_ix (kIx K rfl) (pv 0) pe_int (fun _ _ => rfl)) (pe_callB (kLen K rfl) (by rfl) B.len bb_len (pa_cons (pe_ix (kIx K rfl) (pv 0) pe_int (fun _ _ => rfl)) pa_nil)) (nomark _))))) (pss_cons (ps_set (i := 2) nd rfl (by first | exact Or.inl rfl | exact Or.inr rfl) (pe_ix (kIx K rfl) (pe_ix (kIx K rfl) (pv 0) pe_int (fun _ _ => rfl)) (pe_ix (kIx K rfl) (pv 0) pe_int (fun _ _ => rfl)) (fun _ _ => rfl)))
  (pss_cons (ps_asg (pe_op (kAdd K rfl) (pe_ix (kIx K rfl) (pv 0) pe_int (fun _ _ => rfl)) pe_int) (pg_sub (pv 0) pe_int set_list))
  (pss_one (ps_if (pt_cmpR uGe (pv 2) (pe_op uPow pe_int pe_int) (nomark _)) (pss_one (ps_asg (pv 2) (pg_sub (pv 0) pe_int set_list))) (pss_one (ps_asg (pe_op uMod (pe_op (kAdd K rfl) (pe_op uMul (pe_ix (kIx K rfl) (pv 0) pe_int (fun _ _ => rfl)) pe_int) (pv 2)) pe_int) (pg_sub (pv 0) pe_int set_list))))))) pss_nil)
  (pss_cons (ps_if (pt_cmpR uGt (pe_ix (kIx K rfl) (pv 0) pe_int (fun _ _ => rfl)) pe_int (nomark _)) (pss_cons (ps_set (i := 3) nd rfl (by first | exact Or.inl rfl | exact Or.inr rfl) (pe_op uMod (pe_ix (kIx K rfl) (pv 0) pe_int (fun _ _ => rfl)) (pv 1)))
  (pss_cons (ps_asg (pe_op uDiv (pe_ix (kIx K rfl) (pv 0) pe_int (fun _ _ => rfl)) (pv 1)) (pg_sub (pv 0) pe_int set_list))
  (pss_one (ps_ret (pv 3))))) pss_nil)
  (pss_cons (ps_asg (pe_op uMod (pe_op (kAdd K rfl) (pe_op uMul (pe_ix (kIx K rfl) (pv 0) pe_int (fun _ _ => rfl)) pe_int) pe_int) pe_int) (pg_sub (pv 0) pe_int set_list))
  (pss_one (ps_ret (pe_op uMod (pe_op uMod (pe_op uMul (pe_ix (kIx K rfl) (pv 0) pe_int (fun _ _ => rfl)) pe_int) pe_int) (pv 1))))))), ?_⟩
    refine ⟨fun σ' H' => ∃ (u2 u3 : Option V) (pos big seed : Int), σ' = [some (.ref p), some (.int many), u2, u3] ∧ Go p H H' ∧ H' p = some (srcO c pos big seed) ∧ H' c = some (.lst (xs.map V.int)) ∧ SrcOk xs pos big seed, ?_, ?_⟩
    · wtm_at "rd"
      refine rd_ixL (SqL.of h1) rfl ?_
      wtm_at "rd"
      refine rd_split (fun c1 => ?_) (fun c1 => ?_)
      · wtm_at "rd"
        refine rd_ixL (SqL.of h1) rfl ?_
        wtm_at "rd"
        refine rd_ixL (SqL.of h1) rfl ?_
        wtm_at "rd"
        refine rd_lenL (SqL.of h2) ?_
        rw [List.length_map]
        wtm_at "rd"
        refine rd_split (fun c2 => ?_) (fun c2 => ?_)
        · obtain ⟨k, rfl⟩ : ∃ k : Nat, pos = (k : Int) := ⟨pos.toNat, by have := ok.pos; omega⟩
          have hk : k < xs.length := by omega
          wtm_at "rd"
          refine rd_ixL (SqL.of h1) rfl ?_
          wtm_at "rd"
          refine rd_ixL (SqL.of h1) rfl ?_
          refine rd_ixL (SqL.of h2) (v := .int xs[k]) (atI_nat (by rw [List.getElem?_map, List.getElem?_eq_getElem hk]; rfl)) ?_
          have x0 := ok.xs _ (List.getElem_mem hk)
          generalize xs[k] = x at *
          wtm_at "rd"
          refine rd_ixL (SqL.of h1) rfl ?_
          wtm_at "rd"
          refine rd_setL h1 rfl ?_
          obtain ⟨g1, e1, e2⟩ := set (pos2 := (k : Int) + 1) (big2 := big) (seed2 := seed) g0 h1 h2 ⟨ok.xs, by omega, ok.big, ok.s0, ok.s1⟩
          wtm_at "rd"
          refine rd_split (fun c3 => ?_) (fun c3 => ?_)
          · wtm_at "rd"
            refine rd_setL e1 rfl ?_
            obtain ⟨g3, e3, e4⟩ := set (pos2 := (k : Int) + 1) (big2 := x) (seed2 := seed) g1 e1 e2 ⟨ok.xs, by omega, x0, ok.s0, ok.s1⟩
            exact ⟨_, _, _, _, _, rfl, g3, e3, e4, ⟨ok.xs, by omega, x0, ok.s0, ok.s1⟩⟩
          · wtm_at "rd"
            refine rd_ixL (SqL.of e1) rfl ?_
            wtm_at "rd"
            refine rd_setL e1 rfl ?_
            obtain ⟨g3, e3, e4⟩ := set (pos2 := (k : Int) + 1) (big2 := big) (seed2 := (seed * 48271 + x) % 2147483647) g1 e1 e2 ⟨ok.xs, by omega, ok.big, by omega, by omega⟩
            exact ⟨_, _, _, _, _, rfl, g3, e3, e4, ⟨ok.xs, by omega, ok.big, by omega, by omega⟩⟩
        · wtm_at "rd"
          exact ⟨_, _, _, _, _, rfl, g0, h1, h2, ok⟩
      · wtm_at "rd"
        exact ⟨_, _, _, _, _, rfl, g0, h1, h2, ok⟩
    · rintro σ' H1 ⟨u2, u3, pos, big, seed, rfl, g1, e1, e2, ok⟩
      wtm_at "rd"
      refine rd_ixL (SqL.of e1) rfl ?_
      wtm_at "rd"
      refine rd_split (fun c1 => ?_) (fun c1 => ?_)
      · wtm_at "rd"
        refine rd_ixL (SqL.of e1) rfl ?_
        wtm_at "rd"
        refine rd_ixL (SqL.of e1) rfl ?_
        wtm_at "rd"
        refine rd_setL e1 rfl ?_
        wtm_at "rd"
        exact q _ _ (Int.emod_nonneg _ (by omega)) (Int.emod_lt_of_pos _ m0) (set g1 e1 e2 ⟨ok.xs, ok.pos, Int.ediv_nonneg ok.big (by omega), ok.s0, ok.s1⟩).1
      · wtm_at "rd"
        refine rd_ixL (SqL.of e1) rfl ?_
        wtm_at "rd"
        refine rd_setL e1 rfl ?_
        obtain ⟨g3, e3, e4⟩ := set (pos2 := pos) (big2 := big) (seed2 := (seed * 48271 + 11) % 2147483647) g1 e1 e2 ⟨ok.xs, ok.pos, ok.big, by omega, by omega⟩
        wtm_at "rd"
        refine rd_ixL (SqL.of e3) rfl ?_
        wtm_at "rd"
        exact q _ _ (Int.emod_nonneg _ (by omega)) (Int.emod_lt_of_pos _ m0) g3
end
end Law

/-! the names of a random problem -/
namespace U
open PySem PySem.Spec PyProof.Rows L2
def IsTail (s : Str) : Prop := s.length ≤ 7 ∧ ∀ c ∈ s.cps.toList, 97 ≤ c ∧ c ≤ 122
open SX in theorem tail_join {cs : List Nat} (hl : cs.length ≤ 7) (h : ∀ c ∈ cs, 97 ≤ c ∧ c ≤ 122) : IsTail (Txt.join ("" : Str) (cs.map fun c => ⟨#[c]⟩)) := by
  have e1 : (cs.map fun c => (⟨#[c]⟩ : Str)) = (cs.map fun c => [c]).map S := by
    rw [List.map_map]
    rfl
  have e2 : ∀ cs : List Nat, TL.joinL [] (cs.map fun c => [c]) = cs := by
    intro cs
    induction cs with
    | nil => rfl
    | cons a r ih =>
      cases r with
      | nil => rfl
      | cons b r => 
        show [a] ++ ([] ++ TL.joinL [] ((b :: r).map fun c => [c])) = _
        rw [ih]
        rfl
  have e3 : Txt.join ("" : Str) (cs.map fun c => ⟨#[c]⟩) = S cs := by
    rw [e1, show ("" : Str) = S [] from rfl, join_S, e2]
  rw [e3]
  exact ⟨by rw [S_len]; exact hl, by simpa [S] using h⟩
/-- a name of a random problem: the letter that tells it, in front or behind -/
def WdAt (front : Bool) (shift step : Int) (j : Nat) (w : Str) : Prop := ∃ t : Str, IsTail t ∧ w = if front = true then ⟨#[97 + (((j : Int) * step + shift) % 26).toNat]⟩ ++ t else t ++ ⟨#[97 + (((j : Int) * step + shift) % 26).toNat]⟩
theorem app_list {a b : Str} : (a ++ b).cps.toList = a.cps.toList ++ b.cps.toList := TL.tl_append a b
theorem WdAt.name {front : Bool} {shift step : Int} {j : Nat} {w : Str} (h : WdAt front shift step j w) : IsName w := by
  obtain ⟨t, ⟨tl, tc⟩, rfl⟩ := h
  have hc : 97 ≤ 97 + (((j : Int) * step + shift) % 26).toNat ∧ 97 + (((j : Int) * step + shift) % 26).toNat ≤ 122 := by omega
  generalize 97 + (((j : Int) * step + shift) % 26).toNat = c at hc
  have tl' : t.cps.toList.length ≤ 7 := by simpa [Str.length] using tl
  have len : ∀ z : Str, z.length = z.cps.toList.length := fun z => by simp [Str.length]
  split
  · refine ⟨?_, ?_, fun x hx => ?_⟩
    · rw [len, app_list, List.length_append]; show 1 ≤ 1 + _; omega
    · rw [len, app_list, List.length_append]; show 1 + _ ≤ 8; omega
    · rw [app_list] at hx
      rcases List.mem_append.mp hx with z | z
      · have : x = c := by simpa using z
        rw [this]; exact hc
      · exact tc x z
  · refine ⟨?_, ?_, fun x hx => ?_⟩
    · rw [len, app_list, List.length_append]; show 1 ≤ _ + 1; omega
    · rw [len, app_list, List.length_append]; show _ + 1 ≤ 8; omega
    · rw [app_list] at hx
      rcases List.mem_append.mp hx with z | z
      · exact tc x z
      · have : x = c := by simpa using z
        rw [this]; exact hc
theorem WdAt.inj {front : Bool} {shift step : Int} {j k : Nat} {w : Str} (hs : step = 7 ∨ step = 1 ∨ step = 3 ∨ step = 11) (hj : j < 26) (hk : k < 26) (a : WdAt front shift step j w) (b : WdAt front shift step k w) : j = k := by
  have core : 97 + (((j : Int) * step + shift) % 26).toNat = 97 + (((k : Int) * step + shift) % 26).toNat → j = k := by
    rcases hs with rfl | rfl | rfl | rfl <;> omega
  obtain ⟨t, _, e1⟩ := a
  obtain ⟨u, _, e2⟩ := b
  have e := e1.symm.trans e2
  apply core
  generalize 97 + (((j : Int) * step + shift) % 26).toNat = c at *
  generalize 97 + (((k : Int) * step + shift) % 26).toNat = d at *
  cases front with
  | true =>
    rw [if_pos rfl, if_pos rfl] at e
    have e3 := congrArg (fun z : Str => z.cps.toList) e
    simp only [app_list] at e3
    have : [c] ++ t.cps.toList = [d] ++ u.cps.toList := e3
    injection this
  | false =>
    rw [if_neg Bool.false_ne_true, if_neg Bool.false_ne_true] at e
    have e3 := congrArg (fun z : Str => z.cps.toList) e
    simp only [app_list] at e3
    have e4 : t.cps.toList ++ [c] = u.cps.toList ++ [d] := e3
    have e5 := congrArg List.getLast? e4
    simp only [List.getLast?_append, List.getLast?_singleton, Option.some_or] at e5
    exact Option.some.inj e5
/-- the words so far -/
structure Wds (front : Bool) (shift step : Int) (ws : List Str) : Prop where
  at_ : ∀ j (h : j < ws.length), WdAt front shift step j ws[j]
theorem Wds.nil {front : Bool} {shift step : Int} : Wds front shift step [] := ⟨fun j h => absurd h (Nat.not_lt_zero _)⟩
theorem Wds.snoc {front : Bool} {shift step : Int} {ws : List Str} {w : Str} (h : Wds front shift step ws) (k : WdAt front shift step ws.length w) : Wds front shift step (ws ++ [w]) := ⟨fun j hj => by
  rw [List.length_append, List.length_singleton] at hj
  by_cases z : j < ws.length
  · rw [List.getElem_append_left z]; exact h.at_ j z
  · obtain rfl : j = ws.length := by omega
    rw [List.getElem_append_right (Nat.le_refl _)]
    simpa using k⟩
theorem Wds.names {front : Bool} {shift step : Int} {ws : List Str} (h : Wds front shift step ws) (hs : step = 7 ∨ step = 1 ∨ step = 3 ∨ step = 11) (l : ws.length ≤ 26) : NamesU ws := by
  refine ⟨?_, fun y hy => ?_⟩
  · rw [List.nodup_iff_pairwise_ne, List.pairwise_iff_getElem]
    intro i j hi hj hij e
    have a := h.at_ i hi
    rw [e] at a
    have := WdAt.inj hs (by omega) (by omega) a (h.at_ j hj)
    omega
  · obtain ⟨j, hj, rfl⟩ := List.mem_iff_getElem.mp hy
    exact (h.at_ j hj).name
end U
namespace Law
open PySem PySem.Spec PyProof.Rows L2 U
local macro_rules | `(tactic| wtm_at "rd1") => `(tactic| first
  | with_reducible refine rd_seq ?_
  | ((with_reducible refine rd_var (v := ?vv) ?hv ?_); (case hv => exact rfl))
  | with_reducible refine rd_c ?_
  | with_reducible refine rd_cons ?_
  | with_reducible refine rd_nil ?_
  | with_reducible refine rd_op ?_
  | with_reducible refine rd_asg ?_
  | with_reducible refine rd_name ?_
  | with_reducible refine rd_c1 ?_
  | with_reducible refine rd_cb ?_
  | with_reducible refine rd_test ?_
  | with_reducible refine rd_B ?_
  | with_reducible refine rd_bl ?_
  | with_reducible refine rd_if ?_
  | with_reducible refine rd_ret ?_
  | with_reducible refine rd_drop ?_
  | with_reducible refine rd_next ?_
  | with_reducible refine rd_addI ?_
  | with_reducible refine rd_ltI ?_
  | with_reducible refine rd_eqI ?_
  | with_reducible refine rd_neI ?_
  | with_reducible refine rd_eqS ?_
  | with_reducible refine rd_neS ?_
  | with_reducible refine rd_gtI ?_
  | with_reducible refine rd_geI ?_
  | with_reducible refine rd_leI ?_
  | with_reducible refine rd_ltS ?_
  | with_reducible refine rd_subI ?_
  | ((with_reducible refine rd_modI ?hc ?_); (case hc => first | decide | omega))
  | ((with_reducible refine rd_mulI ?hc ?_); (case hc => first | exact mul_bI | exact .inl (.inr (by decide)) | exact .inl (.inl (by decide)) | exact .inl (.inr (by omega)) | exact .inl (.inl (by omega))))
  | ((with_reducible refine rd_divI ?hc ?_); (case hc => first | decide | omega))
  | ((with_reducible refine rd_powI ?hc ?_); (case hc => exact ⟨by decide, by decide, by decide⟩))
  | with_reducible refine rd_lst ?_
  | with_reducible refine rd_tup ?_
  | ((with_reducible refine rd_sz ?hv ?_); (case hv => exact rfl))
  | with_reducible refine rd_and ?_
  | with_reducible refine rd_or ?_
  | with_reducible refine rd_not ?_
  | with_reducible refine rd_andV ?_
  | with_reducible refine rd_orV ?_
  | with_reducible refine rd_notV ?_
  | with_reducible refine rd_ifE ?_
  | with_reducible refine rd_T ?_
  | with_reducible refine rd_F ?_
  | with_reducible refine rd_chain ?_
  | with_reducible refine rd_is ?_
  | with_reducible refine rd_isNot ?_
  | with_reducible refine rd_absI ?_
  | with_reducible refine rd_maxI ?_
  | with_reducible refine rd_minI ?_
  | with_reducible refine rd_intI ?_
  | with_reducible refine rd_intB ?_
  | with_reducible refine rd_sub ?_
  | with_reducible refine rd_sl ?_
  | with_reducible refine rd_noPart ?_
  | with_reducible refine rd_part ?_
  | with_reducible refine rd_exI ?_
  | with_reducible refine rd_bm ?_
  | with_reducible refine rd_bm0 ?_
  | with_reducible refine rd_un ?_
  | with_reducible refine rd_neg ?_
  | with_reducible refine rd_c2 ?_
  | with_reducible refine rd_retN ?_
  | with_reducible refine rd_break ?_
  | with_reducible refine rd_cont ?_
  | with_reducible refine rd_for ?_
  | with_reducible refine rd_rng1 ?_
  | with_reducible refine rd_rng2 ?_
  | with_reducible refine rd_iList ?_
  | with_reducible refine rd_iTup ?_
  | with_reducible refine rd_iEnum ?_
  | ((with_reducible refine rd_forR ?h0 ?h1 ?_); (case h0 => omega); (case h1 => omega))
  | with_reducible refine rd_lc ?_
  | with_reducible refine rd_gcons ?_
  | with_reducible refine rd_gnil ?_
  | with_reducible refine rd_dget ?_
  | with_reducible refine rd_dput ?_
  | with_reducible refine rd_dnew ?_
  | with_reducible refine rd_dc ?_
  | with_reducible refine rd_iItems ?_
  | with_reducible refine rd_iKeys ?_
  | with_reducible refine rd_din ?_
  | with_reducible refine rd_lc2 ?_
  | with_reducible refine rd_cd ?_
  | with_reducible refine rd_par ?_
  | with_reducible refine rd_two ?_
  | with_reducible refine rd_reprB ?_
  | with_reducible refine rd_ck ?_
  | ((with_reducible refine rd_len ?hl ?_); (case hl => exact rfl))
  | with_reducible refine rd_nT ?_
  | with_reducible refine rd_nF ?_
  | with_reducible refine rd_dnin ?_
  | with_reducible refine rd_isB ?_
  | with_reducible refine rd_isNotB ?_
  | with_reducible refine rd_daug ?_
  | with_reducible refine rd_yesT ?_
  | ((with_reducible refine rd_wp ?hw ?_); (case hw => exact rfl)))
local macro_rules | `(tactic| wtm_at "rd") => `(tactic| repeat wtm_at "rd1")

def spStem : Sp := fun vs H Q _ => ∃ p : Addr, vs = [.ref p] ∧ PoolAt H p ∧ ∀ (t : Str) (H' : Hp), Go p H H' → IsTail t → Q (.str t) H'
def spNamesB : Sp := fun vs H Q _ => ∃ (p : Addr) (many : Int), vs = [.ref p, .int many] ∧ 0 ≤ many ∧ many ≤ 26 ∧ PoolAt H p ∧
  ∀ (l : Addr) (ws : List Str) (H' : Hp), Go p H H' → H l = none → H' l = some (.lst (ws.map V.str)) → NamesU ws → ws.length = many.toNat → Q (.ref l) H'
theorem rd_join {K : PySem.W.Frag} {H : Hp} {Q : VK} {p : Addr} {cs : List Nat} (hp : SqL K H p ((cs.map fun c => (⟨#[c]⟩ : Str)).map V.str)) (hl : cs.length ≤ 100) (h : Q (.str (Txt.join ("" : Str) (cs.map fun c => ⟨#[c]⟩))) H) :
    ∃ a p', ∃ ys : List Str, V.str ("" : Str) = .str a ∧ [V.ref p] = [.ref p'] ∧ (SqL K H p' (ys.map V.str) ∨ SqT K H p' (ys.map V.str)) ∧ (ys.map (·.length)).sum + ys.length * a.length ≤ 16777216 ∧ Q (.str (Txt.join a ys)) H := by
  refine ⟨_, p, _, rfl, rfl, .inl hp, ?_, h⟩
  have e : ((cs.map fun c => (⟨#[c]⟩ : Str)).map (·.length)).sum = cs.length := by
    clear hp h hl
    induction cs with
    | nil => rfl
    | cons c r ih =>
      rw [List.map_cons, List.map_cons, List.sum_cons, ih, List.length_cons]
      show 1 + r.length = r.length + 1
      omega
  rw [e]
  show cs.length + (cs.map _).length * 0 ≤ 16777216
  omega
theorem rd_m1 {r : V → List V → Hp → VK → Prop} {to te : TE} {σ : L2.St} {H : Hp} {Q : VK} (h : to σ H fun x H1 => (∃ a, x = .str a) ∧ te σ H1 fun y H2 => r x [y] H2 Q) : tM1 r to te σ H Q := h
section
variable {P : Program} {w : World} {K : PySem.W.Frag} {mg : Str → Option Value} {base : Heap}
structure B2a (P : Program) (w : World) (K : PySem.W.Frag) (mg : Str → Option Value) (base : Heap) : Prop where
  _law_draw : Cal P w K mg base CX0 1 "_law_draw" spDraw
theorem ok_stem {f : Addr} {fd : FuncData} (F : Fun K "_law_stem" "_law_stem" s__law_stem f fd) (B : Bt mg) (C : B2a P w K mg base) : FnG P w K mg base CX0 2 f fd ["_law_source"] spStem := by
  refine fnG0 F sc__law_stem (fun vs H Q E h => ?_) (fun cdv A outer s H vs Q E hr h => ?_)
  · obtain ⟨p, rfl, _⟩ := h
    rfl
  · obtain ⟨p, rfl, hp, q⟩ := h
    have nd := sc__law_stem.nd
    refine ⟨_, (pss_one (ps_ret (pe_join pe_str (pe_lc (own := [("_law_k", 1)]) rfl nd (pi_range1 rfl B.range (pa_cons (pe_c C._law_draw hr (by decide) rfl (pa_cons (pv 0) (pa_cons pe_int pa_nil))) pa_nil)) (blkOk_by (own := [("_law_k", 1)]) (N := nN__law_stem) (sc := defScope s__law_stem) (by decide +kernel)) (fun _ _ _ _ _ => (pg_name (i := 1) nd rfl (by first | exact Or.inl rfl | exact Or.inr rfl))) (fun _ _ _ _ _ => pts_nil) (fun _ _ _ _ _ => (pe_ix (kIx K rfl) pe_str (pe_c C._law_draw hr (by decide) rfl (pa_cons (pv 0) (pa_cons pe_int pa_nil))) (fun _ _ => rfl))))))), ?_⟩
    wtm_at "rd"
    refine rd_m1 ?_
    wtm_at "rd"
    refine ⟨⟨_, rfl⟩, ?_⟩
    wtm_at "rd"
    refine use_draw hp (by decide) (by decide) fun r H1 r0 r1 g1 => ?_
    wtm_at "rd"
    intro D fD
    have npD := g1.pool.ne fD
    have fD0 := g1.free _ fD
    refine lcR (fun i H' => ∃ cs : List Nat, cs.length = i ∧ (∀ c ∈ cs, 97 ≤ c ∧ c ≤ 122) ∧ Go p H H' ∧ H' D = some (.lst ((cs.map fun c => (⟨#[c]⟩ : Str)).map V.str))) ⟨[], rfl, (fun c h => nomatch h), g1.new fD, upd_same⟩ ?_ ?_
    · rintro i H' hi ⟨cs, rfl, hc, g, hD⟩
      wtm_at "rd"
      refine use_draw g.pool (by decide) (by decide) fun d H2 d0 d1 g2 => ?_
      refine rd_ixS letters_len (letters_at d0 d1) ?_
      have hD2 := g2.at hD (Ne.symm npD)
      refine rd_acc hD2 (by rw [List.length_map, List.length_map]; omega) ?_
      refine ⟨cs ++ [97 + d.toNat], by rw [List.length_append]; rfl, fun c h => ?_, (g.trans g2).put fD0 npD, ?_⟩
      · rcases List.mem_append.mp h with h | h
        · exact hc c h
        · rw [List.mem_singleton] at h
          omega
      · rw [upd_same, List.map_append, List.map_append]
        rfl
    · rintro H' ⟨cs, hl, hc, g, hD⟩
      refine rd_join (SqL.of hD) (by omega) ?_
      wtm_at "rd"
      exact q _ _ g (tail_join (by omega) hc)
structure B2b (P : Program) (w : World) (K : PySem.W.Frag) (mg : Str → Option Value) (base : Heap) : Prop where
  _law_draw : Cal P w K mg base CX0 1 "_law_draw" spDraw
  _law_stem : Cal P w K mg base CX0 2 "_law_stem" spStem
theorem ok_namesB {f : Addr} {fd : FuncData} (F : Fun K "_law_random_names" "_law_random_names" s__law_random_names f fd) (B : Bt mg) (C : B2b P w K mg base) : FnG P w K mg base CX0 3 f fd ["_law_source", "_law_count"] spNamesB := by
  refine fnG0 F sc__law_random_names (fun vs H Q E h => ?_) (fun cdv A outer s H vs Q E hr h => ?_)
  · obtain ⟨p, many, rfl, _⟩ := h
    rfl
  · obtain ⟨p, many, rfl, m0, m1, hp, q⟩ := h
    have nd := sc__law_random_names.nd
    refine ⟨_, (pss_cons (ps_set (i := 2) nd rfl (by first | exact Or.inl rfl | exact Or.inr rfl) (pe_c C._law_draw hr (by decide) rfl (pa_cons (pv 0) (pa_cons pe_int pa_nil))))
  (pss_cons (ps_set (i := 3) nd rfl (by first | exact Or.inl rfl | exact Or.inr rfl) (pe_c C._law_draw hr (by decide) rfl (pa_cons (pv 0) (pa_cons pe_int pa_nil))))
  (pss_cons (ps_set (i := 4) nd rfl (by first | exact Or.inl rfl | exact Or.inr rfl) (pe_c C._law_draw hr (by decide) rfl (pa_cons (pv 0) (pa_cons pe_int pa_nil))))
  (pss_cons (ps_set (i := 5) nd rfl (by first | exact Or.inl rfl | exact Or.inr rfl) (pe_ix (kIx K rfl) (pe_lst (pa_cons pe_int (pa_cons pe_int (pa_cons pe_int (pa_cons pe_int pa_nil))))) (pe_c C._law_draw hr (by decide) rfl (pa_cons (pv 0) (pa_cons pe_int pa_nil))) (fun _ _ => rfl)))
  (pss_cons (ps_set (i := 6) nd rfl (by first | exact Or.inl rfl | exact Or.inr rfl) (pe_c C._law_stem hr (by decide) rfl (pa_cons (pv 0) pa_nil)))
  (pss_cons (ps_set (i := 7) nd rfl (by first | exact Or.inl rfl | exact Or.inr rfl) (pe_lst pa_nil))
  (pss_cons (ps_for PassesOwn.never rfl (pi_range1 rfl B.range (pa_cons (pv 1) pa_nil)) (pg_name (i := 8) nd rfl (by first | exact Or.inl rfl | exact Or.inr rfl)) (C8.pss_cut (ps_if (pt_cmpR uGt (pv 3) pe_int (nomark _)) (pss_one (ps_set (i := 6) nd rfl (by first | exact Or.inl rfl | exact Or.inr rfl) (pe_c C._law_stem hr (by decide) rfl (pa_cons (pv 0) pa_nil)))) pss_nil)
  (pss_cons (ps_set (i := 9) nd rfl (by first | exact Or.inl rfl | exact Or.inr rfl) (pe_ix (kIx K rfl) pe_str (pe_op uMod (pe_op (kAdd K rfl) (pe_op uMul (pv 8) (pv 5)) (pv 4)) pe_int) (fun _ _ => rfl)))
  (pss_one (ps_expr (pe_bm PySem.F.plainAttrs_list PySem.F.slot_list_append PySem.F.type_list_append mt_append (pv 7) (pa_cons (pe_ifExp (pt_cmpR (kEq K rfl hr.u64) (pv 2) pe_int (nomark _)) (pe_op (kAdd K rfl) (pv 9) (pv 6)) (pe_op (kAdd K rfl) (pv 6) (pv 9))) pa_nil)))))))
  (pss_one (ps_ret (pv 7)))))))))), ?_⟩
    wtm_at "rd"
    refine use_draw hp (by decide) (by decide) fun b H1 b0 b1 g1 => ?_
    wtm_at "rd"
    refine use_draw g1.pool (by decide) (by decide) fun alike H2 a0 a1 g => ?_
    have g2 := g1.trans g
    clear g g1
    wtm_at "rd"
    refine use_draw g2.pool (by decide) (by decide) fun shift H3 s0 s1 g => ?_
    have g3 := g2.trans g
    clear g g2
    wtm_at "rd"
    intro t ft
    have g4 := g3.new (o := .lst [.int 7, .int 1, .int 3, .int 11]) ft
    wtm_at "rd"
    refine use_draw g4.pool (by decide) (by decide) fun r H5 r0 r1 g => ?_
    have ht := g.at upd_same (g3.pool.ne ft).symm
    have g5 := g4.trans g
    clear g g4
    obtain ⟨step, hst, ist⟩ := pick4 (a := 7) (b := 1) (c := 3) (d := 11) r0 r1
    refine rd_ixL (SqL.of ht) hst ?_
    wtm_at "rd"
    refine ⟨p, rfl, g5.pool, fun t0 H6 g it0 => ?_⟩
    have g6 := g5.trans g
    clear g g5 g3 ht
    wtm_at "rd"
    intro l fl
    have npl := g6.pool.ne fl
    have fl0 := g6.free _ fl
    have g7 := g6.new (o := .lst []) fl
    wtm_at "rd"
    refine turnsR (fun i σ H' => ∃ (t : Str) (u8 u9 : Option V) (ws : List Str), σ = [some (.ref p), some (.int many), some (.int b), some (.int alike), some (.int shift), some (.int step), some (.str t), some (.ref l), u8, u9] ∧ IsTail t ∧ ws.length = i ∧ Wds (decide (b = 0)) shift step ws ∧ Go p H H' ∧ H' l = some (.lst (ws.map V.str))) ⟨t0, _, _, [], rfl, it0, rfl, Wds.nil, g7, upd_same⟩ ?_ ?_
    · rintro i σ H' hi ⟨t, u8, u9, ws, rfl, it, hwl, wd, g, hl⟩
      wtm_at "rd"
      refine ⟨fun σ' H2 => ∃ (t : Str) (u9 : Option V), σ' = [some (.ref p), some (.int many), some (.int b), some (.int alike), some (.int shift), some (.int step), some (.str t), some (.ref l), some (.int (0 + (i : Int))), u9] ∧ IsTail t ∧ Go p H H2 ∧ H2 l = some (.lst (ws.map V.str)), ?_, ?_⟩
      · wtm_at "rd"
        refine rd_split (fun c => ?_) (fun c => ?_)
        · wtm_at "rd"
          refine ⟨p, rfl, g.pool, fun t2 H2 g2 it2 => ?_⟩
          wtm_at "rd"
          exact ⟨t2, _, rfl, it2, g.trans g2, g2.at hl (Ne.symm npl)⟩
        · wtm_at "rd"
          exact ⟨t, _, rfl, it, g, hl⟩
      rintro σ' H2 ⟨t, u9, rfl, it, g, hl⟩
      have ir : 0 ≤ ((0 + (i : Int)) * step + shift) % 26 ∧ ((0 + (i : Int)) * step + shift) % 26 < 26 := by omega
      have e0 : 97 + (((0 + (i : Int)) * step + shift) % 26).toNat = 97 + (((ws.length : Int) * step + shift) % 26).toNat := by rw [hwl, Int.zero_add]
      wtm_at "rd"
      refine rd_ixS letters_len (letters_at ir.1 ir.2) ?_
      rw [e0]
      have tl := it.1
      have fin : ∀ z : Str, WdAt (decide (b = 0)) shift step ws.length z → Go p H (upd H2 l (.lst (ws.map V.str ++ [.str z]))) ∧ upd H2 l (.lst (ws.map V.str ++ [.str z])) l = some (.lst ((ws ++ [z]).map V.str)) ∧ Wds (decide (b = 0)) shift step (ws ++ [z]) := fun z hz =>
        ⟨g.put fl0 npl, by rw [upd_same, List.map_append]; rfl, wd.snoc hz⟩
      wtm_at "rd"
      refine rd_tyL hl ?_
      wtm_at "rd"
      generalize hch : (⟨#[97 + (((ws.length : Int) * step + shift) % 26).toNat]⟩ : Str) = ch
      have chl : ch.length = 1 := by rw [← hch]; rfl
      refine rd_split (fun c => ?_) (fun c => ?_)
      · wtm_at "rd"
        refine rd_addS (Nat.le_trans (Nat.add_le_add (Nat.le_of_eq chl) tl) (by decide)) ?_
        wtm_at "rd"
        refine rd_append hl (by rw [List.length_map]; omega) ?_
        obtain ⟨f1, f2, f3⟩ := fin (ch ++ t) ⟨t, it, by rw [decide_eq_true c, if_pos rfl, hch]⟩
        exact ⟨t, _, _, _, rfl, it, by rw [List.length_append, hwl]; rfl, f3, f1, f2⟩
      · wtm_at "rd"
        refine rd_addS (Nat.le_trans (Nat.add_le_add tl (Nat.le_of_eq chl)) (by decide)) ?_
        wtm_at "rd"
        refine rd_append hl (by rw [List.length_map]; omega) ?_
        obtain ⟨f1, f2, f3⟩ := fin (t ++ ch) ⟨t, it, by rw [decide_eq_false c, if_neg Bool.false_ne_true, hch]⟩
        exact ⟨t, _, _, _, rfl, it, by rw [List.length_append, hwl]; rfl, f3, f1, f2⟩
    · rintro σ H' ⟨t, u8, u9, ws, rfl, it, hwl, wd, g, hl⟩
      wtm_at "rd"
      exact q l ws H' g fl0 hl (wd.names ist (by omega)) hwl
end
end Law

namespace Law
open PySem PySem.Spec PyProof.Rows L2 U
local macro_rules | `(tactic| wtm_at "rd1") => `(tactic| first
  | with_reducible refine rd_seq ?_
  | ((with_reducible refine rd_var (v := ?vv) ?hv ?_); (case hv => exact rfl))
  | with_reducible refine rd_c ?_
  | with_reducible refine rd_cons ?_
  | with_reducible refine rd_nil ?_
  | with_reducible refine rd_op ?_
  | with_reducible refine rd_asg ?_
  | with_reducible refine rd_name ?_
  | with_reducible refine rd_c1 ?_
  | with_reducible refine rd_cb ?_
  | with_reducible refine rd_test ?_
  | with_reducible refine rd_B ?_
  | with_reducible refine rd_bl ?_
  | with_reducible refine rd_if ?_
  | with_reducible refine rd_ret ?_
  | with_reducible refine rd_drop ?_
  | with_reducible refine rd_next ?_
  | with_reducible refine rd_addI ?_
  | with_reducible refine rd_ltI ?_
  | with_reducible refine rd_eqI ?_
  | with_reducible refine rd_neI ?_
  | with_reducible refine rd_eqS ?_
  | with_reducible refine rd_neS ?_
  | with_reducible refine rd_gtI ?_
  | with_reducible refine rd_geI ?_
  | with_reducible refine rd_leI ?_
  | with_reducible refine rd_ltS ?_
  | with_reducible refine rd_subI ?_
  | ((with_reducible refine rd_modI ?hc ?_); (case hc => first | decide | omega))
  | ((with_reducible refine rd_mulI ?hc ?_); (case hc => first | exact mul_bI | exact .inl (.inr (by decide)) | exact .inl (.inl (by decide)) | exact .inl (.inr (by omega)) | exact .inl (.inl (by omega))))
  | ((with_reducible refine rd_divI ?hc ?_); (case hc => first | decide | omega))
  | ((with_reducible refine rd_powI ?hc ?_); (case hc => exact ⟨by decide, by decide, by decide⟩))
  | with_reducible refine rd_lst ?_
  | with_reducible refine rd_tup ?_
  | ((with_reducible refine rd_sz ?hv ?_); (case hv => exact rfl))
  | with_reducible refine rd_and ?_
  | with_reducible refine rd_or ?_
  | with_reducible refine rd_not ?_
  | with_reducible refine rd_andV ?_
  | with_reducible refine rd_orV ?_
  | with_reducible refine rd_notV ?_
  | with_reducible refine rd_ifE ?_
  | with_reducible refine rd_T ?_
  | with_reducible refine rd_F ?_
  | with_reducible refine rd_chain ?_
  | with_reducible refine rd_is ?_
  | with_reducible refine rd_isNot ?_
  | with_reducible refine rd_absI ?_
  | with_reducible refine rd_maxI ?_
  | with_reducible refine rd_minI ?_
  | with_reducible refine rd_intI ?_
  | with_reducible refine rd_intB ?_
  | with_reducible refine rd_sub ?_
  | with_reducible refine rd_sl ?_
  | with_reducible refine rd_noPart ?_
  | with_reducible refine rd_part ?_
  | with_reducible refine rd_exI ?_
  | with_reducible refine rd_bm ?_
  | with_reducible refine rd_bm0 ?_
  | with_reducible refine rd_un ?_
  | with_reducible refine rd_neg ?_
  | with_reducible refine rd_c2 ?_
  | with_reducible refine rd_retN ?_
  | with_reducible refine rd_break ?_
  | with_reducible refine rd_cont ?_
  | with_reducible refine rd_for ?_
  | with_reducible refine rd_rng1 ?_
  | with_reducible refine rd_rng2 ?_
  | with_reducible refine rd_iList ?_
  | with_reducible refine rd_iTup ?_
  | with_reducible refine rd_iEnum ?_
  | ((with_reducible refine rd_forR ?h0 ?h1 ?_); (case h0 => omega); (case h1 => omega))
  | with_reducible refine rd_lc ?_
  | with_reducible refine rd_gcons ?_
  | with_reducible refine rd_gnil ?_
  | with_reducible refine rd_dget ?_
  | with_reducible refine rd_dput ?_
  | with_reducible refine rd_dnew ?_
  | with_reducible refine rd_dc ?_
  | with_reducible refine rd_iItems ?_
  | with_reducible refine rd_iKeys ?_
  | with_reducible refine rd_din ?_
  | with_reducible refine rd_par ?_
  | with_reducible refine rd_two ?_
  | with_reducible refine rd_reprB ?_
  | with_reducible refine rd_ck ?_
  | ((with_reducible refine rd_len ?hl ?_); (case hl => exact rfl))
  | with_reducible refine rd_nT ?_
  | with_reducible refine rd_nF ?_
  | with_reducible refine rd_dnin ?_
  | with_reducible refine rd_isB ?_
  | with_reducible refine rd_isNotB ?_
  | with_reducible refine rd_daug ?_
  | with_reducible refine rd_yesT ?_
  | ((with_reducible refine rd_wp ?hw ?_); (case hw => exact rfl)))
local macro_rules | `(tactic| wtm_at "rd") => `(tactic| repeat wtm_at "rd1")

section
variable {P : Program} {w : World} {K : PySem.W.Frag} {mg : Str → Option Value} {base : Heap}
end
end Law

namespace Law
open PySem PySem.Spec PyProof.Rows L2 U
local macro_rules | `(tactic| wtm_at "rd1") => `(tactic| first
  | with_reducible refine rd_seq ?_
  | ((with_reducible refine rd_var (v := ?vv) ?hv ?_); (case hv => exact rfl))
  | with_reducible refine rd_c ?_
  | with_reducible refine rd_cons ?_
  | with_reducible refine rd_nil ?_
  | with_reducible refine rd_op ?_
  | with_reducible refine rd_asg ?_
  | with_reducible refine rd_name ?_
  | with_reducible refine rd_c1 ?_
  | with_reducible refine rd_cb ?_
  | with_reducible refine rd_test ?_
  | with_reducible refine rd_B ?_
  | with_reducible refine rd_bl ?_
  | with_reducible refine rd_if ?_
  | with_reducible refine rd_ret ?_
  | with_reducible refine rd_drop ?_
  | with_reducible refine rd_next ?_
  | with_reducible refine rd_addI ?_
  | with_reducible refine rd_ltI ?_
  | with_reducible refine rd_eqI ?_
  | with_reducible refine rd_neI ?_
  | with_reducible refine rd_eqS ?_
  | with_reducible refine rd_neS ?_
  | with_reducible refine rd_gtI ?_
  | with_reducible refine rd_geI ?_
  | with_reducible refine rd_leI ?_
  | with_reducible refine rd_ltS ?_
  | with_reducible refine rd_subI ?_
  | ((with_reducible refine rd_modI ?hc ?_); (case hc => first | decide | omega))
  | ((with_reducible refine rd_mulI ?hc ?_); (case hc => first | exact mul_bI | exact .inl (.inr (by decide)) | exact .inl (.inl (by decide)) | exact .inl (.inr (by omega)) | exact .inl (.inl (by omega))))
  | ((with_reducible refine rd_divI ?hc ?_); (case hc => first | decide | omega))
  | ((with_reducible refine rd_powI ?hc ?_); (case hc => exact ⟨by decide, by decide, by decide⟩))
  | with_reducible refine rd_lst ?_
  | with_reducible refine rd_tup ?_
  | ((with_reducible refine rd_sz ?hv ?_); (case hv => exact rfl))
  | with_reducible refine rd_and ?_
  | with_reducible refine rd_or ?_
  | with_reducible refine rd_not ?_
  | with_reducible refine rd_andV ?_
  | with_reducible refine rd_orV ?_
  | with_reducible refine rd_notV ?_
  | with_reducible refine rd_ifE ?_
  | with_reducible refine rd_T ?_
  | with_reducible refine rd_F ?_
  | with_reducible refine rd_chain ?_
  | with_reducible refine rd_is ?_
  | with_reducible refine rd_isNot ?_
  | with_reducible refine rd_absI ?_
  | with_reducible refine rd_maxI ?_
  | with_reducible refine rd_minI ?_
  | with_reducible refine rd_intI ?_
  | with_reducible refine rd_intB ?_
  | with_reducible refine rd_sub ?_
  | with_reducible refine rd_sl ?_
  | with_reducible refine rd_noPart ?_
  | with_reducible refine rd_part ?_
  | with_reducible refine rd_exI ?_
  | with_reducible refine rd_bm ?_
  | with_reducible refine rd_bm0 ?_
  | with_reducible refine rd_un ?_
  | with_reducible refine rd_neg ?_
  | with_reducible refine rd_c2 ?_
  | with_reducible refine rd_retN ?_
  | with_reducible refine rd_break ?_
  | with_reducible refine rd_cont ?_
  | with_reducible refine rd_for ?_
  | with_reducible refine rd_rng1 ?_
  | with_reducible refine rd_rng2 ?_
  | with_reducible refine rd_iList ?_
  | with_reducible refine rd_iTup ?_
  | with_reducible refine rd_iEnum ?_
  | ((with_reducible refine rd_forR ?h0 ?h1 ?_); (case h0 => omega); (case h1 => omega))
  | with_reducible refine rd_lc ?_
  | with_reducible refine rd_gcons ?_
  | with_reducible refine rd_gnil ?_
  | with_reducible refine rd_dget ?_
  | with_reducible refine rd_dput ?_
  | with_reducible refine rd_dnew ?_
  | with_reducible refine rd_dc ?_
  | with_reducible refine rd_iItems ?_
  | with_reducible refine rd_iKeys ?_
  | with_reducible refine rd_din ?_
  | with_reducible refine rd_par ?_
  | with_reducible refine rd_two ?_
  | with_reducible refine rd_reprB ?_
  | with_reducible refine rd_ck ?_
  | ((with_reducible refine rd_len ?hl ?_); (case hl => exact rfl))
  | with_reducible refine rd_nT ?_
  | with_reducible refine rd_nF ?_
  | with_reducible refine rd_dnin ?_
  | with_reducible refine rd_isB ?_
  | with_reducible refine rd_isNotB ?_
  | with_reducible refine rd_daug ?_
  | with_reducible refine rd_yesT ?_
  | ((with_reducible refine rd_wp ?hw ?_); (case hw => exact rfl)))
local macro_rules | `(tactic| wtm_at "rd") => `(tactic| repeat wtm_at "rd1")

theorem PoolAt.offT {H : Hp} {p q : Addr} {xs : List V} (h : PoolAt H p) (hq : H q = some (.tup xs)) : q ≠ p := by
  rintro rfl
  obtain ⟨ys, h⟩ := h.isL
  rw [hq] at h
  cases h
theorem PoolAt.offD {H : Hp} {p q : Addr} {xs : List (Key × V)} (h : PoolAt H p) (hq : H q = some (.dK xs)) : q ≠ p := by
  rintro rfl
  obtain ⟨ys, h⟩ := h.isL
  rw [hq] at h
  cases h
/-- what stays while edges are found -/
structure GK (H : Hp) (p or st ed : Addr) (ord : List Str) (ws : List (Str × Int)) (es : List (Addr × Str × Str)) (H' : Hp) : Prop where
  go : Go p H H'
  ho : H' or = some (.lst (ord.map V.str))
  hs : H' st = some (.dK (kvsOf ws))
  he : H' ed = some (.lst (es.map fun x => V.ref x.1))
  pr : ∀ x ∈ es, H' x.1 = some (.tup [.str x.2.1, .str x.2.2])
theorem GK.new {H H' : Hp} {p or st ed t : Addr} {ord : List Str} {ws : List (Str × Int)} {es : List (Addr × Str × Str)} {o : HO} (h : GK H p or st ed ord ws es H') (n : H' t = none) : GK H p or st ed ord ws es (upd H' t o) :=
  ⟨h.go.new n, at_upd (ne_of_none h.ho n) h.ho, at_upd (ne_of_none h.hs n) h.hs, at_upd (ne_of_none h.he n) h.he, fun x hx => at_upd (ne_of_none (h.pr x hx) n) (h.pr x hx)⟩
theorem GK.step {H H' H2 : Hp} {p or st ed : Addr} {ord : List Str} {ws : List (Str × Int)} {es : List (Addr × Str × Str)} (h : GK H p or st ed ord ws es H') (no : or ≠ p) (ne : ed ≠ p) (g : Go p H' H2) : GK H p or st ed ord ws es H2 :=
  ⟨h.go.trans g, g.at h.ho no, g.at h.hs (h.go.pool.offD h.hs), g.at h.he ne, fun x hx => g.at (h.pr x hx) (h.go.pool.offT (h.pr x hx))⟩
theorem GK.add {H H' : Hp} {p or st ed t : Addr} {ord : List Str} {ws : List (Str × Int)} {es : List (Addr × Str × Str)} {e : Str × Str} (h : GK H p or st ed ord ws es H') (hf : H ed = none) (ne : ed ≠ p) (noe : or ≠ ed)
    (ht : H' t = some (.tup [.str e.1, .str e.2])) : GK H p or st ed ord ws (es ++ [(t, e)]) (upd H' ed (.lst ((es.map fun x => V.ref x.1) ++ [.ref t]))) := by
  have nt : ∀ {b : Addr} {xs : List V}, H' b = some (.tup xs) → b ≠ ed := fun {b xs} hb => ne_of hb h.he (by intro z; cases z)
  refine ⟨h.go.put hf (Ne.symm ne), at_upd noe h.ho, at_upd (ne_of h.hs h.he (by intro z; cases z)) h.hs, ?_, ?_⟩
  · rw [upd_same, List.map_append]
    rfl
  · intro x hx
    rcases List.mem_append.mp hx with hx | hx
    · exact at_upd (nt (h.pr x hx)) (h.pr x hx)
    · have : x = (t, e) := by simpa using hx
      subst this
      exact at_upd (nt ht) ht
section
variable {P : Program} {w : World} {K : PySem.W.Frag} {mg : Str → Option Value} {base : Heap}
end
end Law

/-! lifts: the plain laws -/
namespace U
open PySem PySem.Spec PyProof.Rows L2
/-- the dict of numbers over ns, in that order -/
abbrev kvF (ns : List Str) (f : Str → Int) : List (Key × V) := ns.map fun n => (Sum.inr n, V.int (f n))
def updf (f : Str → Int) (n : Str) (v : Int) : Str → Int := fun m => if m = n then v else f m
theorem kvF_congr {ns : List Str} {f g : Str → Int} (h : ∀ n ∈ ns, f n = g n) : kvF ns f = kvF ns g := List.map_congr_left fun n hn => by rw [h n hn]
theorem kvF_val : ∀ {ns : List Str} {f : Str → Int} {n : Str}, n ∈ ns → valV (kvF ns f) (.inr n) = some (.int (f n))
  | m :: ns, f, n, h => by
    by_cases e : n = m
    · subst e
      rw [kvF, List.map_cons, valV_pos rfl]
    · have e' : ¬ (Sum.inr m : Key) = Sum.inr n := fun z => e (Sum.inr.inj z).symm
      rw [kvF, List.map_cons, valV_neg e']
      refine kvF_val ?_
      rcases List.mem_cons.mp h with z | z
      · exact absurd z e
      · exact z
theorem kvF_none : ∀ {ns : List Str} {f : Str → Int} {n : Str}, n ∉ ns → valV (kvF ns f) (.inr n) = none
  | [], _, _, _ => rfl
  | m :: ns, f, n, h => by
    have e' : ¬ (Sum.inr m : Key) = Sum.inr n := fun z => h (by rw [← Sum.inr.inj z]; exact List.mem_cons_self)
    rw [kvF, List.map_cons, valV_neg e']
    exact kvF_none fun z => h (List.mem_cons_of_mem _ z)
theorem kvF_put {ns : List Str} {f : Str → Int} {n : Str} {v : Int} (h : n ∈ ns) : putK (kvF ns f) (.inr n) (.int v) = kvF ns (updf f n v) := by
  unfold putK
  rw [if_pos]
  · rw [kvF, kvF, List.map_map]
    refine List.map_congr_left fun m _ => ?_
    show (if (Sum.inr m : Key) = Sum.inr n then ((Sum.inr m : Key), V.int v) else (Sum.inr m, V.int (f m))) = (Sum.inr m, V.int (updf f n v m))
    unfold updf
    by_cases e : m = n
    · rw [if_pos (by rw [e]), if_pos e]
    · rw [if_neg (fun z => e (Sum.inr.inj z)), if_neg e]
  · rw [valV_any, kvF_val h]
    rfl
theorem kvF_new {ns : List Str} {f : Str → Int} {n : Str} {v : Int} (h : n ∉ ns) : putK (kvF ns f) (.inr n) (.int v) = kvF (ns ++ [n]) (updf f n v) := by
  rw [putK_new _ (kvF_none h), kvF, kvF, List.map_append]
  congr 1
  · refine List.map_congr_left fun m hm => ?_
    unfold updf
    rw [if_neg (fun e => h (by rw [← e]; exact hm))]
  · show [((Sum.inr n : Key), V.int v)] = [(Sum.inr n, V.int (updf f n v n))]
    unfold updf
    rw [if_pos rfl]
/-! ### neighbours, moves -/
def nbrF (es : List (Str × Str)) (x : Str) : List Str := es.flatMap fun e => (if e.1 = x then [e.2] else []) ++ (if e.2 = x then [e.1] else [])
theorem mem_nbrF {es : List (Str × Str)} {x z : Str} : z ∈ nbrF es x ↔ (x, z) ∈ es ∨ (z, x) ∈ es := by
  unfold nbrF
  rw [List.mem_flatMap]
  constructor
  · rintro ⟨e, he, h⟩
    rcases List.mem_append.mp h with h | h
    · split at h
      · rename_i c
        have : z = e.2 := by simpa using h
        subst this
        subst c
        exact .inl he
      · cases h
    · split at h
      · rename_i c
        have : z = e.1 := by simpa using h
        subst this
        subst c
        exact .inr he
      · cases h
  · rintro (h | h)
    · exact ⟨_, h, by simp⟩
    · exact ⟨_, h, by simp⟩
def freeB (es : List (Str × Str)) (f : Str → Int) (n : Str) (v : Int) : Bool := !decide (v ∈ (nbrF es n).map f ++ [f n])
def movesOf (es : List (Str × Str)) (f : Str → Int) (n : Str) : List (Str × Int) := (([0, 1, 2] : List Int).filter (freeB es f n)).map fun v => (n, v)
def movesF (ns : List Str) (es : List (Str × Str)) (f : Str → Int) (ps : List Str) : List (Str × Int) := ns.flatMap fun n => if n ∈ ps then [] else movesOf es f n
structure Legal (ns : List Str) (es : List (Str × Str)) (f : Str → Int) (ps : List Str) (m : Str × Int) : Prop where
  mem : m.1 ∈ ns
  pin : m.1 ∉ ps
  val : 0 ≤ m.2 ∧ m.2 < 3
  own : m.2 ≠ f m.1
  nbr : ∀ z, (m.1, z) ∈ es ∨ (z, m.1) ∈ es → m.2 ≠ f z
theorem legal_of {ns : List Str} {es : List (Str × Str)} {f : Str → Int} {ps : List Str} {m : Str × Int} (h : m ∈ movesF ns es f ps) : Legal ns es f ps m := by
  unfold movesF at h
  obtain ⟨n, hn, h⟩ := List.mem_flatMap.mp h
  split at h
  · cases h
  · rename_i hp
    unfold movesOf at h
    obtain ⟨v, hv, rfl⟩ := List.mem_map.mp h
    obtain ⟨h1, h2⟩ := List.mem_filter.mp hv
    unfold freeB at h2
    have h2 : v ∉ (nbrF es n).map f ++ [f n] := by simpa using h2
    have h3 : v = 0 ∨ v = 1 ∨ v = 2 := by simpa using h1
    refine ⟨hn, hp, by show 0 ≤ v ∧ v < 3; omega, fun e => h2 (List.mem_append_right _ (by rw [show v = f n from e]; exact List.mem_singleton_self _)), fun z hz e => h2 (List.mem_append_left _ ?_)⟩
    rw [show v = f z from e]
    exact List.mem_map_of_mem (mem_nbrF.mpr hz)
/-- one move after another -/
inductive Plays (ns : List Str) (es : List (Str × Str)) (ps : List Str) (f : Str → Int) : List (Str × Int) → (Str → Int) → Prop
  | nil : Plays ns es ps f [] f
  | snoc {ms : List (Str × Int)} {f' : Str → Int} {m : Str × Int} : Plays ns es ps f ms f' → Legal ns es f' ps m → Plays ns es ps f (ms ++ [m]) (updf f' m.1 m.2)
/-! ### counting -/
def dlt (d : Int) : Int := if d % 3 = 0 then 0 else if d % 3 = 1 then 1 else -1
def slp (f : Str → Int) (a b : Str) : Int := if (f b - f a) % 3 = 1 then 1 else -1
/-- the state and the numbers behind the moves -/
def countF (f h : Str → Int) : List (Str × Int) → (Str → Int) × (Str → Int)
  | [] => (f, h)
  | (n, v) :: r => countF (updf f n v) (updf h n (h n + dlt (f n - v))) r
theorem countF_snoc {n : Str} {v : Int} : ∀ {ms : List (Str × Int)} {f h : Str → Int}, countF f h (ms ++ [(n, v)]) = (updf (countF f h ms).1 n v, updf (countF f h ms).2 n ((countF f h ms).2 n + dlt ((countF f h ms).1 n - v)))
  | [], _, _ => rfl
  | (m, w) :: ms, _, _ => by
    rw [List.cons_append, countF, countF_snoc, countF]
structure EsOk (ns : List Str) (es : List (Str × Str)) (f : Str → Int) : Prop where
  ne : ∀ e ∈ es, e.1 ≠ e.2
  mem : ∀ e ∈ es, e.1 ∈ ns ∧ e.2 ∈ ns
  tri : ∀ n ∈ ns, 0 ≤ f n ∧ f n < 3
  pro : ∀ e ∈ es, f e.1 ≠ f e.2
theorem slp_pm (f : Str → Int) (a b : Str) : slp f a b = 1 ∨ slp f a b = -1 := by
  unfold slp
  split
  · exact .inl rfl
  · exact .inr rfl
theorem move_keeps {ns : List Str} {es : List (Str × Str)} {ps : List Str} {f0 f h : Str → Int} {m : Str × Int} (ok : EsOk ns es f) (l : Legal ns es f ps m) (t : ∀ e ∈ es, slp f0 e.1 e.2 - slp f e.1 e.2 = 2 * (h e.1 - h e.2)) :
    EsOk ns es (updf f m.1 m.2) ∧ ∀ e ∈ es, slp f0 e.1 e.2 - slp (updf f m.1 m.2) e.1 e.2 = 2 * (updf h m.1 (h m.1 + dlt (f m.1 - m.2)) e.1 - updf h m.1 (h m.1 + dlt (f m.1 - m.2)) e.2) := by
  obtain ⟨n, v⟩ := m
  have hv := l.val
  have ho := l.own
  have hm := l.mem
  simp only at hv ho hm
  refine ⟨⟨ok.ne, ok.mem, fun x hx => ?_, fun e he => ?_⟩, fun e he => ?_⟩
  · show 0 ≤ updf f n v x ∧ updf f n v x < 3
    unfold updf
    split
    · exact hv
    · exact ok.tri x hx
  · show updf f n v e.1 ≠ updf f n v e.2
    have hne := ok.ne e he
    have hp := ok.pro e he
    unfold updf
    by_cases h1 : e.1 = n
    · rw [if_pos h1, if_neg (fun z => hne (h1.trans z.symm))]
      exact l.nbr e.2 (.inl (by show (n, e.2) ∈ es; rw [← h1]; exact he))
    · by_cases h2 : e.2 = n
      · rw [if_neg h1, if_pos h2]
        exact Ne.symm (l.nbr e.1 (.inr (by show (e.1, n) ∈ es; rw [← h2]; exact he)))
      · rw [if_neg h1, if_neg h2]
        exact hp
  · show slp f0 e.1 e.2 - slp (updf f n v) e.1 e.2 = 2 * (updf h n (h n + dlt (f n - v)) e.1 - updf h n (h n + dlt (f n - v)) e.2)
    have hne := ok.ne e he
    have hp := ok.pro e he
    have t1 := ok.tri e.1 (ok.mem e he).1
    have t2 := ok.tri e.2 (ok.mem e he).2
    have te := t e he
    by_cases h1 : e.1 = n
    · have h2 : ¬ e.2 = n := fun z => hne (h1.trans z.symm)
      have nb := l.nbr e.2 (.inl (by show (n, e.2) ∈ es; rw [← h1]; exact he))
      simp only at nb
      have e1 : updf f n v e.1 = v := if_pos h1
      have e2 : updf f n v e.2 = f e.2 := if_neg h2
      have e3 : updf h n (h n + dlt (f n - v)) e.1 = h e.1 + dlt (f e.1 - v) := by rw [h1]; exact if_pos rfl
      have e4 : updf h n (h n + dlt (f n - v)) e.2 = h e.2 := if_neg h2
      rw [e3, e4]
      rw [← h1] at ho
      unfold slp dlt at *
      rw [e1, e2]
      generalize f e.1 = x at *
      generalize f e.2 = y at *
      generalize h e.1 = hx at *
      generalize h e.2 = hy at *
      generalize (if (f0 e.2 - f0 e.1) % 3 = 1 then (1 : Int) else -1) = s0 at *
      have : hx - hy + hx - hy = 2 * (hx - hy) := by omega
      split at te <;> split <;> split <;> try split
      all_goals omega
    · by_cases h2 : e.2 = n
      · have nb := l.nbr e.1 (.inr (by show (e.1, n) ∈ es; rw [← h2]; exact he))
        simp only at nb
        have e1 : updf f n v e.1 = f e.1 := if_neg h1
        have e2 : updf f n v e.2 = v := if_pos h2
        have e3 : updf h n (h n + dlt (f n - v)) e.1 = h e.1 := if_neg h1
        have e4 : updf h n (h n + dlt (f n - v)) e.2 = h e.2 + dlt (f e.2 - v) := by rw [h2]; exact if_pos rfl
        rw [e3, e4]
        rw [← h2] at ho
        unfold slp dlt at *
        rw [e1, e2]
        generalize f e.1 = x at *
        generalize f e.2 = y at *
        generalize h e.1 = hx at *
        generalize h e.2 = hy at *
        generalize (if (f0 e.2 - f0 e.1) % 3 = 1 then (1 : Int) else -1) = s0 at *
        split at te <;> split <;> split <;> try split
        all_goals omega
      · have e1 : updf f n v e.1 = f e.1 := if_neg h1
        have e2 : updf f n v e.2 = f e.2 := if_neg h2
        have e3 : updf h n (h n + dlt (f n - v)) e.1 = h e.1 := if_neg h1
        have e4 : updf h n (h n + dlt (f n - v)) e.2 = h e.2 := if_neg h2
        rw [e3, e4, ← te]
        unfold slp
        rw [e1, e2]
theorem plays_ok {ns : List Str} {es : List (Str × Str)} {ps : List Str} {f0 : Str → Int} (ok : EsOk ns es f0) {ms : List (Str × Int)} {f : Str → Int} (p : Plays ns es ps f0 ms f) :
    (countF f0 (fun _ => 0) ms).1 = f ∧ EsOk ns es f ∧ ∀ e ∈ es, slp f0 e.1 e.2 - slp f e.1 e.2 = 2 * ((countF f0 (fun _ => 0) ms).2 e.1 - (countF f0 (fun _ => 0) ms).2 e.2) := by
  induction p with
  | nil => exact ⟨rfl, ok, fun e _ => by show slp f0 e.1 e.2 - slp f0 e.1 e.2 = 2 * ((0 : Int) - 0); omega⟩
  | @snoc ms f' m p l ih =>
    obtain ⟨i1, i2, i3⟩ := ih
    obtain ⟨n, v⟩ := m
    rw [countF_snoc, i1]
    obtain ⟨k1, k2⟩ := move_keeps i2 l i3
    exact ⟨rfl, k1, k2⟩
/-! ### fitting -/
def fitB (f h : Str → Int) (a b : Str) : Bool := if slp f a b = 1 then decide (0 ≤ h a - h b) && decide (h a - h b ≤ 1) else decide (0 ≤ h b - h a) && decide (h b - h a ≤ 1)
def Fits (es : List (Str × Str)) (f h : Str → Int) : Prop := ∀ e ∈ es, fitB f h e.1 e.2 = true
theorem fit_iff {f h : Str → Int} {a b : Str} : fitB f h a b = true ↔ (if slp f a b = 1 then 0 ≤ h a - h b ∧ h a - h b ≤ 1 else 0 ≤ h b - h a ∧ h b - h a ≤ 1) := by
  unfold fitB
  split <;> simp
theorem fits_count {ns : List Str} {es : List (Str × Str)} {ps : List Str} {f0 : Str → Int} (ok : EsOk ns es f0) {ms : List (Str × Int)} {f : Str → Int} (p : Plays ns es ps f0 ms f) : Fits es f0 (countF f0 (fun _ => 0) ms).2 := by
  intro e he
  have t := (plays_ok ok p).2.2 e he
  rw [fit_iff]
  have h1 := slp_pm f e.1 e.2
  have h0 := slp_pm f0 e.1 e.2
  split <;> omega
end U

/-! medians, distances -/
namespace U
open PySem PySem.Spec PyProof.Rows L2
/-! ### distances -/
def ab (x y : Int) : Int := ((x - y).natAbs : Int)
end U

namespace Law
open PySem PySem.Spec PyProof.Rows L2 U
/-- a graph and a state of it stand -/
structure GSt (H : Hp) (g n e st : Addr) (ns ord : List Str) (es : List (Addr × Str × Str)) (f : Str → Int) : Prop where
  gr : GrAt H g n e ns es
  ok : GrOk ns (es.map (·.2))
  pm : ord.Perm ns
  l2 : ns.length ≤ 100
  l3 : es.length ≤ 1000
  st : H st = some (.dK (kvF ord f))
  tri : ∀ x ∈ ns, 0 ≤ f x ∧ f x < 3
  pro : ∀ x ∈ es, f x.2.1 ≠ f x.2.2
section
variable {H H' : Hp} {g n e st p : Addr} {ns ord : List Str} {es : List (Addr × Str × Str)} {f : Str → Int}
theorem GSt.same (h : GSt H g n e st ns ord es f) (s : Same H H') : GSt H' g n e st ns ord es f := ⟨h.gr.same s, h.ok, h.pm, h.l2, h.l3, s _ _ h.st, h.tri, h.pro⟩
theorem GSt.go (h : GSt H g n e st ns ord es f) (hp : PoolAt H p) (b : Go p H H') : GSt H' g n e st ns ord es f := by
  obtain ⟨ys, hy⟩ := hp.isL
  exact ⟨h.gr.but hy b.but, h.ok, h.pm, h.l2, h.l3, b.but.dK hy h.st, h.tri, h.pro⟩
theorem GSt.nd (h : GSt H g n e st ns ord es f) : ns.Nodup := asc_nodup h.ok.names.asc
theorem GSt.inO (h : GSt H g n e st ns ord es f) : ∀ x ∈ ns, x ∈ ord := fun x hx => h.pm.mem_iff.mpr hx
theorem GSt.inE (h : GSt H g n e st ns ord es f) : ∀ x ∈ es, x.2.1 ∈ ns ∧ x.2.2 ∈ ns := fun x hx => h.ok.mem _ (List.mem_map_of_mem hx)
theorem GSt.sok (h : GSt H g n e st ns ord es f) : ∀ x ∈ ns, PyData.strOk x = true := fun x hx => (h.ok.names.ok x hx).sok
theorem GSt.eok (h : GSt H g n e st ns ord es f) : EsOk ns (es.map (·.2)) f := by
  refine ⟨fun x hx z => ?_, h.ok.mem, h.tri, fun x hx => ?_⟩
  · have := h.ok.lt x hx
    rw [z] at this
    exact sLt_irrefl _ this
  · obtain ⟨y, hy, rfl⟩ := List.mem_map.mp hx
    exact h.pro y hy
end
end Law

namespace Law
open PySem PySem.Spec PyProof.Rows L2 U
local macro_rules | `(tactic| wtm_at "rd1") => `(tactic| first
  | with_reducible refine rd_seq ?_
  | ((with_reducible refine rd_var (v := ?vv) ?hv ?_); (case hv => exact rfl))
  | with_reducible refine rd_c ?_
  | with_reducible refine rd_cons ?_
  | with_reducible refine rd_nil ?_
  | with_reducible refine rd_op ?_
  | with_reducible refine rd_asg ?_
  | with_reducible refine rd_name ?_
  | with_reducible refine rd_c1 ?_
  | with_reducible refine rd_cb ?_
  | with_reducible refine rd_test ?_
  | with_reducible refine rd_B ?_
  | with_reducible refine rd_bl ?_
  | with_reducible refine rd_if ?_
  | with_reducible refine rd_ret ?_
  | with_reducible refine rd_drop ?_
  | with_reducible refine rd_next ?_
  | with_reducible refine rd_addI ?_
  | with_reducible refine rd_ltI ?_
  | with_reducible refine rd_eqI ?_
  | with_reducible refine rd_neI ?_
  | with_reducible refine rd_eqS ?_
  | with_reducible refine rd_neS ?_
  | with_reducible refine rd_gtI ?_
  | with_reducible refine rd_geI ?_
  | with_reducible refine rd_leI ?_
  | with_reducible refine rd_ltS ?_
  | with_reducible refine rd_subI ?_
  | ((with_reducible refine rd_modI ?hc ?_); (case hc => first | decide | omega))
  | ((with_reducible refine rd_mulI ?hc ?_); (case hc => first | exact mul_bI | exact .inl (.inr (by decide)) | exact .inl (.inl (by decide)) | exact .inl (.inr (by omega)) | exact .inl (.inl (by omega))))
  | ((with_reducible refine rd_divI ?hc ?_); (case hc => first | decide | omega))
  | ((with_reducible refine rd_powI ?hc ?_); (case hc => exact ⟨by decide, by decide, by decide⟩))
  | with_reducible refine rd_lst ?_
  | with_reducible refine rd_tup ?_
  | ((with_reducible refine rd_sz ?hv ?_); (case hv => exact rfl))
  | with_reducible refine rd_and ?_
  | with_reducible refine rd_or ?_
  | with_reducible refine rd_not ?_
  | with_reducible refine rd_andV ?_
  | with_reducible refine rd_orV ?_
  | with_reducible refine rd_notV ?_
  | with_reducible refine rd_ifE ?_
  | with_reducible refine rd_T ?_
  | with_reducible refine rd_F ?_
  | with_reducible refine rd_chain ?_
  | with_reducible refine rd_is ?_
  | with_reducible refine rd_isNot ?_
  | with_reducible refine rd_absI ?_
  | with_reducible refine rd_maxI ?_
  | with_reducible refine rd_minI ?_
  | with_reducible refine rd_intI ?_
  | with_reducible refine rd_intB ?_
  | with_reducible refine rd_sub ?_
  | with_reducible refine rd_sl ?_
  | with_reducible refine rd_noPart ?_
  | with_reducible refine rd_part ?_
  | with_reducible refine rd_exI ?_
  | with_reducible refine rd_bm ?_
  | with_reducible refine rd_bm0 ?_
  | with_reducible refine rd_un ?_
  | with_reducible refine rd_neg ?_
  | with_reducible refine rd_c2 ?_
  | with_reducible refine rd_retN ?_
  | with_reducible refine rd_break ?_
  | with_reducible refine rd_cont ?_
  | with_reducible refine rd_for ?_
  | with_reducible refine rd_rng1 ?_
  | with_reducible refine rd_rng2 ?_
  | with_reducible refine rd_iList ?_
  | with_reducible refine rd_iTup ?_
  | with_reducible refine rd_iEnum ?_
  | ((with_reducible refine rd_forR ?h0 ?h1 ?_); (case h0 => omega); (case h1 => omega))
  | with_reducible refine rd_lc ?_
  | with_reducible refine rd_gcons ?_
  | with_reducible refine rd_gnil ?_
  | with_reducible refine rd_dget ?_
  | with_reducible refine rd_dput ?_
  | with_reducible refine rd_dnew ?_
  | with_reducible refine rd_dc ?_
  | with_reducible refine rd_iItems ?_
  | with_reducible refine rd_iKeys ?_
  | with_reducible refine rd_din ?_
  | with_reducible refine rd_par ?_
  | with_reducible refine rd_two ?_
  | with_reducible refine rd_reprB ?_
  | with_reducible refine rd_ck ?_
  | ((with_reducible refine rd_len ?hl ?_); (case hl => exact rfl))
  | with_reducible refine rd_nT ?_
  | with_reducible refine rd_nF ?_
  | with_reducible refine rd_dnin ?_
  | with_reducible refine rd_isB ?_
  | with_reducible refine rd_isNotB ?_
  | with_reducible refine rd_daug ?_
  | with_reducible refine rd_yesT ?_
  | ((with_reducible refine rd_wp ?hw ?_); (case hw => exact rfl)))
local macro_rules | `(tactic| wtm_at "rd") => `(tactic| repeat wtm_at "rd1")

section
variable {P : Program} {w : World} {K : PySem.W.Frag} {mg : Str → Option Value} {base : Heap}
theorem nbrF_take {es : List (Str × Str)} {x : Str} {i : Nat} (h : i < es.length) : nbrF (es.take (i + 1)) x = nbrF (es.take i) x ++ ((if es[i].1 = x then [es[i].2] else []) ++ (if es[i].2 = x then [es[i].1] else [])) := by
  unfold nbrF
  rw [List.take_succ, List.getElem?_eq_getElem h, List.flatMap_append]
  simp
theorem nbrF_len {x : Str} : ∀ {es : List (Str × Str)}, (nbrF es x).length ≤ 2 * es.length
  | [] => by simp [nbrF]
  | e :: es => by
    have := nbrF_len (x := x) (es := es)
    unfold nbrF at *
    rw [List.flatMap_cons, List.length_append, List.length_append, List.length_cons]
    split <;> split <;> simp only [List.length_cons, List.length_nil] <;> omega
end
end Law

namespace Law
open PySem PySem.Spec PyProof.Rows L2 U
local macro_rules | `(tactic| wtm_at "rd1") => `(tactic| first
  | with_reducible refine rd_seq ?_
  | ((with_reducible refine rd_var (v := ?vv) ?hv ?_); (case hv => exact rfl))
  | with_reducible refine rd_c ?_
  | with_reducible refine rd_cons ?_
  | with_reducible refine rd_nil ?_
  | with_reducible refine rd_op ?_
  | with_reducible refine rd_asg ?_
  | with_reducible refine rd_name ?_
  | with_reducible refine rd_c1 ?_
  | with_reducible refine rd_cb ?_
  | with_reducible refine rd_test ?_
  | with_reducible refine rd_B ?_
  | with_reducible refine rd_bl ?_
  | with_reducible refine rd_if ?_
  | with_reducible refine rd_ret ?_
  | with_reducible refine rd_drop ?_
  | with_reducible refine rd_next ?_
  | with_reducible refine rd_addI ?_
  | with_reducible refine rd_ltI ?_
  | with_reducible refine rd_eqI ?_
  | with_reducible refine rd_neI ?_
  | with_reducible refine rd_eqS ?_
  | with_reducible refine rd_neS ?_
  | with_reducible refine rd_gtI ?_
  | with_reducible refine rd_geI ?_
  | with_reducible refine rd_leI ?_
  | with_reducible refine rd_ltS ?_
  | with_reducible refine rd_subI ?_
  | ((with_reducible refine rd_modI ?hc ?_); (case hc => first | decide | omega))
  | ((with_reducible refine rd_mulI ?hc ?_); (case hc => first | exact mul_bI | exact .inl (.inr (by decide)) | exact .inl (.inl (by decide)) | exact .inl (.inr (by omega)) | exact .inl (.inl (by omega))))
  | ((with_reducible refine rd_divI ?hc ?_); (case hc => first | decide | omega))
  | ((with_reducible refine rd_powI ?hc ?_); (case hc => exact ⟨by decide, by decide, by decide⟩))
  | with_reducible refine rd_lst ?_
  | with_reducible refine rd_tup ?_
  | ((with_reducible refine rd_sz ?hv ?_); (case hv => exact rfl))
  | with_reducible refine rd_and ?_
  | with_reducible refine rd_or ?_
  | with_reducible refine rd_not ?_
  | with_reducible refine rd_andV ?_
  | with_reducible refine rd_orV ?_
  | with_reducible refine rd_notV ?_
  | with_reducible refine rd_ifE ?_
  | with_reducible refine rd_T ?_
  | with_reducible refine rd_F ?_
  | with_reducible refine rd_chain ?_
  | with_reducible refine rd_is ?_
  | with_reducible refine rd_isNot ?_
  | with_reducible refine rd_absI ?_
  | with_reducible refine rd_maxI ?_
  | with_reducible refine rd_minI ?_
  | with_reducible refine rd_intI ?_
  | with_reducible refine rd_intB ?_
  | with_reducible refine rd_sub ?_
  | with_reducible refine rd_sl ?_
  | with_reducible refine rd_noPart ?_
  | with_reducible refine rd_part ?_
  | with_reducible refine rd_exI ?_
  | with_reducible refine rd_bm ?_
  | with_reducible refine rd_bm0 ?_
  | with_reducible refine rd_un ?_
  | with_reducible refine rd_neg ?_
  | with_reducible refine rd_c2 ?_
  | with_reducible refine rd_retN ?_
  | with_reducible refine rd_break ?_
  | with_reducible refine rd_cont ?_
  | with_reducible refine rd_for ?_
  | with_reducible refine rd_rng1 ?_
  | with_reducible refine rd_rng2 ?_
  | with_reducible refine rd_iList ?_
  | with_reducible refine rd_iTup ?_
  | with_reducible refine rd_iEnum ?_
  | ((with_reducible refine rd_forR ?h0 ?h1 ?_); (case h0 => omega); (case h1 => omega))
  | with_reducible refine rd_lc ?_
  | with_reducible refine rd_gcons ?_
  | with_reducible refine rd_gnil ?_
  | with_reducible refine rd_dget ?_
  | with_reducible refine rd_dput ?_
  | with_reducible refine rd_dnew ?_
  | with_reducible refine rd_dc ?_
  | with_reducible refine rd_iItems ?_
  | with_reducible refine rd_iKeys ?_
  | with_reducible refine rd_din ?_
  | with_reducible refine rd_par ?_
  | with_reducible refine rd_two ?_
  | with_reducible refine rd_reprB ?_
  | with_reducible refine rd_ck ?_
  | ((with_reducible refine rd_len ?hl ?_); (case hl => exact rfl))
  | with_reducible refine rd_nT ?_
  | with_reducible refine rd_nF ?_
  | with_reducible refine rd_dnin ?_
  | with_reducible refine rd_isB ?_
  | with_reducible refine rd_isNotB ?_
  | with_reducible refine rd_daug ?_
  | with_reducible refine rd_yesT ?_
  | ((with_reducible refine rd_wp ?hw ?_); (case hw => exact rfl)))
local macro_rules | `(tactic| wtm_at "rd") => `(tactic| repeat wtm_at "rd1")

/-- the moves' pairs stand -/
def TupsAt (H : Hp) (ms : List (Addr × Str × Int)) : Prop := ∀ m ∈ ms, H m.1 = some (.tup [.str m.2.1, .int m.2.2])
theorem TupsAt.nil {H : Hp} : TupsAt H [] := fun m hm => nomatch hm
theorem TupsAt.same {H H' : Hp} {ms : List (Addr × Str × Int)} (h : TupsAt H ms) (s : Same H H') : TupsAt H' ms := fun m hm => s _ _ (h m hm)
theorem TupsAt.app {H : Hp} {ms ms2 : List (Addr × Str × Int)} (h : TupsAt H ms) (h2 : TupsAt H ms2) : TupsAt H (ms ++ ms2) := fun m hm => (List.mem_append.mp hm).elim (h m) (h2 m)
theorem TupsAt.put {H : Hp} {ms : List (Addr × Str × Int)} {a : Addr} {xs ys : List V} (h : TupsAt H ms) (ha : H a = some (.lst xs)) : TupsAt (upd H a (.lst ys)) ms := fun m hm => at_upd (ne_of (h m hm) ha (by intro z; cases z)) (h m hm)
theorem TupsAt.new {H : Hp} {ms : List (Addr × Str × Int)} {a : Addr} {o : HO} (h : TupsAt H ms) (ha : H a = none) : TupsAt (upd H a o) ms := fun m hm => at_upd (ne_of_none (h m hm) ha) (h m hm)
theorem movesOf_len {es : List (Str × Str)} {f : Str → Int} {n : Str} : (movesOf es f n).length ≤ 3 := by
  unfold movesOf
  rw [List.length_map]
  exact List.length_filter_le _ _
theorem movesF_len {es : List (Str × Str)} {f : Str → Int} {ps : List Str} : ∀ {ns : List Str}, (movesF ns es f ps).length ≤ 3 * ns.length
  | [] => by simp [movesF]
  | n :: ns => by
    have := movesF_len (es := es) (f := f) (ps := ps) (ns := ns)
    have := movesOf_len (es := es) (f := f) (n := n)
    unfold movesF at *
    rw [List.flatMap_cons, List.length_append, List.length_cons]
    split
    · simp only [List.length_nil]
      omega
    · omega
section
variable {P : Program} {w : World} {K : PySem.W.Frag} {mg : Str → Option Value} {base : Heap}
end
end Law

namespace Law
open PySem PySem.Spec PyProof.Rows L2 U
local macro_rules | `(tactic| wtm_at "rd1") => `(tactic| first
  | with_reducible refine rd_seq ?_
  | ((with_reducible refine rd_var (v := ?vv) ?hv ?_); (case hv => exact rfl))
  | with_reducible refine rd_c ?_
  | with_reducible refine rd_cons ?_
  | with_reducible refine rd_nil ?_
  | with_reducible refine rd_op ?_
  | with_reducible refine rd_asg ?_
  | with_reducible refine rd_name ?_
  | with_reducible refine rd_c1 ?_
  | with_reducible refine rd_cb ?_
  | with_reducible refine rd_test ?_
  | with_reducible refine rd_B ?_
  | with_reducible refine rd_bl ?_
  | with_reducible refine rd_if ?_
  | with_reducible refine rd_ret ?_
  | with_reducible refine rd_drop ?_
  | with_reducible refine rd_next ?_
  | with_reducible refine rd_addI ?_
  | with_reducible refine rd_ltI ?_
  | with_reducible refine rd_eqI ?_
  | with_reducible refine rd_neI ?_
  | with_reducible refine rd_eqS ?_
  | with_reducible refine rd_neS ?_
  | with_reducible refine rd_gtI ?_
  | with_reducible refine rd_geI ?_
  | with_reducible refine rd_leI ?_
  | with_reducible refine rd_ltS ?_
  | with_reducible refine rd_subI ?_
  | ((with_reducible refine rd_modI ?hc ?_); (case hc => first | decide | omega))
  | ((with_reducible refine rd_mulI ?hc ?_); (case hc => first | exact mul_bI | exact .inl (.inr (by decide)) | exact .inl (.inl (by decide)) | exact .inl (.inr (by omega)) | exact .inl (.inl (by omega))))
  | ((with_reducible refine rd_divI ?hc ?_); (case hc => first | decide | omega))
  | ((with_reducible refine rd_powI ?hc ?_); (case hc => exact ⟨by decide, by decide, by decide⟩))
  | with_reducible refine rd_lst ?_
  | with_reducible refine rd_tup ?_
  | ((with_reducible refine rd_sz ?hv ?_); (case hv => exact rfl))
  | with_reducible refine rd_and ?_
  | with_reducible refine rd_or ?_
  | with_reducible refine rd_not ?_
  | with_reducible refine rd_andV ?_
  | with_reducible refine rd_orV ?_
  | with_reducible refine rd_notV ?_
  | with_reducible refine rd_ifE ?_
  | with_reducible refine rd_T ?_
  | with_reducible refine rd_F ?_
  | with_reducible refine rd_chain ?_
  | with_reducible refine rd_is ?_
  | with_reducible refine rd_isNot ?_
  | with_reducible refine rd_absI ?_
  | with_reducible refine rd_maxI ?_
  | with_reducible refine rd_minI ?_
  | with_reducible refine rd_intI ?_
  | with_reducible refine rd_intB ?_
  | with_reducible refine rd_sub ?_
  | with_reducible refine rd_sl ?_
  | with_reducible refine rd_noPart ?_
  | with_reducible refine rd_part ?_
  | with_reducible refine rd_exI ?_
  | with_reducible refine rd_bm ?_
  | with_reducible refine rd_bm0 ?_
  | with_reducible refine rd_un ?_
  | with_reducible refine rd_neg ?_
  | with_reducible refine rd_c2 ?_
  | with_reducible refine rd_retN ?_
  | with_reducible refine rd_break ?_
  | with_reducible refine rd_cont ?_
  | with_reducible refine rd_for ?_
  | with_reducible refine rd_rng1 ?_
  | with_reducible refine rd_rng2 ?_
  | with_reducible refine rd_iList ?_
  | with_reducible refine rd_iTup ?_
  | with_reducible refine rd_iEnum ?_
  | ((with_reducible refine rd_forR ?h0 ?h1 ?_); (case h0 => omega); (case h1 => omega))
  | with_reducible refine rd_lc ?_
  | with_reducible refine rd_gcons ?_
  | with_reducible refine rd_gnil ?_
  | with_reducible refine rd_dget ?_
  | with_reducible refine rd_dput ?_
  | with_reducible refine rd_dnew ?_
  | with_reducible refine rd_dc ?_
  | with_reducible refine rd_iItems ?_
  | with_reducible refine rd_iKeys ?_
  | with_reducible refine rd_din ?_
  | with_reducible refine rd_par ?_
  | with_reducible refine rd_two ?_
  | with_reducible refine rd_reprB ?_
  | with_reducible refine rd_ck ?_
  | ((with_reducible refine rd_len ?hl ?_); (case hl => exact rfl))
  | with_reducible refine rd_nT ?_
  | with_reducible refine rd_nF ?_
  | with_reducible refine rd_dnin ?_
  | with_reducible refine rd_isB ?_
  | with_reducible refine rd_isNotB ?_
  | with_reducible refine rd_daug ?_
  | with_reducible refine rd_yesT ?_
  | ((with_reducible refine rd_wp ?hw ?_); (case hw => exact rfl)))
local macro_rules | `(tactic| wtm_at "rd") => `(tactic| repeat wtm_at "rd1")

theorem TupsAt.go {p : Addr} {H H' : Hp} {ms : List (Addr × Str × Int)} (h : TupsAt H ms) (hp : PoolAt H p) (g : Go p H H') : TupsAt H' ms := fun m hm => by
  obtain ⟨ys, hy⟩ := hp.isL
  exact g.but.tup hy (h m hm)
theorem Go.dK {p d : Addr} {H H' : Hp} {kvs : List (Key × V)} (g : Go p H H') (hp : PoolAt H p) (h : H d = some (.dK kvs)) : H' d = some (.dK kvs) := by
  obtain ⟨ys, hy⟩ := hp.isL
  exact g.but.dK hy h
theorem Go.tup {p d : Addr} {H H' : Hp} {xs : List V} (g : Go p H H') (hp : PoolAt H p) (h : H d = some (.tup xs)) : H' d = some (.tup xs) := by
  obtain ⟨ys, hy⟩ := hp.isL
  exact g.but.tup hy h
section
variable {P : Program} {w : World} {K : PySem.W.Frag} {mg : Str → Option Value} {base : Heap}
end
end Law

/-! dicts of references, double comprehensions, defaults, repr -/
namespace U
open PySem PySem.Spec PyProof.Rows L2
abbrev kvG (ns : List Str) (F : Str → V) : List (Key × V) := ns.map fun n => (Sum.inr n, F n)
def updV {α : Type} (f : Str → α) (n : Str) (v : α) : Str → α := fun m => if m = n then v else f m
theorem kvG_val : ∀ {ns : List Str} {F : Str → V} {n : Str}, n ∈ ns → valV (kvG ns F) (.inr n) = some (F n)
  | m :: ns, F, n, h => by
    by_cases e : n = m
    · subst e
      rw [kvG, List.map_cons, valV_pos rfl]
    · have e' : ¬ (Sum.inr m : Key) = Sum.inr n := fun z => e (Sum.inr.inj z).symm
      rw [kvG, List.map_cons, valV_neg e']
      refine kvG_val ?_
      rcases List.mem_cons.mp h with z | z
      · exact absurd z e
      · exact z
theorem kvG_none : ∀ {ns : List Str} {F : Str → V} {n : Str}, n ∉ ns → valV (kvG ns F) (.inr n) = none
  | [], _, _, _ => rfl
  | m :: ns, F, n, h => by
    have e' : ¬ (Sum.inr m : Key) = Sum.inr n := fun z => h (by rw [← Sum.inr.inj z]; exact List.mem_cons_self)
    rw [kvG, List.map_cons, valV_neg e']
    exact kvG_none fun z => h (List.mem_cons_of_mem _ z)
theorem kvG_new {ns : List Str} {F : Str → V} {n : Str} {v : V} (h : n ∉ ns) : putK (kvG ns F) (.inr n) v = kvG (ns ++ [n]) (updV F n v) := by
  rw [putK_new _ (kvG_none h), kvG, kvG, List.map_append]
  congr 1
  · refine List.map_congr_left fun m hm => ?_
    unfold updV
    rw [if_neg (fun e => h (by rw [← e]; exact hm))]
  · show [((Sum.inr n : Key), v)] = [(Sum.inr n, updV F n v n)]
    unfold updV
    rw [if_pos rfl]
theorem kvG_at {ns : List Str} {F : Str → V} {i : Nat} {x y : V} (hx : ((kvG ns F)[i]?.map fun kv => kV kv.1) = some x) (hy : (kvG ns F)[i]?.map Prod.snd = some y) : ∃ hi : i < ns.length, x = .str ns[i] ∧ y = F ns[i] := by
  rw [kvG, List.getElem?_map] at hx hy
  by_cases hi : i < ns.length
  · rw [List.getElem?_eq_getElem hi] at hx hy
    exact ⟨hi, (Option.some.inj hx).symm, (Option.some.inj hy).symm⟩
  · rw [List.getElem?_eq_none (by omega)] at hx
    cases hx
/-! f(e, ..) where defaults fill the rest -/
structure CalD (P : Program) (w : World) (K : PySem.W.Frag) (mg : Str → Option Value) (base : Heap) (CX : CXT) (k : Nat) (x : Str) (dvs : List V) (sp : Sp) : Prop where
  ex : ∃ (f : Addr) (fd : FuncData) (ps : List Str) (ds : List Value), FnG P w K mg base CX k f fd ps sp ∧ mg x = some (.ref f) ∧ PySem.W.keepIn K (.ref f) = true ∧ Vals dvs ds ∧ Binds K fd ps ds
def tCD (sp : Sp) (dvs : List V) (E : XK) (t : TA) : TE := fun σ H Q => t σ H fun vs H1 => sp (vs ++ dvs) H1 Q E
/-! two fors in a comprehension -/
def In1 (J1 : It) (g1 : TG) (tt1 : TT) (te : TE) (vs1 : List Nat) (σ2 : L2.St) (D : Addr) (H4 : Hp) (R : Hp → Prop) : Prop := ∃ W1 : Nat → Nat → Hp → Prop, (∃ m, W1 0 m H4) ∧ ∀ j k H, W1 j k H →
  (J1.stop j H ∧ R H) ∨ (J1.go j H ∧ ∃ Nx1 : Hp → Prop, (∀ H', Nx1 H' → ∃ k', k' < k ∧ W1 (j + 1) k' H') ∧ ∀ x H', J1.yld j H x H' → g1 x (wipe σ2 vs1) H' fun σ3 H5 => wipe σ3 vs1 = wipe σ2 vs1 ∧ tt1 σ3 H5 fun b H6 =>
    if b = true then te σ3 H6 fun y H7 => ∃ acc, H7 D = some (.lst acc) ∧ acc.length < sizeLine ∧ Nx1 (upd H7 D (.lst (acc ++ [y]))) else Nx1 H6)
def Lc2B (J : It) (g : TG) (tt : TT) (wi1 : TI) (g1 : TG) (tt1 : TT) (te : TE) (vs vs1 : List Nat) (σ : L2.St) (H1 : Hp) (D : Addr) (Qd : Hp → Prop) : Prop := ∃ W : Nat → Nat → Hp → Prop, (∃ m, W 0 m (upd H1 D (.lst []))) ∧ ∀ i m H, W i m H →
  (J.stop i H ∧ Qd H) ∨ (J.go i H ∧ ∃ Nx : Hp → Prop, (∀ H', Nx H' → ∃ m', m' < m ∧ W (i + 1) m' H') ∧ ∀ x H', J.yld i H x H' → g x (wipe σ vs) H' fun σ2 H2 => wipe σ2 vs = wipe σ vs ∧ tt σ2 H2 fun b H3 =>
    if b = true then wi1 σ2 H3 fun J1 H4 => In1 J1 g1 tt1 te vs1 σ2 D H4 Nx else Nx H3)
section
variable {σ : L2.St} {H : Hp} {Q : VK} {te : TE} {g g1 : TG} {wi wi1 : TI} {tt tt1 : TT} {vs vs1 : List Nat} {L : Addr} {Qd R : Hp → Prop} {J J1 : It} {n : Nat} {G : Hp → Prop} {Y : Nat → Hp → V → Hp → Prop} {K : PySem.W.Frag}
theorem rd_lc2 (h : wi σ H fun J H1 => ∀ D, H1 D = none → Lc2B J g tt wi1 g1 tt1 te vs vs1 σ H1 D fun H2 => Q (.ref D) H2) : tLc2 wi g tt wi1 g1 tt1 te vs vs1 σ H Q := h
theorem lc2W (w : Walk J n G Y) (Pv : Nat → Hp → Prop) (h0 : Pv 0 (upd H L (.lst []))) (hG : ∀ i H, i ≤ n → Pv i H → G H)
    (hs : ∀ i x H H', i < n → Pv i H → Y i H x H' → g x (wipe σ vs) H' fun σ2 H2 => wipe σ2 vs = wipe σ vs ∧ tt σ2 H2 fun b H3 =>
      if b = true then wi1 σ2 H3 fun J1 H4 => In1 J1 g1 tt1 te vs1 σ2 L H4 (Pv (i + 1)) else Pv (i + 1) H3) (hd : ∀ H, Pv n H → Qd H) : Lc2B J g tt wi1 g1 tt1 te vs vs1 σ H L Qd := by
  refine ⟨fun i m H => m = n - i ∧ i ≤ n ∧ Pv i H, ⟨n, by simp, Nat.zero_le _, h0⟩, ?_⟩
  rintro i m H ⟨rfl, hi, p⟩
  have q := hG i H hi p
  by_cases hlt : i < n
  · exact .inr ⟨w.goes i H hlt q, Pv (i + 1), fun H' p' => ⟨n - (i + 1), by omega, rfl, hlt, p'⟩, fun x H' y => hs i x H H' hlt p (w.yields i H x H' hlt q y)⟩
  · have e : i = n := by omega
    subst e
    exact .inl ⟨w.stops H q, hd H p⟩
theorem in1W (w : Walk J1 n G Y) (Pv : Nat → Hp → Prop) (h0 : Pv 0 H) (hG : ∀ i H, i ≤ n → Pv i H → G H)
    (hs : ∀ j x H H', j < n → Pv j H → Y j H x H' → g1 x (wipe σ vs1) H' fun σ3 H5 => wipe σ3 vs1 = wipe σ vs1 ∧ tt1 σ3 H5 fun b H6 =>
      if b = true then te σ3 H6 fun y H7 => ∃ acc, H7 L = some (.lst acc) ∧ acc.length < sizeLine ∧ Pv (j + 1) (upd H7 L (.lst (acc ++ [y]))) else Pv (j + 1) H6) (hd : ∀ H, Pv n H → R H) : In1 J1 g1 tt1 te vs1 σ L H R := by
  refine ⟨fun i m H => m = n - i ∧ i ≤ n ∧ Pv i H, ⟨n, by simp, Nat.zero_le _, h0⟩, ?_⟩
  rintro i m H ⟨rfl, hi, p⟩
  have q := hG i H hi p
  by_cases hlt : i < n
  · exact .inr ⟨w.goes i H hlt q, Pv (i + 1), fun H' p' => ⟨n - (i + 1), by omega, rfl, hlt, p'⟩, fun x H' y => hs i x H H' hlt p (w.yields i H x H' hlt q y)⟩
  · have e : i = n := by omega
    subst e
    exact .inl ⟨w.stops H q, hd H p⟩
theorem rd_cd {sp : Sp} {dvs : List V} {E : XK} {t : TA} (h : t σ H fun vs H1 => sp (vs ++ dvs) H1 Q E) : tCD sp dvs E t σ H Q := h
end
/-! repr -/
section
variable {X : Cx} {pins : List (Addr × Obj)} {σ : L2.St} {H : Hp} {s : Shared}
def encK : Key → PyData
  | .inl i => .int i
  | .inr x => .str x
theorem kv_pairs {h : Heap} {f : Str → Int} : ∀ {ns : List Str} {vs : List (Key × Value)}, KV (kvF ns f) vs → PyProof.V.PairsRead h encK vs (ns.map fun n => (.str n, .int (f n))) []
  | [], vs, r => by
    cases r
    exact .nil
  | n :: ns, vs, r => by
    cases r with
    | @cons p q ps qs hpq t =>
      obtain ⟨h1, h2⟩ := hpq
      obtain ⟨k, v⟩ := q
      have h1' : (Sum.inr n : Key) = k := h1
      subst h1'
      obtain ⟨tk, rfl⟩ : ∃ t, v = Value.int (f n) t := h2
      exact .cons (k := .inr n) (as := []) (bs := []) (Reads.int _ _) (kv_pairs t)
theorem key_reads {h : Heap} {P : Program} {w : World} : ∀ (k : Key) (key : Value), (mixKind P w).is k key = true → Reads h key (encK k) [] := by
  intro k key hk
  rcases keyIs_shape hk with ⟨i, t, rfl, rfl⟩ | ⟨x, t, rfl, rfl⟩
  · exact Reads.int _ _
  · exact Reads.str _ _
end
end U
namespace U
open PySem PySem.Spec PyProof.Rows L2
/-! name = {k: v for ..}, the name a local -/
abbrev InBlk (X : Cx) (scope : Scope) (Φ : Cx → Prop) : Prop :=
  ∀ (s : Shared) (H : Hp) (C : Addr) (cl : List (Str × Addr)) (fp : List Addr), Φ (X.blk s H scope (compEnvC scope cl C X.env) fp)
section
variable {X : Cx}
theorem sw_dict {kx vx : Expr} {gs : List Comprehension} {scope : Scope} {pos py : Pos} {y : Str} {l : Nat} {env : Env}
    (hk : env.scope.kind = .function) (hy : env.scope.names.lookup y = some .local) (hl : (py.line == pos.line) = true)
    (ha : (scope.names.any fun (n, k) => n == y && (k == .local || k == .cell)) = false) :
    swapsWith (.DictComp kx vx gs scope pos) (some (.Name y py)) l env = pure true := by
  have q1 : env.kindOf y = some .local := hy
  have q2 : env.blockKind = .function := by
    unfold Env.blockKind
    rw [hk]
    rfl
  unfold swapsWith
  simp only [q1, q2, ha, hl, Expr.pos]
  rfl
theorem ps_setDc {i : Nat} {y : Str} {py : Pos} {kx vx tg iter : Expr} {ifs : List Expr} {scope : Scope} {own : List (Str × Nat)} {pos spos : Pos} {wi : TI} {g : TG} {tt : TT} {tk tv : TE}
    (hc : X.calm = true) (hN : X.N.Nodup) (hy : X.N[i]? = some y) (hyl : X.env.scope.names.lookup y = some .local)
    (hsw : swapsWith (.DictComp kx vx [⟨tg, iter, ifs, 0⟩] scope pos) (some (.Name y py)) spos.line X.env = pure true) (hi : PI X tg iter wi) (ok : BlkOk X.N X.env.scope scope own)
    (hg : InBlk X scope fun Y => PG Y tg g) (ht : InBlk X scope fun Y => PTs Y ifs tt) (hk : InBlk X scope fun Y => PE Y kx tk) (he : InBlk X scope fun Y => PE Y vx tv)
    (hs : ∀ x, foldedSetIterable iter X.env x = pure x := by intro _; rfl) :
    PS X (.Assign [.Name y py] (.DictComp kx vx [⟨tg, iter, ifs, 0⟩] scope pos) spos) (tAsg (tDc wi g tt tk tv (own.map (·.2))) (gName i)) := by
  refine ⟨fun pins s σ H D I want => ?_⟩
  rw [exec_Assign_Name_used _ _ _ _ hsw]
  refine wpAny_bind (wpAny_standAt (wpAny_bind ?_))
  have want : tDc wi g tt tk tv (own.map (·.2)) σ H fun x H1 => gName i x σ H1 D.nx := want
  show wpAny _ X.A (do
    let _ ← comprehension (.DictComp kx vx [⟨tg, iter, ifs, 0⟩] scope pos) scope X.env (firstIterPos [⟨tg, iter, ifs, 0⟩] pos) newDict false (eval iter X.env) (some (assign (.Name y py) X.env))) _ _ s
  refine wpAny_bind (thn (dc_core (Qf := fun _ s' => SP X pins D .next s') hc hN I hi ok hg ht hk he hs want fun L C s' m H' J q hn fpo => ?_) fun _ s' done => wpAny_pure (wpAny_pure done))
  show wpAny _ _ (assign (.Name y py) X.env (.ref L)) _ _ _
  refine wpAny_assign_Name (store_ok2 (v := V.ref L) J hN hy (.inl hyl) rfl (fun s2 J2 ⟨a, sb, ha⟩ => ?_) (.inr hyl))
  obtain ⟨p0, p1, p2, p3, p4, p5⟩ := fpo
  have apart : C ≠ a := by
    cases ha with
    | inl z => rw [z]; exact p1
    | inr z => exact fun e => p4 y a z e.symm
  refine ⟨m, hn.sameBut sb apart, fun h3 sb3 => ⟨_, H', J2.turned (t' := s2.toks) (fun b o hb e => (sb3.2 b hb).trans e) p0 p1 p3 p4 p5, q⟩⟩
end
end U

/-! repr of a list of data, dicts among it -/
namespace U
open PySem PySem.Spec PyProof.Rows L2
mutual
def tupOnly : PyData → Bool
  | .none | .bool _ | .int _ | .str _ => true
  | .tuple xs => tupOnlyAll xs
  | .list _ | .dict _ => false
def tupOnlyAll : List PyData → Bool
  | [] => true
  | x :: xs => tupOnly x && tupOnlyAll xs
end
mutual
theorem reads_nil {h : Heap} : ∀ (d : PyData) (v : Value) (as : List Addr), Reads h v d as → tupOnly d = true → as = []
  | .none, _, _, r, _ => by cases r; rfl
  | .bool _, _, _, r, _ => by cases r; rfl
  | .int _, _, _, r, _ => by cases r; rfl
  | .str _, _, _, r, _ => by cases r; rfl
  | .tuple xs, _, _, r, t => by
    cases r with
    | tuple h1 h2 h3 h4 => exact readsAll_nil xs _ _ h4 (by simpa [tupOnly] using t)
  | .list _, _, _, _, t => by simp [tupOnly] at t
  | .dict _, _, _, _, t => by simp [tupOnly] at t
theorem readsAll_nil {h : Heap} : ∀ (ds : List PyData) (vs : List Value) (as : List Addr), ReadsAll h vs ds as → tupOnlyAll ds = true → as = []
  | [], _, _, r, _ => by cases r; rfl
  | d :: ds, _, _, r, t => by
    rw [tupOnlyAll, Bool.and_eq_true] at t
    cases r with
    | cons r1 r2 => rw [reads_nil d _ _ r1 t.1, readsAll_nil ds _ _ r2 t.2]; rfl
end
/-- an item of the list: data of tuples, or a dict of numbers -/
inductive Di (K : PySem.W.Frag) (H : Hp) : V → PyData → Prop
  | of {v : V} {d : PyData} : Dp K H v d → tupOnly d = true → Di K H v d
  | dct {a : Addr} {ns : List Str} {f : Str → Int} : H a = some (.dK (kvF ns f)) → Di K H (.ref a) (.dict (ns.map fun n => (.str n, .int (f n))))
inductive DiAll (K : PySem.W.Frag) (H : Hp) : List V → List PyData → Prop
  | nil : DiAll K H [] []
  | cons {v : V} {vs : List V} {d : PyData} {ds : List PyData} : Di K H v d → DiAll K H vs ds → DiAll K H (v :: vs) (d :: ds)
structure Shows (d : PyData) : Prop where
  sh : d.showable = true
  lv : d.leavesShort 13 = true
  bk : d.bulk ≤ 2 ^ 20
  dp : d.depth ≤ 50
section
variable {X : Cx} {pins : List (Addr × Obj)} {σ : L2.St} {H : Hp} {s : Shared}
theorem Di.reads (I : Inv X pins σ H s) {v : V} {d : PyData} {u : Value} (h : Di X.K H v d) (r : RelV v u) : ∃ as, Reads s.heap u d as ∧ sysModules ∉ as := by
  cases h with
  | of h t =>
    obtain ⟨as, q⟩ := Dp.reads I _ _ _ h r
    have := reads_nil _ _ _ q t
    subst this
    exact ⟨_, q, List.not_mem_nil⟩
  | dct h =>
    cases r
    obtain ⟨_, hd, vs, rel, dd⟩ := dk_of I.hok h
    refine ⟨_, PyProof.V.reads_dictOf key_reads dd (kv_pairs rel), ?_⟩
    intro z
    rw [List.mem_singleton] at z
    rw [z] at hd
    simp at hd
theorem DiAll.reads (I : Inv X pins σ H s) : ∀ {vs : List V} {ds : List PyData} {us : List Value}, DiAll X.K H vs ds → Vals vs us → ∃ as, ReadsAll s.heap us ds as ∧ sysModules ∉ as
  | [], _, _, h, r => by
    cases h
    cases r
    exact ⟨_, .nil, List.not_mem_nil⟩
  | v :: vs, _, _, h, r => by
    cases h with
    | cons h1 h2 =>
      cases r with
      | cons r1 r2 =>
        obtain ⟨as, q1, n1⟩ := h1.reads I r1
        obtain ⟨bs, q2, n2⟩ := DiAll.reads I h2 r2
        exact ⟨_, .cons q1 q2, fun z => (List.mem_append.mp z).elim n1 n2⟩
end
/-! the shapes -/
theorem IsName.lv {z : Str} (h : IsName z) : (PyData.str z).leavesShort 13 = true := by
  rw [PyData.leavesShort, List.all_eq_true]
  intro x hx
  have := h.ch x hx
  rw [decide_eq_true_eq]
  omega
theorem IsName.bk {z : Str} (h : IsName z) : (PyData.str z).bulk ≤ 8 := by
  rw [PyData.bulk]
  exact h.hi
end U

section
open PySem PySem.Spec PyProof.Rows L2 U
local macro_rules | `(tactic| wtm_at "rd1") => `(tactic| first
  | with_reducible refine rd_seq ?_
  | ((with_reducible refine rd_var (v := ?vv) ?hv ?_); (case hv => exact rfl))
  | with_reducible refine rd_c ?_
  | with_reducible refine rd_cons ?_
  | with_reducible refine rd_nil ?_
  | with_reducible refine rd_op ?_
  | with_reducible refine rd_asg ?_
  | with_reducible refine rd_name ?_
  | with_reducible refine rd_c1 ?_
  | with_reducible refine rd_cb ?_
  | with_reducible refine rd_test ?_
  | with_reducible refine rd_B ?_
  | with_reducible refine rd_bl ?_
  | with_reducible refine rd_if ?_
  | with_reducible refine rd_ret ?_
  | with_reducible refine rd_drop ?_
  | with_reducible refine rd_next ?_
  | with_reducible refine rd_addI ?_
  | with_reducible refine rd_ltI ?_
  | with_reducible refine rd_eqI ?_
  | with_reducible refine rd_neI ?_
  | with_reducible refine rd_eqS ?_
  | with_reducible refine rd_neS ?_
  | with_reducible refine rd_gtI ?_
  | with_reducible refine rd_geI ?_
  | with_reducible refine rd_leI ?_
  | with_reducible refine rd_ltS ?_
  | with_reducible refine rd_subI ?_
  | ((with_reducible refine rd_modI ?hc ?_); (case hc => first | decide | omega))
  | ((with_reducible refine rd_mulI ?hc ?_); (case hc => first | exact mul_bI | exact .inl (.inr (by decide)) | exact .inl (.inl (by decide)) | exact .inl (.inr (by omega)) | exact .inl (.inl (by omega))))
  | ((with_reducible refine rd_divI ?hc ?_); (case hc => first | decide | omega))
  | ((with_reducible refine rd_powI ?hc ?_); (case hc => exact ⟨by decide, by decide, by decide⟩))
  | with_reducible refine rd_lst ?_
  | with_reducible refine rd_tup ?_
  | ((with_reducible refine rd_sz ?hv ?_); (case hv => exact rfl))
  | with_reducible refine rd_and ?_
  | with_reducible refine rd_or ?_
  | with_reducible refine rd_not ?_
  | with_reducible refine rd_andV ?_
  | with_reducible refine rd_orV ?_
  | with_reducible refine rd_notV ?_
  | with_reducible refine rd_ifE ?_
  | with_reducible refine rd_T ?_
  | with_reducible refine rd_F ?_
  | with_reducible refine rd_chain ?_
  | with_reducible refine rd_is ?_
  | with_reducible refine rd_isNot ?_
  | with_reducible refine rd_absI ?_
  | with_reducible refine rd_maxI ?_
  | with_reducible refine rd_minI ?_
  | with_reducible refine rd_intI ?_
  | with_reducible refine rd_intB ?_
  | with_reducible refine rd_sub ?_
  | with_reducible refine rd_sl ?_
  | with_reducible refine rd_noPart ?_
  | with_reducible refine rd_part ?_
  | with_reducible refine rd_exI ?_
  | with_reducible refine rd_bm ?_
  | with_reducible refine rd_bm0 ?_
  | with_reducible refine rd_un ?_
  | with_reducible refine rd_neg ?_
  | with_reducible refine rd_c2 ?_
  | with_reducible refine rd_retN ?_
  | with_reducible refine rd_break ?_
  | with_reducible refine rd_cont ?_
  | with_reducible refine rd_for ?_
  | with_reducible refine rd_rng1 ?_
  | with_reducible refine rd_rng2 ?_
  | with_reducible refine rd_iList ?_
  | with_reducible refine rd_iTup ?_
  | with_reducible refine rd_iEnum ?_
  | ((with_reducible refine rd_forR ?h0 ?h1 ?_); (case h0 => omega); (case h1 => omega))
  | with_reducible refine rd_lc ?_
  | with_reducible refine rd_gcons ?_
  | with_reducible refine rd_gnil ?_
  | with_reducible refine rd_dget ?_
  | with_reducible refine rd_dput ?_
  | with_reducible refine rd_dnew ?_
  | with_reducible refine rd_dc ?_
  | with_reducible refine rd_iItems ?_
  | with_reducible refine rd_iKeys ?_
  | with_reducible refine rd_din ?_
  | with_reducible refine rd_lc2 ?_
  | with_reducible refine rd_cd ?_
  | with_reducible refine rd_par ?_
  | with_reducible refine rd_two ?_
  | with_reducible refine rd_reprB ?_
  | with_reducible refine rd_ck ?_
  | ((with_reducible refine rd_len ?hl ?_); (case hl => exact rfl))
  | with_reducible refine rd_nT ?_
  | with_reducible refine rd_nF ?_
  | with_reducible refine rd_dnin ?_
  | with_reducible refine rd_isB ?_
  | with_reducible refine rd_isNotB ?_
  | with_reducible refine rd_daug ?_
  | with_reducible refine rd_yesT ?_
  | ((with_reducible refine rd_wp ?hw ?_); (case hw => exact rfl)))
local macro_rules | `(tactic| wtm_at "rd") => `(tactic| repeat wtm_at "rd1")
namespace Law
open PySem PySem.Spec PyProof.Rows L2 U


theorem take_snoc {α : Type} {xs : List α} {i : Nat} (hi : i < xs.length) : xs.take (i + 1) = xs.take i ++ [xs[i]] := by
  rw [List.take_succ, List.getElem?_eq_getElem hi]
  rfl
theorem not_take {α : Type} {xs : List α} {i : Nat} (nd : xs.Nodup) (hi : i < xs.length) : xs[i] ∉ xs.take i := by
  intro hm
  obtain ⟨j, hj, e⟩ := List.mem_iff_getElem.mp hm
  rw [List.length_take] at hj
  have e' : xs[j] = xs[i] := by rw [← e, List.getElem_take]
  have z := List.pairwise_iff_getElem.mp (List.nodup_iff_pairwise_ne.mp nd)
  exact z j i (by omega) hi (by omega) e'
theorem lk_same {H H' : Hp} {a : Addr} {kvs : List (Key × V)} (ha : H a = some (.dK kvs)) (but : But a H H') : Same H (upd H' a (.dK kvs)) := fun b o hb => by
  by_cases e : b = a
  · subst e
    rw [ha] at hb
    rw [upd_same]
    exact hb
  · exact at_upd e (but b o e hb)
/-- the lists of the nodes' neighbours -/
structure AdjAt (H : Hp) (d : Addr) (ns : List Str) (es : List (Str × Str)) (A : Str → Addr) : Prop where
  di : H d = some (.dK (kvG ns fun n => .ref (A n)))
  li : ∀ n ∈ ns, ∃ ys : List Str, H (A n) = some (.lst (ys.map V.str)) ∧ ys.Perm (nbrF es n) ∧ ys.Pairwise fun a b => ¬ sLt b a
theorem AdjAt.same {H H' : Hp} {d : Addr} {ns : List Str} {es : List (Str × Str)} {A : Str → Addr} (h : AdjAt H d ns es A) (s : Same H H') : AdjAt H' d ns es A :=
  ⟨s _ _ h.di, fun n hn => by
    obtain ⟨ys, h1, h2⟩ := h.li n hn
    exact ⟨ys, s _ _ h1, h2⟩⟩
/-- a graph stands -/
structure GrS (H : Hp) (g n e : Addr) (ns : List Str) (es : List (Addr × Str × Str)) : Prop where
  gr : GrAt H g n e ns es
  ok : GrOk ns (es.map (·.2))
  l2 : ns.length ≤ 100
  l3 : es.length ≤ 1000
theorem GSt.grs {H : Hp} {g n e st : Addr} {ns ord : List Str} {es : List (Addr × Str × Str)} {f : Str → Int} (h : GSt H g n e st ns ord es f) : GrS H g n e ns es := ⟨h.gr, h.ok, h.l2, h.l3⟩
theorem GrS.same {H H' : Hp} {g n e : Addr} {ns : List Str} {es : List (Addr × Str × Str)} (h : GrS H g n e ns es) (s : Same H H') : GrS H' g n e ns es := ⟨h.gr.same s, h.ok, h.l2, h.l3⟩
theorem GrS.nd {H : Hp} {g n e : Addr} {ns : List Str} {es : List (Addr × Str × Str)} (h : GrS H g n e ns es) : ns.Nodup := asc_nodup h.ok.names.asc
theorem GrS.inE {H : Hp} {g n e : Addr} {ns : List Str} {es : List (Addr × Str × Str)} (h : GrS H g n e ns es) : ∀ x ∈ es, x.2.1 ∈ ns ∧ x.2.2 ∈ ns := fun x hx => h.ok.mem _ (List.mem_map_of_mem hx)
theorem GrS.ne {H : Hp} {g n e : Addr} {ns : List Str} {es : List (Addr × Str × Str)} (h : GrS H g n e ns es) : ∀ x ∈ es.map (·.2), x.1 ≠ x.2 := fun x hx z => by
  have := h.ok.lt x hx
  rw [z] at this
  exact sLt_irrefl _ this
def spAdj : Sp := fun vs H Q _ => ∃ (g n e : Addr) (ns : List Str) (es : List (Addr × Str × Str)), vs = [.ref g] ∧ GrS H g n e ns es ∧
  ∀ (d : Addr) (A : Str → Addr) (H' : Hp), Same H H' → H d = none → AdjAt H' d ns (es.map (·.2)) A → Q (.ref d) H'
def spAdjF : Sp := fun vs H Q _ => ∃ (g n e : Addr) (ns : List Str) (es : List (Addr × Str × Str)), vs = [.ref g] ∧ GrS H g n e ns es ∧
  ∀ (d : Addr) (A : Str → Addr) (H' : Hp), Same H H' → H d = none → AdjAt H' d ns (es.map (·.2)) A → (∀ m ∈ ns, H (A m) = none) → Q (.ref d) H'
theorem adj_weak {vs : List V} {H : Hp} {Q : VK} {E : XK} (h : spAdj vs H Q E) : spAdjF vs H Q E := by
  obtain ⟨g, n, e, ns, es, e1, gs, q⟩ := h
  exact ⟨g, n, e, ns, es, e1, gs, fun d A H' s n a _ => q d A H' s n a⟩
theorem FnG.weak {P : Program} {w : World} {K : PySem.W.Frag} {mg : Str → Option Value} {base : Heap} {CX : CXT} {k : Nat} {f : Addr} {fd : FuncData} {ps : List Str} {sp sp' : Sp} (F : FnG P w K mg base CX k f fd ps sp) (h : ∀ vs H Q E, sp' vs H Q E → sp vs H Q E) : FnG P w K mg base CX k f fd ps sp' :=
  ⟨fun vs H Q E z => F.len vs H Q E (h vs H Q E z), fun A outer s H args us vs Q E r e b v z => F.go A outer s H args us vs Q E r e b v (h vs H Q E z)⟩
theorem Cal.weak {P : Program} {w : World} {K : PySem.W.Frag} {mg : Str → Option Value} {base : Heap} {CX : CXT} {k : Nat} {x : Str} {sp sp' : Sp} (C : Cal P w K mg base CX k x sp) (h : ∀ vs H Q E, sp' vs H Q E → sp vs H Q E) : Cal P w K mg base CX k x sp' := by
  obtain ⟨f, fd, ps, F, r⟩ := C.ex
  exact ⟨⟨f, fd, ps, FnG.weak F h, r⟩⟩
/-- what grows at d: lists, one a name, apart -/
structure Grow (H H' : Hp) (d : Addr) (ns : List Str) (A : Str → Addr) (L : Str → List Str) : Prop where
  sm : Same H H'
  di : H' d = some (.dK (kvG ns fun n => .ref (A n)))
  li : ∀ n ∈ ns, H' (A n) = some (.lst ((L n).map V.str)) ∧ H (A n) = none
  ap : ∀ n ∈ ns, ∀ m ∈ ns, A n = A m → n = m
theorem Grow.put {H H' : Hp} {d : Addr} {ns : List Str} {A : Str → Addr} {L : Str → List Str} {n : Str} {ys : List Str} (h : Grow H H' d ns A L) (hn : n ∈ ns) : Grow H (upd H' (A n) (.lst (ys.map V.str))) d ns A (updV L n ys) := by
  refine ⟨same_put h.sm (h.li n hn).2, at_upd (ne_of h.di (h.li n hn).1 (by intro z; cases z)) h.di, fun m hm => ⟨?_, (h.li m hm).2⟩, h.ap⟩
  unfold updV
  by_cases e : m = n
  · subst e
    rw [if_pos rfl, upd_same]
  · rw [if_neg e]
    exact at_upd (fun z => e (h.ap m hm n hn z)) (h.li m hm).1
section
variable {P : Program} {w : World} {K : PySem.W.Frag} {mg : Str → Option Value} {base : Heap}
theorem ok_adjF {f : Addr} {fd : FuncData} (F : Fun K "adjacency" "adjacency" s_adjacency f fd) (B : Bt mg) : FnG P w K mg base CX0 1 f fd ["graph"] spAdjF := by
  refine fnG0 F sc_adjacency (fun vs H Q E h => ?_) (fun cdv A outer s H vs Q E hr h => ?_)
  · obtain ⟨g, n, e, ns, es, rfl, _⟩ := h
    rfl
  · obtain ⟨g, n, e, ns, es, rfl, gs, q⟩ := h
    have nd := sc_adjacency.nd
    have hu := hr.u1
    refine ⟨_, (pss_cons (ps_asg (pv 0) (kg_tup (n := 2) K rfl rfl (pgs_cons (pg_name (i := 1) nd rfl (by first | exact Or.inl rfl | exact Or.inr rfl)) (pgs_cons (pg_name (i := 2) nd rfl (by first | exact Or.inl rfl | exact Or.inr rfl)) pgs_nil))))
  (pss_cons (ps_setDc (i := 3) (own := [("node", 4)]) rfl nd rfl rfl (sw_dict rfl rfl rfl (by decide +kernel)) (ki_tup K rfl (pv 1)) (blkOk_by (own := [("node", 4)]) (N := nN_adjacency) (sc := defScope s_adjacency) (by decide +kernel)) (fun _ _ _ _ _ => (pg_name (i := 4) nd rfl (by first | exact Or.inl rfl | exact Or.inr rfl))) (fun _ _ _ _ _ => pts_nil) (fun _ _ _ _ _ => (pv 4)) (fun _ _ _ _ _ => (pe_lst pa_nil)))
  (pss_cons (ps_for PassesOwn.never rfl (ki_tup K rfl (pv 2)) (kg_tup (n := 2) K rfl rfl (pgs_cons (pg_name (i := 5) nd rfl (by first | exact Or.inl rfl | exact Or.inr rfl)) (pgs_cons (pg_name (i := 6) nd rfl (by first | exact Or.inl rfl | exact Or.inr rfl)) pgs_nil))) (pss_cons (ps_expr (pe_bm PySem.F.plainAttrs_list PySem.F.slot_list_append PySem.F.type_list_append mt_append (pe_dget hu (pv 3) (pv 5) (fun _ _ => rfl)) (pa_cons (pv 6) pa_nil)))
  (pss_one (ps_expr (pe_bm PySem.F.plainAttrs_list PySem.F.slot_list_append PySem.F.type_list_append mt_append (pe_dget hu (pv 3) (pv 6) (fun _ _ => rfl)) (pa_cons (pv 5) pa_nil))))))
  (pss_one (ps_ret (pe_lock (pe_dc (own := [("node", 4), ("some", 7)]) rfl nd (pi_items (pv 3)) (blkOk_by (own := [("node", 4), ("some", 7)]) (N := nN_adjacency) (sc := defScope s_adjacency) (by decide +kernel)) (fun _ _ _ _ _ => (kg_tup (n := 2) K rfl rfl (pgs_cons (pg_name (i := 4) nd rfl (by first | exact Or.inl rfl | exact Or.inr rfl)) (pgs_cons (pg_name (i := 7) nd rfl (by first | exact Or.inl rfl | exact Or.inr rfl)) pgs_nil)))) (fun _ _ _ _ _ => pts_nil) (fun _ _ _ _ _ => (pv 4)) (fun _ _ _ _ _ => (pe_callB (kSorted K rfl hr.u64) (by rfl) B.sorted bb_sorted (pa_cons (pv 7) pa_nil)))))))))), ?_⟩
    wtm_at "rd"
    refine rd_unp (SqT.of gs.gr.top) rfl ?_
    wtm_at "rd"
    refine rd_forT (SqT.of gs.gr.nodes) ?_
    intro D fD
    refine dcW (walk_tup (K := K) (a := n) (xs := ns.map V.str)) (fun i H' => ∃ A : Str → Addr, Grow H H' D (ns.take i) A (fun _ => [])) ⟨fun _ => 0, Same.new fD, upd_same, (fun n hn => nomatch hn), fun n hn => nomatch hn⟩ ?_ ?_ ?_
    · rintro i H' hi ⟨A, gw⟩
      exact SqT.of (gw.sm _ _ gs.gr.nodes)
    · rintro i x H' H2 hi ⟨A, gw⟩ ⟨rfl, hx⟩
      obtain ⟨hin, rfl⟩ := map_at hx
      wtm_at "rd"
      intro t ft
      refine rd_accD (k := .inr ns[i]) rfl (at_upd (ne_of_none gw.di ft) gw.di) (by rw [List.length_map, List.length_take]; have := gs.l2; omega) ?_
      have ntD : t ≠ D := Ne.symm (ne_of_none gw.di ft)
      have nin := not_take gs.nd hin
      have nt : ∀ m ∈ ns.take i, A m ≠ t := fun m hm => ne_of_none (gw.li m hm).1 ft
      refine ⟨updV A ns[i] t, same_put (same_add gw.sm ft) fD, ?_, ?_, ?_⟩
      · rw [upd_same, kvG_new nin, take_snoc hin]
        congr 2
        refine List.map_congr_left fun m _ => ?_
        show ((Sum.inr m : Key), updV (fun n => V.ref (A n)) ns[i] (.ref t) m) = (Sum.inr m, V.ref (updV A ns[i] t m))
        unfold updV
        by_cases z : m = ns[i]
        · rw [if_pos z, if_pos z]
        · rw [if_neg z, if_neg z]
      · intro m hm
        rw [take_snoc hin] at hm
        unfold updV
        rcases List.mem_append.mp hm with hm | hm
        · rw [if_neg (fun z => nin (by rw [← z]; exact hm))]
          exact ⟨at_upd (ne_of (gw.li m hm).1 gw.di (by intro z; cases z)) (at_upd (nt m hm) (gw.li m hm).1), (gw.li m hm).2⟩
        · rw [List.mem_singleton] at hm
          rw [if_pos hm]
          exact ⟨at_upd ntD upd_same, new_of_same gw.sm ft⟩
      · intro m hm m2 hm2 z
        rw [take_snoc hin] at hm hm2
        unfold updV at z
        rcases List.mem_append.mp hm with hm | hm <;> rcases List.mem_append.mp hm2 with hm2 | hm2
        · rw [if_neg (fun y => nin (by rw [← y]; exact hm)), if_neg (fun y => nin (by rw [← y]; exact hm2))] at z
          exact gw.ap m hm m2 hm2 z
        · rw [List.mem_singleton] at hm2
          rw [if_neg (fun y => nin (by rw [← y]; exact hm)), if_pos hm2] at z
          exact absurd z (nt m hm)
        · rw [List.mem_singleton] at hm
          rw [if_pos hm, if_neg (fun y => nin (by rw [← y]; exact hm2))] at z
          exact absurd z.symm (nt m2 hm2)
        · rw [List.mem_singleton] at hm hm2
          rw [hm, hm2]
    rintro H1 ⟨A, gw⟩
    rw [List.length_map, List.take_length] at gw
    wtm_at "rd"
    refine rd_forT (SqT.of (gw.sm _ _ gs.gr.edges)) ?_
    refine turnsT (K := K) (xs := es.map fun x => V.ref x.1) (fun i σ H' => ∃ u4 u5 u6 u7 : Option V, σ = [some (.ref g), some (.ref n), some (.ref e), some (.ref D), u4, u5, u6, u7] ∧ Grow H H' D ns A (fun m => nbrF ((es.map (·.2)).take i) m)) ⟨_, _, _, _, rfl, gw⟩ ?_ ?_ ?_
    · rintro i σ H' hi ⟨u4, u5, u6, u7, rfl, gw⟩
      exact SqT.of (gw.sm _ _ gs.gr.edges)
    · rintro i y σ H' hy ⟨u4, u5, u6, u7, rfl, gw⟩
      obtain ⟨hi, rfl⟩ := map_at hy
      have hm := List.getElem_mem hi
      obtain ⟨m1, m2⟩ := gs.inE _ hm
      have hne : es[i].2.1 ≠ es[i].2.2 := gs.ne es[i].2 (List.mem_map_of_mem hm)
      have hi2 : i < (es.map (·.2)).length := by rw [List.length_map]; exact hi
      have len : ∀ m, (nbrF ((es.map (·.2)).take i) m).length ≤ 2000 := fun m => by
        have := nbrF_len (x := m) (es := (es.map (·.2)).take i)
        rw [List.length_take, List.length_map] at this
        have := gs.l3
        omega
      have tk : ∀ m, nbrF ((es.map (·.2)).take (i + 1)) m = nbrF ((es.map (·.2)).take i) m ++ ((if es[i].2.1 = m then [es[i].2.2] else []) ++ (if es[i].2.2 = m then [es[i].2.1] else [])) := fun m => by
        have := nbrF_take (x := m) hi2
        rw [List.getElem_map] at this
        exact this
      refine rd_unp (SqT.of (gw.sm _ _ (gs.gr.pairs _ hm))) rfl ?_
      wtm_at "rd"
      refine rd_dat (.inl gw.di) (kvG_val m1) rfl ?_
      refine rd_tyL (gw.li _ m1).1 ?_
      wtm_at "rd"
      refine rd_append (gw.li _ m1).1 (by rw [List.length_map]; have := len es[i].2.1; omega) ?_
      have gw2 := gw.put (ys := nbrF ((es.map (·.2)).take i) es[i].2.1 ++ [es[i].2.2]) m1
      rw [List.map_append] at gw2
      wtm_at "rd"
      refine rd_dat (.inl gw2.di) (kvG_val m2) rfl ?_
      have l2 := (gw2.li _ m2).1
      have e2 : updV (fun m => nbrF ((es.map (·.2)).take i) m) es[i].2.1 (nbrF ((es.map (·.2)).take i) es[i].2.1 ++ [es[i].2.2]) es[i].2.2 = nbrF ((es.map (·.2)).take i) es[i].2.2 := if_neg (Ne.symm hne)
      rw [e2] at l2
      refine rd_tyL l2 ?_
      wtm_at "rd"
      refine rd_append l2 (by rw [List.length_map]; have := len es[i].2.2; omega) ?_
      have gw3 := gw2.put (ys := nbrF ((es.map (·.2)).take i) es[i].2.2 ++ [es[i].2.1]) m2
      rw [List.map_append] at gw3
      refine ⟨_, _, _, _, rfl, gw3.sm, gw3.di, fun m hm => ⟨?_, (gw3.li m hm).2⟩, gw3.ap⟩
      refine (gw3.li m hm).1.trans ?_
      congr 3
      rw [tk]
      unfold updV
      by_cases c2 : m = es[i].2.2
      · subst c2
        rw [if_pos rfl, if_neg hne, if_pos rfl, List.nil_append]
      · rw [if_neg c2]
        by_cases c1 : m = es[i].2.1
        · subst c1
          rw [if_pos rfl, if_pos rfl, if_neg (Ne.symm hne), List.append_nil]
        · rw [if_neg c1, if_neg (Ne.symm c1), if_neg (Ne.symm c2), List.append_nil, List.append_nil]
    rintro σ H2 ⟨u4, u5, u6, u7, rfl, gw2⟩
    rw [List.length_map, List.take_of_length_le (by rw [List.length_map]; exact Nat.le_refl _)] at gw2
    wtm_at "rd"
    refine rd_lockE gw2.di fun od => ?_
    wtm_at "rd"
    refine rd_forI upd_same ?_
    intro D2 fD2
    have nDa := new_ne fD2
    have fD20 := new_old fD2
    refine dcW walk_items (fun i H' => ∃ A2 : Str → Addr, But D H2 H' ∧ H' D = some (.frz od (.dK (kvG ns fun n => .ref (A n)))) ∧ H' D2 = some (.dK (kvG (ns.take i) fun n => .ref (A2 n))) ∧ (∀ m ∈ ns.take i, ∃ ys : List Str, H' (A2 m) = some (.lst (ys.map V.str)) ∧ (ys.Perm (nbrF (es.map (·.2)) m) ∧ ys.Pairwise fun a b => ¬ sLt b a)) ∧ ∀ m ∈ ns.take i, H (A2 m) = none)
      ⟨fun _ => 0, But.upd.trans (But.new fD2), at_upd (Ne.symm nDa) upd_same, upd_same, (fun m hm => nomatch hm), fun m hm => nomatch hm⟩ ?_ ?_ ?_
    · rintro i H' hi ⟨A2, _, hf, _⟩
      exact hf
    · rintro i x H' H3 hi ⟨A2, but, hf, hD, hl, fre⟩ ⟨T, x1, y1, rfl, fT, rfl, e1, e2⟩
      obtain ⟨hin, rfl, rfl⟩ := kvG_at e1 e2
      have hmem := List.getElem_mem hin
      have nin := not_take gs.nd hin
      have but2 : But D H2 (upd H' T (.tup [.str ns[i], .ref (A ns[i])])) := but.trans (But.new fT)
      have hf2 := at_upd (o := .tup [.str ns[i], .ref (A ns[i])]) (ne_of_none hf fT) hf
      have hD3 := at_upd (o := .tup [.str ns[i], .ref (A ns[i])]) (ne_of_none hD fT) hD
      have hl2 : ∀ m ∈ ns.take i, ∃ ys : List Str, upd H' T (.tup [.str ns[i], .ref (A ns[i])]) (A2 m) = some (.lst (ys.map V.str)) ∧ (ys.Perm (nbrF (es.map (·.2)) m) ∧ ys.Pairwise fun a b => ¬ sLt b a) := fun m hm => by
        obtain ⟨ys, z1, z2⟩ := hl m hm
        exact ⟨ys, at_upd (ne_of_none z1 fT) z1, z2⟩
      refine rd_unp (SqT.of upd_same) rfl ?_
      have ha := but2 _ _ (ne_of (gw2.li _ hmem).1 gw2.di (by intro z; cases z)) (gw2.li _ hmem).1
      generalize upd H' T (.tup [.str ns[i], .ref (A ns[i])]) = H4 at but2 hf2 hD3 hl2 ha
      wtm_at "rd"
      refine rd_sortS (SqL.of ha) (by have := nbrF_len (x := ns[i]) (es := es.map (·.2)); rw [List.length_map] at this; have := gs.l3; omega) ?_
      intro ys py sy l2 fl2
      refine rd_accD (k := .inr ns[i]) rfl (at_upd (ne_of_none hD3 fl2) hD3) (by rw [List.length_map, List.length_take]; have := gs.l2; omega) ?_
      have nl2D : l2 ≠ D2 := Ne.symm (ne_of_none hD3 fl2)
      have nH : H l2 = none := new_of_same gw2.sm (but2.free (Ne.symm (ne_of_none hf2 fl2)) fl2)
      refine ⟨updV A2 ns[i] l2, fun b' o' nb hb' => at_upd (ne_of_none hb' fD20) ((but2.trans (But.new fl2)) b' o' nb hb'), at_upd (Ne.symm nDa) (at_upd (ne_of_none hf2 fl2) hf2), ?_, ?_, ?_⟩
      · rw [upd_same, kvG_new nin, take_snoc hin]
        congr 2
        refine List.map_congr_left fun m _ => ?_
        show ((Sum.inr m : Key), updV (fun n => V.ref (A2 n)) ns[i] (.ref l2) m) = (Sum.inr m, V.ref (updV A2 ns[i] l2 m))
        unfold updV
        by_cases z : m = ns[i]
        · rw [if_pos z, if_pos z]
        · rw [if_neg z, if_neg z]
      · intro m hm
        rw [take_snoc hin] at hm
        unfold updV
        rcases List.mem_append.mp hm with hm | hm
        · rw [if_neg (fun z => nin (by rw [← z]; exact hm))]
          obtain ⟨zs, z1, z2⟩ := hl2 m hm
          exact ⟨zs, at_upd (ne_of z1 hD3 (by intro z; cases z)) (at_upd (ne_of_none z1 fl2) z1), z2⟩
        · rw [List.mem_singleton] at hm
          subst hm
          rw [if_pos rfl]
          exact ⟨ys, at_upd nl2D upd_same, py, sy⟩
      · intro m hm
        rw [take_snoc hin] at hm
        unfold updV
        rcases List.mem_append.mp hm with hm | hm
        · rw [if_neg (fun z => nin (by rw [← z]; exact hm))]
          exact fre m hm
        · rw [List.mem_singleton] at hm
          subst hm
          rw [if_pos rfl]
          exact nH
    rintro H' ⟨A2, but, hf, hD, hl, fre⟩
    rw [List.length_map, List.take_length] at hD hl fre
    refine ⟨hf, q D2 A2 _ (gw2.sm.trans (lk_same gw2.di but)) (new_of_same gw2.sm fD20) ⟨at_upd nDa hD, fun m hm => ?_⟩ fre⟩
    obtain ⟨ys, z1, z2⟩ := hl m hm
    exact ⟨ys, at_upd (ne_of z1 hf (by intro z; cases z)) z1, z2⟩
theorem ok_adj {f : Addr} {fd : FuncData} (F : Fun K "adjacency" "adjacency" s_adjacency f fd) (B : Bt mg) : FnG P w K mg base CX0 1 f fd ["graph"] spAdj := FnG.weak (ok_adjF F B) fun _ _ _ _ h => adj_weak h
end
end Law

namespace Law
open PySem PySem.Spec PyProof.Rows L2 U


def valsF (es : List (Str × Str)) (f : Str → Int) (x : Str) (pn : List Str) : List Int := if x ∈ pn then [] else ([0, 1, 2] : List Int).filter (freeB es f x)
theorem movesF_vals {ns : List Str} {es : List (Str × Str)} {f : Str → Int} {pn : List Str} : movesF ns es f pn = ns.flatMap fun n => (valsF es f n pn).map fun v => (n, v) := by
  unfold movesF
  congr 1
  funext n
  unfold valsF
  split
  · rfl
  · rfl
theorem vals_len {es : List (Str × Str)} {f : Str → Int} {x : Str} {pn : List Str} : (valsF es f x pn).length ≤ 3 := by
  unfold valsF
  split
  · simp
  · exact List.length_filter_le _ _
def spVals (K : PySem.W.Frag) : Sp := fun vs H Q _ => ∃ (st al ps : Addr) (x : Str) (ord ys pn : List Str) (es : List (Str × Str)) (f : Str → Int), vs = [.ref st, .str x, .ref al, .ref ps] ∧ H st = some (.dK (kvF ord f)) ∧ x ∈ ord ∧ H al = some (.lst (ys.map V.str)) ∧ (∀ y ∈ ys, y ∈ ord) ∧
  ys.Perm (nbrF es x) ∧ ys.length ≤ 2000 ∧ SqT K H ps (pn.map V.str) ∧ ∀ (l : Addr) (H' : Hp), Same H H' → H l = none → H' l = some (.lst ((valsF es f x pn).map V.int)) → Q (.ref l) H'
section
variable {P : Program} {w : World} {K : PySem.W.Frag} {mg : Str → Option Value} {base : Heap}
theorem ok_vals {f : Addr} {fd : FuncData} {va : Addr} (F : Fun K "values_for" "values_for" s_values_for f fd) (B : Bt mg) (hV : mg "VALUES" = some (.ref va)) (sV : ∀ H, SqT K H va ([0, 1, 2].map V.int)) : FnG P w K mg base CX0 1 f fd ["state", "node", "adjacent", "pinned"] (spVals K) := by
  refine fnG0 F sc_values_for (fun vs H Q E h => ?_) (fun cdv A outer s H vs Q E hr h => ?_)
  · obtain ⟨st, al, ps, x, ord, ys, pn, es, f, rfl, _⟩ := h
    rfl
  · obtain ⟨st, al, ps, x, ord, ys, pn, es, f, rfl, hst, hx, hal, hys, py, yl, hps, q⟩ := h
    have nd := sc_values_for.nd
    have hu := hr.u1
    refine ⟨_, (pss_cons (ps_if (pt_cmpR (kIn K rfl) (pv 1) (pv 3) rfl) (pss_one (ps_ret (pe_lst pa_nil))) pss_nil)
  (pss_cons (ps_set (i := 4) nd rfl (by first | exact Or.inl rfl | exact Or.inr rfl) (pe_op (kAdd K rfl) (pe_lst (pa_cons (pe_dget hu (pv 0) (pv 1) (fun _ _ => rfl)) pa_nil)) (pe_lc (own := [("other", 5)]) rfl nd (ki_list K rfl (pv 2)) (blkOk_by (own := [("other", 5)]) (N := nN_values_for) (sc := defScope s_values_for) (by decide +kernel)) (fun _ _ _ _ _ => (pg_name (i := 5) nd rfl (by first | exact Or.inl rfl | exact Or.inr rfl))) (fun _ _ _ _ _ => pts_nil) (fun _ _ _ _ _ => (pe_dget hu (pv 0) (pv 5) (fun _ _ => rfl))))))
  (pss_one (ps_ret (pe_lc (own := [("value", 6)]) rfl nd (ki_tup K rfl (pe_gl (v := .ref va) rfl ⟨_, hV, rfl⟩)) (blkOk_by (own := [("value", 6)]) (N := nN_values_for) (sc := defScope s_values_for) (by decide +kernel)) (fun _ _ _ _ _ => (pg_name (i := 6) nd rfl (by first | exact Or.inl rfl | exact Or.inr rfl))) (fun _ _ _ _ _ => (pts_one (pt_cmpR (kNotIn K rfl) (pv 6) (pv 4) rfl))) (fun _ _ _ _ _ => (pv 6))))))), ?_⟩
    wtm_at "rd"
    refine rd_inST hps ?_
    wtm_at "rd"
    unfold valsF at q
    refine rd_split (fun c => ?_) (fun c => ?_)
    · rw [if_pos c] at q
      wtm_at "rd"
      exact fun l fl => q l _ (Same.new fl) fl upd_same
    · rw [if_neg c] at q
      wtm_at "rd"
      refine rd_dat (.inl hst) (kvF_val hx) rfl ?_
      wtm_at "rd"
      intro t ft
      have s1 := Same.new (o := .lst [.int (f x)]) ft
      have ht := @upd_same H t (.lst [.int (f x)])
      generalize upd H t (.lst [.int (f x)]) = H1 at s1 ht
      wtm_at "rd"
      refine rd_forL (SqL.of (s1 _ _ hal)) ?_
      intro D fD
      refine lcL (K := K) (xs := ys.map V.str) (fun j H' => Same H1 H' ∧ H' D = some (.lst (((ys.take j).map f).map V.int))) ⟨Same.new fD, upd_same⟩ ?_ ?_ ?_
      · rintro j H' hj ⟨sb, _⟩
        exact SqL.of (sb _ _ (s1 _ _ hal))
      · rintro j y H' hy ⟨sb, hD⟩
        obtain ⟨hj, rfl⟩ := map_at hy
        wtm_at "rd"
        refine rd_dat (.inl (sb _ _ (s1 _ _ hst))) (kvF_val (hys _ (List.getElem_mem hj))) rfl ?_
        refine rd_acc hD (by rw [List.length_map, List.length_map, List.length_take]; omega) ?_
        refine ⟨same_put sb fD, ?_⟩
        rw [upd_same, take_snoc hj, List.map_append, List.map_append]
        rfl
      rintro H2 ⟨sb, hD⟩
      rw [List.length_map, List.take_length] at hD
      have s2 := s1.trans sb
      wtm_at "rd"
      refine rd_catL (sb _ _ ht) hD (by rw [List.length_map, List.length_map]; simp only [List.length_singleton]; omega) ?_
      intro ex fex
      have s3 := same_add (o := .lst ([V.int (f x)] ++ (ys.map f).map V.int)) s2 fex
      have hex : upd H2 ex (.lst ([V.int (f x)] ++ (ys.map f).map V.int)) ex = some (.lst (([f x] ++ ys.map f).map V.int)) := by
        rw [upd_same, List.map_append]
        rfl
      generalize upd H2 ex (.lst ([V.int (f x)] ++ (ys.map f).map V.int)) = H3 at s3 hex
      wtm_at "rd"
      refine rd_forT (sV _) ?_
      intro D2 fD2
      refine lcT (K := K) (xs := ([0, 1, 2] : List Int).map V.int) (fun j H' => Same H3 H' ∧ H' D2 = some (.lst (((([0, 1, 2] : List Int).take j).filter (freeB es f x)).map V.int))) ⟨Same.new fD2, upd_same⟩ ?_ ?_ ?_
      · rintro j H' hj _
        exact sV _
      · rintro j y H' hy ⟨sc, hD2⟩
        obtain ⟨hj, rfl⟩ := map_at hy
        have fb : freeB es f x ([0, 1, 2] : List Int)[j] = !decide (([0, 1, 2] : List Int)[j] ∈ [f x] ++ ys.map f) := by
          unfold freeB
          congr 1
          refine decide_eq_decide.mpr ?_
          rw [List.mem_append, List.mem_append, (py.map f).mem_iff]
          exact Or.comm
        have tj := take_snoc hj
        have fl : ((([0, 1, 2] : List Int).take j).filter (freeB es f x)).length ≤ 3 := by
          have h2 := List.length_filter_le (freeB es f x) (([0, 1, 2] : List Int).take j)
          rw [List.length_take] at h2
          simp only [List.length_cons, List.length_nil] at h2
          omega
        generalize ([0, 1, 2] : List Int)[j] = v at *
        wtm_at "rd"
        refine rd_ninIL (SqL.of (sc _ _ hex)) ?_
        wtm_at "rd"
        rw [← fb]
        cases c2 : freeB es f x v with
        | true =>
          rw [if_pos rfl]
          wtm_at "rd"
          refine rd_acc hD2 (by rw [List.length_map]; omega) ?_
          refine ⟨same_put sc fD2, ?_⟩
          rw [upd_same, tj, List.filter_append, List.map_append, List.filter_cons_of_pos c2, List.filter_nil]
          rfl
        | false =>
          rw [if_neg Bool.false_ne_true]
          refine ⟨sc, ?_⟩
          rw [hD2, tj, List.filter_append, List.filter_cons_of_neg (by rw [c2]; exact Bool.false_ne_true), List.filter_nil, List.append_nil]
      · rintro H4 ⟨sc, hD2⟩
        exact q D2 H4 (s3.trans sc) (new_of_same s3 fD2) hD2
structure C5 (P : Program) (w : World) (K : PySem.W.Frag) (mg : Str → Option Value) (base : Heap) : Prop where
  adjacency : Cal P w K mg base CX0 1 "adjacency" spAdj
  values_for : Cal P w K mg base CX0 1 "values_for" (spVals K)
def spAvail (K : PySem.W.Frag) : Sp := fun vs H Q _ => ∃ (g n e st ps : Addr) (ns ord pn : List Str) (es : List (Addr × Str × Str)) (f : Str → Int), vs = [.ref g, .ref st, .ref ps] ∧ GSt H g n e st ns ord es f ∧ SqT K H ps (pn.map V.str) ∧
  ∀ (l : Addr) (ms : List (Addr × Str × Int)) (H' : Hp), Same H H' → H l = none → H' l = some (.lst (ms.map fun m => V.ref m.1)) → TupsAt H' ms → ms.map (·.2) = movesF ns (es.map (·.2)) f pn → Q (.ref l) H'
theorem ok_avail {f : Addr} {fd : FuncData} (F : Fun K "available_moves" "available_moves" s_available_moves f fd) (B : Bt mg) (C : C5 P w K mg base) : FnG P w K mg base CX0 2 f fd ["graph", "state", "pinned"] (spAvail K) := by
  refine fnG0 F sc_available_moves (fun vs H Q E h => ?_) (fun cdv A outer s H vs Q E hr h => ?_)
  · obtain ⟨g, n, e, st, ps, ns, ord, pn, es, f, rfl, _⟩ := h
    rfl
  · obtain ⟨g, n, e, st, ps, ns, ord, pn, es, f, rfl, gs, hps, q⟩ := h
    have nd := sc_available_moves.nd
    have hu := hr.u1
    refine ⟨_, (pss_cons (ps_set (i := 3) nd rfl (by first | exact Or.inl rfl | exact Or.inr rfl) (pe_c C.adjacency hr (by decide) rfl (pa_cons (pv 0) pa_nil)))
  (pss_one (ps_ret (pe_lc2 (own := [("node", 4), ("value", 5)]) (vs1 := [5]) rfl nd (ki_tup K rfl (pe_ix (kIx K rfl) (pv 0) pe_int (fun _ _ => rfl))) (blkOk_by (own := [("node", 4), ("value", 5)]) (N := nN_available_moves) (sc := defScope s_available_moves) (by decide +kernel)) (by decide) (fun _ _ _ _ _ => (pg_name (i := 4) nd rfl (by first | exact Or.inl rfl | exact Or.inr rfl))) (fun _ _ _ _ _ => pts_nil) (fun _ _ _ _ _ => (ki_list K rfl (pe_c C.values_for hr (by decide) rfl (pa_cons (pv 1) (pa_cons (pv 4) (pa_cons (pe_dget hu (pv 3) (pv 4) (fun _ _ => rfl)) (pa_cons (pv 2) pa_nil))))))) (fun _ _ _ _ _ => (pg_name (i := 5) nd rfl (by first | exact Or.inl rfl | exact Or.inr rfl))) (fun _ _ _ _ _ => pts_nil) (fun _ _ _ _ _ => (pe_tup (pa_cons (pv 4) (pa_cons (pv 5) pa_nil)))))))), ?_⟩
    wtm_at "rd"
    refine ⟨g, n, e, ns, es, rfl, gs.grs, fun d Ad H1 s1 fd0 ad => ?_⟩
    wtm_at "rd"
    refine rd_ixT (SqT.of (s1 _ _ gs.gr.top)) (v := .ref n) rfl ?_
    refine rd_forT (SqT.of (s1 _ _ gs.gr.nodes)) ?_
    intro D fD
    have fD0 := new_of_same s1 fD
    refine lc2W (walk_tup (K := K) (a := n) (xs := ns.map V.str)) (fun i H' => ∃ ms : List (Addr × Str × Int), Same H1 H' ∧ H' D = some (.lst (ms.map fun m => V.ref m.1)) ∧ TupsAt H' ms ∧ ms.map (·.2) = movesF (ns.take i) (es.map (·.2)) f pn) ⟨[], Same.new fD, upd_same, TupsAt.nil, by simp [movesF]⟩ ?_ ?_ ?_
    · rintro i H' hi ⟨ms, sb, _⟩
      exact SqT.of (sb _ _ (s1 _ _ gs.gr.nodes))
    · rintro i x H' H2 hi ⟨ms, sb, hD, tm, em⟩ ⟨rfl, hx⟩
      obtain ⟨hin, rfl⟩ := map_at hx
      have hmem := List.getElem_mem hin
      have mt : movesF (ns.take (i + 1)) (es.map (·.2)) f pn = movesF (ns.take i) (es.map (·.2)) f pn ++ (valsF (es.map (·.2)) f ns[i] pn).map fun v => (ns[i], v) := by
        rw [movesF_vals, movesF_vals, take_snoc hin, List.flatMap_append]
        simp
      have ml : ms.length ≤ 300 := by
        have h1 := congrArg List.length em
        have h2 := movesF_len (es := es.map (·.2)) (f := f) (ps := pn) (ns := ns.take i)
        rw [List.length_map] at h1
        rw [List.length_take] at h2
        have := gs.l2
        omega
      have ad2 := ad.same sb
      obtain ⟨ys, y1, y2, _⟩ := ad2.li _ hmem
      have yl : ys.length ≤ 2000 := by
        have := nbrF_len (x := ns[i]) (es := es.map (·.2))
        rw [List.length_map] at this
        rw [y2.length_eq]
        have := gs.l3
        omega
      have yin : ∀ y ∈ ys, y ∈ ord := fun y hy => by
        rcases mem_nbrF.mp (y2.mem_iff.mp hy) with h | h
        · exact gs.inO _ (gs.ok.mem _ h).2
        · exact gs.inO _ (gs.ok.mem _ h).1
      wtm_at "rd"
      refine rd_dat (.inl ad2.di) (kvG_val hmem) rfl ?_
      wtm_at "rd"
      refine ⟨st, _, ps, ns[i], ord, ys, pn, es.map (·.2), f, rfl, sb _ _ (s1 _ _ gs.st), gs.inO _ hmem, y1, yin, y2, yl, Same.seqT (s1.trans sb) hps, fun l H3 s3 fl hl => ?_⟩
      refine rd_forL (SqL.of hl) ?_
      have vl := vals_len (es := es.map (·.2)) (f := f) (x := ns[i]) (pn := pn)
      generalize valsF (es.map (·.2)) f ns[i] pn = vals at hl mt vl
      refine in1W (walk_list (K := K) (a := l) (xs := vals.map V.int)) (fun j H' => ∃ m2 : List (Addr × Str × Int), Same H1 H' ∧ H' l = some (.lst (vals.map V.int)) ∧ H' D = some (.lst (m2.map fun m => V.ref m.1)) ∧ TupsAt H' m2 ∧ m2.length ≤ 300 + j ∧ m2.map (·.2) = movesF (ns.take i) (es.map (·.2)) f pn ++ (vals.take j).map fun v => (ns[i], v))
        ⟨ms, sb.trans s3, hl, s3 _ _ hD, tm.same s3, by omega, by rw [em]; simp⟩ ?_ ?_ ?_
      · rintro j H' hj ⟨m2, _, h, _⟩
        exact SqL.of h
      · rintro j y H4 H5 hj ⟨m2, s4, hl4, hD4, t4, l4, e4⟩ ⟨rfl, hy⟩
        obtain ⟨hjn, rfl⟩ := map_at hy
        wtm_at "rd"
        intro t ft
        have hD5 := at_upd (o := .tup [.str ns[i], .int vals[j]]) (ne_of_none hD4 ft) hD4
        refine rd_acc hD5 (by rw [List.length_map]; omega) ?_
        have nlD : l ≠ D := fun z => by
          have w1 := s3 _ _ hD
          rw [← z] at w1
          rw [z] at fl
          rw [fl] at hD
          cases hD
        refine ⟨m2 ++ [(t, ns[i], vals[j])], same_put (same_add s4 ft) fD, at_upd nlD (at_upd (ne_of_none hl4 ft) hl4), ?_, ?_, by rw [List.length_append]; simp only [List.length_singleton]; omega, ?_⟩
        · rw [upd_same, List.map_append]
          rfl
        · refine TupsAt.put (TupsAt.app (t4.new ft) ?_) hD5
          intro m hm
          rw [List.mem_singleton] at hm
          subst hm
          exact upd_same
        · rw [List.map_append, e4, take_snoc hjn, List.map_append, List.append_assoc]
          rfl
      · rintro H4 ⟨m2, s4, hl4, hD4, t4, l4, e4⟩
        rw [List.length_map, List.take_length, ← mt] at e4
        exact ⟨m2, s4, hD4, t4, e4⟩
    · rintro H2 ⟨ms, sb, hD, tm, em⟩
      rw [List.length_map, List.take_length] at em
      exact q D ms H2 (s1.trans sb) fD0 hD tm em
end
end Law

namespace Law
open PySem PySem.Spec PyProof.Rows L2 U


def spIsInt (K : PySem.W.Frag) : Sp := fun vs H Q _ => ∃ (x : V) (a : Ty), vs = [x] ∧ TyIs K H x a ∧ Q (.bl (decide (a = .int))) H
def spHas : Sp := fun vs H Q _ => ∃ (g n e : Addr) (x : Str) (ns : List Str) (es : List (Addr × Str × Str)), vs = [.ref g, .str x] ∧ GrAt H g n e ns es ∧ Q (.bl (decide (x ∈ ns))) H
def spIsVal : Sp := fun vs H Q _ => ∃ v : Int, vs = [.int v] ∧ Q (.bl (decide (0 ≤ v) && decide (v ≤ 2))) H
def spIsMove (K : PySem.W.Frag) : Sp := fun vs H Q _ => ∃ (g n e st ad c ps : Addr) (x : Str) (v : Int) (ns ord pn : List Str) (es : List (Addr × Str × Str)) (f : Str → Int) (Ad : Str → Addr), vs = [.ref g, .ref st, .ref ad, .ref c, .ref ps] ∧ GSt H g n e st ns ord es f ∧
  AdjAt H ad ns (es.map (·.2)) Ad ∧ H c = some (.tup [.str x, .int v]) ∧ Legal ns (es.map (·.2)) f pn (x, v) ∧ SqT K H ps (pn.map V.str) ∧ ∀ H' : Hp, Same H H' → Q (.bl true) H'
def playF (f : Str → Int) (ms : List (Str × Int)) : Str → Int := ms.foldl (fun f m => updf f m.1 m.2) f
def LegalSeq (ns : List Str) (es : List (Str × Str)) (pn : List Str) (f : Str → Int) (ms : List (Str × Int)) : Prop := ∀ i (h : i < ms.length), Legal ns es (playF f (ms.take i)) pn ms[i]
theorem playF_snoc {f : Str → Int} {ms : List (Str × Int)} {m : Str × Int} : playF f (ms ++ [m]) = updf (playF f ms) m.1 m.2 := by
  unfold playF
  rw [List.foldl_append]
  rfl
theorem upd_ok {ns : List Str} {es : List (Str × Str)} {pn : List Str} {f : Str → Int} {m : Str × Int} (ok : EsOk ns es f) (l : Legal ns es f pn m) : EsOk ns es (updf f m.1 m.2) := by
  refine (move_keeps (f0 := f) (h := fun _ => 0) ok l fun e _ => ?_).1
  omega
theorem seq_ok {ns : List Str} {es : List (Str × Str)} {pn : List Str} {f : Str → Int} {ms : List (Str × Int)} (ok : EsOk ns es f) (l : LegalSeq ns es pn f ms) : ∀ i, i ≤ ms.length → EsOk ns es (playF f (ms.take i))
  | 0, _ => by
    rw [List.take_zero]
    exact ok
  | i + 1, h => by
    rw [take_snoc (by omega : i < ms.length), playF_snoc]
    exact upd_ok (seq_ok ok l i (by omega)) (l i (by omega))
theorem GSt.re {H : Hp} {g n e st st' : Addr} {ns ord : List Str} {es : List (Addr × Str × Str)} {f f' : Str → Int} (h : GSt H g n e st ns ord es f) (hs : H st' = some (.dK (kvF ord f'))) (ok : EsOk ns (es.map (·.2)) f') : GSt H g n e st' ns ord es f' :=
  ⟨h.gr, h.ok, h.pm, h.l2, h.l3, hs, ok.tri, fun x hx => ok.pro _ (List.mem_map_of_mem hx)⟩
def spApply (K : PySem.W.Frag) : Sp := fun vs H Q _ => ∃ (g n e st mv ps : Addr) (ns ord pn : List Str) (es : List (Addr × Str × Str)) (f : Str → Int) (ms : List (Addr × Str × Int)), vs = [.ref g, .ref st, .ref mv, .ref ps] ∧ GSt H g n e st ns ord es f ∧
  H mv = some (.lst (ms.map fun m => V.ref m.1)) ∧ TupsAt H ms ∧ LegalSeq ns (es.map (·.2)) pn f (ms.map (·.2)) ∧ SqT K H ps (pn.map V.str) ∧
  ∀ (d : Addr) (H' : Hp), Same H H' → H d = none → H' d = some (.dK (kvF ord (playF f (ms.map (·.2))))) → Q (.ref d) H'
section
variable {P : Program} {w : World} {K : PySem.W.Frag} {mg : Str → Option Value} {base : Heap}
theorem ok_is_integer {f : Addr} {fd : FuncData} (F : Fun K "is_integer" "is_integer" s_is_integer f fd) (B : Bt mg) (Bb : mg "bool" = none) : FnG P w K mg base CX0 1 f fd ["candidate"] (spIsInt K) := by
  refine fnG0 F sc_is_integer (fun vs H Q E h => ?_) (fun cdv A outer s H vs Q E hr h => ?_)
  · obtain ⟨x, a, rfl, _⟩ := h
    rfl
  · obtain ⟨x, a, rfl, hx, q⟩ := h
    have nd := sc_is_integer.nd
    refine ⟨_, (pss_one (ps_ret (pe_and (pe_callB (kIsi K rfl) (by rfl) B.isinstance bb_isinstance (pa_cons (pv 0) (pa_cons (pe_ty rfl B.int bb_int) pa_nil))) (pe_one (pe_not (pe_callB (kIsi K rfl) (by rfl) B.isinstance bb_isinstance (pa_cons (pv 0) (pa_cons (pe_ty rfl Bb bb_bool) pa_nil)))))))), ?_⟩
    wtm_at "rd"
    refine rd_isi hx (t := .int) (by decide +kernel) ?_
    wtm_at "rd"
    refine rd_b (fun c => ?_) (fun c => ?_)
    · wtm_at "rd"
      refine rd_isi hx (t := .bl) (by decide +kernel) ?_
      wtm_at "rd"
      have : (!isT a .bl) = decide (a = .int) := by revert c; cases a <;> decide +kernel
      rw [this]
      exact q
    · have : decide (a = Ty.int) = false := by revert c; cases a <;> decide +kernel
      rw [this] at q
      exact q
theorem ok_has {f : Addr} {fd : FuncData} (F : Fun K "has_node" "has_node" s_has_node f fd) (B : Bt mg) : FnG P w K mg base CX0 1 f fd ["graph", "candidate"] spHas := by
  refine fnG0 F sc_has_node (fun vs H Q E h => ?_) (fun cdv A outer s H vs Q E hr h => ?_)
  · obtain ⟨g, n, e, x, ns, es, rfl, _⟩ := h
    rfl
  · obtain ⟨g, n, e, x, ns, es, rfl, hg, q⟩ := h
    have nd := sc_has_node.nd
    refine ⟨_, (pss_one (ps_ret (pe_and (pe_callB (kIsi K rfl) (by rfl) B.isinstance bb_isinstance (pa_cons (pv 1) (pa_cons (pe_ty rfl B.str bb_str) pa_nil))) (pe_one (pe_cmpR (kIn K rfl) (pv 1) (pe_ix (kIx K rfl) (pv 0) pe_int (fun _ _ => rfl)) rfl))))), ?_⟩
    wtm_at "rd"
    refine rd_isi ty_str (t := .str) (by decide +kernel) ?_
    rw [show isT .str .str = true from by decide +kernel]
    wtm_at "rd"
    refine rd_ixT (SqT.of hg.top) (v := .ref n) rfl ?_
    refine rd_inST (SqT.of hg.nodes) ?_
    exact q
structure C6 (P : Program) (w : World) (K : PySem.W.Frag) (mg : Str → Option Value) (base : Heap) : Prop where
  is_integer : Cal P w K mg base CX0 1 "is_integer" (spIsInt K)
theorem ok_is_value {f : Addr} {fd : FuncData} (F : Fun K "is_value" "is_value" s_is_value f fd) (B : Bt mg) (C : C6 P w K mg base) : FnG P w K mg base CX0 2 f fd ["candidate"] spIsVal := by
  refine fnG0 F sc_is_value (fun vs H Q E h => ?_) (fun cdv A outer s H vs Q E hr h => ?_)
  · obtain ⟨v, rfl, _⟩ := h
    rfl
  · obtain ⟨v, rfl, q⟩ := h
    have nd := sc_is_value.nd
    refine ⟨_, (pss_one (ps_ret (pe_and (pe_c C.is_integer hr (by decide) rfl (pa_cons (pv 0) pa_nil)) (pe_one (pe_chain uLe uLe pe_int (pv 0) pe_int))))), ?_⟩
    wtm_at "rd"
    refine ⟨_, .int, rfl, ty_int, ?_⟩
    wtm_at "rd"
    refine rd_T ?_
    wtm_at "rd"
    refine rd_split (fun c => ?_) (fun c => ?_)
    · wtm_at "rd"
      rw [decide_eq_true c, Bool.true_and] at q
      exact q
    · rw [decide_eq_false c, Bool.false_and] at q
      exact q
structure C7 (P : Program) (w : World) (K : PySem.W.Frag) (mg : Str → Option Value) (base : Heap) : Prop where
  has_node : Cal P w K mg base CX0 1 "has_node" spHas
  is_value : Cal P w K mg base CX0 2 "is_value" spIsVal
  values_for : Cal P w K mg base CX0 1 "values_for" (spVals K)
theorem ok_is_move {f : Addr} {fd : FuncData} (F : Fun K "is_move" "is_move" s_is_move f fd) (B : Bt mg) (C : C7 P w K mg base) : FnG P w K mg base CX0 3 f fd ["graph", "state", "adjacent", "candidate", "pinned"] (spIsMove K) := by
  refine fnG0 F sc_is_move (fun vs H Q E h => ?_) (fun cdv A outer s H vs Q E hr h => ?_)
  · obtain ⟨g, n, e, st, ad, c, ps, x, v, ns, ord, pn, es, f, Ad, rfl, _⟩ := h
    rfl
  · obtain ⟨g, n, e, st, ad, c, ps, x, v, ns, ord, pn, es, f, Ad, rfl, gs, had, hc, lg, hps, q⟩ := h
    have nd := sc_is_move.nd
    have hu := hr.u1
    refine ⟨_, (pss_cons (ps_if (PW.pt (pw_or (pt_not (pt_val (pe_callB (kIsi K rfl) (by rfl) B.isinstance bb_isinstance (pa_cons (pv 3) (pa_cons (pe_ty rfl B.tuple bb_tuple) pa_nil))))) (pw_or1 (pt_cmpR (kNe K rfl hr.u64) (pe_callB (kLen K rfl) (by rfl) B.len bb_len (pa_cons (pv 3) pa_nil)) pe_int (nomark _))))) (pss_one (ps_ret pe_bl)) pss_nil)
  (pss_cons (ps_if (PW.pt (pw_or (pt_not (pt_val (pe_c C.has_node hr (by decide) rfl (pa_cons (pv 0) (pa_cons (pe_ix (kIx K rfl) (pv 3) pe_int (fun _ _ => rfl)) pa_nil))))) (pw_or1 (pt_not (pt_val (pe_c C.is_value hr (by decide) rfl (pa_cons (pe_ix (kIx K rfl) (pv 3) pe_int (fun _ _ => rfl)) pa_nil))))))) (pss_one (ps_ret pe_bl)) pss_nil)
  (pss_one (ps_ret (pe_cmpR (kIn K rfl) (pe_ix (kIx K rfl) (pv 3) pe_int (fun _ _ => rfl)) (pe_c C.values_for hr (by decide) rfl (pa_cons (pv 1) (pa_cons (pe_ix (kIx K rfl) (pv 3) pe_int (fun _ _ => rfl)) (pa_cons (pe_dget hu (pv 2) (pe_ix (kIx K rfl) (pv 3) pe_int (fun _ _ => rfl)) (fun _ _ => rfl)) (pa_cons (pv 4) pa_nil))))) rfl))))), ?_⟩
    have hm : x ∈ ns := lg.mem
    have hv := lg.val
    simp only at hv
    obtain ⟨ys, y1, y2, _⟩ := had.li _ hm
    have yl : ys.length ≤ 2000 := by
      have := nbrF_len (x := x) (es := es.map (·.2))
      rw [List.length_map] at this
      rw [y2.length_eq]
      have := gs.l3
      omega
    have yin : ∀ y ∈ ys, y ∈ ord := fun y hy => by
      rcases mem_nbrF.mp (y2.mem_iff.mp hy) with h | h
      · exact gs.inO _ (gs.ok.mem _ h).2
      · exact gs.inO _ (gs.ok.mem _ h).1
    wtm_at "rd"
    refine rd_isi (ty_tup hc) (t := .tup) (by decide +kernel) ?_
    rw [show isT .tup .tup = true from by decide +kernel]
    wtm_at "rd"
    refine rd_lenT (SqT.of hc) ?_
    wtm_at "rd"
    refine rd_nno rfl ?_
    wtm_at "rd"
    refine rd_ixT (SqT.of hc) (v := .str x) rfl ?_
    wtm_at "rd"
    refine ⟨g, n, e, x, ns, es, rfl, gs.gr, ?_⟩
    rw [decide_eq_true hm]
    wtm_at "rd"
    refine rd_ixT (SqT.of hc) (v := .int v) rfl ?_
    wtm_at "rd"
    refine ⟨v, rfl, ?_⟩
    rw [decide_eq_true hv.1, decide_eq_true (by omega : v ≤ 2), Bool.and_self]
    wtm_at "rd"
    refine rd_ixT (SqT.of hc) (v := .int v) rfl ?_
    wtm_at "rd"
    refine rd_ixT (SqT.of hc) (v := .str x) rfl ?_
    wtm_at "rd"
    refine rd_ixT (SqT.of hc) (v := .str x) rfl ?_
    refine rd_dat (.inl had.di) (kvG_val hm) rfl ?_
    wtm_at "rd"
    refine ⟨st, _, ps, x, ord, ys, pn, es.map (·.2), f, rfl, gs.st, gs.inO _ hm, y1, yin, y2, yl, hps, fun l H' s1 fl hl => ?_⟩
    refine rd_inIL (SqL.of hl) ?_
    have hin : v ∈ valsF (es.map (·.2)) f x pn := by
      unfold valsF
      rw [if_neg lg.pin]
      refine List.mem_filter.mpr ⟨?_, ?_⟩
      · have : v = 0 ∨ v = 1 ∨ v = 2 := by omega
        rcases this with rfl | rfl | rfl <;> simp
      · unfold freeB
        rw [Bool.not_eq_true', decide_eq_false_iff_not]
        intro z
        rcases List.mem_append.mp z with z | z
        · obtain ⟨y, hy, ey⟩ := List.mem_map.mp z
          exact lg.nbr y (mem_nbrF.mp hy) ey.symm
        · rw [List.mem_singleton] at z
          exact lg.own z
    rw [decide_eq_true hin]
    exact q H' s1
structure C8 (P : Program) (w : World) (K : PySem.W.Frag) (mg : Str → Option Value) (base : Heap) : Prop where
  adjacency : Cal P w K mg base CX0 1 "adjacency" spAdj
  is_move : Cal P w K mg base CX0 3 "is_move" (spIsMove K)
theorem ok_apply {f : Addr} {fd : FuncData} (F : Fun K "apply_moves" "apply_moves" s_apply_moves f fd) (B : Bt mg) (C : C8 P w K mg base) : FnG P w K mg base CX0 4 f fd ["graph", "state", "moves", "pinned"] (spApply K) := by
  refine fnG0 F sc_apply_moves (fun vs H Q E h => ?_) (fun cdv A outer s H vs Q E hr h => ?_)
  · obtain ⟨g, n, e, st, mv, ps, ns, ord, pn, es, f, ms, rfl, _⟩ := h
    rfl
  · obtain ⟨g, n, e, st, mv, ps, ns, ord, pn, es, f, ms, rfl, gs, hmv, tm, lq, hps, q⟩ := h
    have nd := sc_apply_moves.nd
    have hu := hr.u1
    refine ⟨_, (pss_cons (ps_if (pt_not (pt_val (pe_callB (kIsi K rfl) (by rfl) B.isinstance bb_isinstance (pa_cons (pv 2) (pa_cons (pe_ty rfl B.list bb_list) pa_nil))))) (pss_one ps_dead) pss_nil)
  (pss_cons (ps_set (i := 4) nd rfl (by first | exact Or.inl rfl | exact Or.inr rfl) (pe_c C.adjacency hr (by decide) rfl (pa_cons (pv 0) pa_nil)))
  (pss_cons (ps_set (i := 5) nd rfl (by first | exact Or.inl rfl | exact Or.inr rfl) (pe_callTy cDict (by rfl) B.dict bb_dict (pa_cons (pv 1) pa_nil)))
  (pss_cons (ps_for PassesOwn.never rfl (pi_enum (by rfl) B.enumerate (pa_cons (pv 2) pa_nil)) (kg_tup (n := 2) K rfl rfl (pgs_cons (pg_name (i := 6) nd rfl (by first | exact Or.inl rfl | exact Or.inr rfl)) (pgs_cons (pg_name (i := 7) nd rfl (by first | exact Or.inl rfl | exact Or.inr rfl)) pgs_nil))) (pss_cons (ps_if (pt_not (pt_val (pe_c C.is_move hr (by decide) rfl (pa_cons (pv 0) (pa_cons (pv 5) (pa_cons (pv 4) (pa_cons (pv 7) (pa_cons (pv 3) pa_nil)))))))) (pss_one ps_dead) pss_nil)
  (pss_one (ps_dput hu (pv 5) (pe_ix (kIx K rfl) (pv 7) pe_int (fun _ _ => rfl)) (pe_ix (kIx K rfl) (pv 7) pe_int (fun _ _ => rfl)) rfl))))
  (pss_one (ps_ret (pv 5))))))), ?_⟩
    wtm_at "rd"
    refine rd_isi (ty_lst hmv) (t := .lst) (by decide +kernel) ?_
    rw [show isT .lst .lst = true from by decide +kernel]
    wtm_at "rd"
    refine ⟨g, n, e, ns, es, rfl, gs.grs, fun ad Ad H1 s1 _ had => ?_⟩
    wtm_at "rd"
    refine ⟨_, .inl (s1 _ _ gs.st), fun c fc => ?_⟩
    have fc0 := new_of_same s1 fc
    have s2 := same_add (o := .dK (kvF ord f)) s1 fc
    have had2 := had.same (Same.new (o := .dK (kvF ord f)) fc)
    have hc2 := @upd_same H1 c (.dK (kvF ord f))
    have nca : c ≠ ad := Ne.symm (ne_of_none had.di fc)
    have ncl : ∀ m ∈ ns, Ad m ≠ c := fun m hm => by
      obtain ⟨ys, y1, _⟩ := had.li m hm
      exact ne_of_none y1 fc
    generalize upd H1 c (.dK (kvF ord f)) = H2 at s2 had2 hc2
    wtm_at "rd"
    refine rd_forE (SqL.of (s2 _ _ hmv)) ?_
    refine turnsW (walk_enum (K := K) (a := mv) (xs := ms.map fun m => V.ref m.1)) (fun i σ H' => ∃ u6 u7 : Option V, σ = [some (.ref g), some (.ref st), some (.ref mv), some (.ref ps), some (.ref ad), some (.ref c), u6, u7] ∧ Same H H' ∧ AdjAt H' ad ns (es.map (·.2)) Ad ∧ H' c = some (.dK (kvF ord (playF f ((ms.map (·.2)).take i)))))
      ⟨_, _, rfl, s2, had2, hc2⟩ ?_ ?_ ?_
    · rintro i σ H' hi ⟨u6, u7, rfl, s, _⟩
      exact SqL.of (s _ _ hmv)
    · rintro i y σ H3 H4 hi ⟨u6, u7, rfl, s, ha, hc⟩ ⟨T, x1, y1, rfl, fT, rfl, e1, e2⟩
      have hx := Option.some.inj e1
      subst hx
      obtain ⟨hin, rfl⟩ := map_at e2
      have hmem := List.getElem_mem hin
      have hi2 : i < (ms.map (·.2)).length := by rw [List.length_map]; exact hin
      have lg := lq i hi2
      have okf := seq_ok gs.eok lq i (by omega)
      have tk := take_snoc hi2
      rw [List.getElem_map] at lg tk
      have sT := same_add (o := .tup [.int (i : Nat), .ref ms[i].1]) s fT
      have haT := ha.same (Same.new (o := .tup [.int (i : Nat), .ref ms[i].1]) fT)
      have hcT := at_upd (o := .tup [.int (i : Nat), .ref ms[i].1]) (ne_of_none hc fT) hc
      refine rd_unp (SqT.of upd_same) rfl ?_
      generalize upd H3 T (.tup [.int (i : Nat), .ref ms[i].1]) = H5 at sT haT hcT
      have htm := tm _ hmem
      generalize ms[i] = m at *
      wtm_at "rd"
      refine ⟨g, n, e, c, ad, m.1, ps, m.2.1, m.2.2, ns, ord, pn, es, _, Ad, rfl, (gs.same sT).re hcT okf, haT, sT _ _ htm, lg, Same.seqT sT hps, fun H6 s6 => ?_⟩
      wtm_at "rd"
      have s06 := sT.trans s6
      refine rd_ixT (SqT.of (s06 _ _ htm)) (v := .int m.2.2) rfl ?_
      wtm_at "rd"
      refine rd_ixT (SqT.of (s06 _ _ htm)) (v := .str m.2.1) rfl ?_
      refine rd_dset (s6 _ _ hcT) (k := .inr m.2.1) rfl (by rw [List.length_map, gs.pm.length_eq]; have := gs.l2; omega) ?_
      rw [kvF_put (gs.inO _ lg.mem)]
      refine ⟨_, _, rfl, same_put s06 fc0, ?_, ?_⟩
      · have h6 := haT.same s6
        refine ⟨at_upd (Ne.symm nca) h6.di, fun m' hm' => ?_⟩
        obtain ⟨ys, z1, z2⟩ := h6.li m' hm'
        exact ⟨ys, at_upd (ncl m' hm') z1, z2⟩
      · rw [upd_same, tk, playF_snoc]
    · rintro σ H3 ⟨u6, u7, rfl, s, ha, hc⟩
      rw [List.length_map, List.take_of_length_le (by rw [List.length_map]; exact Nat.le_refl _)] at hc
      wtm_at "rd"
      exact q c H3 s fc0 hc
end
end Law

/-! a legal move is among the moves -/
namespace Law
open PySem PySem.Spec PyProof.Rows L2 U
end Law

/-! plain: moves of a round in any order (k42) -/
namespace Law
open PySem PySem.Spec PyProof.Rows L2 U
theorem playF_at {f : Str → Int} : ∀ {ms : List (Str × Int)} {x : Str}, x ∉ ms.map (·.1) → playF f ms x = f x := fun {ms} => by
  intro x h
  unfold playF
  induction ms generalizing f with
  | nil => rfl
  | cons m r ih =>
    rw [List.map_cons, List.mem_cons, not_or] at h
    rw [List.foldl_cons, ih h.2]
    exact if_neg h.1
theorem playF_in {f : Str → Int} : ∀ {ms : List (Str × Int)} {m : Str × Int}, (ms.map (·.1)).Nodup → m ∈ ms → playF f ms m.1 = m.2 := fun {ms} => by
  intro m nd h
  induction ms generalizing f with
  | nil => cases h
  | cons q r ih =>
    rw [List.map_cons, List.nodup_cons] at nd
    rcases List.mem_cons.mp h with rfl | h
    · show playF (updf f m.1 m.2) r m.1 = m.2
      rw [playF_at nd.1]
      exact if_pos rfl
    · exact ih nd.2 h
theorem playF_rev {f : Str → Int} {ms : List (Str × Int)} (nd : (ms.map (·.1)).Nodup) (x : Str) : playF f ms.reverse x = playF f ms x := by
  have ndr : (ms.reverse.map (·.1)).Nodup := by
    rw [List.map_reverse]
    exact (List.reverse_perm _).nodup_iff.mpr nd
  by_cases h : x ∈ ms.map (·.1)
  · obtain ⟨m, hm, rfl⟩ := List.mem_map.mp h
    rw [playF_in nd hm, playF_in ndr (List.mem_reverse.mpr hm)]
  · rw [playF_at h, playF_at]
    rw [List.map_reverse, List.mem_reverse]
    exact h
/-- moves that may be done at once -/
structure Rnd (ns : List Str) (es : List (Str × Str)) (pn : List Str) (f : Str → Int) (ms : List (Str × Int)) : Prop where
  leg : ∀ m ∈ ms, Legal ns es f pn m
  nd : (ms.map (·.1)).Nodup
  apart : ∀ a ∈ ms.map (·.1), ∀ b ∈ ms.map (·.1), (a, b) ∉ es
theorem Rnd.seq {ns : List Str} {es : List (Str × Str)} {pn : List Str} {f : Str → Int} {ms : List (Str × Int)} (h : Rnd ns es pn f ms) : LegalSeq ns es pn f ms := fun i hi => by
  have hm := List.getElem_mem hi
  have l := h.leg _ hm
  have m1 : ms[i].1 ∈ ms.map (·.1) := List.mem_map_of_mem hm
  have sub : ∀ {x : Str}, x ∈ (ms.take i).map (·.1) → x ∈ ms.map (·.1) := fun hx => by
    obtain ⟨y, hy, rfl⟩ := List.mem_map.mp hx
    exact List.mem_map_of_mem (List.mem_of_mem_take hy)
  have own : ms[i].1 ∉ (ms.take i).map (·.1) := fun hx => by
    have e : (ms.take i).map (·.1) = (ms.map (·.1)).take i := by rw [List.map_take]
    rw [e] at hx
    obtain ⟨j, hj, e2⟩ := List.mem_iff_getElem.mp hx
    rw [List.length_take, List.length_map] at hj
    rw [List.getElem_take, List.getElem_map] at e2
    have := List.pairwise_iff_getElem.mp h.nd j i (by rw [List.length_map]; omega) (by rw [List.length_map]; exact hi) (by omega)
    rw [List.getElem_map, List.getElem_map] at this
    exact this e2
  refine ⟨l.mem, l.pin, l.val, by rw [playF_at own]; exact l.own, fun z hz => ?_⟩
  have nz : z ∉ (ms.take i).map (·.1) := fun hx => by
    rcases hz with hz | hz
    · exact h.apart _ m1 _ (sub hx) hz
    · exact h.apart _ (sub hx) _ m1 hz
  rw [playF_at nz]
  exact l.nbr z hz
theorem Rnd.rev {ns : List Str} {es : List (Str × Str)} {pn : List Str} {f : Str → Int} {ms : List (Str × Int)} (h : Rnd ns es pn f ms) : Rnd ns es pn f ms.reverse := by
  refine ⟨fun m hm => h.leg m (List.mem_reverse.mp hm), ?_, fun a ha b hb => ?_⟩
  · rw [List.map_reverse]
    exact (List.reverse_perm _).nodup_iff.mpr h.nd
  · rw [List.map_reverse, List.mem_reverse] at ha hb
    exact h.apart a ha b hb
end Law

/-! repr of whatever data -/
namespace U
open PySem PySem.Spec PyProof.Rows L2
section
variable {K : PySem.W.Frag} {H H' : Hp}
mutual
theorem dp_ext (l : ∀ a xs, SqL K H a xs → SqL K H' a xs) (t : ∀ a xs, SqT K H a xs → SqT K H' a xs) : ∀ (d : PyData) (v : V), Dp K H v d → Dp K H' v d
  | .none, _, h => by cases h; exact .non
  | .bool _, _, h => by cases h; exact .bl _
  | .int _, _, h => by cases h; exact .int _
  | .str _, _, h => by cases h; exact .str _
  | .list ds, _, h => by
    cases h with
    | lst h1 h2 => exact .lst (l _ _ h1) (dp_extA l t ds _ h2)
  | .tuple ds, _, h => by
    cases h with
    | tup h1 h2 => exact .tup (t _ _ h1) (dp_extA l t ds _ h2)
  | .dict _, _, h => by cases h
theorem dp_extA (l : ∀ a xs, SqL K H a xs → SqL K H' a xs) (t : ∀ a xs, SqT K H a xs → SqT K H' a xs) : ∀ (ds : List PyData) (vs : List V), DpAll K H vs ds → DpAll K H' vs ds
  | [], _, h => by cases h; exact .nil
  | d :: ds, _, h => by
    cases h with
    | cons h1 h2 => exact .cons (dp_ext l t d _ h1) (dp_extA l t ds _ h2)
end
end
/-- a value that repr may be asked of, and what repr says -/
inductive Rp (K : PySem.W.Frag) (H : Hp) : V → Str → Prop
  | non : Rp K H .non "None"
  | bl (b : Bool) : Rp K H (.bl b) (if b then "True" else "False")
  | int (i : Int) (h : i.natAbs.log2 < 1920) : Rp K H (.int i) (toString i)
  | str (x : Str) (h : (reprText x).length ≤ sizeLine) : Rp K H (.str x) (reprText x)
  | of {a : Addr} {d : PyData} : Dp K H (.ref a) d → d.hasDict = false → Shows d → Rp K H (.ref a) d.shown
  | dct {a : Addr} {ns : List Str} {f : Str → Int} : H a = some (.dK (kvF ns f)) → Shows (.dict (ns.map fun n => (.str n, .int (f n)))) → Rp K H (.ref a) (PyData.dict (ns.map fun n => (.str n, .int (f n)))).shown
theorem Rp.ext {K : PySem.W.Frag} {H H' : Hp} {v : V} {d : Str} (h : Rp K H v d) (l : ∀ a xs, SqL K H a xs → SqL K H' a xs) (t : ∀ a xs, SqT K H a xs → SqT K H' a xs) (k : ∀ a kvs, H a = some (.dK kvs) → H' a = some (.dK kvs)) : Rp K H' v d := by
  cases h with
  | non => exact .non
  | bl b => exact .bl b
  | int i h => exact .int i h
  | str x h => exact .str x h
  | of h1 h2 h3 => exact .of (dp_ext l t _ _ h1) h2 h3
  | dct h1 h2 => exact .dct (k _ _ h1) h2
theorem Rp.same {K : PySem.W.Frag} {H H' : Hp} {v : V} {d : Str} (h : Rp K H v d) (s : Same H H') : Rp K H' v d := h.ext
  (fun a xs q => by
    rcases q with (q | ⟨o, q⟩) | q
    · exact .inl (.inl (s _ _ q))
    · exact .inl (.inr ⟨o, s _ _ q⟩)
    · exact .inr q) (fun a xs q => Same.seqT s q) fun a kvs q => s _ _ q
def rReprV (K : PySem.W.Frag) : List V → Hp → VK → Prop := fun xs H Q => ∃ x S, xs = [x] ∧ Rp K H x S ∧ Q (.str S) H
theorem kReprV {X : Cx} (K : PySem.W.Frag) (hK : X.K = K) (hg : X.A.guards = some []) (hu : X.A.units + 64 < cLine) : CallR X (.builtin "repr") (rReprV K) := by
  subst hK
  intro pins s σ H xs us Q I r h
  obtain ⟨x, S, rfl, hr, q⟩ := h
  obtain ⟨u, eu, rx⟩ := vals1 r
  subst eu
  have fin : ∀ (a : Addr) (d : PyData) (as : List Addr), Reads s.heap (.ref a) d as → (d.hasDict = true → sysModules ∉ as) → Shows d → Q (.str d.shown) H → wpAny (model X.prog X.w) X.A (call (.builtin "repr") [.ref a]) (EP X pins σ Q) X.xe s := fun a d as rd hsm S q => by
    have hdp := S.dp
    exact PySem.repr_of_reads' rd S.sh hsm hg (by omega) (fun b o e => e) (fun h' v tk hk => ⟨.str d.shown, H, I.kept (t' := tk) hk, ⟨_, rfl⟩, q⟩) (PyData.shown_fits_bulk (by decide) (by decide) S.lv S.bk)
  cases hr with
  | non =>
    cases rx
    exact PySem.P.repr_of_none ⟨.str _, H, I.tok _, ⟨_, rfl⟩, q⟩
  | bl b =>
    cases rx
    exact PySem.P.repr_of_bool ⟨.str _, H, I.tok _, ⟨_, rfl⟩, q⟩
  | int i h =>
    obtain ⟨tk, rfl⟩ := rx
    exact PySem.P.repr_of_int h ⟨.str _, H, I.tok _, ⟨_, rfl⟩, q⟩
  | str x h =>
    obtain ⟨tk, rfl⟩ := rx
    exact PySem.P.repr_of_str ⟨.str _, H, I.tok _, ⟨_, rfl⟩, q⟩ h
  | of h1 h2 h3 =>
    cases rx
    obtain ⟨as, ra⟩ := Dp.reads I _ _ _ h1 rfl
    exact fin _ _ as ra (fun z => by rw [h2] at z; cases z) h3 q
  | dct h1 h2 =>
    cases rx
    obtain ⟨as, ra, na⟩ := (Di.dct (K := X.K) h1).reads I rfl
    exact fin _ _ as ra (fun _ => na) h2 q
theorem rd_reprV {K : PySem.W.Frag} {H : Hp} {Q : VK} {x : V} {d : Str} (h : Rp K H x d) (q : Q (.str d) H) : rReprV K [x] H Q := ⟨x, d, rfl, h, q⟩
end U

/-! sizes of shown data, put together from the parts -/
namespace U
open PySem PySem.Spec PyProof.Rows L2
/-- data that repr may be asked of: at most n of them, m deep -/
structure SmD (n m : Nat) (d : PyData) : Prop where
  lv : d.leavesShort 13 = true
  sh : d.showable = true
  bk : d.bulk ≤ n
  dp : d.depth ≤ m
  nd : d.hasDict = false
structure SmDs (n m : Nat) (ds : List PyData) : Prop where
  lv : PyData.leavesShortAll 13 ds = true
  sh : PyData.showableAll ds = true
  bk : PyData.bulkAll ds ≤ n
  dp : PyData.depthAll ds ≤ m
  nd : PyData.hasDictAll ds = false
theorem SmDs.nil : SmDs 0 0 [] := ⟨by simp [PyData.leavesShortAll], by simp [PyData.showableAll], by simp [PyData.bulkAll], by simp [PyData.depthAll], by simp [PyData.hasDictAll]⟩
theorem SmDs.cons {n m n2 m2 : Nat} {d : PyData} {ds : List PyData} (h : SmD n m d) (h2 : SmDs n2 m2 ds) : SmDs (n + 1 + n2) (m + m2) (d :: ds) := by
  obtain ⟨a1, a2, a3, a4, a5⟩ := h
  obtain ⟨b1, b2, b3, b4, b5⟩ := h2
  refine ⟨by rw [PyData.leavesShortAll, a1, b1]; rfl, by rw [PyData.showableAll, a2, b2]; rfl, ?_, ?_, by rw [PyData.hasDictAll, a5, b5]; rfl⟩
  · rw [PyData.bulkAll]
    omega
  · rw [PyData.depthAll]
    omega
theorem SmD.tup {n m : Nat} {ds : List PyData} (h : SmDs n m ds) : SmD n (m + 1) (.tuple ds) := by
  obtain ⟨b1, b2, b3, b4, b5⟩ := h
  exact ⟨by rw [PyData.leavesShort]; exact b1, by rw [PyData.showable]; exact b2, by rw [PyData.bulk]; exact b3, by rw [PyData.depth]; omega, by rw [PyData.hasDict]; exact b5⟩
theorem SmD.lst {n m : Nat} {ds : List PyData} (h : SmDs n m ds) : SmD n (m + 1) (.list ds) := by
  obtain ⟨b1, b2, b3, b4, b5⟩ := h
  exact ⟨by rw [PyData.leavesShort]; exact b1, by rw [PyData.showable]; exact b2, by rw [PyData.bulk]; exact b3, by rw [PyData.depth]; omega, by rw [PyData.hasDict]; exact b5⟩
theorem SmD.mono {n m n2 m2 : Nat} {d : PyData} (h : SmD n m d) (a : n ≤ n2) (b : m ≤ m2) : SmD n2 m2 d := ⟨h.lv, h.sh, Nat.le_trans h.bk a, Nat.le_trans h.dp b, h.nd⟩
theorem SmD.name {x : Str} (h : IsName x) : SmD 8 0 (.str x) := ⟨h.lv, by simp [PyData.showable], h.bk, by simp [PyData.depth], by simp [PyData.hasDict]⟩
theorem SmDs.names : ∀ {xs : List Str}, (∀ x ∈ xs, IsName x) → SmDs (9 * xs.length) 0 (xs.map PyData.str)
  | [], _ => SmDs.nil
  | x :: r, h => by
    have a := SmDs.cons (SmD.name (h x List.mem_cons_self)) (SmDs.names fun y hy => h y (List.mem_cons_of_mem _ hy))
    rw [List.map_cons, List.length_cons]
    exact ⟨a.lv, a.sh, by have := a.bk; omega, a.dp, a.nd⟩
theorem SmDs.of {n m : Nat} : ∀ {ds : List PyData}, (∀ d ∈ ds, SmD n m d) → SmDs ((n + 1) * ds.length) m ds
  | [], _ => ⟨SmDs.nil.lv, SmDs.nil.sh, by simp [PyData.bulkAll], by simp [PyData.depthAll], SmDs.nil.nd⟩
  | d :: ds, h => by
    obtain ⟨a1, a2, a3, a4, a5⟩ := h d List.mem_cons_self
    obtain ⟨b1, b2, b3, b4, b5⟩ := SmDs.of (n := n) (m := m) fun y hy => h y (List.mem_cons_of_mem _ hy)
    refine ⟨by rw [PyData.leavesShortAll, a1, b1]; rfl, by rw [PyData.showableAll, a2, b2]; rfl, ?_, ?_, by rw [PyData.hasDictAll, a5, b5]; rfl⟩
    · rw [PyData.bulkAll, List.length_cons, Nat.mul_succ]
      omega
    · rw [PyData.depthAll]
      omega
theorem SmD.shows {n m : Nat} {d : PyData} (h : SmD n m d) (a : n ≤ 2 ^ 20) (b : m ≤ 50) : Shows d := ⟨h.sh, h.lv, Nat.le_trans h.bk a, Nat.le_trans h.dp b⟩
theorem Dp.same {K : PySem.W.Frag} {H H' : Hp} {v : V} {d : PyData} (h : Dp K H v d) (s : Same H H') : Dp K H' v d := dp_ext
  (fun a xs q => by
    rcases q with (q | ⟨o, q⟩) | q
    · exact .inl (.inl (s _ _ q))
    · exact .inl (.inr ⟨o, s _ _ q⟩)
    · exact .inr q) (fun a xs q => Same.seqT s q) _ _ h
end U

/-! repr of data that holds lists, tuples and dicts of atoms, to any depth -/
namespace U
open PySem PySem.Spec PyProof.Rows L2
/-- None, a truth value, a number, a text -/
def vD : V → PyData
  | .bl b => .bool b
  | .int i => .int i
  | .str s => .str s
  | _ => .none
def Atm (v : V) : Prop := v = .non ∨ (∃ b, v = .bl b) ∨ (∃ i, v = .int i) ∨ ∃ s, v = .str s
mutual
inductive Dg (H : Hp) : V → PyData → Prop
  | atm {v : V} : Atm v → Dg H v (vD v)
  | tup {a : Addr} {xs : List V} {ds : List PyData} : H a = some (.tup xs) → DgAll H xs ds → Dg H (.ref a) (.tuple ds)
  | lst {a : Addr} {xs : List V} {ds : List PyData} : H a = some (.lst xs) → DgAll H xs ds → Dg H (.ref a) (.list ds)
  | dct {a : Addr} {ns : List Str} {F : Str → V} : H a = some (.dK (kvG ns F)) → (∀ n ∈ ns, Atm (F n)) → Dg H (.ref a) (.dict (ns.map fun n => (.str n, vD (F n))))
inductive DgAll (H : Hp) : List V → List PyData → Prop
  | nil : DgAll H [] []
  | cons {v : V} {vs : List V} {d : PyData} {ds : List PyData} : Dg H v d → DgAll H vs ds → DgAll H (v :: vs) (d :: ds)
end
mutual
theorem Dg.ext {H H' : Hp} (s : ∀ b o, H b = some o → (∀ ps, o ≠ .tbl ps) → H' b = some o) : ∀ {v : V} {d : PyData}, Dg H v d → Dg H' v d
  | _, _, .atm h => .atm h
  | _, _, .tup h t => .tup (s _ _ h nofun) (DgAll.ext s t)
  | _, _, .lst h t => .lst (s _ _ h nofun) (DgAll.ext s t)
  | _, _, .dct h t => .dct (s _ _ h nofun) t
theorem DgAll.ext {H H' : Hp} (s : ∀ b o, H b = some o → (∀ ps, o ≠ .tbl ps) → H' b = some o) : ∀ {v : List V} {d : List PyData}, DgAll H v d → DgAll H' v d
  | _, _, .nil => .nil
  | _, _, .cons h t => .cons (Dg.ext s h) (DgAll.ext s t)
end
section
variable {X : Cx} {pins : List (Addr × Obj)} {σ : L2.St} {H : Hp} {s : Shared}
theorem atm_reads {h : Heap} {v : V} {u : Value} (a : Atm v) (r : RelV v u) : Reads h u (vD v) [] := by
  rcases a with rfl | ⟨b, rfl⟩ | ⟨i, rfl⟩ | ⟨x, rfl⟩
  · cases r
    exact .none
  · cases r
    exact .bool _
  · obtain ⟨t, rfl⟩ : ∃ t, u = Value.int i t := r
    exact .int _ _
  · obtain ⟨t, rfl⟩ : ∃ t, u = Value.str x t := r
    exact .str _ _
theorem kg_pairs {h : Heap} {F : Str → V} : ∀ {ns : List Str} {vs : List (Key × Value)}, (∀ n ∈ ns, Atm (F n)) → KV (kvG ns F) vs → PyProof.V.PairsRead h encK vs (ns.map fun n => (.str n, vD (F n))) []
  | [], vs, _, r => by
    cases r
    exact .nil
  | n :: ns, vs, a, r => by
    cases r with
    | @cons p q ps qs hpq t =>
      obtain ⟨h1, h2⟩ := hpq
      obtain ⟨k, v⟩ := q
      have h1' : (Sum.inr n : Key) = k := h1
      subst h1'
      exact .cons (k := .inr n) (as := []) (bs := []) (atm_reads (a n List.mem_cons_self) h2) (kg_pairs (fun m hm => a m (List.mem_cons_of_mem _ hm)) t)
/-- what repr says of a value, whatever lists lie in it -/
def Rk (P : Program) (w : World) (h : Heap) (u : Value) (d : PyData) : Prop := (∃ as, Reads h u d as) ∧ (d.shown.length ≤ sizeLine → ∃ bs, ReadAtMost h d.depth bs ∧ ReprK P w bs h d.depth u d.shown)
def RkAll (P : Program) (w : World) (h : Heap) (us : List Value) (ds : List PyData) : Prop := (∃ as, ReadsAll h us ds as) ∧ ((∀ t ∈ PyData.shownAll ds, t.length ≤ sizeLine) → ∃ bs, ReadAtMost h (PyData.depthAll ds) bs ∧ ReprAllK P w bs h (PyData.depthAll ds) us (PyData.shownAll ds))
theorem rk_of {P : Program} {w : World} {h : Heap} {u : Value} {d : PyData} {as : List Addr} (r : Reads h u d as) (hs : d.showable = true) (n : sysModules ∉ as) : Rk P w h u d := ⟨⟨_, r⟩, fun z => ReprK.of_reads r hs (fun _ => n) z⟩
theorem rk_nil {P : Program} {w : World} {h : Heap} : RkAll P w h [] [] := ⟨⟨_, .nil⟩, fun _ => ⟨[], (fun _ z => nomatch z), by simp only [PyData.shownAll]; exact .nil⟩⟩
theorem rk_cons {P : Program} {w : World} {h : Heap} {u : Value} {us : List Value} {d : PyData} {ds : List PyData} (h1 : Rk P w h u d) (h2 : RkAll P w h us ds) : RkAll P w h (u :: us) (d :: ds) := by
  obtain ⟨⟨as, r1⟩, k1⟩ := h1
  obtain ⟨⟨bs, r2⟩, k2⟩ := h2
  refine ⟨⟨_, .cons r1 r2⟩, fun z => ?_⟩
  obtain ⟨b1, hb1, q1⟩ := k1 (z _ (by simp only [PyData.shownAll]; exact List.mem_cons_self))
  obtain ⟨b2, hb2, q2⟩ := k2 fun t ht => z t (by simp only [PyData.shownAll]; exact List.mem_cons_of_mem _ ht)
  have e1 : d.depth ≤ PyData.depthAll (d :: ds) := by rw [PyData.depthAll]; omega
  have e2 : PyData.depthAll ds ≤ PyData.depthAll (d :: ds) := by rw [PyData.depthAll]; omega
  refine ⟨b1 ++ b2, (hb1.mono e1).append (hb2.mono e2), ?_⟩
  simp only [PyData.shownAll]
  exact .cons ((q1.more fun b hb => List.mem_append_left _ hb).level_le e1) (q2.more_le (fun b hb => List.mem_append_right _ hb) e2)
theorem rk_list {P : Program} {w : World} {h : Heap} {a : Addr} {o : Obj} {us : List Value} {n : Nat} {ds : List PyData} (h1 : h.get? a = some o) (h2 : o.cls = .type "list") (h3 : o.data = .seq us.toArray n) (k : RkAll P w h us ds) : Rk P w h (.ref a) (.list ds) := by
  obtain ⟨⟨as, r⟩, k⟩ := k
  have rd : Reads h (.ref a) (.list ds) (a :: as) := .list h1 h2 h3 (by simpa using r)
  refine ⟨⟨_, rd⟩, fun z => ?_⟩
  have z' : (listText (PyData.shownAll ds)).length ≤ sizeLine := by simpa only [PyData.shown] using z
  obtain ⟨bs, hb, hk⟩ := k fun t ht => Nat.le_trans (listText_mem_le ht) z'
  have hna : a ∉ bs := not_mem_of_deeper rd (by simp only [PyData.depth]; omega) hb
  refine ⟨a :: bs, ReadAtMost.cons rd (by simp only [PyData.depth]; omega) hb, ?_⟩
  simp only [PyData.depth, PyData.shown]
  cases us with
  | nil =>
    cases r
    simp only [PyData.shownAll, listText_nil]
    exact ReprK.listEmpty h1 h2 h3
  | cons x l => exact ReprK.list h1 h2 h3 hna (by simpa using hk.length_eq) fun i y e => hk.item i y (by simpa using e)
theorem rk_tup {P : Program} {w : World} {h : Heap} {a : Addr} {o : Obj} {us : List Value} {n : Nat} {ds : List PyData} (h1 : h.get? a = some o) (h2 : o.cls = .type "tuple") (h3 : o.data = .seq us.toArray n) (k : RkAll P w h us ds) : Rk P w h (.ref a) (.tuple ds) := by
  obtain ⟨⟨as, r⟩, k⟩ := k
  have rd : Reads h (.ref a) (.tuple ds) as := .tuple h1 h2 h3 (by simpa using r)
  refine ⟨⟨_, rd⟩, fun z => ?_⟩
  have z' : (tupleText (PyData.shownAll ds)).length ≤ sizeLine := by simpa only [PyData.shown] using z
  obtain ⟨bs, hb, hk⟩ := k fun t ht => Nat.le_trans (tupleText_mem_le ht) z'
  have hna : a ∉ bs := not_mem_of_deeper rd (by simp only [PyData.depth]; omega) hb
  refine ⟨a :: bs, ReadAtMost.cons rd (by simp only [PyData.depth]; omega) hb, ?_⟩
  simp only [PyData.depth, PyData.shown]
  exact ReprK.tuple h1 h2 h3 hna (by simpa using hk)
mutual
theorem Dg.rk (I : Inv X pins σ H s) : ∀ {v : V} {d : PyData} {u : Value}, Dg H v d → d.showable = true → RelV v u → Rk X.prog X.w s.heap u d
  | _, _, _, .atm a, hs, r => rk_of (atm_reads a r) hs List.not_mem_nil
  | _, _, _, .tup h t, hs, r => by
    cases r
    obtain ⟨its, rv, ⟨o, ho, hc, n, hdat⟩, _⟩ := I.tuple (SqT.of h)
    exact rk_tup ho hc hdat (DgAll.rk I t (by simpa [PyData.showable] using hs) rv)
  | _, _, _, .lst h t, hs, r => by
    cases r
    obtain ⟨its, rv, ⟨o, n, ho, hc, _, hdat⟩, _⟩ := I.list (SqL.of h)
    exact rk_list ho hc hdat (DgAll.rk I t (by simpa [PyData.showable] using hs) rv)
  | _, _, _, .dct h a, hs, r => by
    cases r
    obtain ⟨_, hd, vs, rel, dd⟩ := dk_of I.hok h
    refine rk_of (PyProof.V.reads_dictOf key_reads dd (kg_pairs a rel)) hs fun z => ?_
    rw [List.mem_singleton] at z
    rw [z] at hd
    simp at hd
theorem DgAll.rk (I : Inv X pins σ H s) : ∀ {v : List V} {d : List PyData} {u : List Value}, DgAll H v d → PyData.showableAll d = true → Vals v u → RkAll X.prog X.w s.heap u d
  | _, _, _, .nil, _, r => by
    cases r
    exact rk_nil
  | _, _, _, .cons (d := d) (ds := ds) h t, hs, r => by
    cases r with
    | cons r1 r2 =>
      have hs' : d.showable = true ∧ PyData.showableAll ds = true := by simpa [PyData.showableAll] using hs
      exact rk_cons (Dg.rk I h hs'.1 r1) (DgAll.rk I t hs'.2 r2)
end
/-- repr of a tuple -/
def rReprG : List V → Hp → VK → Prop := fun xs H Q => ∃ (a : Addr) (vs : List V) (ds : List PyData), xs = [.ref a] ∧ H a = some (.tup vs) ∧ DgAll H vs ds ∧ Shows (.tuple ds) ∧ Q (.str (PyData.tuple ds).shown) H
theorem kReprG (hg : X.A.guards = some []) (hu : X.A.units + 64 < cLine) : CallR X (.builtin "repr") rReprG := by
  intro pins s σ H xs us Q I r h
  obtain ⟨a, vs, ds, rfl, ha, hd, S, q⟩ := h
  obtain ⟨u, eu, rx⟩ := vals1 r
  subst eu
  cases rx
  obtain ⟨its, rv, ⟨o, ho, hc, n, hdat⟩, _⟩ := I.tuple (SqT.of ha)
  have hdp := S.dp
  have hsa : PyData.showableAll ds = true := by
    have := S.sh
    simpa [PyData.showable] using this
  obtain ⟨⟨as, r⟩, k⟩ := hd.rk I hsa rv
  have z : (PyData.tuple ds).shown.length ≤ sizeLine := PyData.shown_fits_bulk (by decide) (by decide) S.lv S.bk
  have z' : (tupleText (PyData.shownAll ds)).length ≤ sizeLine := by simpa only [PyData.shown] using z
  have rd : Reads s.heap (.ref a) (.tuple ds) as := .tuple ho hc hdat (by simpa using r)
  obtain ⟨bs, hb, hk⟩ := k fun t ht => Nat.le_trans (tupleText_mem_le ht) z'
  have hna : a ∉ bs := not_mem_of_deeper rd (by simp only [PyData.depth]; omega) hb
  have dd : PyData.depthAll ds + 1 ≤ 50 := by
    have := S.dp
    simp only [PyData.depth] at this
    omega
  refine call_repr_slot (by omega) ⟨o, ho, hc⟩ PySem.F.slot_tuple_repr (call_tuple_reprK ho hc hdat hna (by simpa using hk) (A := X.A.in1) hg (fun b _ => Clear.nil b) (by show X.A.units + 1 + (PyData.depthAll ds + 1) < cLine; omega) (fun b o e => e) (fun h' u tk hk => ⟨_, _, rfl, ?_⟩) z')
  refine ⟨.str (PyData.tuple ds).shown, H, I.kept (t' := tk) hk, ⟨u, ?_⟩, q⟩
  simp only [PyData.shown]
end
theorem rd_reprG {H : Hp} {Q : VK} {a : Addr} {vs : List V} {ds : List PyData} (h : H a = some (.tup vs)) (hd : DgAll H vs ds) (s : Shows (.tuple ds)) (q : Q (.str (PyData.tuple ds).shown) H) : rReprG [.ref a] H Q := ⟨a, vs, ds, rfl, h, hd, s, q⟩
end U

/-! plain: sizes of shown data, dicts among them; data of atoms -/
namespace U
open PySem PySem.Spec PyProof.Rows L2
structure Wz (n m : Nat) (d : PyData) : Prop where
  lv : d.leavesShort 13 = true
  sh : d.showable = true
  bk : d.bulk ≤ n
  dp : d.depth ≤ m
structure WzA (n m : Nat) (ds : List PyData) : Prop where
  lv : PyData.leavesShortAll 13 ds = true
  sh : PyData.showableAll ds = true
  bk : PyData.bulkAll ds ≤ n
  dp : PyData.depthAll ds ≤ m
theorem WzA.nil : WzA 0 0 [] := ⟨by simp [PyData.leavesShortAll], by simp [PyData.showableAll], by simp [PyData.bulkAll], by simp [PyData.depthAll]⟩
theorem WzA.cons {n m n2 m2 : Nat} {d : PyData} {ds : List PyData} (h : Wz n m d) (h2 : WzA n2 m2 ds) : WzA (n + 1 + n2) (m + m2) (d :: ds) := by
  have := h.bk
  have := h2.bk
  have := h.dp
  have := h2.dp
  refine ⟨?_, ?_, ?_, ?_⟩
  · rw [PyData.leavesShortAll, h.lv, h2.lv]; rfl
  · rw [PyData.showableAll, h.sh, h2.sh]; rfl
  · rw [PyData.bulkAll]; omega
  · rw [PyData.depthAll]; omega
theorem Wz.tup {n m : Nat} {ds : List PyData} (h : WzA n m ds) : Wz n (m + 1) (.tuple ds) := by
  have := h.bk
  have := h.dp
  exact ⟨by rw [PyData.leavesShort]; exact h.lv, by rw [PyData.showable]; exact h.sh, by rw [PyData.bulk]; omega, by rw [PyData.depth]; omega⟩
theorem Wz.lst {n m : Nat} {ds : List PyData} (h : WzA n m ds) : Wz n (m + 1) (.list ds) := by
  have := h.bk
  have := h.dp
  exact ⟨by rw [PyData.leavesShort]; exact h.lv, by rw [PyData.showable]; exact h.sh, by rw [PyData.bulk]; omega, by rw [PyData.depth]; omega⟩
theorem Wz.mono {n m n2 m2 : Nat} {d : PyData} (h : Wz n m d) (a : n ≤ n2) (b : m ≤ m2) : Wz n2 m2 d := ⟨h.lv, h.sh, Nat.le_trans h.bk a, Nat.le_trans h.dp b⟩
theorem Wz.shows {n m : Nat} {d : PyData} (h : Wz n m d) (a : n ≤ 2 ^ 20) (b : m ≤ 50) : Shows d := ⟨h.sh, h.lv, Nat.le_trans h.bk a, Nat.le_trans h.dp b⟩
theorem SmD.wz {n m : Nat} {d : PyData} (h : SmD n m d) : Wz n m d := ⟨h.lv, h.sh, h.bk, h.dp⟩
/-- a small atom -/
def AtmS (v : V) : Prop := v = .non ∨ (∃ b, v = .bl b) ∨ (∃ i : Int, v = .int i ∧ -1 ≤ i ∧ i ≤ 3) ∨ ∃ x : Str, v = .str x ∧ x.length ≤ 20 ∧ (PyData.str x).leavesShort 13 = true ∧ PyData.strOk x = true
theorem AtmS.atm {v : V} (h : AtmS v) : Atm v := by
  rcases h with h | h | ⟨i, h, _⟩ | ⟨x, h, _⟩
  · exact .inl h
  · exact .inr (.inl h)
  · exact .inr (.inr (.inl ⟨i, h⟩))
  · exact .inr (.inr (.inr ⟨x, h⟩))
theorem AtmS.wz {v : V} (h : AtmS v) : Wz 20 0 (vD v) := by
  rcases h with rfl | ⟨b, rfl⟩ | ⟨i, rfl, i0, i1⟩ | ⟨x, rfl, hx, lx, _⟩
  · exact ⟨by decide +kernel, by decide +kernel, by decide +kernel, by decide +kernel⟩
  · cases b
    · exact ⟨by decide +kernel, by decide +kernel, by decide +kernel, by decide +kernel⟩
    · exact ⟨by decide +kernel, by decide +kernel, by decide +kernel, by decide +kernel⟩
  · have : i = -1 ∨ i = 0 ∨ i = 1 ∨ i = 2 ∨ i = 3 := by omega
    rcases this with rfl | rfl | rfl | rfl | rfl <;> exact ⟨by decide +kernel, by decide +kernel, by decide +kernel, by decide +kernel⟩
  · refine ⟨lx, by show (PyData.str x).showable = true; simp [PyData.showable], ?_, by show (PyData.str x).depth ≤ 0; simp [PyData.depth]⟩
    show (PyData.str x).bulk ≤ 20
    rw [PyData.bulk]
    exact hx
theorem atmS_name {x : Str} (h : IsName x) : AtmS (.str x) := .inr (.inr (.inr ⟨x, rfl, by have := h.hi; omega, h.lv, h.sok⟩))
theorem wz_kv {F : Str → V} : ∀ {ns : List Str}, (∀ n ∈ ns, IsName n ∧ AtmS (F n)) → PyData.leavesShortKv 13 (ns.map fun n => (.str n, vD (F n))) = true ∧ PyData.showableKv (ns.map fun n => (.str n, vD (F n))) = true ∧
    PyData.bulkKv (ns.map fun n => (.str n, vD (F n))) ≤ 40 * ns.length ∧ PyData.depthKv (ns.map fun n => (.str n, vD (F n))) = 0
  | [], _ => by simp [PyData.leavesShortKv, PyData.showableKv, PyData.bulkKv, PyData.depthKv]
  | n :: ns, h => by
    obtain ⟨a, b, c, d⟩ := wz_kv (ns := ns) fun x hx => h x (List.mem_cons_of_mem _ hx)
    obtain ⟨h1, h2⟩ := h n List.mem_cons_self
    have k := SmD.name h1
    have w := h2.wz
    have wd := w.dp
    have wb := w.bk
    have kd := k.dp
    have kb := k.bk
    rw [List.map_cons, PyData.leavesShortKv, PyData.showableKv, PyData.bulkKv, PyData.depthKv, a, b, d, k.lv, k.sh, w.lv, w.sh, List.length_cons]
    refine ⟨rfl, rfl, ?_, ?_⟩
    · omega
    · omega
theorem Wz.dct {F : Str → V} {ns : List Str} (h : ∀ n ∈ ns, IsName n ∧ AtmS (F n)) : Wz (40 * ns.length) 1 (.dict (ns.map fun n => (.str n, vD (F n)))) := by
  obtain ⟨a, b, c, d⟩ := wz_kv h
  exact ⟨by rw [PyData.leavesShort]; exact a, by rw [PyData.showable]; exact b, by rw [PyData.bulk]; omega, by rw [PyData.depth]; omega⟩
/-- data of atoms as tuples and lists -/
theorem dp_atm {K : PySem.W.Frag} {H : Hp} {v : V} (h : Atm v) : Dp K H v (vD v) := by
  rcases h with rfl | ⟨b, rfl⟩ | ⟨i, rfl⟩ | ⟨x, rfl⟩
  · exact .non
  · exact .bl _
  · exact .int _
  · exact .str _
theorem dp_atms {K : PySem.W.Frag} {H : Hp} : ∀ {vs : List V}, (∀ v ∈ vs, Atm v) → DpAll K H vs (vs.map vD)
  | [], _ => .nil
  | v :: vs, h => .cons (dp_atm (h v List.mem_cons_self)) (dp_atms fun x hx => h x (List.mem_cons_of_mem _ hx))
theorem dg_atms {H : Hp} : ∀ {vs : List V}, (∀ v ∈ vs, Atm v) → DgAll H vs (vs.map vD)
  | [], _ => .nil
  | v :: vs, h => .cons (.atm (h v List.mem_cons_self)) (dg_atms fun x hx => h x (List.mem_cons_of_mem _ hx))
theorem lay_atm {v : V} (h : AtmS v) : (vD v).canLay0 = true ∧ (vD v).depth = 0 := by
  rcases h with rfl | ⟨b, rfl⟩ | ⟨i, rfl, _⟩ | ⟨x, rfl, _, _, ok⟩
  · exact ⟨by simp [vD, PyData.canLay0], by simp [vD, PyData.depth]⟩
  · exact ⟨by simp [vD, PyData.canLay0], by simp [vD, PyData.depth]⟩
  · exact ⟨by simp [vD, PyData.canLay0], by simp [vD, PyData.depth]⟩
  · exact ⟨by simp [vD, PyData.canLay0, ok], by simp [vD, PyData.depth]⟩
end U

/-! paths found level by level: the plain law -/
namespace U
open PySem PySem.Spec PyProof.Rows L2
/-- nodes found, each with its path, in the order in which they are found -/
abbrev keysF (kp : List (Str × List Str)) : List Str := kp.map (·.1)
def addF (ok : Str → Str → Bool) (c : Str × List Str) (kp : List (Str × List Str)) (o : Str) : List (Str × List Str) := if o ∉ keysF kp ∧ ok c.1 o = true then kp ++ [(o, c.2 ++ [o])] else kp
def addsF (ok : Str → Str → Bool) (c : Str × List Str) (os : List Str) (kp : List (Str × List Str)) : List (Str × List Str) := os.foldl (addF ok c) kp
def stF (adj : Str → List Str) (ok : Str → Str → Bool) (root : Str) : Nat → List (Str × List Str)
  | 0 => [(root, [root])]
  | i + 1 => match (stF adj ok root i)[i]? with
    | none => stF adj ok root i
    | some c => addsF ok c (adj c.1) (stF adj ok root i)
def pathsF (adj : Str → List Str) (ok : Str → Str → Bool) (root : Str) : List (Str × List Str) := stF adj ok root 1000
inductive Reach (adj : Str → List Str) (ok : Str → Str → Bool) (root : Str) : Str → Prop
  | refl : Reach adj ok root root
  | step {a b : Str} : Reach adj ok root a → b ∈ adj a → ok a b = true → Reach adj ok root b
theorem Reach.trans {adj : Str → List Str} {ok : Str → Str → Bool} {a b c : Str} (h : Reach adj ok a b) (k : Reach adj ok b c) : Reach adj ok a c := by
  induction k with
  | refl => exact h
  | step _ m o ih => exact .step ih m o
section
variable {adj : Str → List Str} {ok : Str → Str → Bool} {root : Str}
theorem addF_cases (c : Str × List Str) (kp : List (Str × List Str)) (o : Str) : (addF ok c kp o = kp ∧ (o ∈ keysF kp ∨ ok c.1 o = false)) ∨ (addF ok c kp o = kp ++ [(o, c.2 ++ [o])] ∧ o ∉ keysF kp ∧ ok c.1 o = true) := by
  unfold addF
  by_cases h : o ∉ keysF kp ∧ ok c.1 o = true
  · rw [if_pos h]
    exact .inr ⟨rfl, h⟩
  · rw [if_neg h]
    refine .inl ⟨rfl, ?_⟩
    by_cases m : o ∈ keysF kp
    · exact .inl m
    · refine .inr ?_
      cases e : ok c.1 o with
      | false => rfl
      | true => exact (h ⟨m, e⟩).elim
theorem addsF_pre {c : Str × List Str} : ∀ {os : List Str} {kp : List (Str × List Str)}, ∃ r, addsF ok c os kp = kp ++ r
  | [], kp => ⟨[], (List.append_nil kp).symm⟩
  | o :: os, kp => by
    obtain ⟨r, hr⟩ := addsF_pre (c := c) (os := os) (kp := addF ok c kp o)
    have e : addsF ok c (o :: os) kp = addsF ok c os (addF ok c kp o) := rfl
    rw [e, hr]
    rcases addF_cases c kp o with ⟨h, _⟩ | ⟨h, _⟩
    · rw [h]
      exact ⟨r, rfl⟩
    · rw [h, List.append_assoc]
      exact ⟨_, rfl⟩
/-- what is added: each a neighbour that may be gone to -/
theorem addsF_mem {c : Str × List Str} : ∀ {os : List Str} {kp : List (Str × List Str)} {x : Str × List Str}, x ∈ addsF ok c os kp → x ∈ kp ∨ (x.1 ∈ os ∧ ok c.1 x.1 = true ∧ x.2 = c.2 ++ [x.1])
  | [], kp, x, h => .inl h
  | o :: os, kp, x, h => by
    have e : addsF ok c (o :: os) kp = addsF ok c os (addF ok c kp o) := rfl
    rw [e] at h
    rcases addsF_mem h with h | ⟨h1, h2, h3⟩
    · rcases addF_cases c kp o with ⟨e, _⟩ | ⟨e, _, k⟩
      · rw [e] at h
        exact .inl h
      · rw [e] at h
        rcases List.mem_append.mp h with h | h
        · exact .inl h
        · rw [List.mem_singleton] at h
          subst h
          exact .inr ⟨List.mem_cons_self, k, rfl⟩
    · exact .inr ⟨List.mem_cons_of_mem _ h1, h2, h3⟩
theorem addsF_all {c : Str × List Str} : ∀ {os : List Str} {kp : List (Str × List Str)} {o : Str}, o ∈ os → ok c.1 o = true → o ∈ keysF (addsF ok c os kp)
  | o' :: os, kp, o, h, k => by
    have e : addsF ok c (o' :: os) kp = addsF ok c os (addF ok c kp o') := rfl
    rw [e]
    rcases List.mem_cons.mp h with rfl | h
    · obtain ⟨r, hr⟩ := addsF_pre (ok := ok) (c := c) (os := os) (kp := addF ok c kp o)
      rw [hr, keysF, List.map_append]
      refine List.mem_append_left _ ?_
      rcases addF_cases c kp o with ⟨e, m⟩ | ⟨e, _⟩
      · rw [e]
        rcases m with m | m
        · exact m
        · rw [k] at m
          cases m
      · rw [e, List.map_append]
        exact List.mem_append_right _ List.mem_cons_self
    · exact addsF_all h k
theorem addF_nodup {c : Str × List Str} {kp : List (Str × List Str)} {o : Str} (h : (keysF kp).Nodup) : (keysF (addF ok c kp o)).Nodup := by
  rcases addF_cases c kp o with ⟨e, _⟩ | ⟨e, m, _⟩
  · rw [e]
    exact h
  · rw [e, keysF, List.map_append, List.nodup_append]
    refine ⟨h, by simp, fun a ha b hb z => ?_⟩
    have : b = o := by simpa using hb
    rw [z, this] at ha
    exact m ha
theorem addsF_nodup {c : Str × List Str} : ∀ {os : List Str} {kp : List (Str × List Str)}, (keysF kp).Nodup → (keysF (addsF ok c os kp)).Nodup
  | [], _, h => h
  | o :: os, kp, h => addsF_nodup (os := os) (addF_nodup h)
theorem stF_at {i : Nat} {c : Str × List Str} (h : (stF adj ok root i)[i]? = some c) : stF adj ok root (i + 1) = addsF ok c (adj c.1) (stF adj ok root i) := by
  rw [stF, h]
theorem stF_end {i : Nat} (h : (stF adj ok root i)[i]? = none) : stF adj ok root (i + 1) = stF adj ok root i := by
  rw [stF, h]
theorem stF_pre (i : Nat) : ∃ r, stF adj ok root (i + 1) = stF adj ok root i ++ r := by
  cases h : (stF adj ok root i)[i]? with
  | none => rw [stF_end h]; exact ⟨[], (List.append_nil _).symm⟩
  | some c => rw [stF_at h]; exact addsF_pre
theorem stF_pre' (i : Nat) : ∀ k, ∃ r, stF adj ok root (i + k) = stF adj ok root i ++ r
  | 0 => ⟨[], (List.append_nil _).symm⟩
  | k + 1 => by
    obtain ⟨r, hr⟩ := stF_pre' i k
    obtain ⟨r2, h2⟩ := stF_pre (adj := adj) (ok := ok) (root := root) (i + k)
    exact ⟨r ++ r2, by rw [← Nat.add_assoc, h2, hr, List.append_assoc]⟩
theorem stF_nodup : ∀ i, (keysF (stF adj ok root i)).Nodup
  | 0 => by simp [stF]
  | i + 1 => by
    cases h : (stF adj ok root i)[i]? with
    | none => rw [stF_end h]; exact stF_nodup i
    | some c => rw [stF_at h]; exact addsF_nodup (stF_nodup i)
theorem stF_root (i : Nat) : ∃ r, stF adj ok root i = (root, [root]) :: r := by
  obtain ⟨r, h⟩ := stF_pre' (adj := adj) (ok := ok) (root := root) 0 i
  rw [Nat.zero_add] at h
  exact ⟨r, h⟩
/-- a path: from the first to the last, each step to a neighbour that may be gone to -/
inductive PathTo (adj : Str → List Str) (ok : Str → Str → Bool) (root : Str) : Str → List Str → Prop
  | one : PathTo adj ok root root [root]
  | snoc {a b : Str} {p : List Str} : PathTo adj ok root a p → b ∈ adj a → ok a b = true → PathTo adj ok root b (p ++ [b])
theorem PathTo.reach {a : Str} {p : List Str} (h : PathTo adj ok root a p) : Reach adj ok root a := by
  induction h with
  | one => exact .refl
  | snoc _ m o ih => exact .step ih m o
theorem stF_path : ∀ i x, x ∈ stF adj ok root i → PathTo adj ok root x.1 x.2
  | 0, x, h => by
    rw [stF, List.mem_singleton] at h
    subst h
    exact .one
  | i + 1, x, h => by
    cases e : (stF adj ok root i)[i]? with
    | none => rw [stF_end e] at h; exact stF_path i x h
    | some c =>
      rw [stF_at e] at h
      rcases addsF_mem h with h | ⟨h1, h2, h3⟩
      · exact stF_path i x h
      · have := stF_path i c (List.mem_of_getElem? e)
        rw [h3]
        exact .snoc this h1 h2
theorem stF_reach {i : Nat} {x : Str} (h : x ∈ keysF (stF adj ok root i)) : Reach adj ok root x := by
  obtain ⟨y, hy, rfl⟩ := List.mem_map.mp h
  exact (stF_path i y hy).reach
/-- those whose turn has been have their neighbours found -/
theorem stF_closed : ∀ (i j : Nat) (c : Str × List Str), j < i → (stF adj ok root i)[j]? = some c → ∀ b ∈ adj c.1, ok c.1 b = true → b ∈ keysF (stF adj ok root i)
  | i + 1, j, c, hj, hc, b, hb, hk => by
    cases e : (stF adj ok root i)[i]? with
    | none =>
      rw [stF_end e] at hc ⊢
      have : j < (stF adj ok root i).length := (List.getElem?_eq_some_iff.mp hc).1
      have := List.getElem?_eq_none_iff.mp e
      exact stF_closed i j c (by omega) hc b hb hk
    | some d =>
      have li : i < (stF adj ok root i).length := (List.getElem?_eq_some_iff.mp e).1
      obtain ⟨r, hr⟩ := stF_pre (adj := adj) (ok := ok) (root := root) i
      have hc2 : (stF adj ok root i)[j]? = some c := by
        rw [hr, List.getElem?_append_left (by omega)] at hc
        exact hc
      by_cases q : j < i
      · have := stF_closed i j c q hc2 b hb hk
        rw [hr, keysF, List.map_append]
        exact List.mem_append_left _ this
      · have : j = i := by omega
        subst this
        rw [hc2] at e
        cases e
        rw [stF_at hc2]
        exact addsF_all hb hk
theorem stF_all {i : Nat} (h : (stF adj ok root i).length ≤ i) {x : Str} (r : Reach adj ok root x) : x ∈ keysF (stF adj ok root i) := by
  induction r with
  | refl =>
    obtain ⟨r, e⟩ := stF_root (adj := adj) (ok := ok) (root := root) i
    rw [e]
    exact List.mem_cons_self
  | step _ m o ih =>
    obtain ⟨y, hy, rfl⟩ := List.mem_map.mp ih
    obtain ⟨j, hj, e⟩ := List.mem_iff_getElem.mp hy
    exact stF_closed i j y (by omega) (by rw [List.getElem?_eq_getElem hj, e]) _ m o
/-- nodes of ns alone -/
theorem reach_mem {ns : List Str} (cl : ∀ x ∈ ns, ∀ y ∈ adj x, y ∈ ns) (h0 : root ∈ ns) {x : Str} (r : Reach adj ok root x) : x ∈ ns := by
  induction r with
  | refl => exact h0
  | step _ m _ ih => exact cl _ ih _ m
theorem nodup_len {α : Type} [DecidableEq α] : ∀ {xs ys : List α}, xs.Nodup → (∀ x ∈ xs, x ∈ ys) → xs.length ≤ ys.length
  | [], _, _, _ => Nat.zero_le _
  | x :: xs, ys, nd, h => by
    rw [List.nodup_cons] at nd
    have hx := h x List.mem_cons_self
    have := nodup_len (xs := xs) (ys := ys.erase x) nd.2 fun y hy => by
      refine (List.mem_erase_of_ne ?_).mpr (h y (List.mem_cons_of_mem _ hy))
      rintro rfl
      exact nd.1 hy
    rw [List.length_erase_of_mem hx] at this
    have : 0 < ys.length := List.length_pos_of_mem hx
    rw [List.length_cons]
    omega
theorem stF_len {ns : List Str} (cl : ∀ x ∈ ns, ∀ y ∈ adj x, y ∈ ns) (h0 : root ∈ ns) (i : Nat) : (stF adj ok root i).length ≤ ns.length := by
  have := nodup_len (stF_nodup (adj := adj) (ok := ok) (root := root) i) (ys := ns) fun x hx => reach_mem cl h0 (stF_reach hx)
  rw [List.length_map] at this
  exact this
end

/-! ### neighbours in order -/
def sortS (xs : List Str) : List Str := xs.mergeSort fun a b => !decide (sLt b a)
theorem sortS_perm (xs : List Str) : (sortS xs).Perm xs := List.mergeSort_perm xs _
theorem nlt_trans {a b c : Str} (h : ¬ sLt b a) (k : ¬ sLt c b) : ¬ sLt c a := by
  intro z
  rcases sLt_tri a b with t | t | t
  · exact k (sLt_trans z t)
  · subst t
    exact k z
  · exact h t
theorem sortS_pw (xs : List Str) : (sortS xs).Pairwise fun a b => ¬ sLt b a := by
  have := List.pairwise_mergeSort (le := fun a b : Str => !decide (sLt b a)) (fun a b c h k => by
    simp only [Bool.not_eq_true', decide_eq_false_iff_not] at h k ⊢
    exact nlt_trans h k) (fun a b => by
    rw [Bool.or_eq_true]
    simp only [Bool.not_eq_true', decide_eq_false_iff_not]
    by_cases z : sLt b a
    · exact .inr (sLt_asymm z)
    · exact .inl z) xs
  exact this.imp fun h => by
    simp only [Bool.not_eq_true', decide_eq_false_iff_not] at h
    exact h
theorem sortS_asc {xs : List Str} (nd : xs.Nodup) : Asc (sortS xs) := asc_of_sorted (sortS_pw xs) ((sortS_perm xs).nodup_iff.mpr nd)
theorem sort_uniq {xs ys : List Str} (p : ys.Perm xs) (s : ys.Pairwise fun a b => ¬ sLt b a) (nd : xs.Nodup) : ys = sortS xs :=
  asc_unique (asc_of_sorted s (p.nodup_iff.mpr nd)) (sortS_asc nd) fun z => by rw [p.mem_iff, (sortS_perm xs).mem_iff]
theorem nbrF_nodup {ns : List Str} {es : List (Str × Str)} (ok : GrOk ns es) (x : Str) : (nbrF es x).Nodup := by
  unfold nbrF
  rw [List.nodup_iff_pairwise_ne, List.pairwise_flatMap]
  have m : ∀ {e : Str × Str} {z : Str}, z ∈ (if e.1 = x then [e.2] else []) ++ (if e.2 = x then [e.1] else []) → (e.1 = x ∧ z = e.2) ∨ (e.2 = x ∧ z = e.1) := by
    intro e z h
    rcases List.mem_append.mp h with h | h
    · split at h
      · rename_i c
        exact .inl ⟨c, by simpa using h⟩
      · cases h
    · split at h
      · rename_i c
        exact .inr ⟨c, by simpa using h⟩
      · cases h
  refine ⟨fun e he => ?_, ?_⟩
  · by_cases c : e.1 = x
    · have c2 : ¬ e.2 = x := fun z => by
        have := ok.lt e he
        rw [c, z] at this
        exact sLt_irrefl _ this
      rw [if_pos c, if_neg c2]
      simp
    · rw [if_neg c]
      split <;> simp
  · have nd := List.nodup_iff_pairwise_ne.mp (ascE_nodup ok.asc)
    refine List.Pairwise.imp_of_mem (fun {e d} he hd ne => ?_) nd
    intro z hz y hy zy
    subst zy
    have le := ok.lt e he
    have ld := ok.lt d hd
    rcases m hz with ⟨a1, a2⟩ | ⟨a1, a2⟩ <;> rcases m hy with ⟨b1, b2⟩ | ⟨b1, b2⟩
    · exact ne (Prod.ext (a1.trans b1.symm) (a2.symm.trans b2))
    · rw [a1, ← a2] at le
      rw [b1, ← b2] at ld
      exact sLt_asymm le ld
    · rw [a1, ← a2] at le
      rw [b1, ← b2] at ld
      exact sLt_asymm le ld
    · exact ne (Prod.ext (a2.symm.trans b2) (a1.trans b1.symm))
def nbS (es : List (Str × Str)) (x : Str) : List Str := sortS (nbrF es x)
theorem nbS_mem {es : List (Str × Str)} {x z : Str} : z ∈ nbS es x ↔ (x, z) ∈ es ∨ (z, x) ∈ es := by
  unfold nbS
  rw [(sortS_perm _).mem_iff]
  exact mem_nbrF
theorem nbS_of {ns : List Str} {es : List (Str × Str)} {x : Str} {ys : List Str} (ok : GrOk ns es) (p : ys.Perm (nbrF es x)) (s : ys.Pairwise fun a b => ¬ sLt b a) : ys = nbS es x := sort_uniq p s (nbrF_nodup ok x)
theorem nbS_in {ns : List Str} {es : List (Str × Str)} (ok : GrOk ns es) {x y : Str} (h : y ∈ nbS es x) : y ∈ ns := by
  rcases nbS_mem.mp h with h | h
  · exact (ok.mem _ h).2
  · exact (ok.mem _ h).1
end U

/-! d.update(e); lists of texts compared; the last but one -/
namespace U
open PySem PySem.Spec PyProof.Rows L2
/-! lists of texts compared -/
section
variable {K : PySem.W.Frag} {H : Hp} {Q : VK} {p q : Addr} {x y : V} {d : PyData} {xs ys : List Str}
end
end U

/-! exceptions that outlive their handler; own classes over own classes -/
namespace U
open PySem PySem.Spec PyProof.Rows L2
/-- at a: an exception of the class cls, its dict at d -/
def exk (a : Addr) (cls : Value) (d : Option Addr) : HO := .ext fun h => ∃ oe vs, h.get? a = some oe ∧ Zc cls d oe ∧ oe.data = .fields vs
theorem exk_ok {P : Program} {w : World} {H : Hp} {h : Heap} {a : Addr} {cls : Value} {d : Option Addr} {oe : Obj} {vs : Array Value} (e : h.get? a = some oe) (z : Zc cls d oe) (f : oe.data = .fields vs) : ObjOk P w H h a (exk a cls d) := by
  refine ⟨⟨oe, vs, e, z, f⟩, ⟨_, e⟩, fun h1 h2 t k => ?_⟩
  obtain ⟨o2, v2, e2, z2, f2⟩ := t
  exact ⟨o2, v2, k _ e2, z2, f2⟩
theorem exk_at {P : Program} {w : World} {H : Hp} {h : Heap} {a : Addr} {cls : Value} {d : Option Addr} (hok : HOk P w H h) (e : H a = some (exk a cls d)) : ∃ oe vs, h.get? a = some oe ∧ Zc cls d oe ∧ oe.data = .fields vs := by
  have t : ObjOk P w H h a (.ext fun h => ∃ oe vs, h.get? a = some oe ∧ Zc cls d oe ∧ oe.data = .fields vs) := hok a _ e
  exact t.1
section
variable {X : Cx} {pins : List (Addr × Obj)} {σ : L2.St} {H : Hp} {sI s' : Shared} {B : Heap} {a : Addr} {cls : Value} {d : Option Addr} {oe : Obj} {vs : Array Value}
/-- back on the ground, the exception tracked -/
theorem landed_k (I : Inv X pins σ H sI) (nb : ∀ b o, sI.heap.get? b = some o → b ∉ frs X.stack → B.get? b = some o) (st : B.StaysIn s'.heap) (up : sI.heap.UpToSlots s'.heap) (os : s'.os = sI.os) (ag : AllBare s'.gens)
    (hB : B.get? a = none) (nfr : a ∉ frs X.stack) (na : H a = none) (he : s'.heap.get? a = some oe) (hz : Zc cls d oe) (hd : oe.data = .fields vs) : Inv X pins σ (upd H a (exk a cls d)) s' := by
  have fr : ∀ b ∈ frs X.stack, ∀ o, sI.heap.get? b = some o → ∃ sl, s'.heap.get? b = some { o with slots := sl } := by
    intro b hb o e
    obtain ⟨_, o1, e1, h1⟩ := I.stack.mem hb
    rw [e] at e1
    cases e1
    exact up b o e h1
  have sIa : ∀ o, sI.heap.get? a ≠ some o := fun o e => by
    rw [nb a o e nfr] at hB
    cases hB
  have ok1 : HOk X.prog X.w H s'.heap := (I.inGround nb).kept st
  have ok2 : HOk X.prog X.w (upd H a (exk a cls d)) s'.heap := by
    intro b o e
    by_cases hb : b = a
    · subst hb
      rw [upd_same] at e
      cases e
      exact exk_ok he hz hd
    · rw [upd_ne hb] at e
      exact (ok1 b o e).stay (fun c v _ q => q) (fun c q => at_upd (ne_of_none q na) q) fun c xs q => at_upd (ne_of_none q na) q
  have J := I.call (ch := []) (h' := s'.heap) (g' := s'.gens) (t' := s'.toks) (d' := s'.drawn) (H' := upd H a (exk a cls d))
    { keep := fun b o e _ hb _ => st b o (nb b o e hb)
      slot := fun b o e _ hb _ => fr b hb o e
      free := fun b o e n _ => no_upd (fun z => sIa o (by rw [← z]; exact e)) n
      there := fun b o e _ => by
        by_cases hb : b ∈ frs X.stack
        · obtain ⟨sl, q⟩ := fr b hb o e
          exact ⟨_, q⟩
        · exact ⟨o, st b o (nb b o e hb)⟩
      tups := fun _ _ e => at_upd (ne_of_none e na) e
      frzs := fun _ _ _ e => at_upd (ne_of_none e na) e
      tbls := fun b ps e => ⟨#[], by rw [at_upd (ne_of_none e na) e]; simp⟩ } ok2 ag (fun _ z => nomatch z)
  obtain ⟨b1, b2, b3, b4, b5⟩ := s'
  have e5 : b5 = sI.os := os
  subst e5
  exact J
end
section
variable {X : Cx} {x n : Str} {c : Value} {i : Nat} {body suite : List Stmt} {b₀ : Stmt} {np pos pos' : Pos} {tb : WX → TS} {ts : TS} {Wout : WX}
end
/-! e.f of a tracked exception -/
def tXk (K : PySem.W.Frag) (f : Str) (te : TE) : TE := fun σ H Q => te σ H fun x H1 => ∃ (a C dd : Addr) (fs : List (Str × V)) (v : V), x = .ref a ∧ H1 a = some (exk a (.ref C) (some dd)) ∧ XfC K C ∧ PySem.W.findIn K (.ref C) f = some none ∧ H1 dd = some (.xd fs) ∧ fs.lookup f = some v ∧ Q v H1
theorem pe_xk {X : Cx} {e : Expr} {te : TE} {pos : Pos} {n : Str} (he : PE X e te) (hb : attributeBase e n X.env (eval e X.env) = eval e X.env := by rfl) : PE X (.Attribute e n pos) (tXk X.K n te) := by
  refine ⟨fun pins s σ H Q I want => attr_of hb (thn (he.run pins s σ H _ I want) fun u s1 got => ?_)⟩
  obtain ⟨x, H1, I1, rx, a, C, dd, fs, v, rfl, hk, T, hno, hdd, hl, q⟩ := got
  obtain rfl : u = Value.ref a := rx
  obtain ⟨oe, vs, h1, hz, hd⟩ := exk_at I1.hok hk
  have hx : ObjOk X.prog X.w H1 s1.heap dd (.xd fs) := I1.hok dd _ hdd
  obtain ⟨mA, hns, hr⟩ := hx
  obtain ⟨od, ho, hl2⟩ := lookIn_ns hns
  obtain ⟨u2, hu, ru⟩ := RelO.some_of (v := v) (o := mA n) (by rw [← hl]; exact hr n)
  have J : PySem.W.InstAt s1.heap a oe C (some od) := by
    refine ⟨h1, hz.1, ?_, ?_⟩
    · unfold PySem.W.notCls
      rw [hd] <;> rfl
    · rw [hz.2]
      exact ho
  exact HandSPX.exc_get I1.kIn J T.ga T.gg T.exC (PySem.W.findObj_own T.hdC hno rfl (by rw [hl2, hu])) (handed_of ru) ⟨v, H1, I1.tok _, ru, q⟩
/-! Base.__init__(self, ..), Base an own class over ValueError with no __init__ of its own -/
structure BaseI (K : PySem.W.Frag) (CB : Addr) : Prop where
  kp : PySem.W.keepIn K (.ref CB) = true
  ga : PySem.W.specialIn K (.ref CB) "__getattribute__" = some (some (.builtin "type.__getattribute__"))
  rd : PySem.W.readsIn K CB (.type "type") = true
  at_ : PySem.W.findCls K (.ref CB) (.type "type") "__init__" = some (.val (.builtin "ValueError.__init__"))
theorem pe_binit {X : Cx} {x : Str} {CB : Addr} {e : Expr} {es : List Expr} {ta : TA} {p1 p2 pos : Pos} {pl : Sem Bool} (hg : Gl X x) (hm : X.mg x = some (.ref CB)) (T : BaseI X.K CB) (ha : PA X (e :: es) ta)
    (hc : eval (.Call (.Attribute (.Name x p1) "__init__" p2) (e :: es) [] pos) X.env = (do
      let ov ← eval (.Name x p1) X.env
      standAt p2.atName
      let (f, first) ← holding [ov] (getMethod ov "__init__" pl)
      callWith pos f first (backTo pos (starEach (e :: es) X.env)) (backToKw pos (keywordEach [] X.env))) := by rfl)
    (hdb : (x == ("__debug__" : Str)) = false := by decide)
    (he : starEach (e :: es) X.env = (false, eval e X.env) :: starEach es X.env := by rfl) (hpl : (backTo pos (starEach es X.env)).any (·.1) = false := by rfl) :
    PE X (.Call (.Attribute (.Name x p1) "__init__" p2) (e :: es) [] pos) (tVeI X.K ta) := by
  refine ⟨fun pins s σ H Q I want => ?_⟩
  refine PySem.W.methodCall_KW (ld_glob I hg hm ?_ hdb) hc
  refine PySem.W.method_cls I.kIn T.ga (PySem.W.cls_value I.kIn T.rd T.at_ (by decide +kernel) ?_)
  show wpAny _ _ (callWith pos (Value.builtin "ValueError.__init__") [] (backTo pos (starEach (e :: es) X.env)) []) _ _ _
  refine PyProof.Rows.callWith_method1 (thn (ha.run pos pins _ σ H _ (I.tok _) want) fun us s1 ⟨vs, H1, I1, r1, a, C, ws, ev, hl, O, ea, q⟩ => ?_) he hpl
  subst ev
  cases r1 with
  | @cons _ u0 _ ur ra rest =>
    obtain rfl : u0 = Value.ref a := ra
    have few : ur.length ≤ sizeLine := by
      rw [← Paired.length rest, sizeLine_eq]
      omega
    exact oinit_ok O I1 ea few fun s2 J => ⟨.non, H1, J, rfl, q⟩
end U

/-! small readings that many laws want -/
namespace U
open PySem PySem.Spec PyProof.Rows L2
section
variable {K : PySem.W.Frag} {H H' : Hp} {Q : VK} {p q a : Addr} {σ : L2.St} {te td : TE} {tr : TA} {xs : List V}
theorem rd_tyD {kvs : List (Key × V)} {P : Prop} (hs : H p = some (.dK kvs)) (h : P) : tyV K "dict" (.ref p) H ∧ P := ⟨.inr (.inr (.inl ⟨rfl, .inl ⟨kvs, hs⟩⟩)), h⟩
theorem rd_clr {kvs : List (Key × V)} (hs : H p = some (.dK kvs)) (h : Q .non (upd H p (.dK []))) : rDClear (.ref p) [] H Q := ⟨p, kvs, rfl, rfl, hs, h⟩
theorem rd_revL (h : te σ H fun x H1 => ∃ a xs, x = .ref a ∧ SqL K H1 a xs ∧ ∀ p, H1 p = none → Q (.ref p) (upd H1 p (.lst xs.reverse))) : tRevL K te σ H Q := h
end
end U

/-! a pair among pairs; lists of lists of texts -/
namespace U
open PySem PySem.Spec PyProof.Rows L2
theorem kNinL {X : Cx} (K : PySem.W.Frag) (hK : X.K = K) (hu : X.A.units + 65 < cLine) : OpR X (compareOp .NotIn) (rNotInD K) := by
  subst hK
  exact op_notInD hu
abbrev dE (e : Str × Str) : PyData := .tuple [.str e.1, .str e.2]
theorem eqv_dE {a b : Str × Str} : PyData.eqv (dE a) (dE b) = decide (a = b) := by
  obtain ⟨a1, a2⟩ := a
  obtain ⟨b1, b2⟩ := b
  rw [Bool.eq_iff_iff]
  simp [dE, PyData.eqv, PyData.eqvAll]
theorem any_dE {es : List (Str × Str)} {e : Str × Str} : ((es.map dE).any fun z => PyData.eqv z (dE e)) = decide (e ∈ es) := by
  rw [Bool.eq_iff_iff, List.any_eq_true, decide_eq_true_iff]
  constructor
  · rintro ⟨z, hz, h⟩
    obtain ⟨y, hy, rfl⟩ := List.mem_map.mp hz
    rw [eqv_dE, decide_eq_true_iff] at h
    rw [← h]
    exact hy
  · intro h
    exact ⟨_, List.mem_map_of_mem h, by rw [eqv_dE]; exact decide_eq_true rfl⟩
theorem dp_edges {K : PySem.W.Frag} {H : Hp} : ∀ {es : List (Addr × Str × Str)}, (∀ x ∈ es, SqT K H x.1 [.str x.2.1, .str x.2.2]) → DpAll K H (es.map fun x => V.ref x.1) ((es.map (·.2)).map dE)
  | [], _ => .nil
  | x :: r, h => .cons (.tup (h x List.mem_cons_self) (.cons (.str _) (.cons (.str _) .nil))) (dp_edges fun y hy => h y (List.mem_cons_of_mem _ hy))
theorem can_edges : ∀ {es : List (Str × Str)}, (∀ e ∈ es, PyData.strOk e.1 = true ∧ PyData.strOk e.2 = true) → PyData.canLayAll0 (es.map dE) = true ∧ PyData.depthAll (es.map dE) ≤ 1
  | [], _ => by simp [PyData.canLayAll0, PyData.depthAll]
  | e :: r, h => by
    obtain ⟨a, b⟩ := can_edges (es := r) fun y hy => h y (List.mem_cons_of_mem _ hy)
    obtain ⟨h1, h2⟩ := h e List.mem_cons_self
    have c : (dE e).canLay0 = true := by simp [dE, PyData.canLay0, PyData.canLayAll0, h1, h2]
    have d : (dE e).depth = 1 := by simp [dE, PyData.depth, PyData.depthAll]
    rw [List.map_cons, PyData.canLayAll0, PyData.depthAll, a, c, d]
    exact ⟨rfl, by omega⟩
theorem shaped_edge {e : Str × Str} (h : PyData.strOk e.1 = true ∧ PyData.strOk e.2 = true) : SeqAt.shaped (dE e) = true := by
  unfold SeqAt.shaped
  simp [dE, PyData.canLay0, PyData.canLayAll0, PyData.depth, PyData.depthAll, h.1, h.2]
theorem shaped_edgesT {es : List (Str × Str)} (h : ∀ e ∈ es, PyData.strOk e.1 = true ∧ PyData.strOk e.2 = true) : SeqAt.shaped (.tuple (es.map dE)) = true := by
  obtain ⟨a, b⟩ := can_edges h
  unfold SeqAt.shaped
  rw [PyData.canLay0, a, PyData.depth, decide_eq_true (by omega)]
  rfl
/-! lists of lists of texts -/
end U

/-! tuples of numbers compared; a pair in a tuple of pairs; numbers == [] -/
namespace U
open PySem PySem.Spec PyProof.Rows L2
def rInT (K : PySem.W.Frag) : R2 := fun x y H Q => ∃ (d : PyData) (ds : List PyData), Dp K H x d ∧ Dp K H y (.tuple ds) ∧ SeqAt.shaped d = true ∧ SeqAt.shaped (.tuple ds) = true ∧ Q (.bl (ds.any fun z => PyData.eqv z d)) H
theorem kInT {X : Cx} (K : PySem.W.Frag) (hK : X.K = K) (hu : X.A.units + 65 < cLine) : OpR X (compareOp .In) (rInT K) := by
  subst hK
  intro pins s σ H x y v u Q I rx ry ⟨d, ds, hd, he, sd, se, q⟩
  obtain ⟨_, r1⟩ := Dp.reads I _ _ _ hd rx
  obtain ⟨_, r2⟩ := Dp.reads I _ _ _ he ry
  exact SeqAt.in_tuple_reads r2 r1 (SeqAt.canLay_of_shaped se) (SeqAt.canLay_of_shaped sd) (room_in_shaped sd hu) ⟨.bl _, H, I, rfl, q⟩
theorem rd_inTE {K : PySem.W.Frag} {H : Hp} {Q : VK} {p q : Addr} {e : Str × Str} {es : List (Addr × Str × Str)} (hp : SqT K H p [.str e.1, .str e.2]) (hq : SqT K H q (es.map fun x => V.ref x.1)) (pr : ∀ x ∈ es, SqT K H x.1 [.str x.2.1, .str x.2.2])
    (o1 : PyData.strOk e.1 = true ∧ PyData.strOk e.2 = true) (o2 : ∀ x ∈ es.map (·.2), PyData.strOk x.1 = true ∧ PyData.strOk x.2 = true) (h : Q (.bl (decide (e ∈ es.map (·.2)))) H) : rInT K (.ref p) (.ref q) H Q := by
  refine ⟨dE e, _, .tup hp (.cons (.str _) (.cons (.str _) .nil)), .tup hq (dp_edges pr), shaped_edge o1, shaped_edgesT o2, ?_⟩
  rw [any_dE]
  exact h
section
variable {K : PySem.W.Frag} {H : Hp} {Q : VK} {p q : Addr} {xs ys : List Int}
end
end U

/-! lists of lists of texts as data; min of a list -/
namespace U
open PySem PySem.Spec PyProof.Rows L2
end U

/-! a pair not in a tuple of pairs; tuples of numbers in a list; lists of lists of numbers compared and shown -/
namespace U
open PySem PySem.Spec PyProof.Rows L2
/-- xs[::-1] in a comprehension's block -/
theorem kRevL {X : Cx} (K : PySem.W.Frag) (hK : X.K = K) {e : Expr} {te : TE} {k : Nat} {p1 p2 p3 pos : Pos} (he : PE X e te) : PE X (.Subscript e (.Slice none none (some (.UnaryOp .USub (.Constant (.int 1) k p1) p2)) p3) pos) (tRevL K te) := by
  subst hK
  exact pe_revL he
end U

/-! plain: kinds of elements in a list of moves (k42) -/
namespace Law
open PySem PySem.Spec PyProof.Rows L2 U
inductive It where
  | atm (v : V)
  | tp (vs : List V)
  | ls (vs : List V)
def ItAt (H : Hp) (v : V) : It → Prop
  | .atm u => v = u
  | .tp vs => ∃ a, v = .ref a ∧ H a = some (.tup vs)
  | .ls vs => ∃ a, v = .ref a ∧ H a = some (.lst vs)
theorem ItAt.ext {H H' : Hp} {v : V} {it : It} (h : ItAt H v it) (s : ∀ a xs, (H a = some (.tup xs) → H' a = some (.tup xs)) ∧ (H a = some (.lst xs) → H' a = some (.lst xs))) : ItAt H' v it := by
  cases it with
  | atm u => exact h
  | tp vs => exact h.imp fun a z => ⟨z.1, (s a vs).1 z.2⟩
  | ls vs => exact h.imp fun a z => ⟨z.1, (s a vs).2 z.2⟩
theorem ItAt.same {H H' : Hp} {v : V} {it : It} (h : ItAt H v it) (s : Same H H') : ItAt H' v it := h.ext fun a xs => ⟨fun z => s _ _ z, fun z => s _ _ z⟩
def AtmT (v : V) : Prop := AtmS v ∨ v = .int 4 ∨ v = .int 7
theorem AtmT.atm {v : V} (h : AtmT v) : Atm v := by
  rcases h with h | rfl | rfl
  · exact h.atm
  · exact .inr (.inr (.inl ⟨_, rfl⟩))
  · exact .inr (.inr (.inl ⟨_, rfl⟩))
theorem AtmT.wz {v : V} (h : AtmT v) : Wz 20 0 (vD v) := by
  rcases h with h | rfl | rfl
  · exact h.wz
  · exact ⟨by decide +kernel, by decide +kernel, by decide +kernel, by decide +kernel⟩
  · exact ⟨by decide +kernel, by decide +kernel, by decide +kernel, by decide +kernel⟩
theorem layT_atm {v : V} (h : AtmT v) : (vD v).canLay0 = true ∧ (vD v).depth = 0 := by
  rcases h with h | rfl | rfl
  · exact lay_atm h
  · exact ⟨by simp [vD, PyData.canLay0], by simp [vD, PyData.depth]⟩
  · exact ⟨by simp [vD, PyData.canLay0], by simp [vD, PyData.depth]⟩
theorem layT_atms : ∀ {vs : List V}, (∀ v ∈ vs, AtmT v) → PyData.canLayAll0 (vs.map vD) = true ∧ PyData.depthAll (vs.map vD) = 0
  | [], _ => by simp [PyData.canLayAll0, PyData.depthAll]
  | v :: vs, h => by
    obtain ⟨a, b⟩ := layT_atm (h v List.mem_cons_self)
    obtain ⟨c, d⟩ := layT_atms (vs := vs) fun x hx => h x (List.mem_cons_of_mem _ hx)
    rw [List.map_cons, PyData.canLayAll0, PyData.depthAll, a, b, c, d]
    exact ⟨rfl, rfl⟩
theorem wzT_atms : ∀ {vs : List V}, (∀ v ∈ vs, AtmT v) → WzA (21 * vs.length) 0 (vs.map vD)
  | [], _ => WzA.nil
  | v :: vs, h => by
    have a := WzA.cons (h v List.mem_cons_self).wz (wzT_atms (vs := vs) fun x hx => h x (List.mem_cons_of_mem _ hx))
    refine ⟨a.lv, a.sh, ?_, a.dp⟩
    have := a.bk
    rw [List.length_cons]
    exact Nat.le_trans this (by omega)
def It.ok : It → Prop
  | .atm u => AtmT u
  | .tp vs => vs.length ≤ 3 ∧ ∀ v ∈ vs, AtmT v
  | .ls vs => vs.length ≤ 3 ∧ ∀ v ∈ vs, AtmT v
def It.dat : It → PyData
  | .atm u => vD u
  | .tp vs => .tuple (vs.map vD)
  | .ls vs => .list (vs.map vD)
theorem It.dp {K : PySem.W.Frag} {H : Hp} {v : V} {it : It} (o : it.ok) (h : ItAt H v it) : Dp K H v it.dat := by
  cases it with
  | atm u =>
    have h : v = u := h
    subst h
    exact dp_atm (AtmT.atm o)
  | tp vs =>
    obtain ⟨a, rfl, ha⟩ := h
    exact .tup (SqT.of ha) (dp_atms fun x hx => (o.2 x hx).atm)
  | ls vs =>
    obtain ⟨a, rfl, ha⟩ := h
    exact .lst (SqL.of ha) (dp_atms fun x hx => (o.2 x hx).atm)
theorem It.wz {it : It} (o : it.ok) : Wz 63 1 it.dat := by
  cases it with
  | atm u => exact (AtmT.wz o).mono (by decide) (by decide)
  | tp vs =>
    have := o.1
    exact (Wz.tup (wzT_atms o.2)).mono (by omega) (by decide)
  | ls vs =>
    have := o.1
    exact (Wz.lst (wzT_atms o.2)).mono (by omega) (by decide)
/-- the move that an element is -/
def mvI : It → Option (Str × Int)
  | .tp [.str x, .int i] => some (x, i)
  | _ => none
theorem mvI_eq {it : It} {m : Str × Int} (h : mvI it = some m) : it = .tp [.str m.1, .int m.2] := by
  unfold mvI at h
  split at h
  · cases h
    rfl
  · cases h
/-- is it one of these moves -/
def posI (ms : List (Str × Int)) (it : It) : Bool := match mvI it with
  | some m => decide (m ∈ ms)
  | none => false
theorem posI_mv {ms : List (Str × Int)} {it : It} (h : posI ms it = true) : ∃ m ∈ ms, it = .tp [.str m.1, .int m.2] := by
  unfold posI at h
  split at h
  · rename_i m e
    exact ⟨m, of_decide_eq_true h, mvI_eq e⟩
  · cases h
theorem posI_non {ms : List (Str × Int)} {it : It} (h : mvI it = none) : posI ms it = false := by
  unfold posI
  rw [h]
def mvE (m : Str × Int) : PyData := .tuple [.str m.1, .int m.2]
theorem eqv_mvE {m : Str × Int} {a b : V} (ha : Atm a) (hb : Atm b) (nb : ∀ c, b ≠ .bl c) : PyData.eqv (mvE m) (.tuple [vD a, vD b]) = decide (mvI (.tp [a, b]) = some m) := by
  obtain ⟨x, i⟩ := m
  rw [Bool.eq_iff_iff, decide_eq_true_iff]
  rcases ha with rfl | ⟨c, rfl⟩ | ⟨j, rfl⟩ | ⟨y, rfl⟩ <;> rcases hb with rfl | ⟨c2, rfl⟩ | ⟨k, rfl⟩ | ⟨z, rfl⟩ <;> first | exact absurd rfl (nb _) | skip
  all_goals simp [mvE, vD, mvI, PyData.eqv, PyData.eqvAll]
  all_goals first | done | exact ⟨fun h => ⟨h.1.symm, h.2.symm⟩, fun h => ⟨h.1.symm, h.2.symm⟩⟩
theorem any_mvE {ms : List (Str × Int)} {a b : V} (ha : Atm a) (hb : Atm b) (nb : ∀ c, b ≠ .bl c) : ((ms.map mvE).any fun z => PyData.eqv z (.tuple [vD a, vD b])) = posI ms (.tp [a, b]) := by
  rw [List.any_map]
  have : ((fun z => PyData.eqv z (.tuple [vD a, vD b])) ∘ mvE) = fun m => decide (mvI (.tp [a, b]) = some m) := by
    funext m
    exact eqv_mvE ha hb nb
  rw [this]
  unfold posI
  cases mvI (.tp [a, b]) with
  | none => simp
  | some m =>
    rw [Bool.eq_iff_iff, List.any_eq_true, decide_eq_true_iff]
    constructor
    · rintro ⟨q, hq, e⟩
      have := Option.some.inj (of_decide_eq_true e)
      rw [this]
      exact hq
    · intro h
      exact ⟨m, h, decide_eq_true rfl⟩
theorem dp_mvs {K : PySem.W.Frag} {H : Hp} : ∀ {ms : List (Addr × Str × Int)}, TupsAt H ms → DpAll K H (ms.map fun m => V.ref m.1) ((ms.map (·.2)).map mvE)
  | [], _ => .nil
  | m :: r, h => .cons (.tup (SqT.of (h m List.mem_cons_self)) (.cons (.str _) (.cons (.int _) .nil))) (dp_mvs fun x hx => h x (List.mem_cons_of_mem _ hx))
theorem lay_mvs : ∀ {ms : List (Str × Int)}, (∀ m ∈ ms, PyData.strOk m.1 = true) → PyData.canLayAll0 (ms.map mvE) = true ∧ PyData.depthAll (ms.map mvE) ≤ 1
  | [], _ => by simp [PyData.canLayAll0, PyData.depthAll]
  | e :: r, h => by
    obtain ⟨a, b⟩ := lay_mvs (ms := r) fun y hy => h y (List.mem_cons_of_mem _ hy)
    have h1 := h e List.mem_cons_self
    have c : (mvE e).canLay0 = true := by simp [mvE, PyData.canLay0, PyData.canLayAll0, h1]
    have d : (mvE e).depth = 1 := by simp [mvE, PyData.depth, PyData.depthAll]
    rw [List.map_cons, PyData.canLayAll0, PyData.depthAll, a, c, d]
    exact ⟨rfl, by omega⟩
theorem rd_ninMv {K : PySem.W.Frag} {H : Hp} {Q : VK} {c l : Addr} {a b : V} {ms : List (Addr × Str × Int)} (hc : H c = some (.tup [a, b])) (ha : AtmT a) (hb : AtmT b) (nb : ∀ z, b ≠ .bl z) (hl : SqL K H l (ms.map fun m => V.ref m.1)) (tm : TupsAt H ms) (ok : ∀ m ∈ ms.map (·.2), PyData.strOk m.1 = true)
    (h : Q (.bl (!posI (ms.map (·.2)) (.tp [a, b]))) H) : rNotInD K (.ref c) (.ref l) H Q := by
  refine ⟨.tuple [vD a, vD b], _, .tup (SqT.of hc) (.cons (dp_atm ha.atm) (.cons (dp_atm hb.atm) .nil)), .lst hl (dp_mvs tm), ?_, ?_, ?_⟩
  · have l2 := layT_atms (vs := [a, b]) fun x hx => by
      rcases List.mem_cons.mp hx with rfl | hx
      · exact ha
      · cases List.mem_singleton.mp hx
        exact hb
    show SeqAt.shaped (.tuple (([a, b] : List V).map vD)) = true
    unfold SeqAt.shaped
    rw [PyData.canLay0, l2.1, PyData.depth, l2.2]
    rfl
  · obtain ⟨x, y⟩ := lay_mvs ok
    unfold SeqAt.shaped
    rw [PyData.canLay0, x, PyData.depth, decide_eq_true (by omega)]
    rfl
  · rw [any_mvE ha.atm hb.atm nb]
    exact h
/-- the class of an atom is not `tuple` -/
theorem ty_atmT {K : PySem.W.Frag} {H : Hp} {v : V} (h : Atm v) : ∃ t, TyIs K H v t ∧ isT t .tup = false ∧ ((isT t .bl = true) ↔ ∃ c, v = .bl c) ∧ ((t = .int) ↔ ∃ i, v = .int i) := by
  rcases h with rfl | ⟨c, rfl⟩ | ⟨j, rfl⟩ | ⟨y, rfl⟩
  · refine ⟨_, ty_non, by decide +kernel, Iff.intro (fun z => absurd z (by decide +kernel)) ?_, Iff.intro (fun z => nomatch z) ?_⟩ <;> (rintro ⟨c, z⟩; cases z)
  · exact ⟨_, ty_bl, by decide +kernel, Iff.intro (fun _ => ⟨_, rfl⟩) (fun _ => by decide +kernel), Iff.intro (fun z => nomatch z) (fun ⟨c, z⟩ => nomatch z)⟩
  · exact ⟨_, ty_int, by decide +kernel, Iff.intro (fun z => absurd z (by decide +kernel)) (fun ⟨c, z⟩ => nomatch z), Iff.intro (fun _ => ⟨_, rfl⟩) (fun _ => rfl)⟩
  · refine ⟨_, ty_str, by decide +kernel, Iff.intro (fun z => absurd z (by decide +kernel)) ?_, Iff.intro (fun z => nomatch z) ?_⟩ <;> (rintro ⟨c, z⟩; cases z)
/-- how an element is told to be no move -/
theorem ty_it {K : PySem.W.Frag} {H : Hp} {v : V} {it : It} (o : it.ok) (h : ItAt H v it) : (∃ t, TyIs K H v t ∧ isT t .tup = false ∧ mvI it = none) ∨ ∃ a vs, v = .ref a ∧ it = .tp vs ∧ H a = some (.tup vs) ∧ vs.length ≤ 3 ∧ ∀ z ∈ vs, AtmT z := by
  cases it with
  | atm u =>
    have h : v = u := h
    subst h
    obtain ⟨t, t1, t2, _⟩ := ty_atmT (K := K) (H := H) (AtmT.atm o)
    exact .inl ⟨t, t1, t2, rfl⟩
  | tp vs =>
    obtain ⟨a, rfl, ha⟩ := h
    exact .inr ⟨a, vs, rfl, rfl, ha, o.1, o.2⟩
  | ls vs =>
    obtain ⟨a, rfl, ha⟩ := h
    exact .inl ⟨.lst, ty_lst ha, by decide +kernel, rfl⟩
theorem mvI_len {vs : List V} (h : vs.length ≠ 2) : mvI (.tp vs) = none := by
  match vs, h with
  | [], _ => rfl
  | [a], _ => cases a <;> rfl
  | [a, b], h => exact absurd rfl h
  | a :: b :: c :: r, _ => cases a <;> cases b <;> rfl
/-- what a round comes to -/
def dupS : List Str → List Str → Option Str
  | _, [] => none
  | s, x :: r => if x ∈ s then some x else dupS (s ++ [x]) r
def adjS (es : List (Str × Str)) : List Str → List Str → Option (Str × Str)
  | _, [] => none
  | s, x :: r => match s.find? (fun y => decide (y ∈ nbrF es x)) with
    | some y => some (x, y)
    | none => adjS es (s ++ [x]) r
def badI (ms : List (Str × Int)) (its : List It) : Option Nat := its.findIdx? fun it => !posI ms it
inductive Rs where
  | bad (v : Option Nat)
  | dup (x : Str)
  | adj (x y : Str)
  | good
def ndI (it : It) : Str := match it with
  | .tp (.str x :: _) => x
  | _ => ""
def rsS (es : List (Str × Str)) (xs : List Str) : Rs := match dupS [] xs with
  | some x => .dup x
  | none => match adjS es [] xs with
    | some e => .adj e.1 e.2
    | none => .good
def rsI (es : List (Str × Str)) (ms : List (Str × Int)) (its : List It) : Rs := match badI ms its with
  | some i => .bad (some i)
  | none => rsS es (its.map ndI)
end Law

/-! functions handed on: promises that speak of the cells which a handed function captured -/
namespace U
open PySem PySem.Spec PyProof.Rows L2 LamX NdefX
section
variable {P : Program} {w : World} {K : PySem.W.Frag} {mg : Str → Option Value} {base : Heap} {CX : CXT}
end
section
variable {X : Cx} {pins : List (Addr × Obj)} {σ : L2.St} {H : Hp} {s : Shared} {cl : List (Str × Addr)} {fr : List Str} {ws : List (Option V)} {js : List Nat}
end
end U

/-! enumerate(tuple) -/
namespace U
open PySem PySem.Spec PyProof.Rows L2
end U

/-! own exceptions with one field: made, raised, kept, read -/
namespace U
open PySem PySem.Spec PyProof.Rows L2
/-- __init__(self, v): the field f is v -/
def spInit1 (C : Addr) (f : Str) : Sp := fun vs H Q _ => ∃ (a : Addr) (v : V), vs = [.ref a, v] ∧ H a = some (exo a C none) ∧
  ∀ dx, H dx = none → dx ≠ a → Q .non (upd (upd H dx (exd dx [(f, v)])) a (exo a C (some dx)))
theorem rd_mk1 {C : Addr} {f : Str} {v : V} {H : Hp} {Q : XK} (h : ∀ (dd : Addr) (H' : Hp), Same H H' → H dd = none → H' dd = some (.xd [(f, v)]) → Q (.ref C) (some dd) H') :
    [v].length ≤ 1000 ∧ ∀ a, H a = none → spInit1 C f (.ref a :: ([v] ++ [])) (upd H a (exo a C none)) (fun w H2 => w = .non ∧ ∃ (d : Addr) (fs : List (Str × V)), H2 a = some (exo a C (some d)) ∧ H2 d = some (exd d fs) ∧ H d = none ∧ Q (.ref C) (some d) (upd (del H2 a) d (.xd fs))) (fun _ _ _ => False) := by
  refine ⟨(by show 1 ≤ 1000; decide), fun a na => ⟨a, v, rfl, upd_same, fun dx ndx nda => ⟨rfl, dx, [(f, v)], upd_same, ?_, ?_, ?_⟩⟩⟩
  · rw [upd_ne nda, upd_same]
  · rw [upd_ne nda] at ndx
    exact ndx
  · have nd0 : H dx = none := by
      rw [upd_ne nda] at ndx
      exact ndx
    refine h dx _ (fun b o e => ?_) nd0 upd_same
    have n1 : b ≠ dx := ne_of_none e nd0
    have n2 : b ≠ a := ne_of_none e na
    rw [upd_ne n1, del_ne n2, upd_ne n2, upd_ne n1, upd_ne n2]
    exact e
section
variable {σ : L2.St} {H : Hp} {Q : VK} {D : Ends} {K : PySem.W.Frag} {te : TE} {ta : TA}
theorem rd_vei {v : V} (h : ta σ H fun vs H1 => ∃ (a C : Addr) (ws : List V), vs = .ref a :: ws ∧ ws.length ≤ 1000 ∧ OexC K C ∧ H1 a = some (exo a C none) ∧ Q .non H1) : tVeI K ta σ H Q := h
theorem rd_ost {f : Str} {to : TE} (h : te σ H fun y H1 => to σ H1 fun x H2 => ∃ a C : Addr, x = .ref a ∧ OexC K C ∧ PySem.W.findIn K (.ref C) f = some none ∧
  ((H2 a = some (exo a C none) ∧ ∀ dx, H2 dx = none → dx ≠ a → D.nx σ (upd (upd H2 dx (exd dx [(f, y)])) a (exo a C (some dx)))) ∨
    ∃ (dx : Addr) (fs : List (Str × V)), H2 a = some (exo a C (some dx)) ∧ H2 dx = some (exd dx fs) ∧ fs.length ≤ 900 ∧ D.nx σ (upd H2 dx (exd dx ((f, y) :: fs))))) : tOst K f to te D σ H := h
end
/-! the class's facts, gathered -/
structure OwnX (K : PySem.W.Frag) (mg : Str → Option Value) (x : Str) (f : Str) (C CB fI : Addr) : Prop where
  gC : mg x = some (.ref C)
  ox : OexC K C
  no : PySem.W.findIn K (.ref C) f = some none
  iC : PySem.W.findIn K (.ref C) "__init__" = some (some (.ref fI))
  tI : PySem.W.typeIn K (.ref fI) = some (.type "function")
  xf : XfC K C
  gB : mg "InputError" = some (.ref CB)
  bi : BaseI K CB
  ex : PySem.W.exmOne K (.ref C) (.ref C) = some true
  eb : PySem.W.exmOne K (.ref C) (.ref CB) = some true
end U

/-! is_move of anything -/
namespace Law
open PySem PySem.Spec PyProof.Rows L2 U


/-- c: not a move by its form (o = none), or a text and a number -/
inductive CandAt (K : PySem.W.Frag) (H : Hp) : V → Option (Str × Int) → Prop
  | odd {c : V} {a : Ty} : TyIs K H c a → isT a .tup = false → CandAt K H c none
  | len {a : Addr} {xs : List V} : H a = some (.tup xs) → xs.length ≠ 2 → CandAt K H (.ref a) none
  | node {a : Addr} {x y : V} {t : Ty} : H a = some (.tup [x, y]) → TyIs K H x t → isT t .str = false → CandAt K H (.ref a) none
  | val {a : Addr} {x : Str} {y : V} {t : Ty} : H a = some (.tup [.str x, y]) → TyIs K H y t → t ≠ .int → CandAt K H (.ref a) none
  | mv {a : Addr} {x : Str} {v : Int} : H a = some (.tup [.str x, .int v]) → CandAt K H (.ref a) (some (x, v))
section
variable {P : Program} {w : World} {K : PySem.W.Frag} {mg : Str → Option Value} {base : Heap}
end
end Law

/-! calls with keywords and defaults of a def that may raise -/
namespace U
open PySem PySem.Spec PyProof.Rows L2
def tCK2 (sp : Sp) (np nk : Nat) (W : WX) (t tk : TA) : TE := fun σ H Q => t σ H fun vs H1 => vs.length = np ∧ tk σ H1 fun zs H2 => zs.length = nk ∧ sp (vs ++ zs) H2 Q fun cls d H' => W cls d σ H'
theorem pe_cKX {X : Cx} {W : WX} {k j : Nat} {x : Str} {np : Nat} {ks : List Str} {sp : Sp} {e : Expr} {es : List Expr} {kws : List Keyword} {t tk : TA} {p pos : Pos} (c : CalK X.prog X.w X.K X.mg X.base (L2.CX X.prog X.w) k x np ks sp) (hr : Rm j X.A) (hk : k ≤ j) (hg : Gl X x) (tx : Takes X W)
    (ha : PA X (e :: es) t) (hkw : PK X kws tk) (hall : (backToKw pos (keywordEach kws X.env)).all (·.1.isSome) = true := by rfl) (hks : (backToKw pos (keywordEach kws X.env)).filterMap (·.1) = ks := by rfl)
    (hdb : (x == ("__debug__" : Str)) = false := by decide) (he : starEach (e :: es) X.env = (false, eval e X.env) :: starEach es X.env := by rfl)
    (hpl : ((backTo pos (starEach (e :: es) X.env)).any (·.1) || (backToKw pos (keywordEach kws X.env)).any (·.1.isNone)) = false := by rfl) :
    PE X (.Call (.Name x p) (e :: es) kws pos) (tCK2 sp np ks.length W t tk) := by
  obtain ⟨f, fd, ps, F, hm, kp, b⟩ := c.ex
  refine ⟨fun pins s σ H Q I h => wpAny_Call_Name_kw (ld_glob I hg hm ?_ hdb)⟩
  refine PySem.W.callWith_KW (h₀ := X.base) I.ok.mod.kin kp hall (thn (ha.run pos pins s σ H _ I h) fun us s1 ⟨vs, H1, I1, r, hn, q⟩ => ?_) hpl he
  refine thn (hkw.run pos pins s1 σ H1 _ I1 q) fun ws s2 ⟨zs, H2, I2, rz, hz, q2⟩ => ⟨I2.kIn, ?_⟩
  rw [hks]
  have bd : BindsTo s2 fd ⟨us, ks.zip ws⟩ (ps.zip (us ++ ws)) := .of_eq (b us ws (by rw [← r.length]; exact hn) (by rw [← rz.length]; exact hz))
  refine wpAny_call (codeAny_mono (F.go X.A X.stack s2 H2 ⟨us, ks.zip ws⟩ (us ++ ws) (vs ++ zs) _ _ (hr.mono hk) I2.env0 bd (vals_app r rz) q2) ?_)
  intro res s' hq
  cases res with
  | error er => exact tx er s' (XE.of_call I2 (fun cls d H' z => z) hq)
  | ok fl =>
    cases fl with
    | ret u => exact I2.after hq
    | next => exact hq.elim
    | brk => exact hq.elim
    | cont => exact hq.elim
def tCD2 (sp : Sp) (dvs : List V) (W : WX) (t : TA) : TE := fun σ H Q => t σ H fun vs H1 => sp (vs ++ dvs) H1 Q fun cls d H' => W cls d σ H'
theorem pe_cDX {X : Cx} {W : WX} {k j : Nat} {x : Str} {dvs : List V} {sp : Sp} {e : Expr} {es : List Expr} {t : TA} {p pos : Pos} (c : CalD X.prog X.w X.K X.mg X.base (L2.CX X.prog X.w) k x dvs sp) (hr : Rm j X.A) (hk : k ≤ j) (hg : Gl X x) (tx : Takes X W) (ha : PA X (e :: es) t)
    (hdb : (x == ("__debug__" : Str)) = false := by decide) (he : starEach (e :: es) X.env = (false, eval e X.env) :: starEach es X.env := by rfl) (hpl : (backTo pos (starEach es X.env)).any (·.1) = false := by rfl) :
    PE X (.Call (.Name x p) (e :: es) [] pos) (tCD2 sp dvs W t) := by
  obtain ⟨f, fd, ps, ds, F, hm, kp, rd, b⟩ := c.ex
  refine ⟨fun pins s σ H Q I h => wpAny_Call_Name_kw (ld_glob I hg hm ?_ hdb)⟩
  refine PySem.W.callWith_K (h₀ := X.base) I.ok.mod.kin kp (thn (ha.run pos pins s σ H _ I h) ?_) he hpl
  rintro us s1 ⟨vs, H1, I1, r, q⟩
  refine ⟨I1.kIn, ?_⟩
  have r2 : Vals (vs ++ dvs) (us ++ ds) := r.append rd
  have count : (us ++ ds).length = ps.length := r2.length ▸ F.len _ _ _ _ q
  have bd := b s1 us I1.kIn count
  refine wpAny_call (codeAny_mono (F.go X.A X.stack s1 H1 ⟨us, []⟩ (us ++ ds) (vs ++ dvs) _ _ (hr.mono hk) I1.env0 bd r2 q) ?_)
  intro res s' hq
  cases res with
  | error er => exact tx er s' (XE.of_call I1 (fun cls d H' z => z) hq)
  | ok fl =>
    cases fl with
    | ret u => exact I1.after hq
    | next => exact hq.elim
    | brk => exact hq.elim
    | cont => exact hq.elim
/-- an own error with one field, its __init__ done -/
structure ErrX (P : Program) (w : World) (K : PySem.W.Frag) (mg : Str → Option Value) (base : Heap) (x f : Str) (C CB : Addr) : Prop where
  ex : ∃ (fI : Addr) (fd : FuncData), OwnX K mg x f C CB fI ∧ FnOk P w K mg base CX0 1 fI fd ["self", f] (spInit1 C f) ∧ Binds K fd ["self", f] []
/-- raise X(e): reading rd_rz, e's, rd_mk1 -/
def tRz (C : Addr) (f : Str) (te : TE) (W : WX) : TS := fun _ σ H => tMkO C (spInit1 C f) [] (tCons te tNil) σ H fun cls d H' => W cls d σ H'
theorem ps_rz {X : Cx} {W : WX} {j : Nat} {x f : Str} {C CB : Addr} {e : Expr} {te : TE} {p p2 pos : Pos} (T : ErrX X.prog X.w X.K X.mg X.base x f C CB) (hr : Rm j X.A) (hk : 2 ≤ j) (hc : X.calm = true) (tk : Takes X W) (hg : Gl X x) (he : PE X e te)
    (hdb : (x == ("__debug__" : Str)) = false := by decide) (hs : starEach [e] X.env = (false, eval e X.env) :: starEach [] X.env := by rfl) (hpl : (backTo p2 (starEach [] X.env)).any (·.1) = false := by rfl) :
    PS X (.Raise (some (.Call (.Name x p) [e] [] p2)) none pos) (tRz C f te W) := by
  obtain ⟨fI, fd, T1, F1, b⟩ := T.ex
  exact ps_raise (pos := pos) hc tk (pmk_oex (p := p) (pos := p2) (dvs := []) T1.ox T1.iC T1.tI F1 (hr.r.mono hk) b .nil pass0 hg T1.gC (pa_cons he pa_nil (hs := hs)) hdb hs hpl)
theorem rd_rz {C : Addr} {f : Str} {te : TE} {W : WX} {D : Ends} {σ : L2.St} {H : Hp} (h : tCons te tNil σ H fun vs H1 => vs.length ≤ 1000 ∧ ∀ a, H1 a = none → spInit1 C f (.ref a :: (vs ++ [])) (upd H1 a (exo a C none))
  (fun v H2 => v = .non ∧ ∃ (d : Addr) (fs : List (Str × V)), H2 a = some (exo a C (some d)) ∧ H2 d = some (exd d fs) ∧ H1 d = none ∧ W (.ref C) (some d) σ (upd (del H2 a) d (.xd fs))) (fun _ _ _ => False)) : tRz C f te W D σ H := h
end U

/-! apply_moves of anything -/
namespace Law
open PySem PySem.Spec PyProof.Rows L2 U


theorem rd_rz {C : Addr} {f : Str} {te : TE} {W : WX} {D : Ends} {σ : L2.St} {H : Hp} (h : tCons te tNil σ H fun vs H1 => vs.length ≤ 1000 ∧ ∀ a, H1 a = none → spInit1 C f (.ref a :: (vs ++ [])) (upd H1 a (exo a C none))
  (fun v H2 => v = .non ∧ ∃ (d : Addr) (fs : List (Str × V)), H2 a = some (exo a C (some d)) ∧ H2 d = some (exd d fs) ∧ H1 d = none ∧ W (.ref C) (some d) σ (upd (del H2 a) d (.xd fs))) (fun _ _ _ => False)) : tRz C f te W D σ H := h
/-- the error with v at the position leaves -/
def PosE (C : Addr) (v : V) (H : Hp) (E : XK) : Prop := ∀ (d : Addr) (H' : Hp), Same H H' → H d = none → H' d = some (.xd [("position", v)]) → E (.ref C) (some d) H'
theorem tyx_same {K : PySem.W.Frag} {H H' : Hp} {x : V} {t : Value} (h : TyX K H x t) (s : Same H H') : TyX K H' x t := by
  cases h with
  | base h =>
    cases h with
    | non => exact .base .non
    | bl x => exact .base (.bl x)
    | int x => exact .base (.int x)
    | str x => exact .base (.str x)
    | flt x => exact .base (.flt x)
    | lst e => exact .base (.lst (s _ _ e))
    | frz e => exact .base (.frz (s _ _ e))
    | tup e => exact .base (.tup (s _ _ e))
    | dK e => exact .base (.dK (s _ _ e))
    | dT e => exact .base (.dT (s _ _ e))
    | ins e a b c d f => exact .base (.ins (s _ _ e) a b c d f)
  | byt b => exact .byt b
  | set e => exact .set (s _ _ e)
  | kList e c => exact .kList e c
  | kTuple e c => exact .kTuple e c
  | kDict e c => exact .kDict e c
  | fTuple e => exact .fTuple (s _ _ e)
  | fDict e => exact .fDict (s _ _ e)
theorem CandAt.same {K : PySem.W.Frag} {H H' : Hp} {c : V} {o : Option (Str × Int)} (h : CandAt K H c o) (s : Same H H') : CandAt K H' c o := by
  cases h with
  | odd a b => exact .odd (tyx_same a s) b
  | len a b => exact .len (s _ _ a) b
  | node a b c => exact .node (s _ _ a) (tyx_same b s) c
  | val a b c => exact .val (s _ _ a) (tyx_same b s) c
  | mv a => exact .mv (s _ _ a)
section
variable {P : Program} {w : World} {K : PySem.W.Frag} {mg : Str → Option Value} {base : Heap}
end
end Law

/-! components, root paths, basis cycles: the plain law -/
namespace U
open PySem PySem.Spec PyProof.Rows L2
abbrev ptF (es : List (Str × Str)) (x : Str) : List (Str × List Str) := pathsF (nbS es) (fun _ _ => true) x
abbrev Con (es : List (Str × Str)) (x y : Str) : Prop := Reach (nbS es) (fun _ _ => true) x y
section
variable {ns : List Str} {es : List (Str × Str)} {x y : Str}
theorem con_symm (h : Con es x y) : Con es y x := by
  induction h with
  | refl => exact .refl
  | step _ m _ ih =>
    refine Reach.trans (.step .refl ?_ rfl) ih
    exact nbS_mem.mpr ((nbS_mem.mp m).symm)
theorem pt_mem (ok : GrOk ns es) (l : ns.length ≤ 1000) (hx : x ∈ ns) : y ∈ keysF (ptF es x) ↔ Con es x y :=
  ⟨fun h => stF_reach h, fun h => stF_all (by have := stF_len (ok := fun _ _ => true) (adj := nbS es) (ns := ns) (fun a _ b hb => nbS_in ok hb) hx 1000; omega) h⟩
theorem pt_nodup : (keysF (ptF es x)).Nodup := stF_nodup 1000
theorem pt_in (ok : GrOk ns es) (hx : x ∈ ns) (h : y ∈ keysF (ptF es x)) : y ∈ ns := reach_mem (fun a _ b hb => nbS_in ok hb) hx (stF_reach h)
def comp (es : List (Str × Str)) (x : Str) : List Str := sortS (keysF (ptF es x))
theorem comp_mem (ok : GrOk ns es) (l : ns.length ≤ 1000) (hx : x ∈ ns) : y ∈ comp es x ↔ Con es x y := by
  unfold comp
  rw [(sortS_perm _).mem_iff, pt_mem ok l hx]
def compStep (es : List (Str × Str)) (cs : List (List Str)) (n : Str) : List (List Str) := if n ∈ cs.flatten then cs else cs ++ [comp es n]
/-- components found from the nodes ds, all in ns -/
structure Cmps (ns : List Str) (es : List (Str × Str)) (ds : List Str) (cs : List (List Str)) : Prop where
  of : ∀ c ∈ cs, ∃ r ∈ ns, c = comp es r
  nd : cs.flatten.Nodup
  all : ∀ x ∈ ds, x ∈ cs.flatten
theorem Cmps.nil : Cmps ns es [] [] := ⟨(fun c hc => nomatch hc), List.nodup_nil, (fun x hx => nomatch hx)⟩
theorem Cmps.in_ {ds : List Str} {cs : List (List Str)} (h : Cmps ns es ds cs) (ok : GrOk ns es) : ∀ x ∈ cs.flatten, x ∈ ns := fun x hx => by
  obtain ⟨c, hc, hx⟩ := List.mem_flatten.mp hx
  obtain ⟨r, hr, rfl⟩ := h.of c hc
  exact pt_in ok hr ((sortS_perm _).mem_iff.mp hx)
theorem Cmps.step {ds : List Str} {cs : List (List Str)} {n : Str} (h : Cmps ns es ds cs) (ok : GrOk ns es) (l : ns.length ≤ 1000) (hn : n ∈ ns) : Cmps ns es (ds ++ [n]) (compStep es cs n) := by
  unfold compStep
  by_cases m : n ∈ cs.flatten
  · rw [if_pos m]
    refine ⟨h.of, h.nd, fun x hx => ?_⟩
    rcases List.mem_append.mp hx with hx | hx
    · exact h.all x hx
    · rw [List.mem_singleton] at hx
      rw [hx]
      exact m
  · rw [if_neg m]
    refine ⟨fun c hc => ?_, ?_, fun x hx => ?_⟩
    · rcases List.mem_append.mp hc with hc | hc
      · exact h.of c hc
      · rw [List.mem_singleton] at hc
        exact ⟨n, hn, hc⟩
    · rw [List.flatten_append, List.nodup_append]
      refine ⟨h.nd, ?_, fun a ha b hb z => ?_⟩
      · rw [List.flatten_singleton]
        exact (sortS_perm _).nodup_iff.mpr pt_nodup
      · rw [List.flatten_singleton] at hb
        subst z
        obtain ⟨c, hc, ha⟩ := List.mem_flatten.mp ha
        obtain ⟨r, hr, rfl⟩ := h.of c hc
        have h1 := (comp_mem ok l hr).mp ha
        have h2 := (comp_mem ok l hn).mp hb
        exact m (List.mem_flatten.mpr ⟨_, hc, (comp_mem ok l hr).mpr (h1.trans (con_symm h2))⟩)
    · rw [List.flatten_append, List.flatten_singleton]
      rcases List.mem_append.mp hx with hx | hx
      · exact List.mem_append_left _ (h.all x hx)
      · rw [List.mem_singleton] at hx
        subst hx
        exact List.mem_append_right _ ((comp_mem ok l hn).mpr .refl)
theorem Cmps.len {ds : List Str} {cs : List (List Str)} (h : Cmps ns es ds cs) (ok : GrOk ns es) : cs.flatten.length ≤ ns.length := nodup_len h.nd (h.in_ ok)
/-! root paths -/
end
end U

/-! sums of slopes along walks: the plain law -/
namespace U
open PySem PySem.Spec PyProof.Rows L2
def Adj (es : List (Str × Str)) (a b : Str) : Prop := (a, b) ∈ es ∨ (b, a) ∈ es
theorem Adj.symm {es : List (Str × Str)} {a b : Str} (h : Adj es a b) : Adj es b a := Or.symm h
def Wk (es : List (Str × Str)) : List Str → Prop
  | a :: b :: r => Adj es a b ∧ Wk es (b :: r)
  | _ => True
/-- the slopes along a list -/
def psl (f : Str → Int) : List Str → List Int
  | a :: b :: r => slp f a b :: psl f (b :: r)
  | _ => []
def psum (f : Str → Int) (p : List Str) : Int := (psl f p).sum
theorem psum_cons {f : Str → Int} {a b : Str} {r : List Str} : psum f (a :: b :: r) = slp f a b + psum f (b :: r) := by
  unfold psum
  rw [psl, List.sum_cons]
theorem psum_one {f : Str → Int} {a : Str} : psum f [a] = 0 := rfl
theorem Wk.join {es : List (Str × Str)} : ∀ {p r : List Str} {x : Str}, p.getLast? = some x → Wk es p → Wk es (x :: r) → Wk es (p ++ r)
  | [], _, _, h, _, _ => nomatch h
  | [a], r, x, h, _, w => by
    have : a = x := by simpa using h
    subst this
    exact w
  | a :: b :: q, r, x, h, w1, w2 => by
    have h' : (b :: q).getLast? = some x := by rw [List.getLast?_cons_cons] at h; exact h
    exact ⟨w1.1, Wk.join (p := b :: q) h' w1.2 w2⟩
theorem Wk.snoc {es : List (Str × Str)} {p : List Str} {x b : Str} (h : p.getLast? = some x) (w : Wk es p) (a : Adj es x b) : Wk es (p ++ [b]) := w.join h ⟨a, trivial⟩
theorem Wk.left {es : List (Str × Str)} : ∀ {p r : List Str}, Wk es (p ++ r) → Wk es p
  | [], _, _ => trivial
  | [_], _, _ => trivial
  | a :: b :: q, r, w => ⟨w.1, Wk.left (p := b :: q) (r := r) w.2⟩
theorem Wk.tail {es : List (Str × Str)} {a : Str} {p : List Str} (w : Wk es (a :: p)) : Wk es p := by
  cases p with
  | nil => trivial
  | cons b r => exact w.2
theorem Wk.right {es : List (Str × Str)} : ∀ {p r : List Str}, Wk es (p ++ r) → Wk es r
  | [], _, w => w
  | a :: q, r, w => Wk.right (p := q) (r := r) (Wk.tail w)
theorem Wk.rev {es : List (Str × Str)} : ∀ {p : List Str}, Wk es p → Wk es p.reverse
  | [], _ => trivial
  | [_], _ => trivial
  | a :: b :: r, w => by
    have ih := Wk.rev (p := b :: r) w.2
    rw [List.reverse_cons]
    refine ih.snoc (x := b) ?_ w.1.symm
    rw [List.reverse_cons, List.getLast?_append]
    simp
section
variable {ns : List Str} {es : List (Str × Str)} {f : Str → Int}
theorem slp_neg (ok : EsOk ns es f) {a b : Str} (h : Adj es a b) : slp f b a = - slp f a b := by
  have ha : a ∈ ns ∧ b ∈ ns ∧ f a ≠ f b := by
    rcases h with h | h
    · exact ⟨(ok.mem _ h).1, (ok.mem _ h).2, ok.pro _ h⟩
    · exact ⟨(ok.mem _ h).2, (ok.mem _ h).1, fun z => ok.pro _ h z.symm⟩
  have t1 := ok.tri a ha.1
  have t2 := ok.tri b ha.2.1
  have ne := ha.2.2
  unfold slp
  split <;> split <;> omega
theorem slp_mod (ok : EsOk ns es f) {a b : Str} (h : Adj es a b) : slp f a b % 3 = (f b - f a) % 3 := by
  have ha : a ∈ ns ∧ b ∈ ns ∧ f a ≠ f b := by
    rcases h with h | h
    · exact ⟨(ok.mem _ h).1, (ok.mem _ h).2, ok.pro _ h⟩
    · exact ⟨(ok.mem _ h).2, (ok.mem _ h).1, fun z => ok.pro _ h z.symm⟩
  have t1 := ok.tri a ha.1
  have t2 := ok.tri b ha.2.1
  have ne := ha.2.2
  unfold slp
  split <;> omega
/-- two states apart by the numbers h -/
theorem psum_lift {g h : Str → Int} (okf : EsOk ns es f) (okg : EsOk ns es g) (t : ∀ e ∈ es, slp f e.1 e.2 - slp g e.1 e.2 = 2 * (h e.1 - h e.2)) : ∀ {p : List Str} {a b : Str}, Wk es p → p.head? = some a → p.getLast? = some b → psum f p - psum g p = 2 * (h a - h b)
  | [], _, _, _, h, _ => nomatch h
  | [x], a, b, _, h, k => by
    have h1 : x = a := by simpa using h
    have h2 : x = b := by simpa using k
    subst h1
    subst h2
    rw [psum_one, psum_one]
    omega
  | x :: y :: r, a, b, w, k1, k => by
    have h1 : x = a := by simpa using k1
    subst h1
    have k' : (y :: r).getLast? = some b := by rw [List.getLast?_cons_cons] at k; exact k
    have ih := psum_lift okf okg t (p := y :: r) (a := y) w.2 rfl k'
    rw [psum_cons, psum_cons]
    have m : slp f x y - slp g x y = 2 * (h x - h y) := by
      rcases w.1 with q | q
      · exact t _ q
      · have := t _ q
        have n1 := slp_neg okf (.inl q)
        have n2 := slp_neg okg (.inl q)
        simp only at this
        omega
    omega
end
/-! ### the paths found are walks -/
theorem PathTo.wk {es : List (Str × Str)} {ok : Str → Str → Bool} {root x : Str} {p : List Str} (h : PathTo (nbS es) ok root x p) : Wk es p ∧ p.head? = some root ∧ p.getLast? = some x := by
  induction h with
  | one => exact ⟨trivial, rfl, rfl⟩
  | @snoc a b p _ m o ih =>
    obtain ⟨h1, h2, h3⟩ := ih
    refine ⟨h1.snoc h3 (nbS_mem.mp m), ?_, by simp⟩
    cases p with
    | nil => cases h2
    | cons _ _ => exact h2
/-! ### basis cycles -/
section
variable {ns : List Str} {es : List (Str × Str)}
end
end U

/-! rising cycles, feasible lifts, progress: the plain law -/
namespace U
open PySem PySem.Spec PyProof.Rows L2
def slOk (f : Str → Int) (dir : Int) (a b : Str) : Bool := decide (slp f a b = dir)
abbrev Rr (es : List (Str × Str)) (f : Str → Int) (dir : Int) (x y : Str) : Prop := Reach (nbS es) (slOk f dir) x y
/-- x is on a rising (falling) cycle -/
def CycD (es : List (Str × Str)) (f : Str → Int) (dir : Int) (x : Str) : Prop := ∃ y, Adj es y x ∧ slp f y x = dir ∧ Rr es f dir x y
abbrev Cyc (es : List (Str × Str)) (f : Str → Int) (x : Str) : Prop := CycD es f 1 x
section
variable {ns : List Str} {es : List (Str × Str)} {f : Str → Int} {dir : Int}
theorem rr_step {a b : Str} (h : Adj es a b) (k : slp f a b = dir) : Rr es f dir a b := .step .refl (nbS_mem.mpr h) (decide_eq_true k)
theorem rr_snoc {a b c : Str} (r : Rr es f dir a b) (h : Adj es b c) (k : slp f b c = dir) : Rr es f dir a c := .step r (nbS_mem.mpr h) (decide_eq_true k)
theorem rr_first {x y : Str} (r : Rr es f dir x y) : y = x ∨ ∃ z, Adj es x z ∧ slp f x z = dir ∧ Rr es f dir z y := by
  induction r with
  | refl => exact .inl rfl
  | @step a b _ m o ih =>
    have o' := of_decide_eq_true o
    have m' := nbS_mem.mp m
    rcases ih with rfl | ⟨z, h1, h2, h3⟩
    · exact .inr ⟨b, m', o', .refl⟩
    · exact .inr ⟨z, h1, h2, .step h3 m o⟩
theorem rr_last {x y : Str} (r : Rr es f dir x y) : y = x ∨ ∃ z, Adj es z y ∧ slp f z y = dir ∧ Rr es f dir x z := by
  cases r with
  | refl => exact .inl rfl
  | step r m o => exact .inr ⟨_, nbS_mem.mp m, of_decide_eq_true o, r⟩
/-- what lies on the way of a cycle is on a cycle -/
theorem cyc_on {x w y : Str} (r1 : Rr es f dir x w) (r2 : Rr es f dir w y) (h : Adj es y x) (k : slp f y x = dir) : CycD es f dir w := by
  rcases rr_last r1 with e | ⟨z, z1, z2, z3⟩
  · rw [e] at r2 ⊢
    exact ⟨y, h, k, r2⟩
  · exact ⟨z, z1, z2, (rr_snoc r2 h k).trans z3⟩
theorem adj_in (ok : EsOk ns es f) {a b : Str} (h : Adj es a b) : a ∈ ns ∧ b ∈ ns ∧ f a ≠ f b ∧ a ≠ b := by
  have m : a ∈ ns ∧ b ∈ ns ∧ f a ≠ f b := by
    rcases h with h | h
    · exact ⟨(ok.mem _ h).1, (ok.mem _ h).2, ok.pro _ h⟩
    · exact ⟨(ok.mem _ h).2, (ok.mem _ h).1, fun z => ok.pro _ h z.symm⟩
  exact ⟨m.1, m.2.1, m.2.2, fun z => m.2.2 (by rw [z])⟩
/-- a node on a cycle has no move -/
theorem cyc_still (ok : EsOk ns es f) {pn : List Str} {m : Str × Int} (l : Legal ns es f pn m) : ¬ Cyc es f m.1 := by
  rintro ⟨y, h, k, r⟩
  have ay := adj_in ok h
  rcases rr_first r with e | ⟨z, h1, h2, _⟩
  · exact ay.2.2.2 e
  have az := adj_in ok h1
  have ty := ok.tri y ay.1
  have tx := ok.tri _ ay.2.1
  have tz := ok.tri z az.2.1
  have n1 := l.nbr y (.symm h)
  have n2 := l.nbr z h1
  have n3 := l.own
  have tv := l.val
  have e1 : (f m.1 - f y) % 3 = 1 := by
    unfold slp at k
    split at k
    · assumption
    · cases k
  have e2 : (f z - f m.1) % 3 = 1 := by
    unfold slp at h2
    split at h2
    · assumption
    · cases h2
  have d1 := ay.2.2.1
  have d2 := az.2.2.1
  omega
theorem slp_off {n : Str} {v : Int} {a b : Str} (ha : a ≠ n) (hb : b ≠ n) : slp (updf f n v) a b = slp f a b := by
  unfold slp updf
  rw [if_neg ha, if_neg hb]
/-- cycles stay -/
theorem cyc_move (ok : EsOk ns es f) {pn : List Str} {m : Str × Int} (l : Legal ns es f pn m) {x : Str} (c : Cyc es f x) : Cyc es (updf f m.1 m.2) x := by
  obtain ⟨y, h, k, r⟩ := c
  have st := cyc_still ok l
  have off : ∀ w, Rr es f 1 x w → Rr es f 1 w y → w ≠ m.1 := fun w r1 r2 z => st (by rw [← z]; exact cyc_on r1 r2 h k)
  have walk : ∀ w, Rr es f 1 x w → Rr es f 1 w y → Rr es (updf f m.1 m.2) 1 x w := by
    intro w r1
    induction r1 with
    | refl => intro _; exact .refl
    | @step a b r1 mm o ih =>
      intro r2
      have o' := of_decide_eq_true o
      have m' := nbS_mem.mp mm
      have r2' : Rr es f 1 a y := (rr_step m' o').trans r2
      refine rr_snoc (ih r2') m' ?_
      rw [slp_off (off a r1 r2') (off b (.step r1 mm o) r2)]
      exact o'
  refine ⟨y, h, ?_, walk y r .refl⟩
  rw [slp_off (off y r .refl) (off x .refl r)]
  exact k
theorem legal_back (ok : EsOk ns es f) {pn : List Str} {m : Str × Int} (l : Legal ns es f pn m) : Legal ns es (updf f m.1 m.2) pn (m.1, f m.1) := by
  have own : f m.1 ≠ updf f m.1 m.2 m.1 := by
    unfold updf
    rw [if_pos rfl]
    exact fun z => l.own z.symm
  refine ⟨l.mem, l.pin, ok.tri _ l.mem, own, fun z hz => ?_⟩
  have a := adj_in ok (show Adj es m.1 z from hz)
  show f m.1 ≠ updf f m.1 m.2 z
  unfold updf
  rw [if_neg (Ne.symm a.2.2.2)]
  exact a.2.2.1
theorem updf_undo {n : Str} {v : Int} : updf (updf f n v) n (f n) = f := by
  funext x
  unfold updf
  by_cases e : x = n
  · rw [if_pos e, e]
  · rw [if_neg e, if_neg e]
theorem cyc_iff (ok : EsOk ns es f) {pn : List Str} {m : Str × Int} (l : Legal ns es f pn m) {x : Str} : Cyc es (updf f m.1 m.2) x ↔ Cyc es f x := by
  refine ⟨fun c => ?_, cyc_move ok l⟩
  have ok' := (move_keeps (f0 := f) (h := fun _ => 0) ok l fun e _ => by omega).1
  have := cyc_move ok' (legal_back ok l) c
  rw [updf_undo] at this
  exact this
/-! ### feasible lifts -/
structure Feas (ns : List Str) (es : List (Str × Str)) (f h : Str → Int) (pn : List Str) : Prop where
  fit : Fits es f h
  pin : ∀ x ∈ pn, h x = 0
  cyc : ∀ x, Cyc es f x → h x = 0
theorem fit_pm {a b : Str} : fitB f h a b = true ↔ slp f a b - 2 * (h a - h b) = 1 ∨ slp f a b - 2 * (h a - h b) = -1 := by
  rw [fit_iff]
  rcases slp_pm f a b with e | e
  · rw [if_pos e, e]
    omega
  · rw [if_neg (by rw [e]; decide), e]
    omega
/-- a move, and one less to go -/
theorem feas_move (ok : EsOk ns es f) {pn : List Str} {h : Str → Int} {m : Str × Int} (fe : Feas ns es f h pn) (l : Legal ns es f pn m) : Feas ns es (updf f m.1 m.2) (updf h m.1 (h m.1 - dlt (f m.1 - m.2))) pn := by
  have mk := (move_keeps (f0 := f) (h := fun _ => 0) ok l fun e _ => by omega).2
  have ne : ∀ x, Cyc es f x ∨ x ∈ pn → x ≠ m.1 := fun x hx z => by
    rcases hx with c | c
    · rw [z] at c
      exact cyc_still ok l c
    · rw [z] at c
      exact l.pin c
  refine ⟨fun e he => ?_, fun x hx => ?_, fun x hx => ?_⟩
  · have a := fit_pm.mp (fe.fit e he)
    have b := mk e he
    rw [fit_pm]
    have u1 : ∀ x, updf h m.1 (h m.1 - dlt (f m.1 - m.2)) x = h x - updf (fun _ => 0) m.1 (0 + dlt (f m.1 - m.2)) x := fun x => by
      unfold updf
      by_cases z : x = m.1
      · rw [if_pos z, if_pos z, z]
        omega
      · rw [if_neg z, if_neg z]
        show h x = h x - 0
        omega
    rw [u1, u1]
    omega
  · unfold updf
    rw [if_neg (ne x (.inr hx))]
    exact fe.pin x hx
  · have c := (cyc_iff ok l).mp hx
    unfold updf
    rw [if_neg (ne x (.inl c))]
    exact fe.cyc x c
/-! ### progress -/
noncomputable def anc (ns : List Str) (es : List (Str × Str)) (f : Str → Int) (dir : Int) (s : Str) : List Str := by
  classical
  exact ns.filter fun z => decide (Rr es f dir z s)
theorem cyc_of_pred (ok : EsOk ns es f) (nd : ns.Nodup) {S : Str → Prop} (sn : ∀ s, S s → s ∈ ns) (pred : ∀ s, S s → ∃ y, S y ∧ Adj es y s ∧ slp f y s = dir) : ∀ (k : Nat) (s : Str), S s → (anc ns es f dir s).length ≤ k → ∃ s, S s ∧ CycD es f dir s := by
  classical
  intro k
  induction k with
  | zero =>
    intro s hs hk
    have : s ∈ anc ns es f dir s := List.mem_filter.mpr ⟨sn s hs, decide_eq_true .refl⟩
    have := List.length_pos_of_mem this
    omega
  | succ k ih =>
    intro s hs hk
    obtain ⟨y, hy, a, e⟩ := pred s hs
    by_cases r : Rr es f dir s y
    · exact ⟨s, hs, y, a, e, r⟩
    · refine ih y hy ?_
      have ndy : (anc ns es f dir y).Nodup := List.Nodup.sublist List.filter_sublist nd
      have : (s :: anc ns es f dir y).length ≤ (anc ns es f dir s).length := nodup_len (List.nodup_cons.mpr ⟨fun z => r (of_decide_eq_true (List.mem_filter.mp z).2), ndy⟩) fun x hx => by
        rcases List.mem_cons.mp hx with rfl | hx
        · exact List.mem_filter.mpr ⟨sn x hs, decide_eq_true .refl⟩
        · obtain ⟨h1, h2⟩ := List.mem_filter.mp hx
          exact List.mem_filter.mpr ⟨h1, decide_eq_true (rr_snoc (of_decide_eq_true h2) a e)⟩
      rw [List.length_cons] at this
      omega
theorem rr_rev (ok : EsOk ns es f) {x y : Str} (r : Rr es f (-1) x y) : Rr es f 1 y x := by
  induction r with
  | refl => exact .refl
  | @step a b _ m o ih =>
    have o' := of_decide_eq_true o
    have m' := nbS_mem.mp m
    refine (rr_step m'.symm ?_).trans ih
    rw [slp_neg ok m', o']
    rfl
theorem cyc_rev (ok : EsOk ns es f) {x : Str} (c : CycD es f (-1) x) : Cyc es f x := by
  obtain ⟨y, h, k, r⟩ := c
  have r1 := rr_rev ok r
  have k1 : slp f x y = 1 := by
    rw [slp_neg ok h, k]
    rfl
  rcases rr_last r1 with e | ⟨z, z1, z2, z3⟩
  · rw [e] at h
    exact absurd rfl (adj_in ok h).2.2.2
  · exact ⟨z, z1, z2, (rr_step h.symm k1).trans z3⟩
theorem max_at {h : Str → Int} : ∀ {xs : List Str} {x : Str}, x ∈ xs → ∃ m ∈ xs, ∀ y ∈ xs, h y ≤ h m
  | [a], x, hx => ⟨a, List.mem_cons_self, fun y hy => by rw [List.mem_singleton] at hy; rw [hy]; exact Int.le_refl _⟩
  | a :: b :: r, x, _ => by
    obtain ⟨m, hm, k⟩ := max_at (h := h) (xs := b :: r) (x := b) List.mem_cons_self
    by_cases c : h a ≤ h m
    · exact ⟨m, List.mem_cons_of_mem _ hm, fun y hy => by
        rcases List.mem_cons.mp hy with rfl | hy
        · exact c
        · exact k y hy⟩
    · exact ⟨a, List.mem_cons_self, fun y hy => by
        rcases List.mem_cons.mp hy with rfl | hy
        · exact Int.le_refl _
        · have := k y hy
          omega⟩
/-- a node with a positive number, all of its neighbours above it -/
theorem up_exists (ok : EsOk ns es f) (nd : ns.Nodup) {pn : List Str} {h : Str → Int} (fe : Feas ns es f h pn) {x : Str} (hx : x ∈ ns) (h0 : 0 < h x) : ∃ n ∈ ns, 0 < h n ∧ ∀ y, Adj es n y → slp f n y = 1 := by
  obtain ⟨m, hm, k⟩ := max_at (h := h) hx
  have hm0 : 0 < h m := by
    have := k x hx
    omega
  by_cases c : ∃ n ∈ ns, h n = h m ∧ ∀ y, Adj es n y → slp f n y = 1
  · obtain ⟨n, n1, n2, n3⟩ := c
    exact ⟨n, n1, by omega, n3⟩
  exfalso
  obtain ⟨s, ⟨_, s2⟩, c2⟩ := cyc_of_pred (dir := 1) ok nd (S := fun s => s ∈ ns ∧ h s = h m) (fun s hs => hs.1) (fun s hs => by
    have : ∃ y, Adj es s y ∧ slp f s y ≠ 1 := Classical.byContradiction fun z => c ⟨s, hs.1, hs.2, fun y hy => Classical.byContradiction fun z2 => z ⟨y, hy, z2⟩⟩
    obtain ⟨y, a, ne⟩ := this
    have e : slp f s y = -1 := (slp_pm f s y).resolve_left ne
    have e2 : slp f y s = 1 := by rw [slp_neg ok a, e]; rfl
    have yn := (adj_in ok a).2.1
    refine ⟨y, ⟨yn, ?_⟩, a.symm, e2⟩
    have ky := k y yn
    have hs2 := hs.2
    rcases a with a | a
    · have := fit_pm.mp (fe.fit _ a)
      simp only [e] at this
      omega
    · have := fit_pm.mp (fe.fit _ a)
      simp only [e2] at this
      omega) _ m ⟨hm, rfl⟩ (Nat.le_refl _)
  have := fe.cyc s c2
  omega
theorem down_exists (ok : EsOk ns es f) (nd : ns.Nodup) {pn : List Str} {h : Str → Int} (fe : Feas ns es f h pn) {x : Str} (hx : x ∈ ns) (h0 : h x < 0) : ∃ n ∈ ns, h n < 0 ∧ ∀ y, Adj es n y → slp f n y = -1 := by
  obtain ⟨m, hm, k⟩ := max_at (h := fun z => - h z) hx
  have hm0 : h m < 0 := by
    have := k x hx
    omega
  by_cases c : ∃ n ∈ ns, h n = h m ∧ ∀ y, Adj es n y → slp f n y = -1
  · obtain ⟨n, n1, n2, n3⟩ := c
    exact ⟨n, n1, by omega, n3⟩
  exfalso
  obtain ⟨s, ⟨_, s2⟩, c2⟩ := cyc_of_pred (dir := -1) ok nd (S := fun s => s ∈ ns ∧ h s = h m) (fun s hs => hs.1) (fun s hs => by
    have : ∃ y, Adj es s y ∧ slp f s y ≠ -1 := Classical.byContradiction fun z => c ⟨s, hs.1, hs.2, fun y hy => Classical.byContradiction fun z2 => z ⟨y, hy, z2⟩⟩
    obtain ⟨y, a, ne⟩ := this
    have e : slp f s y = 1 := (slp_pm f s y).resolve_right ne
    have e2 : slp f y s = -1 := by rw [slp_neg ok a, e]
    have yn := (adj_in ok a).2.1
    refine ⟨y, ⟨yn, ?_⟩, a.symm, e2⟩
    have ky := k y yn
    have hs2 := hs.2
    rcases a with a | a
    · have := fit_pm.mp (fe.fit _ a)
      simp only [e] at this
      omega
    · have := fit_pm.mp (fe.fit _ a)
      simp only [e2] at this
      omega) _ m ⟨hm, rfl⟩ (Nat.le_refl _)
  have := fe.cyc s (cyc_rev ok c2)
  omega
end
end U

/-! progress moves: the plain law -/
namespace U
open PySem PySem.Spec PyProof.Rows L2
def sz (ns : List Str) (h : Str → Int) : Int := (ns.map fun n => ((h n).natAbs : Int)).sum
def goP (f h : Str → Int) (m : Str × Int) : Bool := decide (0 < h m.1) && decide ((f m.1 - m.2) % 3 = 1) || decide (h m.1 < 0) && !decide ((f m.1 - m.2) % 3 = 1)
def progF (ns : List Str) (es : List (Str × Str)) (f h : Str → Int) (pn : List Str) : List (Str × Int) := (movesF ns es f pn).filter (goP f h)
def dirU (x : Int) : Int := if 0 < x then 1 else -1
/-- the value of a progress move -/
def pvF (f : Str → Int) (ys : List Str) (n : Str) (x : Int) : Option Int := if x ≠ 0 ∧ ∀ o ∈ ys, slp f n o = dirU x then some ((f n - dirU x) % 3) else none
def pmF (es : List (Str × Str)) (f h : Str → Int) (pn : List Str) (n : Str) : List (Str × Int) := match pvF f (nbS es n) n (h n) with
  | none => []
  | some v => if n ∈ pn then [] else [(n, v)]
theorem three {q : Int → Bool} {v0 : Int} {c : Bool} (h0 : 0 ≤ v0) (h2 : v0 ≤ 2) (h : ∀ v, 0 ≤ v → v ≤ 2 → q v = (decide (v = v0) && c)) : ([0, 1, 2] : List Int).filter q = if c = true then [v0] else [] := by
  have a := h 0 (by decide) (by decide)
  have b := h 1 (by decide) (by decide)
  have d := h 2 (by decide) (by decide)
  have e : v0 = 0 ∨ v0 = 1 ∨ v0 = 2 := by omega
  rcases e with rfl | rfl | rfl <;> cases c <;> simp_all [List.filter_cons]
section
variable {ns : List Str} {es : List (Str × Str)} {f h : Str → Int} {pn : List Str}
theorem prog_at (ok : EsOk ns es f) {n : Str} (hn : n ∈ ns) : (movesOf es f n).filter (goP f h) = match pvF f (nbS es n) n (h n) with
  | none => []
  | some v => [(n, v)] := by
  classical
  have tri := ok.tri n hn
  have nbr : ∀ o ∈ nbrF es n, 0 ≤ f o ∧ f o < 3 ∧ f n ≠ f o := fun o ho => by
    have a := adj_in ok (show Adj es n o from mem_nbrF.mp ho)
    exact ⟨(ok.tri o a.2.1).1, (ok.tri o a.2.1).2, a.2.2.1⟩
  have nbm : ∀ o, o ∈ nbS es n ↔ o ∈ nbrF es n := fun o => nbS_mem.trans mem_nbrF.symm
  have slo : ∀ o ∈ nbrF es n, ∀ d : Int, d = 1 ∨ d = -1 → (slp f n o = d ↔ f o ≠ (f n - d) % 3) := fun o ho d hd => by
    obtain ⟨a, b, c⟩ := nbr o ho
    unfold slp
    rcases hd with rfl | rfl <;> split <;> omega
  unfold movesOf
  rw [List.filter_map, List.filter_filter]
  have dd : dirU (h n) = 1 ∨ dirU (h n) = -1 := by
    unfold dirU
    split <;> simp
  rw [three (v0 := (f n - dirU (h n)) % 3) (c := decide (h n ≠ 0 ∧ ∀ o ∈ nbS es n, slp f n o = dirU (h n))) (by omega) (by omega) ?_]
  · unfold pvF
    by_cases c : h n ≠ 0 ∧ ∀ o ∈ nbS es n, slp f n o = dirU (h n)
    · rw [decide_eq_true c, if_pos rfl, if_pos c]
      rfl
    · rw [decide_eq_false c, if_neg Bool.false_ne_true, if_neg c]
      rfl
  · intro v v0 v2
    rw [Bool.eq_iff_iff, Bool.and_eq_true, Bool.and_eq_true, decide_eq_true_iff, decide_eq_true_iff]
    show (goP f h (n, v) = true ∧ freeB es f n v = true) ↔ _
    have fr : freeB es f n v = true ↔ (∀ o ∈ nbrF es n, f o ≠ v) ∧ v ≠ f n := by
      unfold freeB
      rw [Bool.not_eq_true', decide_eq_false_iff_not, List.mem_append, List.mem_singleton, List.mem_map, not_or]
      constructor
      · rintro ⟨a, b⟩
        exact ⟨fun o ho z => a ⟨o, ho, z⟩, b⟩
      · rintro ⟨a, b⟩
        exact ⟨fun ⟨o, ho, z⟩ => a o ho z, b⟩
    have go : goP f h (n, v) = true ↔ (0 < h n ∧ (f n - v) % 3 = 1) ∨ (h n < 0 ∧ ¬ (f n - v) % 3 = 1) := by
      unfold goP
      simp only [Bool.or_eq_true, Bool.and_eq_true, decide_eq_true_iff, Bool.not_eq_true', decide_eq_false_iff_not]
    rw [fr, go]
    constructor
    · rintro ⟨a, b, c⟩
      have ev : v = (f n - dirU (h n)) % 3 := by
        unfold dirU
        rcases a with a | a
        · rw [if_pos a.1]
          omega
        · rw [if_neg (by omega)]
          omega
      refine ⟨ev, by omega, fun o ho => (slo o ((nbm o).mp ho) _ dd).mpr ?_⟩
      rw [← ev]
      exact b o ((nbm o).mp ho)
    · rintro ⟨ev, c, k⟩
      refine ⟨?_, fun o ho => ?_, ?_⟩
      · unfold dirU at ev
        by_cases p : 0 < h n
        · rw [if_pos p] at ev
          left
          omega
        · rw [if_neg p] at ev
          right
          omega
      · rw [ev]
        exact (slo o ho _ dd).mp (k o ((nbm o).mpr ho))
      · rcases dd with z | z <;> rw [z] at ev <;> omega
theorem prog_eq (ok : EsOk ns es f) : ∀ {xs : List Str}, (∀ x ∈ xs, x ∈ ns) → progF xs es f h pn = xs.flatMap (pmF es f h pn)
  | [], _ => rfl
  | x :: r, hx => by
    have ih := prog_eq ok (xs := r) fun y hy => hx y (List.mem_cons_of_mem _ hy)
    unfold progF movesF at ih ⊢
    rw [List.flatMap_cons, List.filter_append, List.flatMap_cons, ih]
    congr 1
    unfold pmF
    by_cases c : x ∈ pn
    · rw [if_pos c]
      cases pvF f (nbS es x) x (h x) with
      | none => rfl
      | some v =>
        show _ = if x ∈ pn then [] else [(x, v)]
        rw [if_pos c]
        rfl
    · rw [if_neg c, prog_at ok (hx x List.mem_cons_self)]
      cases pvF f (nbS es x) x (h x) with
      | none => rfl
      | some v =>
        show _ = if x ∈ pn then [] else [(x, v)]
        rw [if_neg c]
theorem sz_zero : ∀ {ns : List Str}, sz ns h = 0 ↔ ∀ n ∈ ns, h n = 0
  | [] => ⟨(fun _ _ m => nomatch m), fun _ => rfl⟩
  | n :: r => by
    have ih := sz_zero (ns := r)
    have e : sz (n :: r) h = ((h n).natAbs : Int) + sz r h := List.sum_cons
    have p : ∀ xs : List Str, 0 ≤ sz xs h := fun xs => by
      induction xs with
      | nil => exact Int.le_refl _
      | cons x t ih =>
        have e : sz (x :: t) h = ((h x).natAbs : Int) + sz t h := List.sum_cons
        omega
    have := p r
    rw [e]
    constructor
    · intro z x hx
      rcases List.mem_cons.mp hx with rfl | hx
      · omega
      · exact ih.mp (by omega) x hx
    · intro z
      have a := z n List.mem_cons_self
      have b := ih.mpr fun x hx => z x (List.mem_cons_of_mem _ hx)
      omega
theorem prog_some (ok : EsOk ns es f) (nd : ns.Nodup) (fe : Feas ns es f h pn) : progF ns es f h pn = [] ↔ sz ns h = 0 := by
  rw [sz_zero, prog_eq ok fun _ h => h, List.flatMap_eq_nil_iff]
  have key : ∀ n ∈ ns, h n ≠ 0 → (∀ o, Adj es n o → slp f n o = dirU (h n)) → pmF es f h pn n ≠ [] := fun n hn h0 k => by
    unfold pmF pvF
    rw [if_pos ⟨h0, fun o ho => k o (nbS_mem.mp ho)⟩]
    show (if n ∈ pn then [] else [_]) ≠ []
    rw [if_neg fun z => h0 (fe.pin n z)]
    exact List.cons_ne_nil _ _
  constructor
  · intro z x hx
    have c : h x = 0 ∨ 0 < h x ∨ h x < 0 := by omega
    rcases c with c | c | c
    · exact c
    · obtain ⟨n, hn, h1, h2⟩ := up_exists ok nd fe hx c
      exact (key n hn (by omega) (fun o ho => by unfold dirU; rw [if_pos h1]; exact h2 o ho) (z n hn)).elim
    · obtain ⟨n, hn, h1, h2⟩ := down_exists ok nd fe hx c
      exact (key n hn (by omega) (fun o ho => by unfold dirU; rw [if_neg (by omega)]; exact h2 o ho) (z n hn)).elim
  · intro z x hx
    unfold pmF pvF
    rw [if_neg fun c => c.1 (z x hx)]
theorem prog_legal {m : Str × Int} (hm : m ∈ progF ns es f h pn) : Legal ns es f pn m ∧ goP f h m = true := ⟨legal_of (List.mem_filter.mp hm).1, (List.mem_filter.mp hm).2⟩
/-- the number after a progress move -/
theorem prog_dlt (ok : EsOk ns es f) {m : Str × Int} (hm : m ∈ progF ns es f h pn) : h m.1 - dlt (f m.1 - m.2) = h m.1 + (if 0 < h m.1 then -1 else 1) := by
  obtain ⟨l, g⟩ := prog_legal hm
  have go : (0 < h m.1 ∧ (f m.1 - m.2) % 3 = 1) ∨ (h m.1 < 0 ∧ ¬ (f m.1 - m.2) % 3 = 1) := by
    unfold goP at g
    simpa only [Bool.or_eq_true, Bool.and_eq_true, decide_eq_true_iff, Bool.not_eq_true', decide_eq_false_iff_not] using g
  have v := l.val
  have t := ok.tri _ l.mem
  have ne := l.own
  unfold dlt
  rcases go with ⟨a, b⟩ | ⟨a, b⟩
  · rw [if_pos a, if_neg (by omega), if_pos b]
    omega
  · have c : ¬ 0 < h m.1 := by omega
    rw [if_neg c, if_neg (by omega), if_neg b]
    omega
end
end U

/-! feasible lifts: of moves, and shifted -/
namespace U
open PySem PySem.Spec PyProof.Rows L2
theorem cnt_not {x : Str} : ∀ {ms : List (Str × Int)} {f h : Str → Int}, x ∉ ms.map (·.1) → (countF f h ms).2 x = h x
  | [], _, _, _ => rfl
  | (n, v) :: r, f, h, nx => by
    have nx' : x ≠ n ∧ x ∉ r.map (·.1) := by
      rw [List.map_cons, List.mem_cons, not_or] at nx
      exact nx
    show (countF (updf f n v) (updf h n (h n + dlt (f n - v))) r).2 x = h x
    rw [cnt_not nx'.2]
    unfold updf
    rw [if_neg nx'.1]
section
variable {ns : List Str} {es : List (Str × Str)} {f h : Str → Int} {pn : List Str}
theorem plays_off (ok : EsOk ns es f) {ms : List (Str × Int)} {f' : Str → Int} (p : Plays ns es pn f ms f') : EsOk ns es f' ∧ (∀ x, Cyc es f' x ↔ Cyc es f x) ∧ ∀ x, (x ∈ pn ∨ Cyc es f x) → x ∉ ms.map (·.1) := by
  induction p with
  | nil => exact ⟨ok, fun _ => Iff.rfl, fun x _ z => nomatch z⟩
  | @snoc ms f' m p l ih =>
    obtain ⟨i1, i2, i3⟩ := ih
    refine ⟨(move_keeps (f0 := f') (h := fun _ => 0) i1 l fun e _ => by omega).1, fun x => (cyc_iff i1 l).trans (i2 x), fun x hx z => ?_⟩
    rw [List.map_append] at z
    rcases List.mem_append.mp z with z | z
    · exact i3 x hx z
    · have e : x = m.1 := List.mem_singleton.mp z
      rw [e] at hx
      rcases hx with hx | hx
      · exact l.pin hx
      · exact cyc_still i1 l ((i2 _).mpr hx)
theorem feas_count (ok : EsOk ns es f) {ms : List (Str × Int)} {f' : Str → Int} (p : Plays ns es pn f ms f') : Feas ns es f (countF f (fun _ => 0) ms).2 pn := by
  have o := (plays_off ok p).2.2
  exact ⟨fits_count ok p, fun x hx => cnt_not (o x (.inl hx)), fun x hx => cnt_not (o x (.inr hx))⟩
end
end U

/-! lifts performed, step by step -/
namespace U
open PySem PySem.Spec PyProof.Rows L2
/-- one less to go at n -/
def redU (h : Str → Int) (n : Str) : Str → Int := updf h n (h n + (if 0 < h n then -1 else 1))
section
variable {ns : List Str} {es : List (Str × Str)} {f h : Str → Int} {pn : List Str}
theorem sz_cons {n : Str} {r : List Str} : sz (n :: r) h = ((h n).natAbs : Int) + sz r h := List.sum_cons
theorem sz_nn : ∀ {xs : List Str}, 0 ≤ sz xs h
  | [] => Int.le_refl _
  | x :: t => by
    rw [sz_cons]
    have := sz_nn (xs := t)
    omega
theorem sz_off {n : Str} {v : Int} : ∀ {xs : List Str}, n ∉ xs → sz xs (updf h n v) = sz xs h
  | [], _ => rfl
  | x :: t, nm => by
    rw [sz_cons, sz_cons, sz_off fun z => nm (List.mem_cons_of_mem _ z)]
    have : x ≠ n := fun z => nm (z ▸ List.mem_cons_self)
    unfold updf
    rw [if_neg this]
theorem sz_upd {n : Str} {v : Int} : ∀ {xs : List Str}, xs.Nodup → n ∈ xs → sz xs (updf h n v) = sz xs h - ((h n).natAbs : Int) + (v.natAbs : Int)
  | x :: t, nd, hm => by
    rw [sz_cons, sz_cons]
    rw [List.nodup_cons] at nd
    by_cases e : x = n
    · subst e
      rw [sz_off nd.1]
      unfold updf
      rw [if_pos rfl]
      omega
    · rw [sz_upd nd.2 ((List.mem_cons.mp hm).resolve_left fun z => e z.symm)]
      have : updf h n v x = h x := by
        unfold updf
        rw [if_neg e]
      rw [this]
      omega
theorem sz_red {n : Str} (nd : ns.Nodup) (hn : n ∈ ns) (h0 : h n ≠ 0) : sz ns (redU h n) = sz ns h - 1 := by
  unfold redU
  rw [sz_upd nd hn]
  split <;> omega
theorem dlt_mod {d : Int} : (d - dlt d) % 3 = 0 ∧ -1 ≤ dlt d ∧ dlt d ≤ 1 := by
  unfold dlt
  split
  · omega
  · split <;> omega
/-- the moves of a lift, each the first progress move -/
inductive PerfR (ns : List Str) (es : List (Str × Str)) (pn : List Str) (f h : Str → Int) : List (Str × Int) → (Str → Int) → (Str → Int) → Prop
  | nil : PerfR ns es pn f h [] f h
  | snoc {ms : List (Str × Int)} {f' h' : Str → Int} {m : Str × Int} {r : List (Str × Int)} : PerfR ns es pn f h ms f' h' → progF ns es f' h' pn = m :: r → PerfR ns es pn f h (ms ++ [m]) (updf f' m.1 m.2) (redU h' m.1)
/-- .. or any progress move -/
inductive AnyR (ns : List Str) (es : List (Str × Str)) (pn : List Str) (f h : Str → Int) : List (Str × Int) → (Str → Int) → (Str → Int) → Prop
  | nil : AnyR ns es pn f h [] f h
  | snoc {ms : List (Str × Int)} {f' h' : Str → Int} {m : Str × Int} : AnyR ns es pn f h ms f' h' → m ∈ progF ns es f' h' pn → AnyR ns es pn f h (ms ++ [m]) (updf f' m.1 m.2) (redU h' m.1)
theorem PerfR.any {ms : List (Str × Int)} {f' h' : Str → Int} (r : PerfR ns es pn f h ms f' h') : AnyR ns es pn f h ms f' h' := by
  induction r with
  | nil => exact .nil
  | snoc _ e ih => exact .snoc ih (by rw [e]; exact List.mem_cons_self)
theorem prog_ne {m : Str × Int} (hm : m ∈ progF ns es f h pn) : h m.1 ≠ 0 := by
  have g := (prog_legal hm).2
  have go : (0 < h m.1 ∧ (f m.1 - m.2) % 3 = 1) ∨ (h m.1 < 0 ∧ ¬ (f m.1 - m.2) % 3 = 1) := by
    unfold goP at g
    simpa only [Bool.or_eq_true, Bool.and_eq_true, decide_eq_true_iff, Bool.not_eq_true', decide_eq_false_iff_not] using g
  omega
/-- a progress move: what it keeps -/
theorem prog_step (ok : EsOk ns es f) (nd : ns.Nodup) (fe : Feas ns es f h pn) {m : Str × Int} (hm : m ∈ progF ns es f h pn) :
    EsOk ns es (updf f m.1 m.2) ∧ Feas ns es (updf f m.1 m.2) (redU h m.1) pn ∧ sz ns (redU h m.1) = sz ns h - 1 ∧ ∀ n ∈ ns, (updf f m.1 m.2 n - redU h m.1 n) % 3 = (f n - h n) % 3 := by
  have lg := (prog_legal hm).1
  have e := prog_dlt ok hm
  have fe2 := feas_move ok fe lg
  rw [e] at fe2
  refine ⟨(move_keeps (f0 := f) (h := fun _ => 0) ok lg fun e _ => by omega).1, fe2, sz_red nd lg.mem (prog_ne hm), fun n hn => ?_⟩
  unfold redU
  rw [← e]
  unfold updf
  by_cases z : n = m.1
  · rw [if_pos z, if_pos z, z]
    have := dlt_mod (d := f m.1 - m.2)
    omega
  · rw [if_neg z, if_neg z]
theorem AnyR.keeps (ok : EsOk ns es f) (nd : ns.Nodup) (fe : Feas ns es f h pn) {ms : List (Str × Int)} {f' h' : Str → Int} (r : AnyR ns es pn f h ms f' h') :
    EsOk ns es f' ∧ Feas ns es f' h' pn ∧ sz ns h' + ms.length = sz ns h ∧ (∀ n ∈ ns, (f' n - h' n) % 3 = (f n - h n) % 3) ∧ Plays ns es pn f ms f' := by
  induction r with
  | nil => exact ⟨ok, fe, by simp, fun _ _ => rfl, .nil⟩
  | @snoc ms f' h' m r hm ih =>
    obtain ⟨i1, i2, i3, i4, i5⟩ := ih
    obtain ⟨s1, s2, s3, s4⟩ := prog_step i1 nd i2 hm
    refine ⟨s1, s2, ?_, fun n hn => (s4 n hn).trans (i4 n hn), .snoc i5 (prog_legal hm).1⟩
    rw [List.length_append, List.length_singleton]
    omega
/-- nothing is left: the state of the lift -/
theorem AnyR.done (ok : EsOk ns es f) (nd : ns.Nodup) (fe : Feas ns es f h pn) {ms : List (Str × Int)} {f' h' : Str → Int} (r : AnyR ns es pn f h ms f' h') (z : sz ns h' = 0) : ∀ n ∈ ns, f' n = (f n - h n) % 3 := fun n hn => by
  obtain ⟨a, _, _, b, _⟩ := r.keeps ok nd fe
  have t := a.tri n hn
  have := b n hn
  rw [sz_zero.mp z n hn] at this
  omega
/-- a lift of moves: no more than these, and the state it leads to -/
theorem plays_lift (ok : EsOk ns es f) (nd : ns.Nodup) {ms : List (Str × Int)} {f' : Str → Int} (p : Plays ns es pn f ms f') :
    EsOk ns es f' ∧ (countF f (fun _ => 0) ms).1 = f' ∧ sz ns (countF f (fun _ => 0) ms).2 ≤ ms.length ∧ ∀ n ∈ ns, f' n = (f n - (countF f (fun _ => 0) ms).2 n) % 3 := by
  induction p with
  | nil =>
    refine ⟨ok, rfl, ?_, fun n hn => ?_⟩
    · show sz ns (fun _ => 0) ≤ 0
      exact Int.le_of_eq (sz_zero.mpr fun _ _ => rfl)
    · show f n = (f n - 0) % 3
      have := ok.tri n hn
      omega
  | @snoc ms f' m p l ih =>
    obtain ⟨i1, i2, i3, i4⟩ := ih
    have ok2 := (move_keeps (f0 := f') (h := fun _ => 0) i1 l fun e _ => by omega).1
    obtain ⟨n, v⟩ := m
    rw [countF_snoc, i2]
    generalize (countF f (fun _ => 0) ms).2 = h0 at *
    have dm := dlt_mod (d := f' n - v)
    refine ⟨ok2, rfl, ?_, fun x hx => ?_⟩
    · rw [sz_upd nd l.mem, List.length_append, List.length_singleton]
      show sz ns h0 - ((h0 n).natAbs : Int) + ((h0 n + dlt (f' n - v)).natAbs : Int) ≤ _
      omega
    · have j := i4 x hx
      have t := ok2.tri x hx
      show updf f' n v x = (f x - updf h0 n (h0 n + dlt (f' n - v)) x) % 3
      have t : 0 ≤ updf f' n v x ∧ updf f' n v x < 3 := t
      unfold updf at t ⊢
      by_cases z : x = n
      · rw [if_pos z] at t ⊢
        rw [if_pos z]
        rw [z] at j ⊢
        omega
      · rw [if_neg z] at t ⊢
        rw [if_neg z]
        exact j
def plU (f : Str → Int) (ms : List (Str × Int)) : Str → Int := ms.foldl (fun f m => updf f m.1 m.2) f
def rdU (h : Str → Int) (ms : List (Str × Int)) : Str → Int := ms.foldl (fun h m => redU h m.1) h
theorem plU_snoc {ms : List (Str × Int)} {m : Str × Int} : plU f (ms ++ [m]) = updf (plU f ms) m.1 m.2 := by
  unfold plU
  rw [List.foldl_append]
  rfl
theorem rdU_snoc {ms : List (Str × Int)} {m : Str × Int} : rdU h (ms ++ [m]) = redU (rdU h ms) m.1 := by
  unfold rdU
  rw [List.foldl_append]
  rfl
theorem AnyR.ends {ms : List (Str × Int)} {f' h' : Str → Int} (r : AnyR ns es pn f h ms f' h') : f' = plU f ms ∧ h' = rdU h ms := by
  induction r with
  | nil => exact ⟨rfl, rfl⟩
  | snoc _ _ ih => exact ⟨by rw [plU_snoc, ih.1], by rw [rdU_snoc, ih.2]⟩
theorem AnyR.at {ms : List (Str × Int)} {f' h' : Str → Int} (r : AnyR ns es pn f h ms f' h') : ∀ i (hi : i < ms.length), AnyR ns es pn f h (ms.take i) (plU f (ms.take i)) (rdU h (ms.take i)) ∧ ms[i] ∈ progF ns es (plU f (ms.take i)) (rdU h (ms.take i)) pn := by
  induction r with
  | nil => exact fun i hi => absurd hi (Nat.not_lt_zero i)
  | @snoc ms f' h' m r hm ih =>
    intro i hi
    rw [List.length_append, List.length_singleton] at hi
    by_cases c : i < ms.length
    · rw [List.take_append_of_le_length (by omega), List.getElem_append_left c]
      exact ih i c
    · obtain rfl : i = ms.length := by omega
      obtain ⟨e1, e2⟩ := r.ends
      rw [List.take_append_of_le_length (Nat.le_refl _), List.take_length, List.getElem_append_right (Nat.le_refl _), ← e1, ← e2]
      simp only [Nat.sub_self, List.getElem_cons_zero]
      exact ⟨r, hm⟩
end
end U

/-! the smallest lift to a state that a feasible lift leads to: the plain law -/
namespace U
open PySem PySem.Spec PyProof.Rows L2
section
variable {ns : List Str} {es : List (Str × Str)} {f g h h0 : Str → Int} {pn : List Str}
theorem pm_mod {x y : Int} (hx : x = 1 ∨ x = -1) (hy : y = 1 ∨ y = -1) (e : x % 3 = y % 3) : x = y := by
  omega
/-- the slopes of the state that a feasible lift leads to -/
theorem feas_t (ok : EsOk ns es f) (okg : EsOk ns es g) (fe : Feas ns es f h pn) (hg : ∀ x ∈ ns, (f x - h x - g x) % 3 = 0) : ∀ e ∈ es, slp f e.1 e.2 - slp g e.1 e.2 = 2 * (h e.1 - h e.2) := fun e he => by
  have a := fit_pm.mp (fe.fit e he)
  have k : Adj es e.1 e.2 := .inl he
  obtain ⟨i1, i2, _⟩ := adj_in ok k
  have g1 := hg _ i1
  have g2 := hg _ i2
  have m1 := slp_mod ok k
  have m2 := slp_mod okg k
  have b := slp_pm g e.1 e.2
  have := pm_mod a b (by omega)
  omega
/-! ### shifts -/
/-! ### the lift found -/
/-- the lift back -/
theorem feas_back (ok : EsOk ns es f) (okg : EsOk ns es g) (fe : Feas ns es f h pn) (t : ∀ e ∈ es, slp f e.1 e.2 - slp g e.1 e.2 = 2 * (h e.1 - h e.2)) (cy : ∀ x, Cyc es g x → Cyc es f x) : Feas ns es g (fun x => - h x) pn := by
  refine ⟨fun e he => ?_, fun x hx => ?_, fun x hx => ?_⟩
  · have a := t e he
    have b := slp_pm f e.1 e.2
    rw [fit_pm]
    omega
  · have := fe.pin x hx
    show - h x = 0
    omega
  · have := fe.cyc x (cy x hx)
    show - h x = 0
    omega
end
end U

/-! as many basis cycles as edges, nodes and components tell: the plain law -/
namespace U
open PySem PySem.Spec PyProof.Rows L2
section
variable {adj : Str → List Str} {ok : Str → Str → Bool} {root : Str}
end
section
variable {ns : List Str} {es : List (Str × Str)}
end
end U

/-! paths of one slope; certificates -/
namespace U
open PySem PySem.Spec PyProof.Rows L2
def SlP (es : List (Str × Str)) (f : Str → Int) (dir : Int) : List Str → Prop
  | a :: b :: r => Adj es a b ∧ slp f a b = dir ∧ SlP es f dir (b :: r)
  | _ => True
section
variable {ns : List Str} {es : List (Str × Str)} {f : Str → Int} {dir : Int}
theorem SlP.join : ∀ {p r : List Str} {x : Str}, p.getLast? = some x → SlP es f dir p → SlP es f dir (x :: r) → SlP es f dir (p ++ r)
  | [], _, _, h, _, _ => nomatch h
  | [a], r, x, h, _, k => by
    have e : a = x := by simpa using h
    subst e
    exact k
  | a :: b :: q, r, x, h, w, k => by
    have h' : (b :: q).getLast? = some x := by rw [List.getLast?_cons_cons] at h; exact h
    exact ⟨w.1, w.2.1, SlP.join h' w.2.2 k⟩
theorem SlP.snoc {p : List Str} {x b : Str} (h : p.getLast? = some x) (w : SlP es f dir p) (a : Adj es x b) (e : slp f x b = dir) : SlP es f dir (p ++ [b]) := w.join h ⟨a, e, trivial⟩
theorem SlP.tail {a : Str} {p : List Str} (w : SlP es f dir (a :: p)) : SlP es f dir p := by
  cases p with
  | nil => trivial
  | cons b r => exact w.2.2
theorem SlP.left : ∀ {p r : List Str}, SlP es f dir (p ++ r) → SlP es f dir p
  | [], _, _ => trivial
  | [a], _, _ => trivial
  | a :: b :: q, r, w => ⟨w.1, w.2.1, SlP.left (p := b :: q) w.2.2⟩
theorem SlP.wk : ∀ {p : List Str}, SlP es f dir p → Wk es p
  | [], _ => trivial
  | [a], _ => trivial
  | a :: b :: q, w => ⟨w.1, SlP.wk w.2.2⟩
theorem SlP.at : ∀ {p : List Str}, SlP es f dir p → ∀ i (h : i + 1 < p.length), Adj es p[i] p[i + 1] ∧ slp f p[i] p[i + 1] = dir
  | a :: b :: q, w, 0, _ => ⟨w.1, w.2.1⟩
  | a :: b :: q, w, i + 1, h => SlP.at (p := b :: q) w.2.2 i (by simpa using h)
theorem SlP.of : ∀ {p : List Str}, (∀ i (h : i + 1 < p.length), Adj es p[i] p[i + 1] ∧ slp f p[i] p[i + 1] = dir) → SlP es f dir p
  | [], _ => trivial
  | [a], _ => trivial
  | a :: b :: q, h => ⟨(h 0 (by simp)).1, (h 0 (by simp)).2, SlP.of fun i hi => h (i + 1) (by simpa using hi)⟩
theorem SlP.rev (ok : EsOk ns es f) : ∀ {p : List Str}, SlP es f dir p → SlP es f (-dir) p.reverse
  | [], _ => trivial
  | [a], _ => trivial
  | a :: b :: q, w => by
    have i := SlP.rev ok w.2.2
    rw [List.reverse_cons]
    refine i.snoc (x := b) ?_ w.1.symm ?_
    · rw [List.reverse_cons]
      simp only [List.getLast?_append, List.getLast?_singleton, Option.some_or]
    · rw [slp_neg ok w.1, w.2.1]
theorem PathTo.slp {x y : Str} {p : List Str} (h : PathTo (nbS es) (slOk f dir) x y p) : SlP es f dir p ∧ p.head? = some x ∧ p.getLast? = some y := by
  induction h with
  | one => exact ⟨trivial, rfl, rfl⟩
  | @snoc a b p q m o ih =>
    obtain ⟨i1, i2, i3⟩ := ih
    refine ⟨i1.snoc i3 (nbS_mem.mp m) (of_decide_eq_true o), ?_, ?_⟩
    · cases p with
      | nil => cases i2
      | cons c r => exact i2
    · simp only [List.getLast?_append, List.getLast?_singleton, Option.some_or]
/-- one path of a certificate -/
structure CerP (ns : List Str) (es : List (Str × Str)) (f : Str → Int) (pn : List Str) (dir : Int) (x : Str) (p : List Str) : Prop where
  hd : p.head? = some x
  sl : SlP es f dir p
  ln : p.length ≤ 2 * ns.length + 20
  in_ : ∀ y ∈ p, y ∈ ns
  en : ∃ y, p.getLast? = some y ∧ (y ∈ pn ∨ y ∈ p.dropLast)
theorem drop_last {p : List Str} {y : Str} (h : p.getLast? = some y) : p = p.dropLast ++ [y] := by
  have hn : p ≠ [] := fun z => by rw [z] at h; cases h
  have := List.dropLast_concat_getLast hn
  rw [List.getLast?_eq_getLast hn] at h
  rw [Option.some.inj h] at this
  exact this.symm
end
end U

/-! the numbers along the root paths; when there is no lift: the plain law -/
namespace U
open PySem PySem.Spec PyProof.Rows L2
section
variable {ns : List Str} {es : List (Str × Str)} {f g h0 : Str → Int} {pn : List Str}
end
end U

/-! lifts back, lifts joined, the size of the smallest lift: the plain law -/
namespace U
open PySem PySem.Spec PyProof.Rows L2
section
variable {ns : List Str} {es : List (Str × Str)} {f g h : Str → Int} {pn : List Str} {dir : Int}
theorem psum_top {f : Str → Int} : ∀ {p : List Str}, Wk es p → psum f p + 1 ≤ (p.length : Int) ∨ p = [] := fun {p} => by
  induction p with
  | nil => intro _; exact .inr rfl
  | cons a r ih =>
    intro w
    cases r with
    | nil => left; rw [psum_one]; simp
    | cons b q =>
      left
      rcases ih w.2 with i | i
      · have s := slp_pm f a b
        rw [psum_cons]
        simp only [List.length_cons] at i ⊢
        omega
      · cases i
/-- all slopes are 1 where the sum is greatest -/
theorem slp_full {f : Str → Int} : ∀ {p : List Str}, Wk es p → psum f p + 1 = (p.length : Int) → SlP es f 1 p := fun {p} => by
  induction p with
  | nil => intro _ _; trivial
  | cons a r ih =>
    intro w e
    cases r with
    | nil => trivial
    | cons b q =>
      have s := slp_pm f a b
      rw [psum_cons] at e
      simp only [List.length_cons] at e
      rcases psum_top (f := f) w.2 with i | i
      · simp only [List.length_cons] at i
        have e1 : slp f a b = 1 := by omega
        exact ⟨w.1, e1, ih w.2 (by simp only [List.length_cons]; omega)⟩
      · cases i
theorem slp_sum {f : Str → Int} : ∀ {p : List Str}, SlP es f 1 p → p ≠ [] → psum f p + 1 = (p.length : Int) := fun {p} => by
  induction p with
  | nil => intro _ n; exact absurd rfl n
  | cons a r ih =>
    intro w _
    cases r with
    | nil => rw [psum_one]; rfl
    | cons b q =>
      have i := ih w.2.2 (by simp)
      rw [psum_cons, w.2.1]
      simp only [List.length_cons] at i ⊢
      omega
theorem rr_path {x y : Str} (r : Rr es f dir x y) : ∃ p, SlP es f dir p ∧ p.head? = some x ∧ p.getLast? = some y := by
  induction r with
  | refl => exact ⟨[x], trivial, rfl, rfl⟩
  | @step a b _ m o ih =>
    obtain ⟨p, i1, i2, i3⟩ := ih
    refine ⟨p ++ [b], i1.snoc i3 (nbS_mem.mp m) (of_decide_eq_true o), ?_, ?_⟩
    · cases p with
      | nil => cases i2
      | cons c r => exact i2
    · simp only [List.getLast?_append, List.getLast?_singleton, Option.some_or]
theorem path_rr : ∀ {p : List Str} {x y : Str}, SlP es f dir p → p.head? = some x → p.getLast? = some y → Rr es f dir x y := fun {p} => by
  induction p with
  | nil => intro x y _ h; cases h
  | cons a r ih =>
    intro x y w h l
    obtain rfl : a = x := by simpa using h
    cases r with
    | nil =>
      obtain rfl : a = y := by simpa using l
      exact .refl
    | cons b q =>
      have l' : (b :: q).getLast? = some y := by rw [List.getLast?_cons_cons] at l; exact l
      exact (rr_step w.1 w.2.1).trans (ih w.2.2 rfl l')
/-- cycles stay on the way of a lift -/
theorem cyc_t (okf : EsOk ns es f) (okg : EsOk ns es g) (t : ∀ e ∈ es, slp f e.1 e.2 - slp g e.1 e.2 = 2 * (h e.1 - h e.2)) {x : Str} (c : Cyc es g x) : Cyc es f x := by
  obtain ⟨y, k, e, r⟩ := c
  obtain ⟨p, p1, p2, p3⟩ := rr_path r
  have q1 := p1.snoc p3 k e
  have la : (p ++ [x]).getLast? = some x := by simp only [List.getLast?_append, List.getLast?_singleton, Option.some_or]
  have hd : (p ++ [x]).head? = some x := by
    cases p with
    | nil => cases p2
    | cons c r => exact p2
  have e1 := psum_lift okf okg t q1.wk hd la
  have e2 := slp_sum q1 (by simp)
  have q2 := slp_full (f := f) q1.wk (by omega)
  refine ⟨y, k, ?_, path_rr q2.left p2 p3⟩
  have pl : 0 < p.length := by
    cases p with
    | nil => cases p2
    | cons c r => simp
  have := (q2.at (p.length - 1) (by rw [List.length_append, List.length_singleton]; omega)).2
  have a1 : (p ++ [x])[p.length - 1]'(by rw [List.length_append]; omega) = y := by
    rw [List.getElem_append_left (by omega)]
    have := p3
    rw [List.getLast?_eq_getElem?, List.getElem?_eq_getElem (by omega)] at this
    exact Option.some.inj this
  have a2 : (p ++ [x])[p.length - 1 + 1]'(by rw [List.length_append, List.length_singleton]; omega) = x := by
    rw [List.getElem_append_right (by omega)]
    simp
  rw [a1, a2] at this
  exact this
/-- a feasible lift leads from f to g -/
def Lft (ns : List Str) (es : List (Str × Str)) (f g : Str → Int) (pn : List Str) (h : Str → Int) : Prop := Feas ns es f h pn ∧ ∀ x ∈ ns, (f x - h x - g x) % 3 = 0
theorem Lft.back (okf : EsOk ns es f) (okg : EsOk ns es g) (l : Lft ns es f g pn h) : Lft ns es g f pn fun x => - h x := by
  have t := feas_t okf okg l.1 l.2
  refine ⟨feas_back okf okg l.1 t fun x c => cyc_t okf okg t c, fun x hx => ?_⟩
  have := l.2 x hx
  show (g x - - h x - f x) % 3 = 0
  omega
theorem Lft.join {k h2 : Str → Int} (okf : EsOk ns es f) (okg : EsOk ns es g) (okk : EsOk ns es k) (l : Lft ns es f g pn h) (m : Lft ns es g k pn h2) : Lft ns es f k pn fun x => h x + h2 x := by
  have t := feas_t okf okg l.1 l.2
  have tb := feas_t okg okf (l.back okf okg).1 (l.back okf okg).2
  refine ⟨⟨fun e he => ?_, fun x hx => ?_, fun x hx => ?_⟩, fun x hx => ?_⟩
  · have a := t e he
    have b := fit_pm.mp (m.1.fit e he)
    rw [fit_pm]
    omega
  · have := l.1.pin x hx
    have := m.1.pin x hx
    omega
  · have := l.1.cyc x hx
    have := m.1.cyc x (cyc_t (h := fun x => - h x) okg okf tb hx)
    omega
  · have := l.2 x hx
    have := m.2 x hx
    show (f x - (h x + h2 x) - k x) % 3 = 0
    omega
end
end U

/-! all that one direction reaches is moved, in an order in which each node comes behind its neighbours in the direction -/
namespace U
open PySem PySem.Spec PyProof.Rows L2
/-- an order in which each node comes behind its neighbours in the direction -/
structure DepO (es : List (Str × Str)) (f : Str → Int) (dir : Int) (mem o : List Str) : Prop where
  nd : o.Nodup
  in_ : ∀ x ∈ o, x ∈ mem
  dep : ∀ i (hi : i < o.length), ∀ y, Adj es o[i] y → slp f o[i] y = dir → y ∈ o.take i
section
variable {ns : List Str} {es : List (Str × Str)} {f : Str → Int} {pn : List Str} {dir : Int} {mem o : List Str}
theorem DepO.nil : DepO es f dir mem [] := ⟨List.nodup_nil, (fun x h => nomatch h), fun i hi => absurd hi (Nat.not_lt_zero _)⟩
theorem DepO.snoc {x : Str} (d : DepO es f dir mem o) (hx : x ∈ mem) (nx : x ∉ o) (k : ∀ y, Adj es x y → slp f x y = dir → y ∈ o) : DepO es f dir mem (o ++ [x]) := by
  refine ⟨?_, fun y hy => ?_, fun i hi y a e => ?_⟩
  · rw [List.nodup_append]
    refine ⟨d.nd, by simp, fun a ha b hb e => ?_⟩
    rw [List.mem_singleton] at hb
    rw [e, hb] at ha
    exact nx ha
  · rcases List.mem_append.mp hy with hy | hy
    · exact d.in_ y hy
    · rw [List.mem_singleton.mp hy]
      exact hx
  · rw [List.length_append, List.length_singleton] at hi
    by_cases q : i < o.length
    · rw [List.getElem_append_left q] at a e
      rw [List.take_append_of_le_length (by omega)]
      exact d.dep i q y a e
    · obtain rfl : i = o.length := by omega
      rw [List.getElem_append_right (Nat.le_refl _)] at a e
      simp only [Nat.sub_self, List.getElem_cons_zero] at a e
      rw [List.take_left]
      exact k y a e
theorem DepO.len (d : DepO es f dir mem o) : o.length ≤ mem.length := nodup_len d.nd d.in_
end
end U

/-! frozen nodes: the plain law -/
namespace U
open PySem PySem.Spec PyProof.Rows L2
section
variable {ns : List Str} {es : List (Str × Str)} {f : Str → Int} {pn : List Str} {m : Str × Int}
end
end U

/-! rounds of progress moves: the plain law -/
namespace U
open PySem PySem.Spec PyProof.Rows L2
section
variable {ns : List Str} {es : List (Str × Str)} {f h : Str → Int} {pn : List Str}
theorem prog_iff (ok : EsOk ns es f) {m : Str × Int} : m ∈ progF ns es f h pn ↔ m.1 ∈ ns ∧ m.1 ∉ pn ∧ h m.1 ≠ 0 ∧ (∀ o, Adj es m.1 o → slp f m.1 o = dirU (h m.1)) ∧ m.2 = (f m.1 - dirU (h m.1)) % 3 := by
  rw [prog_eq ok fun _ h => h, List.mem_flatMap]
  constructor
  · rintro ⟨x, hx, hm⟩
    unfold pmF pvF at hm
    by_cases c : h x ≠ 0 ∧ ∀ o ∈ nbS es x, slp f x o = dirU (h x)
    · rw [if_pos c] at hm
      have hm : m ∈ (if x ∈ pn then [] else [(x, (f x - dirU (h x)) % 3)]) := hm
      split at hm
      · cases hm
      · rename_i np
        obtain rfl := List.mem_singleton.mp hm
        exact ⟨hx, np, c.1, fun o ho => c.2 o (nbS_mem.mpr ho), rfl⟩
    · rw [if_neg c] at hm
      cases hm
  · rintro ⟨a, b, c, d, e⟩
    refine ⟨m.1, a, ?_⟩
    unfold pmF pvF
    rw [if_pos ⟨c, fun o ho => d o (nbS_mem.mp ho)⟩]
    show m ∈ (if m.1 ∈ pn then [] else [(m.1, (f m.1 - dirU (h m.1)) % 3)])
    rw [if_neg b, ← e]
    exact List.mem_singleton.mpr rfl
theorem pm_shape {x : Str} : pmF es f h pn x = [] ∨ pmF es f h pn x = [(x, (f x - dirU (h x)) % 3)] := by
  unfold pmF pvF
  by_cases c : h x ≠ 0 ∧ ∀ o ∈ nbS es x, slp f x o = dirU (h x)
  · rw [if_pos c]
    show (if x ∈ pn then [] else [(x, (f x - dirU (h x)) % 3)]) = [] ∨ (if x ∈ pn then [] else [(x, (f x - dirU (h x)) % 3)]) = _
    split
    · exact .inl rfl
    · exact .inr rfl
  · rw [if_neg c]
    exact .inl rfl
theorem pm_nodup : ∀ {xs : List Str}, xs.Nodup → ((xs.flatMap (pmF es f h pn)).map (·.1)).Nodup ∧ ∀ y ∈ (xs.flatMap (pmF es f h pn)).map (·.1), y ∈ xs
  | [], _ => ⟨List.nodup_nil, fun y h => nomatch h⟩
  | x :: r, nd => by
    have nd' := List.nodup_cons.mp nd
    obtain ⟨i1, i2⟩ := pm_nodup nd'.2
    rw [List.flatMap_cons, List.map_append]
    rcases pm_shape (es := es) (f := f) (h := h) (pn := pn) (x := x) with e | e
    · rw [e]
      exact ⟨i1, fun y hy => List.mem_cons_of_mem _ (i2 y hy)⟩
    · rw [e]
      refine ⟨List.nodup_cons.mpr ⟨fun z => nd'.1 (i2 x z), i1⟩, fun y hy => ?_⟩
      rcases List.mem_cons.mp hy with z | z
      · rw [z]
        exact List.mem_cons_self
      · exact List.mem_cons_of_mem _ (i2 y z)
theorem prog_nodup (ok : EsOk ns es f) (nd : ns.Nodup) : ((progF ns es f h pn).map (·.1)).Nodup := by
  rw [prog_eq ok fun _ h => h]
  exact (pm_nodup nd).1
/-- numbers of neighbors differ by one at most -/
theorem fe_near (ok : EsOk ns es f) (fe : Feas ns es f h pn) {a b : Str} (k : Adj es a b) : slp f a b - 2 * (h a - h b) = 1 ∨ slp f a b - 2 * (h a - h b) = -1 := by
  rcases k with k | k
  · exact fit_pm.mp (fe.fit _ k)
  · have e := fit_pm.mp (fe.fit _ k)
    have s := slp_neg ok (show Adj es b a from .inl k)
    have e : slp f b a - 2 * (h b - h a) = 1 ∨ slp f b a - 2 * (h b - h a) = -1 := e
    omega
theorem prog_apart (ok : EsOk ns es f) (fe : Feas ns es f h pn) {a b : Str × Int} (ha : a ∈ progF ns es f h pn) (hb : b ∈ progF ns es f h pn) : ¬ Adj es a.1 b.1 := fun k => by
  obtain ⟨_, _, a3, a4, _⟩ := (prog_iff ok).mp ha
  obtain ⟨_, _, b3, b4, _⟩ := (prog_iff ok).mp hb
  have e1 := a4 _ k
  have e2 := b4 _ k.symm
  have e3 := slp_neg ok k
  have e4 := fe_near ok fe k
  unfold dirU at e1 e2
  split at e1 <;> split at e2 <;> omega
theorem prog_after (ok : EsOk ns es f) (nd : ns.Nodup) (fe : Feas ns es f h pn) {a b : Str × Int} (ha : a ∈ progF ns es f h pn) (hb : b ∈ progF ns es f h pn) (ne : b.1 ≠ a.1) : b ∈ progF ns es (updf f a.1 a.2) (redU h a.1) pn := by
  obtain ⟨ok', _⟩ := prog_step ok nd fe ha
  obtain ⟨b1, b2, b3, b4, b5⟩ := (prog_iff ok).mp hb
  have u1 : updf f a.1 a.2 b.1 = f b.1 := if_neg ne
  have u2 : redU h a.1 b.1 = h b.1 := if_neg ne
  refine (prog_iff ok').mpr ⟨b1, b2, by rw [u2]; exact b3, fun o ho => ?_, by rw [u1, u2]; exact b5⟩
  have no : o ≠ a.1 := fun z => prog_apart ok fe hb ha (by rw [← z]; exact ho)
  rw [slp_off ne no, u2]
  exact b4 o ho
theorem AnyR.trans {ms ms2 : List (Str × Int)} {f' h' f2 h2 : Str → Int} (a : AnyR ns es pn f h ms f' h') (b : AnyR ns es pn f' h' ms2 f2 h2) : AnyR ns es pn f h (ms ++ ms2) f2 h2 := by
  induction b with
  | nil => rw [List.append_nil]; exact a
  | snoc _ hm ih => rw [← List.append_assoc]; exact .snoc ih hm
/-- progress moves of one point, one after another -/
theorem round_any (ok : EsOk ns es f) (nd : ns.Nodup) (fe : Feas ns es f h pn) {ms : List (Str × Int)} (all : ∀ m ∈ ms, m ∈ progF ns es f h pn) (ndm : (ms.map (·.1)).Nodup) : ∀ i, i ≤ ms.length →
    AnyR ns es pn f h (ms.take i) (plU f (ms.take i)) (rdU h (ms.take i)) ∧ ∀ b ∈ progF ns es f h pn, b.1 ∉ (ms.take i).map (·.1) → b ∈ progF ns es (plU f (ms.take i)) (rdU h (ms.take i)) pn := by
  intro i
  induction i with
  | zero => exact fun _ => ⟨.nil, fun b hb _ => hb⟩
  | succ i ih =>
    intro hi
    obtain ⟨r, k⟩ := ih (by omega)
    have tk : ms.take (i + 1) = ms.take i ++ [ms[i]] := by
      rw [List.take_succ, List.getElem?_eq_getElem (by omega)]
      rfl
    have hm := all _ (List.getElem_mem (by omega : i < ms.length))
    have nin : ms[i].1 ∉ (ms.take i).map (·.1) := fun z => by
      rw [List.nodup_iff_pairwise_ne, List.pairwise_iff_getElem] at ndm
      obtain ⟨j, hj, e⟩ := List.mem_iff_getElem.mp z
      rw [List.getElem_map, List.getElem_take] at e
      rw [List.length_map, List.length_take] at hj
      have := ndm j i (by rw [List.length_map]; omega) (by rw [List.length_map]; omega) (by omega)
      rw [List.getElem_map, List.getElem_map] at this
      exact this e
    have hm' := k _ hm nin
    obtain ⟨ok', fe', _⟩ := r.keeps ok nd fe
    rw [tk, plU_snoc, rdU_snoc]
    refine ⟨.snoc r hm', fun b hb nb => ?_⟩
    rw [List.map_append, List.mem_append, not_or] at nb
    exact prog_after ok' nd fe' hm' (k b hb nb.1) fun z => nb.2 (by rw [z]; exact List.mem_singleton.mpr rfl)
theorem round_all (ok : EsOk ns es f) (nd : ns.Nodup) (fe : Feas ns es f h pn) : AnyR ns es pn f h (progF ns es f h pn) (plU f (progF ns es f h pn)) (rdU h (progF ns es f h pn)) := by
  have := (round_any ok nd fe (ms := progF ns es f h pn) (fun _ h => h) (prog_nodup ok nd) _ (Nat.le_refl _)).1
  rw [List.take_length] at this
  exact this
/-- rounds that are each all progress moves -/
inductive RoundR (ns : List Str) (es : List (Str × Str)) (pn : List Str) (f h : Str → Int) : List (List (Str × Int)) → (Str → Int) → (Str → Int) → Prop
  | nil : RoundR ns es pn f h [] f h
  | snoc {rs : List (List (Str × Int))} {f' h' : Str → Int} : RoundR ns es pn f h rs f' h' → progF ns es f' h' pn ≠ [] → RoundR ns es pn f h (rs ++ [progF ns es f' h' pn]) (plU f' (progF ns es f' h' pn)) (rdU h' (progF ns es f' h' pn))
theorem RoundR.any (ok : EsOk ns es f) (nd : ns.Nodup) (fe : Feas ns es f h pn) {rs : List (List (Str × Int))} {f' h' : Str → Int} (r : RoundR ns es pn f h rs f' h') : AnyR ns es pn f h rs.flatten f' h' := by
  induction r with
  | nil => exact .nil
  | @snoc rs f' h' r ne ih =>
    obtain ⟨ok', fe', _⟩ := ih.keeps ok nd fe
    rw [List.flatten_append]
    have := ih.trans (round_all ok' nd fe')
    simpa using this
theorem RoundR.len (ok : EsOk ns es f) (nd : ns.Nodup) (fe : Feas ns es f h pn) {rs : List (List (Str × Int))} {f' h' : Str → Int} (r : RoundR ns es pn f h rs f' h') : (rs.length : Int) + sz ns h' ≤ sz ns h := by
  induction r with
  | nil => simp
  | @snoc rs f' h' r ne ih =>
    obtain ⟨ok', fe', _⟩ := (r.any ok nd fe).keeps ok nd fe
    obtain ⟨_, _, s, _⟩ := (round_all ok' nd fe').keeps ok' nd fe'
    have : 0 < (progF ns es f' h' pn).length := List.length_pos_iff.mpr ne
    rw [List.length_append, List.length_singleton]
    omega
theorem RoundR.at {rs : List (List (Str × Int))} {f' h' : Str → Int} (r : RoundR ns es pn f h rs f' h') : ∀ i (hi : i < rs.length), ∃ f1 h1, RoundR ns es pn f h (rs.take i) f1 h1 ∧ rs[i] = progF ns es f1 h1 pn ∧ progF ns es f1 h1 pn ≠ [] ∧ RoundR ns es pn f h (rs.take (i + 1)) (plU f1 rs[i]) (rdU h1 rs[i]) := by
  induction r with
  | nil => exact fun i hi => absurd hi (Nat.not_lt_zero i)
  | @snoc rs f' h' r ne ih =>
    intro i hi
    rw [List.length_append, List.length_singleton] at hi
    by_cases c : i < rs.length
    · obtain ⟨f1, h1, a, b, d, e⟩ := ih i c
      refine ⟨f1, h1, ?_⟩
      rw [List.take_append_of_le_length (by omega), List.getElem_append_left c, List.take_append_of_le_length (by omega)]
      exact ⟨a, b, d, e⟩
    · obtain rfl : i = rs.length := by omega
      refine ⟨f', h', ?_⟩
      rw [List.take_append_of_le_length (Nat.le_refl _), List.take_length, List.getElem_append_right (Nat.le_refl _), List.take_of_length_le (by rw [List.length_append]; exact Nat.le_refl _)]
      simp only [Nat.sub_self, List.getElem_cons_zero]
      exact ⟨r, trivial, ne, .snoc r ne⟩
theorem RoundR.ends {rs : List (List (Str × Int))} {f' h' : Str → Int} (r : RoundR ns es pn f h rs f' h') : f' = plU f rs.flatten ∧ h' = rdU h rs.flatten := by
  induction r with
  | nil => exact ⟨rfl, rfl⟩
  | @snoc rs f' h' r ne ih =>
    obtain ⟨e1, e2⟩ := ih
    constructor
    · conv => lhs; rw [show plU f' = plU (plU f rs.flatten) from by rw [← e1]]
      unfold plU
      simp [List.foldl_append]
    · conv => lhs; rw [show rdU h' = rdU (rdU h rs.flatten) from by rw [← e2]]
      unfold rdU
      simp [List.foldl_append]
end
end U

/-! chains of events bound the rounds of any sequence: the plain law -/
namespace U
open PySem PySem.Spec PyProof.Rows L2
section
variable {ns : List Str} {es : List (Str × Str)} {f h : Str → Int} {pn : List Str}
/-- moves that are possible together -/
structure RoundOk (ns : List Str) (es : List (Str × Str)) (pn : List Str) (f : Str → Int) (r : List (Str × Int)) : Prop where
  leg : ∀ m ∈ r, Legal ns es f pn m
  nd : (r.map (·.1)).Nodup
  ap : ∀ a ∈ r, ∀ b ∈ r, ¬ Adj es a.1 b.1
theorem RoundOk.nil : RoundOk ns es pn f [] := ⟨(fun m h => nomatch h), List.nodup_nil, fun a h => nomatch h⟩
theorem RoundOk.snoc {r : List (Str × Int)} {m : Str × Int} (a : RoundOk ns es pn f r) (l : Legal ns es f pn m) (n : m.1 ∉ r.map (·.1)) (k : ∀ b ∈ r, ¬ Adj es b.1 m.1) (ok : EsOk ns es f) : RoundOk ns es pn f (r ++ [m]) := by
  refine ⟨fun x hx => ?_, ?_, fun x hx y hy z => ?_⟩
  · rcases List.mem_append.mp hx with hx | hx
    · exact a.leg x hx
    · rw [List.mem_singleton.mp hx]
      exact l
  · rw [List.map_append, List.nodup_append]
    refine ⟨a.nd, by simp, fun x hx y hy e => ?_⟩
    have hy : y = m.1 := List.mem_singleton.mp hy
    rw [e, hy] at hx
    exact n hx
  · rcases List.mem_append.mp hx with hx | hx <;> rcases List.mem_append.mp hy with hy | hy
    · exact a.ap x hx y hy z
    · rw [List.mem_singleton.mp hy] at z
      exact k x hx z
    · rw [List.mem_singleton.mp hx] at z
      exact k y hy z.symm
    · rw [List.mem_singleton.mp hx, List.mem_singleton.mp hy] at z
      exact (adj_in ok z).2.2.2 rfl
end
end U

/-! accepted certificates stay; the last of the order: the plain law -/
namespace U
open PySem PySem.Spec PyProof.Rows L2
section
variable {ns : List Str} {es : List (Str × Str)} {f g h : Str → Int} {pn : List Str} {dir : Int}
theorem SlP.right : ∀ {p r : List Str}, SlP es f dir (p ++ r) → SlP es f dir r
  | [], _, w => w
  | a :: p, r, w => SlP.right (p := p) (SlP.tail w)
theorem split_at {p : List Str} {y : Str} (h : y ∈ p) : ∃ a b, p = a ++ y :: b := List.append_of_mem h
theorem last_app {a : List Str} {y : Str} {b : List Str} : (a ++ y :: b).getLast? = (y :: b).getLast? := by
  rw [List.getLast?_append]
  cases hq : (y :: b).getLast? with
  | none => exact absurd hq (by simp)
  | some z => rfl
/-- the anchor to which a certificate's path leads -/
theorem cer_anc (ok : EsOk ns es f) (hd : dir = 1 ∨ dir = -1) {x : Str} {p : List Str} (c : CerP ns es f pn dir x p) : ∃ z ∈ ns, (z ∈ pn ∨ Cyc es f z) ∧ ∀ y ∈ p, Rr es f dir y z := by
  obtain ⟨z, la, alt⟩ := c.en
  refine ⟨z, c.in_ z (List.mem_of_getLast? la), ?_, fun y hy => ?_⟩
  · rcases alt with a | a
    · exact .inl a
    · right
      obtain ⟨u, v, e⟩ := split_at a
      have dl := drop_last la
      rw [e, List.append_assoc] at dl
      have w := c.sl
      rw [dl] at w
      have w2 : SlP es f dir (z :: (v ++ [z])) := w.right
      have cy : CycD es f dir z := by
        have e1 : z :: (v ++ [z]) = (z :: v) ++ [z] := rfl
        rw [e1] at w2
        have l0 : (z :: v) ≠ [] := by simp
        have la2 : ∃ y, (z :: v).getLast? = some y := ⟨_, List.getLast?_eq_getLast l0⟩
        obtain ⟨y, hy⟩ := la2
        refine ⟨y, ?_, ?_, path_rr w2.left rfl hy⟩
        · have := w2.at ((z :: v).length - 1) (by simp only [List.length_append, List.length_cons, List.length_nil]; omega)
          have a1 : ((z :: v) ++ [z])[(z :: v).length - 1]'(by simp only [List.length_append, List.length_cons, List.length_nil]; omega) = y := by
            rw [List.getElem_append_left (by simp)]
            rw [List.getLast?_eq_getElem?, List.getElem?_eq_getElem (by simp)] at hy
            exact Option.some.inj hy
          have a2 : ((z :: v) ++ [z])[(z :: v).length - 1 + 1]'(by simp only [List.length_append, List.length_cons, List.length_nil]; omega) = z := by
            rw [List.getElem_append_right (by simp)]
            simp
          rw [a1, a2] at this
          exact this.1
        · have := w2.at ((z :: v).length - 1) (by simp only [List.length_append, List.length_cons, List.length_nil]; omega)
          have a1 : ((z :: v) ++ [z])[(z :: v).length - 1]'(by simp only [List.length_append, List.length_cons, List.length_nil]; omega) = y := by
            rw [List.getElem_append_left (by simp)]
            rw [List.getLast?_eq_getElem?, List.getElem?_eq_getElem (by simp)] at hy
            exact Option.some.inj hy
          have a2 : ((z :: v) ++ [z])[(z :: v).length - 1 + 1]'(by simp only [List.length_append, List.length_cons, List.length_nil]; omega) = z := by
            rw [List.getElem_append_right (by simp)]
            simp
          rw [a1, a2] at this
          exact this.2
      rcases hd with rfl | rfl
      · exact cy
      · exact cyc_rev ok cy
  · obtain ⟨u, v, rfl⟩ := split_at hy
    rw [last_app] at la
    exact path_rr c.sl.right rfl la
theorem SlP.congr : ∀ {p : List Str}, (∀ y ∈ p, g y = f y) → SlP es f dir p → SlP es g dir p
  | [], _, _ => trivial
  | [a], _, _ => trivial
  | a :: b :: r, e, w => by
    refine ⟨w.1, ?_, SlP.congr (p := b :: r) (fun y hy => e y (List.mem_cons_of_mem _ hy)) w.2.2⟩
    have e1 := e a (by simp)
    have e2 := e b (by simp)
    have := w.2.1
    unfold slp at this ⊢
    rw [e1, e2]
    exact this
end
end U

/-! cheapest paths: the plain law -/
namespace U
open PySem PySem.Spec PyProof.Rows L2 PySem.W
/-- what the steps of a path cost together -/
def ctF (w : Str → Str → Nat) : List Str → Nat
  | x :: y :: r => w x y + ctF w (y :: r)
  | _ => 0
section
variable {w : Str → Str → Nat}
theorem ctF_join : ∀ {p r : List Str} {x : Str}, p.getLast? = some x → ctF w (p ++ r) = ctF w p + ctF w (x :: r)
  | [], _, _, h => nomatch h
  | [a], r, x, h => by
    have : a = x := by simpa using h
    subst this
    show _ = 0 + _
    rw [Nat.zero_add]
    rfl
  | a :: b :: q, r, x, h => by
    have h' : (b :: q).getLast? = some x := by rw [List.getLast?_cons_cons] at h; exact h
    have ih := ctF_join (p := b :: q) (r := r) h'
    show w a b + ctF w (b :: q ++ r) = w a b + ctF w (b :: q) + _
    rw [ih]
    omega
theorem ctF_snoc {p : List Str} {x o : Str} (h : p.getLast? = some x) : ctF w (p ++ [o]) = ctF w p + w x o := by
  rw [ctF_join h]
  rfl
end
/-! ### ranks -/
def dRk (c : Nat) (p : List Str) : PyData := .tuple [.int c, .int p.length, .list (p.map PyData.str)]
def rl (w : Str → Str → Nat) (p q : List Str) : Bool := dataLt (dRk (ctF w p) p) (dRk (ctF w q) q)
section
variable {w : Str → Str → Nat} {p q r : List Str}
theorem rl_irrefl : rl w p p = false := lex_irrefl _
theorem rl_less (h : ctF w p < ctF w q ∨ (ctF w p = ctF w q ∧ p.length < q.length)) : rl w p q = true := by
  unfold rl dRk
  rw [dataLt_tuple]
  rcases h with h | ⟨e, h⟩
  · rw [dataLt_all_no (by simp [alike]) (by simp [PyData.eqv]; omega), dataLt_int]
    exact decide_eq_true (by omega)
  · rw [dataLt_all_yes (by simp [alike]) (by simp [PyData.eqv]; omega), dataLt_all_no (by simp [alike]) (by simp [PyData.eqv]; omega), dataLt_int]
    exact decide_eq_true (by omega)
theorem rl_cost (h : rl w p q = false) : ctF w q ≤ ctF w p := by
  by_cases z : ctF w p < ctF w q
  · rw [rl_less (.inl z)] at h
    cases h
  · omega
end
/-! ### all arrangements -/
/-! ### the paths found -/
structure ChS (ns : List Str) (es : List (Str × Str)) (w : Str → Str → Nat) (src ks : List Str) (P : Str → List Str) (qu : List Str) (pend : Str → Str → Prop) : Prop where
  nd : ks.Nodup
  inN : ∀ x ∈ ks, x ∈ ns
  sv : ∀ x ∈ src, x ∈ ks ∧ rl w [x] (P x) = false
  wk : ∀ x ∈ ks, Wk es (P x)
  hd : ∀ x ∈ ks, ∃ s ∈ src, (P x).head? = some s
  ls : ∀ x ∈ ks, (P x).getLast? = some x
  ndp : ∀ x ∈ ks, (P x).Nodup
  pin : ∀ x ∈ ks, ∀ y ∈ P x, y ∈ ns
  pre : ∀ x ∈ ks, ∀ a r, P x = a ++ r → ∀ z, a.getLast? = some z → z ∈ ks ∧ rl w a (P z) = false
  qin : ∀ x ∈ qu, x ∈ ks
  cl : ∀ x ∈ ks, ∀ o, Adj es x o → x ∈ qu ∨ pend x o ∨ (o ∈ ks ∧ rl w (P x ++ [o]) (P o) = false)
section
variable {ns : List Str} {es : List (Str × Str)} {f : Str → Int} {w : Str → Str → Nat} {src ks : List Str} {P : Str → List Str} {qu : List Str} {pend pend' : Str → Str → Prop}
theorem ChS.start (nd : src.Nodup) (hin : ∀ x ∈ src, x ∈ ns) : ChS ns es w src src (fun x => [x]) src (fun _ _ => False) := by
  refine ⟨nd, hin, fun x hx => ⟨hx, rl_irrefl⟩, fun _ _ => trivial, fun x hx => ⟨x, hx, rfl⟩, fun _ _ => rfl, fun x _ => by simp, fun x hx y hy => ?_, fun x hx a r e z hz => ?_, fun _ h => h, fun x hx o _ => .inl hx⟩
  · rw [List.mem_singleton.mp hy]
    exact hin x hx
  · cases a with
    | nil => cases hz
    | cons b a =>
      rw [List.cons_append] at e
      obtain ⟨rfl, e2⟩ := List.cons.inj e
      obtain ⟨rfl, rfl⟩ := List.append_eq_nil_iff.mp e2.symm
      cases hz
      exact ⟨hx, rl_irrefl⟩
theorem ChS.weak (c : ChS ns es w src ks P qu pend) {qu' : List Str} {pend' : Str → Str → Prop} (hq : ∀ x ∈ qu', x ∈ ks) (h : ∀ x ∈ ks, ∀ o, Adj es x o → (x ∈ qu ∨ pend x o) → x ∈ qu' ∨ pend' x o ∨ (o ∈ ks ∧ rl w (P x ++ [o]) (P o) = false)) : ChS ns es w src ks P qu' pend' :=
  ⟨c.nd, c.inN, c.sv, c.wk, c.hd, c.ls, c.ndp, c.pin, c.pre, hq, fun x hx o a => by
    rcases c.cl x hx o a with z | z | z
    · exact h x hx o a (.inl z)
    · exact h x hx o a (.inr z)
    · exact .inr (.inr z)⟩
/-- c is what the cheapest way from src to x costs -/
structure MinC (es : List (Str × Str)) (w : Str → Str → Nat) (src : List Str) (x : Str) (c : Nat) : Prop where
  ex : ∃ q, ∃ s ∈ src, Wk es q ∧ q.head? = some s ∧ q.getLast? = some x ∧ ctF w q = c
  le : ∀ q, ∀ s ∈ src, Wk es q → q.head? = some s → q.getLast? = some x → c ≤ ctF w q
theorem MinC.uniq {x : Str} {c d : Nat} (a : MinC es w src x c) (b : MinC es w src x d) : c = d := by
  obtain ⟨q, s, hs, h1, h2, h3, h4⟩ := a.ex
  obtain ⟨q', s', hs', h1', h2', h3', h4'⟩ := b.ex
  have := a.le q' s' hs' h1' h2' h3'
  have := b.le q s hs h1 h2 h3
  omega
/-- what is found at the end -/
theorem ChS.fin (c : ChS ns es w src ks P [] (fun _ _ => False)) : (∀ x ∈ ks, MinC es w src x (ctF w (P x))) ∧ ∀ q, ∀ s ∈ src, Wk es q → q.head? = some s → ∀ x, q.getLast? = some x → x ∈ ks := by
  have key : ∀ (r : List Str) (a : Str), a ∈ ks → Wk es (a :: r) → ∀ y, (a :: r).getLast? = some y → y ∈ ks ∧ ctF w (P y) ≤ ctF w (P a) + ctF w (a :: r) := by
    intro r
    induction r with
    | nil =>
      intro a ha _ y hy
      have : a = y := by simpa using hy
      subst this
      exact ⟨ha, Nat.le_add_right _ _⟩
    | cons b r ih =>
      intro a ha wk y hy
      rw [List.getLast?_cons_cons] at hy
      rcases c.cl a ha b wk.1 with h | h | ⟨h1, h2⟩
      · cases h
      · exact h.elim
      · obtain ⟨y1, y2⟩ := ih b h1 wk.2 y hy
        have k1 := rl_cost h2
        rw [ctF_snoc (c.ls a ha)] at k1
        refine ⟨y1, ?_⟩
        show _ ≤ ctF w (P a) + (w a b + ctF w (b :: r))
        omega
  have all : ∀ q, ∀ s ∈ src, Wk es q → q.head? = some s → ∀ x, q.getLast? = some x → x ∈ ks ∧ ctF w (P x) ≤ ctF w q := fun q s hs wk hq x hx => by
    cases q with
    | nil => cases hq
    | cons a r =>
      obtain rfl : a = s := Option.some.inj hq
      obtain ⟨s1, s2⟩ := c.sv a hs
      obtain ⟨y1, y2⟩ := key r a s1 wk x hx
      have := rl_cost s2
      have e0 : ctF w [a] = 0 := rfl
      exact ⟨y1, by omega⟩
  refine ⟨fun x hx => ⟨?_, fun q s hs wk hq hl => (all q s hs wk hq x hl).2⟩, fun q s hs wk hq x hl => (all q s hs wk hq x hl).1⟩
  obtain ⟨s, hs, e⟩ := c.hd x hx
  exact ⟨P x, s, hs, c.wk x hx, e, c.ls x hx, rfl⟩
end
end U

/-! cheapest ways found round by round; what costs nothing: the plain law -/
namespace U
open PySem PySem.Spec PyProof.Rows L2
section
variable {ns : List Str} {es : List (Str × Str)} {f : Str → Int} {w : Str → Str → Nat} {src ks : List Str} {c : Str → Nat}
theorem wk_right : ∀ {a b : List Str}, Wk es (a ++ b) → Wk es b
  | [], _, h => h
  | [x], [], _ => trivial
  | [x], y :: r, h => h.2
  | x :: y :: r, b, h => wk_right (a := y :: r) h.2
theorem twice : ∀ {q : List Str}, ¬ q.Nodup → ∃ y a b c, q = a ++ y :: (b ++ y :: c)
  | [], h => absurd List.nodup_nil h
  | x :: r, h => by
    by_cases hx : x ∈ r
    · obtain ⟨b, c, e⟩ := List.append_of_mem hx
      exact ⟨x, [], b, c, by rw [e]; rfl⟩
    · obtain ⟨y, a, b, c, e⟩ := twice (q := r) fun z => h (List.nodup_cons.mpr ⟨hx, z⟩)
      exact ⟨y, x :: a, b, c, by rw [e]; rfl⟩
/-- a way without a node twice costs no more -/
theorem simple_wk {s x : Str} : ∀ (k : Nat) {q : List Str}, q.length ≤ k → Wk es q → q.head? = some s → q.getLast? = some x → ∃ q', q'.Nodup ∧ Wk es q' ∧ q'.head? = some s ∧ q'.getLast? = some x ∧ ctF w q' ≤ ctF w q ∧ ∀ y ∈ q', y ∈ q
  | 0, [], _, _, h, _ => nomatch h
  | 0, _ :: _, h, _, _, _ => absurd h (by simp)
  | k + 1, q, hk, wk, h1, h2 => by
    by_cases nd : q.Nodup
    · exact ⟨q, nd, wk, h1, h2, Nat.le_refl _, fun _ h => h⟩
    · obtain ⟨y, a, b, c, rfl⟩ := twice nd
      have e1 : a ++ y :: (b ++ y :: c) = (a ++ [y]) ++ (b ++ y :: c) := by simp
      have e2 : a ++ y :: c = (a ++ [y]) ++ c := by simp
      have wl : Wk es (a ++ [y]) := by rw [e1] at wk; exact wk.left
      have wr : Wk es (y :: c) := by
        have : a ++ y :: (b ++ y :: c) = (a ++ y :: b) ++ (y :: c) := by simp
        rw [this] at wk
        exact wk_right wk
      have ly : (a ++ [y]).getLast? = some y := by simp
      have cost : ctF w (a ++ y :: c) ≤ ctF w (a ++ y :: (b ++ y :: c)) := by
        rw [e1, e2, ctF_join ly, ctF_join ly]
        have e3 : y :: (b ++ y :: c) = ((y :: b) ++ [y]) ++ c := by simp
        have ly2 : ((y :: b) ++ [y]).getLast? = some y := by
          rw [List.getLast?_append]
          rfl
        rw [e3, ctF_join ly2]
        omega
      have lastE : (a ++ y :: c).getLast? = some x := by
        rw [← h2]
        rw [List.getLast?_append, List.getLast?_append]
        have : (y :: (b ++ y :: c)).getLast? = (y :: c).getLast? := by
          rw [show y :: (b ++ y :: c) = (y :: b) ++ (y :: c) from rfl, List.getLast?_append]
          cases hh : (y :: c).getLast? with
          | none => simp at hh
          | some z => rfl
        rw [this]
      have headE : (a ++ y :: c).head? = some s := by
        rw [← h1]
        cases a with
        | nil => rfl
        | cons z a => rfl
      obtain ⟨q', n1, n2, n3, n4, n5, n6⟩ := simple_wk k (q := a ++ y :: c) (by simp only [List.length_append, List.length_cons] at hk ⊢; omega) (by rw [e2]; exact wl.join ly wr) headE lastE
      refine ⟨q', n1, n2, n3, n4, Nat.le_trans n5 cost, fun z hz => ?_⟩
      have := n6 z hz
      rcases List.mem_append.mp this with h | h
      · exact List.mem_append_left _ h
      · refine List.mem_append_right _ ?_
        rcases List.mem_cons.mp h with h | h
        · rw [h]; exact List.mem_cons_self
        · exact List.mem_cons_of_mem _ (List.mem_append_right _ (List.mem_cons_of_mem _ h))
theorem wk_in (ok : EsOk ns es f) : ∀ {q : List Str} {s : Str}, s ∈ ns → q.head? = some s → Wk es q → ∀ y ∈ q, y ∈ ns
  | [x], s, hs, h, _, y, hy => by
    obtain rfl : x = s := Option.some.inj h
    rw [List.mem_singleton.mp hy]
    exact hs
  | x :: z :: r, s, hs, h, wk, y, hy => by
    obtain rfl : x = s := Option.some.inj h
    rcases List.mem_cons.mp hy with rfl | hy
    · exact hs
    · exact wk_in ok (q := z :: r) (adj_in ok wk.1).2.1 rfl wk.2 y hy
/-- found so far, all ways of at most t steps done -/
structure BfS (ns : List Str) (es : List (Str × Str)) (w : Str → Str → Nat) (src ks : List Str) (c : Str → Nat) (t : Nat) : Prop where
  nd : ks.Nodup
  inN : ∀ x ∈ ks, x ∈ ns
  ex : ∀ x ∈ ks, ∃ q, ∃ s ∈ src, Wk es q ∧ q.head? = some s ∧ q.getLast? = some x ∧ ctF w q = c x
  all : ∀ q, ∀ s ∈ src, Wk es q → q.head? = some s → ∀ x, q.getLast? = some x → q.length ≤ t + 1 → x ∈ ks ∧ c x ≤ ctF w q
theorem BfS.start (nd : src.Nodup) (hin : ∀ x ∈ src, x ∈ ns) : BfS ns es w src src (fun _ => 0) 0 := by
  refine ⟨nd, hin, fun x hx => ⟨[x], x, hx, trivial, rfl, rfl, rfl⟩, fun q s hs _ h1 x h2 hl => ?_⟩
  cases q with
  | nil => cases h1
  | cons a r =>
    cases r with
    | nil =>
      obtain rfl : a = s := Option.some.inj h1
      obtain rfl : a = x := Option.some.inj h2
      exact ⟨hs, Nat.le_refl _⟩
    | cons b r => simp at hl
/-- within a round: from k0, c0 at its start; what was looked at -/
structure BfR (ns : List Str) (es : List (Str × Str)) (w : Str → Str → Nat) (src k0 : List Str) (c0 : Str → Nat) (ks : List Str) (c : Str → Nat) (dn : Str → Str → Prop) : Prop where
  nd : ks.Nodup
  inN : ∀ x ∈ ks, x ∈ ns
  ex : ∀ x ∈ ks, ∃ q, ∃ s ∈ src, Wk es q ∧ q.head? = some s ∧ q.getLast? = some x ∧ ctF w q = c x
  mono : ∀ x ∈ k0, x ∈ ks ∧ c x ≤ c0 x
  done : ∀ x o, dn x o → x ∈ k0 → o ∈ ks ∧ c o ≤ c0 x + w x o
theorem BfR.weak {k0 : List Str} {c0 : Str → Nat} {dn dn' : Str → Str → Prop} (b : BfR ns es w src k0 c0 ks c dn) (h : ∀ x o, dn' x o → dn x o) : BfR ns es w src k0 c0 ks c dn' := ⟨b.nd, b.inN, b.ex, b.mono, fun x o z => b.done x o (h x o z)⟩
/-- a pair whose first is not yet found -/
theorem BfR.skip {k0 : List Str} {c0 : Str → Nat} {dn : Str → Str → Prop} (b : BfR ns es w src k0 c0 ks c dn) {x o : Str} (hx : x ∉ ks) : BfR ns es w src k0 c0 ks c (fun y z => dn y z ∨ (y = x ∧ z = o)) :=
  ⟨b.nd, b.inN, b.ex, b.mono, fun y z h hy => by
    rcases h with h | ⟨rfl, rfl⟩
    · exact b.done y z h hy
    · exact absurd (b.mono y hy).1 hx⟩
/-- a pair that brings nothing -/
theorem BfR.keep {k0 : List Str} {c0 : Str → Nat} {dn : Str → Str → Prop} (b : BfR ns es w src k0 c0 ks c dn) {x o : Str} (hx : x ∈ ks) (ho : o ∈ ks) (le : c o ≤ c x + w x o) : BfR ns es w src k0 c0 ks c (fun y z => dn y z ∨ (y = x ∧ z = o)) :=
  ⟨b.nd, b.inN, b.ex, b.mono, fun y z h hy => by
    rcases h with h | ⟨rfl, rfl⟩
    · exact b.done y z h hy
    · have := (b.mono y hy).2
      exact ⟨ho, by omega⟩⟩
/-- a pair that brings less -/
theorem BfR.less (ok : EsOk ns es f) {k0 : List Str} {c0 : Str → Nat} {dn : Str → Str → Prop} (b : BfR ns es w src k0 c0 ks c dn) {x o : Str} (hx : x ∈ ks) (ad : Adj es x o) (better : o ∉ ks ∨ c x + w x o < c o) {ks' : List Str} (ek : ks' = if o ∈ ks then ks else ks ++ [o]) {c' : Str → Nat} (ec : ∀ y, c' y = if y = o then c x + w x o else c y) :
    BfR ns es w src k0 c0 ks' c' (fun y z => dn y z ∨ (y = x ∧ z = o)) := by
  obtain ⟨_, on, _, nxo⟩ := adj_in ok ad
  have ino : o ∈ ks' := by
    rw [ek]
    split
    · assumption
    · exact List.mem_append_right _ List.mem_cons_self
  have up : ∀ y ∈ ks, y ∈ ks' := fun y hy => by
    rw [ek]
    split
    · exact hy
    · exact List.mem_append_left _ hy
  have dn' : ∀ y ∈ ks', y = o ∨ y ∈ ks := fun y hy => by
    rw [ek] at hy
    split at hy
    · exact .inr hy
    · rcases List.mem_append.mp hy with hy | hy
      · exact .inr hy
      · exact .inl (List.mem_singleton.mp hy)
  have le : ∀ y ∈ ks, c' y ≤ c y := fun y hy => by
    rw [ec]
    by_cases z : y = o
    · rw [if_pos z]
      rcases better with h | h
      · exact absurd (by rw [← z]; exact hy) h
      · rw [z]; omega
    · rw [if_neg z]; exact Nat.le_refl _
  refine ⟨?_, fun y hy => ?_, fun y hy => ?_, fun y hy => ?_, fun y z h hy => ?_⟩
  · rw [ek]
    split
    · exact b.nd
    · rename_i h
      rw [List.nodup_append]
      exact ⟨b.nd, by simp, fun a ha b hb e => h (by rw [← List.mem_singleton.mp hb, ← e]; exact ha)⟩
  · rcases dn' y hy with rfl | h
    · exact on
    · exact b.inN y h
  · rw [ec]
    by_cases z : y = o
    · rw [if_pos z, z]
      obtain ⟨q, s, hs, h1, h2, h3, h4⟩ := b.ex x hx
      refine ⟨q ++ [o], s, hs, h1.snoc h3 ad, by rw [List.head?_append, h2]; rfl, by simp, ?_⟩
      rw [ctF_snoc h3, h4]
    · rw [if_neg z]
      exact b.ex y ((dn' y hy).resolve_left z)
  · obtain ⟨h1, h2⟩ := b.mono y hy
    exact ⟨up y h1, Nat.le_trans (le y h1) h2⟩
  · rcases h with h | ⟨rfl, rfl⟩
    · obtain ⟨h1, h2⟩ := b.done y z h hy
      exact ⟨up z h1, Nat.le_trans (le z h1) h2⟩
    · have := (b.mono y hy).2
      exact ⟨ino, by rw [ec, if_pos rfl]; omega⟩
/-- a round is over -/
theorem BfR.over {k0 : List Str} {c0 : Str → Nat} {t : Nat} {dn : Str → Str → Prop} (b0 : BfS ns es w src k0 c0 t) (b : BfR ns es w src k0 c0 ks c dn) (h : ∀ x o, x ∈ ns → Adj es x o → dn x o) : BfS ns es w src ks c (t + 1) := by
  refine ⟨b.nd, b.inN, b.ex, fun q s hs wk h1 x h2 hl => ?_⟩
  by_cases z : q.length ≤ t + 1
  · obtain ⟨a1, a2⟩ := b0.all q s hs wk h1 x h2 z
    obtain ⟨m1, m2⟩ := b.mono x a1
    exact ⟨m1, Nat.le_trans m2 a2⟩
  · rcases List.eq_nil_or_concat q with rfl | ⟨r, o, rfl⟩
    · cases h1
    rw [List.concat_eq_append] at *
    obtain rfl : o = x := by simpa using h2
    have rl : r.length ≤ t + 1 := by
      rw [List.length_append, List.length_singleton] at hl
      omega
    cases hr : r.getLast? with
    | none =>
      rw [List.getLast?_eq_none_iff] at hr
      subst hr
      simp at z
    | some y =>
      have wr : Wk es r := wk.left
      have hh : r.head? = some s := by
        cases r with
        | nil => cases hr
        | cons a r => exact h1
      obtain ⟨a1, a2⟩ := b0.all r s hs wr hh y hr rl
      have ad : Adj es y o := by
        rcases List.eq_nil_or_concat r with rfl | ⟨r0, y', rfl⟩
        · cases hr
        rw [List.concat_eq_append] at *
        obtain rfl : y' = y := by simpa using hr
        rw [List.append_assoc] at wk
        exact (wk_right wk).1
      obtain ⟨d1, d2⟩ := b.done y o (h y o (b0.inN y a1) ad) a1
      rw [ctF_snoc hr]
      exact ⟨d1, by omega⟩
theorem BfS.fin (ok : EsOk ns es f) (hin : ∀ x ∈ src, x ∈ ns) {t : Nat} (b : BfS ns es w src ks c t) (ht : ns.length ≤ t + 1) : (∀ x ∈ ks, MinC es w src x (c x)) ∧ ∀ q, ∀ s ∈ src, Wk es q → q.head? = some s → ∀ x, q.getLast? = some x → x ∈ ks := by
  have key : ∀ q, ∀ s ∈ src, Wk es q → q.head? = some s → ∀ x, q.getLast? = some x → x ∈ ks ∧ c x ≤ ctF w q := fun q s hs wk h1 x h2 => by
    obtain ⟨q', n1, n2, n3, n4, n5, _⟩ := simple_wk (w := w) q.length (Nat.le_refl _) wk h1 h2
    obtain ⟨a1, a2⟩ := b.all q' s hs n2 n3 x n4 (Nat.le_trans (nodup_len n1 (wk_in ok (hin s hs) n3 n2)) ht)
    exact ⟨a1, Nat.le_trans a2 n5⟩
  exact ⟨fun x hx => ⟨b.ex x hx, fun q s hs wk h1 h2 => (key q s hs wk h1 x h2).2⟩, fun q s hs wk h1 x h2 => (key q s hs wk h1 x h2).1⟩
end
/-! ### what costs nothing -/
section
variable {ns : List Str} {es : List (Str × Str)} {f : Str → Int}
def wF (f : Str → Int) (dr : Int) (x y : Str) : Nat := if slp f x y = dr then 1 else 0
theorem free_rr {dr : Int} (hd : dr = 1 ∨ dr = -1) : ∀ {q : List Str} {s x : Str}, Wk es q → q.head? = some s → q.getLast? = some x → ctF (wF f dr) q = 0 → Rr es f (-dr) s x
  | [a], s, x, _, h1, h2, _ => by
    obtain rfl : a = s := Option.some.inj h1
    obtain rfl : a = x := Option.some.inj h2
    exact .refl
  | a :: b :: r, s, x, wk, h1, h2, h0 => by
    obtain rfl : a = s := Option.some.inj h1
    have h0 : wF f dr a b + ctF (wF f dr) (b :: r) = 0 := h0
    rw [List.getLast?_cons_cons] at h2
    have ih := free_rr hd (q := b :: r) wk.2 rfl h2 (by omega)
    have sl : slp f a b = -dr := by
      have : wF f dr a b = 0 := by omega
      unfold wF at this
      split at this
      · cases this
      · rename_i h
        rcases slp_pm f a b with z | z <;> rcases hd with rfl | rfl <;> first | exact z | exact absurd z h
    exact (rr_snoc .refl wk.1 sl).trans ih
theorem rr_free {dr : Int} (hd : dr = 1 ∨ dr = -1) {s x : Str} (r : Rr es f (-dr) s x) : ∃ q, Wk es q ∧ q.head? = some s ∧ q.getLast? = some x ∧ ctF (wF f dr) q = 0 := by
  induction r with
  | refl => exact ⟨[s], trivial, rfl, rfl, rfl⟩
  | @step a b _ m o ih =>
    obtain ⟨q, h1, h2, h3, h4⟩ := ih
    have ad : Adj es a b := nbS_mem.mp m
    have sl : slp f a b = -dr := of_decide_eq_true o
    refine ⟨q ++ [b], h1.snoc h3 ad, by rw [List.head?_append, h2]; rfl, by simp, ?_⟩
    rw [ctF_snoc h3, h4]
    unfold wF
    rw [if_neg fun z => ?_]
    rcases hd with rfl | rfl <;> omega
theorem rr_rev2 (ok : EsOk ns es f) {dr : Int} (hd : dr = 1 ∨ dr = -1) {x y : Str} (r : Rr es f dr x y) : Rr es f (-dr) y x := by
  induction r with
  | refl => exact .refl
  | @step a b _ m o ih =>
    have ad : Adj es a b := nbS_mem.mp m
    have sl : slp f a b = dr := of_decide_eq_true o
    exact (rr_snoc .refl ad.symm (by rw [slp_neg ok ad, sl])).trans ih
/-- the nodes that are reached, and their cheapest costs -/
structure CstP (ns : List Str) (es : List (Str × Str)) (f : Str → Int) (src : List Str) (dr : Int) (ks : List Str) (c : Str → Nat) : Prop where
  nd : ks.Nodup
  inN : ∀ x ∈ ks, x ∈ ns
  min : ∀ x ∈ ks, MinC es (wF f dr) src x (c x)
  all : ∀ q, ∀ s ∈ src, Wk es q → q.head? = some s → ∀ x, q.getLast? = some x → x ∈ ks
variable {src ks ks2 : List Str} {c c2 : Str → Nat} {dr : Int}
theorem CstP.sub (a : CstP ns es f src dr ks c) {dr2 : Int} (b : CstP ns es f src dr2 ks2 c2) : ∀ x ∈ ks, x ∈ ks2 := fun x hx => by
  obtain ⟨q, s, hs, h1, h2, h3, _⟩ := (a.min x hx).ex
  exact b.all q s hs h1 h2 x h3
theorem CstP.perm (a : CstP ns es f src dr ks c) {dr2 : Int} (b : CstP ns es f src dr2 ks2 c2) : ks.Perm ks2 := (List.perm_ext_iff_of_nodup a.nd b.nd).mpr fun x => ⟨a.sub b x, b.sub a x⟩
theorem CstP.same (a : CstP ns es f src dr ks c) (b : CstP ns es f src dr ks2 c2) {x : Str} (hx : x ∈ ks) : c x = c2 x := (a.min x hx).uniq (b.min x (a.sub b x hx))
theorem CstP.zero (ok : EsOk ns es f) (hd : dr = 1 ∨ dr = -1) (a : CstP ns es f src dr ks c) {x : Str} (hx : x ∈ ks) : c x = 0 ↔ ∃ s ∈ src, Rr es f dr x s := by
  constructor
  · intro h
    obtain ⟨q, s, hs, h1, h2, h3, h4⟩ := (a.min x hx).ex
    have r := rr_rev2 ok (dr := -dr) (by omega) (free_rr hd h1 h2 h3 (by omega))
    rw [Int.neg_neg] at r
    exact ⟨s, hs, r⟩
  · rintro ⟨s, hs, r⟩
    obtain ⟨q, h1, h2, h3, h4⟩ := rr_free hd (rr_rev2 ok hd r)
    have := (a.min x hx).le q s hs h1 h2 h3
    omega
theorem CstP.reach (ok : EsOk ns es f) (hd : dr = 1 ∨ dr = -1) (a : CstP ns es f src dr ks c) {x : Str} (h : ∃ s ∈ src, Rr es f dr x s) : x ∈ ks := by
  obtain ⟨s, hs, r⟩ := h
  obtain ⟨q, h1, h2, h3, _⟩ := rr_free hd (rr_rev2 ok hd r)
  exact a.all q s hs h1 h2 x h3
end
end U

/-! all states that can be reached, found breadth-first: the plain law -/
namespace U
open PySem PySem.Spec PyProof.Rows L2
section
variable {ns : List Str} {es : List (Str × Str)} {f g h : Str → Int} {pn : List Str}
/-- the states found so far, the first at of them done -/
structure RchS (ns : List Str) (es : List (Str × Str)) (pn : List Str) (f : Str → Int) (ss : List (List Int × Nat)) (at_ : Nat) : Prop where
  nd : (ss.map (·.1)).Nodup
  ok : ∀ s ∈ ss, ∃ ms f', Plays ns es pn f ms f' ∧ ms.length = s.2 ∧ s.1 = ns.map f'
  z : ∃ r, ss = (ns.map f, 0) :: r
  mono : ∀ i j (hi : i ≤ j) (hj : j < ss.length), (ss[i]'(Nat.lt_of_le_of_lt hi hj)).2 ≤ ss[j].2
  top : ∀ (h : at_ < ss.length) j (hj : j < ss.length), ss[j].2 ≤ ss[at_].2 + 1
  cl : ∀ i (h : i < ss.length), i < at_ → ∀ f1, EsOk ns es f1 → ss[i].1 = ns.map f1 → ∀ m, Legal ns es f1 pn m → ∃ k, k ≤ ss[i].2 + 1 ∧ (ns.map (updf f1 m.1 m.2), k) ∈ ss
theorem RchS.start : RchS ns es pn f [(ns.map f, 0)] 0 := by
  refine ⟨by simp, fun s hs => ?_, ⟨[], rfl⟩, fun i j hi hj => ?_, fun h j hj => ?_, fun i h hi => absurd hi (Nat.not_lt_zero _)⟩
  · rw [List.mem_singleton.mp hs]
    exact ⟨[], f, .nil, rfl, rfl⟩
  · have : j = 0 := by
      have : j < 1 := hj
      omega
    subst this
    have : i = 0 := by omega
    subst this
    exact Nat.le_refl _
  · have : j = 0 := by
      have : j < 1 := hj
      omega
    subst this
    exact Nat.zero_le _
/-- one more -/
theorem RchS.add {ss : List (List Int × Nat)} {a : Nat} (r : RchS ns es pn f ss a) (ha : a < ss.length) {f1 : Str → Int} (e1 : ss[a].1 = ns.map f1) (ok1 : EsOk ns es f1) {m : Str × Int} (lg : Legal ns es f1 pn m) (new : ns.map (updf f1 m.1 m.2) ∉ ss.map (·.1)) :
    RchS ns es pn f (ss ++ [(ns.map (updf f1 m.1 m.2), ss[a].2 + 1)]) a := by
  have at1 : ∀ j (hj : j < ss.length) (hj2 : j < (ss ++ [(ns.map (updf f1 m.1 m.2), ss[a].2 + 1)]).length), (ss ++ [(ns.map (updf f1 m.1 m.2), ss[a].2 + 1)])[j] = ss[j] := fun j hj _ => List.getElem_append_left hj
  have at2 : ∀ j (hj2 : j < (ss ++ [(ns.map (updf f1 m.1 m.2), ss[a].2 + 1)]).length), ¬ j < ss.length → (ss ++ [(ns.map (updf f1 m.1 m.2), ss[a].2 + 1)])[j] = (ns.map (updf f1 m.1 m.2), ss[a].2 + 1) := fun j hj2 hn => by
    rw [List.length_append, List.length_singleton] at hj2
    have : j = ss.length := by omega
    subst this
    rw [List.getElem_append_right (Nat.le_refl _)]
    simp
  obtain ⟨r0, ez⟩ := r.z
  refine ⟨?_, fun s hs => ?_, ⟨r0 ++ [(ns.map (updf f1 m.1 m.2), ss[a].2 + 1)], congrArg (fun l => l ++ [(ns.map (updf f1 m.1 m.2), ss[a].2 + 1)]) ez⟩, fun i j hi hj => ?_, fun h j hj => ?_, fun i h hi g1 og eg m' lm => ?_⟩
  · rw [List.map_append, List.nodup_append]
    refine ⟨r.nd, by simp, fun x hx y hy e => ?_⟩
    rw [List.map_cons, List.map_nil, List.mem_singleton] at hy
    rw [e, hy] at hx
    exact new hx
  · rcases List.mem_append.mp hs with hs | hs
    · exact r.ok s hs
    · rw [List.mem_singleton.mp hs]
      obtain ⟨ms, f', p, l, e⟩ := r.ok _ (List.getElem_mem ha)
      have ag := e.symm.trans e1
      rw [List.map_inj_left] at ag
      have lg' : Legal ns es f' pn m := ⟨lg.mem, lg.pin, lg.val, by rw [ag _ lg.mem]; exact lg.own, fun z hz => by
        have : z ∈ ns := by
          rcases hz with hz | hz
          · exact (ok1.mem _ hz).2
          · exact (ok1.mem _ hz).1
        rw [ag z this]
        exact lg.nbr z hz⟩
      refine ⟨_, _, p.snoc lg', by rw [List.length_append, l]; rfl, ?_⟩
      show ns.map (updf f1 m.1 m.2) = ns.map (updf f' m.1 m.2)
      have ee := e.symm.trans e1
      rw [List.map_inj_left] at ee
      refine List.map_congr_left fun x hx => ?_
      unfold updf
      rw [ee x hx]
  · by_cases q : j < ss.length
    · rw [at1 j q hj, at1 i (by omega) (by omega)]
      exact r.mono i j hi q
    · rw [at2 j hj q]
      by_cases q2 : i < ss.length
      · rw [at1 i q2 (by omega)]
        exact r.top ha i q2
      · rw [at2 i (by omega) q2]
        exact Nat.le_refl _
  · rw [at1 a ha h]
    by_cases q : j < ss.length
    · rw [at1 j q hj]
      exact r.top ha j q
    · rw [at2 j hj q]
      exact Nat.le_refl _
  · have q : i < ss.length := by omega
    rw [at1 i q h] at eg ⊢
    obtain ⟨k, k1, k2⟩ := r.cl i q hi g1 og eg m' lm
    exact ⟨k, k1, List.mem_append_left _ k2⟩
/-- one is done -/
theorem RchS.done {ss : List (List Int × Nat)} {a : Nat} (r : RchS ns es pn f ss a) (ha : a < ss.length) (all : ∀ f1, EsOk ns es f1 → ss[a].1 = ns.map f1 → ∀ m, Legal ns es f1 pn m → ∃ k, k ≤ ss[a].2 + 1 ∧ (ns.map (updf f1 m.1 m.2), k) ∈ ss) : RchS ns es pn f ss (a + 1) :=
  ⟨r.nd, r.ok, r.z, r.mono, fun h j hj => Nat.le_trans (r.top ha j hj) (Nat.add_le_add_right (r.mono a (a + 1) (Nat.le_succ _) h) 1), fun i h hi f1 o1 e1 m lm => by
    by_cases q : i = a
    · subst q
      exact all f1 o1 e1 m lm
    · exact r.cl i h (by omega) f1 o1 e1 m lm⟩
/-- all that moves reach is found, at its distance -/
theorem RchS.all {ss : List (List Int × Nat)} (r : RchS ns es pn f ss ss.length) (okf : EsOk ns es f) (nd : ns.Nodup) {ms : List (Str × Int)} {f' : Str → Int} (p : Plays ns es pn f ms f') : ∃ k, k ≤ ms.length ∧ (ns.map f', k) ∈ ss := by
  induction p with
  | nil =>
    obtain ⟨r0, e⟩ := r.z
    exact ⟨0, Nat.le_refl _, by rw [e]; exact List.mem_cons_self⟩
  | @snoc ms f1 m p lg ih =>
    obtain ⟨k, k1, k2⟩ := ih
    obtain ⟨ok1, _⟩ := plays_lift okf nd p
    obtain ⟨i, hi, e⟩ := List.mem_iff_getElem.mp k2
    obtain ⟨k', q1, q2⟩ := r.cl i hi hi f1 ok1 (by rw [e]) m lg
    rw [e] at q1
    refine ⟨k', ?_, q2⟩
    rw [List.length_append, List.length_singleton]
    have : k' ≤ k + 1 := q1
    omega
/-- a feasible lift is played, one move for each unit -/
theorem lft_plays (okf : EsOk ns es f) (okg : EsOk ns es g) (nd : ns.Nodup) (l : Lft ns es f g pn h) : ∃ ms f', Plays ns es pn f ms f' ∧ (ms.length : Int) = sz ns h ∧ ∀ x ∈ ns, f' x = g x := by
  have key : ∀ (n : Nat) (ms : List (Str × Int)) (f' h' : Str → Int), AnyR ns es pn f h ms f' h' → sz ns h' = n → ∃ ms f' h', AnyR ns es pn f h ms f' h' ∧ sz ns h' = 0 := by
    intro n
    induction n with
    | zero => exact fun ms f' h' r e => ⟨ms, f', h', r, e⟩
    | succ n ih =>
      intro ms f' h' r e
      obtain ⟨ok', fe', _, _, _⟩ := r.keeps okf nd l.1
      cases ep : progF ns es f' h' pn with
      | nil =>
        have := (prog_some ok' nd fe').mp ep
        omega
      | cons m0 r0 =>
        have hm : m0 ∈ progF ns es f' h' pn := by rw [ep]; exact List.mem_cons_self
        have s := (prog_step ok' nd fe' hm).2.2.1
        exact ih _ _ _ (.snoc r hm) (by omega)
  have s0 := sz_nn (xs := ns) (h := h)
  obtain ⟨ms, f', h', r, z⟩ := key (sz ns h).toNat [] f h .nil (by omega)
  obtain ⟨_, _, szl, _, pl⟩ := r.keeps okf nd l.1
  have fin := r.done okf nd l.1 z
  refine ⟨ms, f', pl, by omega, fun x hx => ?_⟩
  rw [fin x hx]
  have := l.2 x hx
  have := okg.tri x hx
  omega
/-- what is found is what lifts reach -/
theorem RchS.lft {ss : List (List Int × Nat)} (r : RchS ns es pn f ss ss.length) (okf : EsOk ns es f) (okg : EsOk ns es g) (nd : ns.Nodup) : ns.map g ∈ ss.map (·.1) ↔ ∃ h, Lft ns es f g pn h := by
  constructor
  · intro hm
    obtain ⟨s, hs, e⟩ := List.mem_map.mp hm
    obtain ⟨ms, f', p, _, e2⟩ := r.ok s hs
    have eq := e2.symm.trans e
    rw [List.map_inj_left] at eq
    obtain ⟨_, _, _, q⟩ := plays_lift okf nd p
    refine ⟨_, feas_count okf p, fun x hx => ?_⟩
    have a := q x hx
    have b := eq x hx
    omega
  · rintro ⟨h, l⟩
    obtain ⟨ms, f', p, _, e⟩ := lft_plays okf okg nd l
    obtain ⟨k, _, hk⟩ := r.all okf nd p
    have : ns.map f' = ns.map g := List.map_congr_left e
    rw [this] at hk
    exact List.mem_map_of_mem (f := (·.1)) hk
end
end U

/-! which pins a lift may keep: the plain law -/
namespace U
open PySem PySem.Spec PyProof.Rows L2
section
variable {ns : List Str} {es : List (Str × Str)} {f g h0 : Str → Int}
theorem Feas.less {h : Str → Int} {S S' : List Str} (fe : Feas ns es f h S) (sub : ∀ x ∈ S', x ∈ S) : Feas ns es f h S' := ⟨fe.fit, fun x hx => fe.pin x (sub x hx), fe.cyc⟩
theorem Lft.less {h : Str → Int} {S S' : List Str} (l : Lft ns es f g S h) (sub : ∀ x ∈ S', x ∈ S) : Lft ns es f g S' h := ⟨l.1.less sub, l.2⟩
structure CmpS (es : List (Str × Str)) (f h0 : Str → Int) (S : List Str) : Prop where
  cyc : ∀ x ∈ S, ∀ z, Con es x z → Cyc es f z → h0 x = 0
  mod : ∀ x ∈ S, h0 x % 3 = 0
  eq : ∀ x ∈ S, ∀ y ∈ S, Con es x y → h0 x = h0 y
theorem CmpS.less {S S' : List Str} (c : CmpS es f h0 S) (sub : ∀ x ∈ S', x ∈ S) : CmpS es f h0 S' := ⟨fun x hx => c.cyc x (sub x hx), fun x hx => c.mod x (sub x hx), fun x hx y hy => c.eq x (sub x hx) y (sub y hy)⟩
end
end U

namespace Law
open PySem PySem.Spec PyProof.Rows L2 U


section
variable {P : Program} {w : World} {K : PySem.W.Frag} {mg : Str → Option Value} {base : Heap}
end
end Law

namespace Law
open PySem PySem.Spec PyProof.Rows L2 U


/-- the numbers over ns stand at c -/
def spNum : Sp := fun vs H Q _ => ∃ (g n e st c : Addr) (ns ord : List Str) (es : List (Addr × Str × Str)) (f h : Str → Int), vs = [.ref g, .ref c] ∧ GSt H g n e st ns ord es f ∧ H c = some (.dK (kvF ns h)) ∧ ∀ H' : Hp, Same H H' → Q (.bl true) H'
def spFit : Sp := fun vs H Q _ => ∃ (st c : Addr) (a b : Str) (ord ns : List Str) (f h : Str → Int), vs = [.ref st, .ref c, .str a, .str b] ∧ H st = some (.dK (kvF ord f)) ∧ H c = some (.dK (kvF ns h)) ∧ a ∈ ord ∧ b ∈ ord ∧ a ∈ ns ∧ b ∈ ns ∧
  ∀ H' : Hp, Same H H' → Q (.bl (fitB f h a b)) H'
section
variable {P : Program} {w : World} {K : PySem.W.Frag} {mg : Str → Option Value} {base : Heap}
structure D6 (P : Program) (w : World) (K : PySem.W.Frag) (mg : Str → Option Value) (base : Heap) : Prop where
  is_number_dict : Cal P w K mg base CX0 2 "is_number_dict" spNum
  fits_edge : Cal P w K mg base CX0 2 "fits_edge" spFit
end
end Law

/-! paths found level by level: paths_from, sloped_paths -/
namespace Law
open PySem PySem.Spec PyProof.Rows L2 U


theorem AdjAt.at {H : Hp} {d : Addr} {ns : List Str} {es : List (Str × Str)} {A : Str → Addr} (h : AdjAt H d ns es A) (ok : GrOk ns es) {n : Str} (hn : n ∈ ns) : H (A n) = some (.lst ((nbS es n).map V.str)) := by
  obtain ⟨ys, h1, h2, h3⟩ := h.li n hn
  rw [← nbS_of ok h2 h3]
  exact h1
/-- paths found stand at d -/
structure PathsAt (H : Hp) (d : Addr) (kp : List (Str × List Str)) (A : Str → Addr) : Prop where
  di : H d = some (.dK (kvG (keysF kp) fun n => .ref (A n)))
  li : ∀ c ∈ kp, H (A c.1) = some (.lst (c.2.map V.str))
theorem PathsAt.same {H H' : Hp} {d : Addr} {kp : List (Str × List Str)} {A : Str → Addr} (h : PathsAt H d kp A) (s : Same H H') : PathsAt H' d kp A := ⟨s _ _ h.di, fun c hc => s _ _ (h.li c hc)⟩
theorem kvG_congr {ns : List Str} {F G : Str → V} (h : ∀ n ∈ ns, F n = G n) : kvG ns F = kvG ns G := List.map_congr_left fun n hn => by rw [h n hn]
/-- one more path -/
theorem PathsAt.put {H : Hp} {d t : Addr} {kp : List (Str × List Str)} {A : Str → Addr} {o : Str} {p : List Str} (h : PathsAt H d kp A) (no : o ∉ keysF kp) (ht : H t = some (.lst (p.map V.str))) :
    PathsAt (upd H d (.dK (putK (kvG (keysF kp) fun n => .ref (A n)) (.inr o) (.ref t)))) d (kp ++ [(o, p)]) (updV A o t) := by
  refine ⟨?_, fun c hc => ?_⟩
  · rw [upd_same, kvG_new no, show keysF (kp ++ [(o, p)]) = keysF kp ++ [o] from List.map_append]
    congr 2
    refine kvG_congr fun m _ => ?_
    unfold updV
    by_cases z : m = o
    · rw [if_pos z, if_pos z]
    · rw [if_neg z, if_neg z]
  · unfold updV
    rcases List.mem_append.mp hc with hc | hc
    · rw [if_neg (fun z => no (by rw [← z]; exact List.mem_map_of_mem hc))]
      exact at_upd (ne_of (h.li c hc) h.di (by intro z; cases z)) (h.li c hc)
    · rw [List.mem_singleton] at hc
      subst hc
      rw [if_pos rfl]
      exact at_upd (ne_of ht h.di (by intro z; cases z)) ht
theorem PathsAt.off {H : Hp} {d q : Addr} {kp : List (Str × List Str)} {A : Str → Addr} {xs ys : List V} (h : PathsAt H d kp A) (hq : H q = some (.lst xs)) (off : ∀ c ∈ kp, A c.1 ≠ q) : PathsAt (upd H q (.lst ys)) d kp A :=
  ⟨at_upd (ne_of h.di hq (by intro z; cases z)) h.di, fun c hc => at_upd (off c hc) (h.li c hc)⟩
def slOk (f : Str → Int) (dir : Int) (a b : Str) : Bool := decide (slp f a b = dir)
section
variable {P : Program} {w : World} {K : PySem.W.Frag} {mg : Str → Option Value} {base : Heap}
end
end Law

/-! a lambda with parameters and without captured names: entered -/
namespace U
open PySem PySem.Spec PyProof.Rows L2
end U
namespace U
open PySem PySem.Spec PyProof.Rows L2 PySem.W
end U
namespace U
open PySem PySem.Spec PyProof.Rows L2 PySem.W
/-- no more than new things, the callers' frames but for their slots -/
def Jm (X : Cx) (s0 s' : Shared) : Prop := s'.os = s0.os ∧ AllBare s'.gens ∧ Un (frs X.stack) [] (fun _ => none) (fun _ => none) s0.heap s'.heap
/-- the paths stand, known to the object -/
def Hc (H : Hp) (s0 : Shared) (items : List (Addr × List Str)) : Hp := fun b => match H b, s0.heap.get? b with
  | some (.lst xs), some o => if b ∈ items.map (·.1) then some (.frz o (.lst xs)) else none
  | _, _ => none
section
variable {X : Cx} {pins : List (Addr × Obj)} {σ : L2.St} {H : Hp} {s0 s : Shared}
theorem Jm.refl (I : Inv X pins σ H s0) : Jm X s0 s0 := ⟨rfl, I.bare, Un.refl⟩
variable {A : Around} {q : Str} {params : Arguments} {body : Expr} {scope : Scope} {pm ctv : Value} {f c' l : Addr} {items : List (Addr × List Str)} {its : List Value} {N : List Str} {p : Str} {tb : TE} {k : Nat}
end
end U
namespace U
open PySem PySem.Spec PyProof.Rows L2 PySem.W LamX
end U

/-! a def whose code object is known (its table of lambdas is tracked) -/
namespace U
open PySem PySem.Spec PyProof.Rows L2 LamX
section
variable {P : Program} {w : World} {K : PySem.W.Frag} {mg : Str → Option Value} {base : Heap}
end
end U

/-! smallest_path -/
namespace Law
open PySem PySem.Spec PyProof.Rows L2 U LamX


section
variable {P : Program} {w : World} {K : PySem.W.Frag} {mg : Str → Option Value} {base : Heap}
end
end Law

/-! cycle_at, cycle_nodes, find_anchors -/
namespace Law
open PySem PySem.Spec PyProof.Rows L2 U LamX


theorem ExtN.li {H H' : Hp} (e : ExtN H H') {a : Addr} {xs : List V} (h : H a = some (.lst xs)) : H' a = some (.lst xs) := e _ _ h fun _ z => nomatch z
theorem ExtN.tu {H H' : Hp} (e : ExtN H H') {a : Addr} {xs : List V} (h : H a = some (.tup xs)) : H' a = some (.tup xs) := e _ _ h fun _ z => nomatch z
theorem ExtN.dk {H H' : Hp} (e : ExtN H H') {a : Addr} {xs : List (Key × V)} (h : H a = some (.dK xs)) : H' a = some (.dK xs) := e _ _ h fun _ z => nomatch z
theorem GSt.ext {H H' : Hp} {g n e st : Addr} {ns ord : List Str} {es : List (Addr × Str × Str)} {f : Str → Int} (h : GSt H g n e st ns ord es f) (x : ExtN H H') : GSt H' g n e st ns ord es f :=
  ⟨⟨ExtN.tu x h.gr.top, ExtN.tu x h.gr.nodes, ExtN.tu x h.gr.edges, fun y hy => ExtN.tu x (h.gr.pairs y hy)⟩, h.ok, h.pm, h.l2, h.l3, ExtN.dk x h.st, h.tri, h.pro⟩
section
variable {P : Program} {w : World} {K : PySem.W.Frag} {mg : Str → Option Value} {base : Heap}
end
end Law

/-! cycle_nodes, find_anchors -/
namespace Law
open PySem PySem.Spec PyProof.Rows L2 U LamX


section
variable {P : Program} {w : World} {K : PySem.W.Frag} {mg : Str → Option Value} {base : Heap}
end
end Law

/-! paths_from, components, root_paths, basis_cycles -/
namespace Law
open PySem PySem.Spec PyProof.Rows L2 U


section
variable {X : Cx} {o e : Expr} {es : List Expr} {to : TE} {t : TA} {apos cpos : Pos}
end
/-- lists of names stand, each at its own place -/
structure ListsAt (H : Hp) (l : Addr) (cs : List (Addr × List Str)) : Prop where
  li : H l = some (.lst (cs.map fun c => V.ref c.1))
  at_ : ∀ c ∈ cs, H c.1 = some (.lst (c.2.map V.str))
theorem ListsAt.same {H H' : Hp} {l : Addr} {cs : List (Addr × List Str)} (h : ListsAt H l cs) (s : Same H H') : ListsAt H' l cs := ⟨s _ _ h.li, fun c hc => s _ _ (h.at_ c hc)⟩
section
variable {P : Program} {w : World} {K : PySem.W.Frag} {mg : Str → Option Value} {base : Heap}
end
end Law

/-! root_paths, basis_cycles, path_sum, windings -/
namespace Law
open PySem PySem.Spec PyProof.Rows L2 U


section
variable {P : Program} {w : World} {K : PySem.W.Frag} {mg : Str → Option Value} {base : Heap}
end
end Law

/-! slopes as the laws count them; walks drawn -/
namespace Law
open PySem PySem.Spec PyProof.Rows L2 U


section
variable {P : Program} {w : World} {K : PySem.W.Frag} {mg : Str → Option Value} {base : Heap}
end
end Law

/-! components as a law finds them: the plain law -/
namespace U
open PySem PySem.Spec PyProof.Rows L2
end U

/-! reach, cycles, anchors as the laws find them -/
namespace Law
open PySem PySem.Spec PyProof.Rows L2 U


section
variable {P : Program} {w : World} {K : PySem.W.Frag} {mg : Str → Option Value} {base : Heap}
end
end Law

/-! the anchors, in their order -/
namespace Law
open PySem PySem.Spec PyProof.Rows L2 U LamX


open Classical in noncomputable def ancF (ns : List Str) (es : List (Str × Str)) (f : Str → Int) (pn : List Str) : List Str := ns.filter fun y => decide (y ∈ pn ∨ Cyc es f y)
section
variable {ns a b : List Str} {es : List (Str × Str)} {f : Str → Int} {pn : List Str}
theorem ancF_mem {x : Str} : x ∈ ancF ns es f pn ↔ x ∈ ns ∧ (x ∈ pn ∨ Cyc es f x) := by
  classical
  unfold ancF
  rw [List.mem_filter, decide_eq_true_iff]
end
section
variable {P : Program} {w : World} {K : PySem.W.Frag} {mg : Str → Option Value} {base : Heap}
end
end Law

/-! the values that a node may have: the plain law -/
namespace U
open PySem PySem.Spec PyProof.Rows L2
open Law (ancF ancF_mem)
section
variable {ns : List Str} {es : List (Str × Str)} {f h : Str → Int} {pn : List Str}
/-- a node's number next to that of a neighbour -/
theorem fit_adj (ok : EsOk ns es f) (fe : Fits es f h) {a b : Str} (k : Adj es a b) : slp f a b - 2 * (h a - h b) = 1 ∨ slp f a b - 2 * (h a - h b) = -1 := by
  rcases k with k | k
  · exact fit_pm.mp (fe _ k)
  · have := fit_pm.mp (fe _ k)
    have e := slp_neg ok (show Adj es b a from .inl k)
    simp only at this
    omega
theorem step_up (ok : EsOk ns es f) (fe : Fits es f h) {a b : Str} (k : Adj es a b) : h b ≤ h a + (wF f (-1) a b : Nat) := by
  have := fit_adj ok fe k
  unfold wF
  rcases slp_pm f a b with e | e
  · rw [if_neg (by omega)]
    omega
  · rw [if_pos e]
    omega
theorem path_up (ok : EsOk ns es f) (fe : Fits es f h) : ∀ {q : List Str} {s x : Str}, Wk es q → q.head? = some s → q.getLast? = some x → h x ≤ h s + (ctF (wF f (-1)) q : Nat)
  | [a], s, x, _, h1, h2 => by
    obtain rfl : a = s := Option.some.inj h1
    obtain rfl : a = x := Option.some.inj h2
    exact Int.le_add_of_nonneg_right (Int.natCast_nonneg _)
  | a :: b :: r, s, x, wk, h1, h2 => by
    obtain rfl : a = s := Option.some.inj h1
    rw [List.getLast?_cons_cons] at h2
    have ih := path_up ok fe (q := b :: r) wk.2 rfl h2
    have st := step_up ok fe wk.1
    have e : ctF (wF f (-1)) (a :: b :: r) = wF f (-1) a b + ctF (wF f (-1)) (b :: r) := rfl
    rw [e]
    omega
theorem anc_zero (fe : Feas ns es f h pn) {s : Str} (hs : s ∈ ancF ns es f pn) : h s = 0 := by
  rcases (ancF_mem.mp hs).2 with q | q
  · exact fe.pin s q
  · exact fe.cyc s q
section
variable {ks ks2 : List Str} {c c2 : Str → Nat}
theorem CstP.most (ok : EsOk ns es f) (a : CstP ns es f (ancF ns es f pn) (-1) ks c) (fe : Feas ns es f h pn) {x : Str} (hx : x ∈ ks) : h x ≤ (c x : Int) := by
  obtain ⟨q, s, hs, h1, h2, h3, h4⟩ := (a.min x hx).ex
  have := path_up ok fe.fit h1 h2 h3
  have := anc_zero fe hs
  omega
theorem CstP.near {src : List Str} {dr : Int} (a : CstP ns es f src dr ks c) {x y : Str} (hx : x ∈ ks) (k : Adj es x y) : y ∈ ks ∧ ∀ hy : y ∈ ks, c y ≤ c x + wF f dr x y := by
  obtain ⟨q, s, hs, h1, h2, h3, h4⟩ := (a.min x hx).ex
  have w2 := h1.snoc h3 k
  have hd : (q ++ [y]).head? = some s := by rw [List.head?_append, h2]; rfl
  have lst : (q ++ [y]).getLast? = some y := by simp
  refine ⟨a.all _ s hs w2 hd y lst, fun hy => ?_⟩
  have := (a.min y hy).le _ s hs w2 hd lst
  rw [ctF_snoc h3] at this
  omega
end
variable {ks ks2 : List Str} {c c2 : Str → Nat}
/-- read off the states that are reached -/
theorem RchS.vals {ss : List (List Int × Nat)} (r : RchS ns es pn f ss ss.length) (ok : EsOk ns es f) (nd : ns.Nodup) {i : Nat} (hi : i < ns.length) (v : Int) :
    (∃ s ∈ ss, s.1[i]? = some v) ↔ ∃ g h, EsOk ns es g ∧ Lft ns es f g pn h ∧ g ns[i] = v := by
  constructor
  · rintro ⟨s, hs, e⟩
    obtain ⟨ms, f', p, _, e2⟩ := r.ok s hs
    have ok' := (plays_off ok p).1
    have hm : ns.map f' ∈ ss.map (·.1) := by
      rw [← e2]
      exact List.mem_map_of_mem (f := (·.1)) hs
    obtain ⟨h, l⟩ := (r.lft ok ok' nd).mp hm
    refine ⟨f', h, ok', l, ?_⟩
    rw [e2, List.getElem?_map, List.getElem?_eq_getElem hi] at e
    exact Option.some.inj e
  · rintro ⟨g, h, gok, l, e⟩
    obtain ⟨s, hs, e2⟩ := List.mem_map.mp ((r.lft ok gok nd).mpr ⟨h, l⟩)
    refine ⟨s, hs, ?_⟩
    rw [e2, List.getElem?_map, List.getElem?_eq_getElem hi]
    exact congrArg some e
end
end U

/-! a def that calls itself -/
namespace Law
open PySem PySem.Spec PyProof.Rows L2 U
end Law

/-! dicts whose keys are tuples of numbers; tuples of three values -/
namespace U
open PySem PySem.Spec PyProof.Rows L2
def allT : Nat → List (List Int)
  | 0 => [[]]
  | n + 1 => (allT n).flatMap fun s => [0 :: s, 1 :: s, 2 :: s]
theorem allT_len : ∀ n, (allT n).length = 3 ^ n
  | 0 => rfl
  | n + 1 => by
    have key : ∀ xs : List (List Int), (xs.flatMap fun s => [0 :: s, 1 :: s, 2 :: s]).length = 3 * xs.length := by
      intro xs
      induction xs with
      | nil => rfl
      | cons x r ih =>
        rw [List.flatMap_cons, List.length_append, ih, List.length_cons]
        simp only [List.length_cons, List.length_nil]
        omega
    rw [allT, key, allT_len n, Nat.pow_succ, Nat.mul_comm]
theorem allT_mem : ∀ {n : Nat} {s : List Int}, s.length = n → (∀ v ∈ s, 0 ≤ v ∧ v < 3) → s ∈ allT n
  | 0, [], _, _ => List.mem_singleton.mpr rfl
  | n + 1, v :: s, h, b => by
    have ih := allT_mem (s := s) (Nat.succ.inj h) fun w hw => b w (List.mem_cons_of_mem _ hw)
    refine List.mem_flatMap.mpr ⟨s, ih, ?_⟩
    have := b v List.mem_cons_self
    have : v = 0 ∨ v = 1 ∨ v = 2 := by omega
    rcases this with rfl | rfl | rfl <;> simp
/-- few states -/
theorem RchS.few {ns : List Str} {es : List (Str × Str)} {pn : List Str} {f : Str → Int} {ss : List (List Int × Nat)} {a : Nat} (r : RchS ns es pn f ss a) (okf : EsOk ns es f) (nd : ns.Nodup) (n7 : ns.length ≤ 7) : ss.length ≤ 2187 := by
  have := nodup_len (ys := allT ns.length) r.nd fun s hs => by
    obtain ⟨t, ht, rfl⟩ := List.mem_map.mp hs
    obtain ⟨ms, f', p, _, e⟩ := r.ok t ht
    obtain ⟨ok', _⟩ := plays_lift okf nd p
    rw [e]
    refine allT_mem (List.length_map _) fun v hv => ?_
    obtain ⟨x, hx, rfl⟩ := List.mem_map.mp hv
    exact ok'.tri x hx
  rw [List.length_map, allT_len] at this
  have : 3 ^ ns.length ≤ 3 ^ 7 := Nat.pow_le_pow_right (by decide) n7
  omega
end U

/-! slices and sums of tuples, the tuple itself told -/
namespace Law
open PySem PySem.Spec PyProof.Rows L2 U
end Law

/-! a random problem: the graph, the state, the pins -/
namespace U
open PySem PySem.Spec PyProof.Rows L2
abbrev dP (e : Int × Int) : PyData := .tuple [.int e.1, .int e.2]
theorem eqv_dP {a b : Int × Int} : PyData.eqv (dP a) (dP b) = decide (a = b) := by
  obtain ⟨a1, a2⟩ := a
  obtain ⟨b1, b2⟩ := b
  rw [Bool.eq_iff_iff]
  simp [dP, PyData.eqv, PyData.eqvAll]
theorem any_dP {es : List (Int × Int)} {e : Int × Int} : ((es.map dP).any fun z => PyData.eqv z (dP e)) = decide (e ∈ es) := by
  rw [Bool.eq_iff_iff, List.any_eq_true, decide_eq_true_iff]
  constructor
  · rintro ⟨z, hz, h⟩
    obtain ⟨y, hy, rfl⟩ := List.mem_map.mp hz
    rw [eqv_dP, decide_eq_true_iff] at h
    rw [← h]
    exact hy
  · intro h
    exact ⟨_, List.mem_map_of_mem h, by rw [eqv_dP]; exact decide_eq_true rfl⟩
theorem dp_prs {K : PySem.W.Frag} {H : Hp} : ∀ {es : List (Addr × Int × Int)}, (∀ x ∈ es, SqT K H x.1 [.int x.2.1, .int x.2.2]) → DpAll K H (es.map fun x => V.ref x.1) ((es.map (·.2)).map dP)
  | [], _ => .nil
  | x :: r, h => .cons (.tup (h x List.mem_cons_self) (.cons (.int _) (.cons (.int _) .nil))) (dp_prs fun y hy => h y (List.mem_cons_of_mem _ hy))
theorem can_prs : ∀ {es : List (Int × Int)}, PyData.canLayAll0 (es.map dP) = true ∧ PyData.depthAll (es.map dP) ≤ 1
  | [] => by simp [PyData.canLayAll0, PyData.depthAll]
  | e :: r => by
    obtain ⟨a, b⟩ := can_prs (es := r)
    have c : (dP e).canLay0 = true := by simp [dP, PyData.canLay0, PyData.canLayAll0]
    have d : (dP e).depth = 1 := by simp [dP, PyData.depth, PyData.depthAll]
    rw [List.map_cons, PyData.canLayAll0, PyData.depthAll, a, c, d]
    exact ⟨rfl, by omega⟩
theorem rd_ninLP {K : PySem.W.Frag} {H : Hp} {Q : VK} {p q : Addr} {e : Int × Int} {es : List (Addr × Int × Int)} (hp : SqT K H p [.int e.1, .int e.2]) (hq : SqL K H q (es.map fun x => V.ref x.1)) (pr : ∀ x ∈ es, SqT K H x.1 [.int x.2.1, .int x.2.2])
    (h : Q (.bl (!decide (e ∈ es.map (·.2)))) H) : rNotInD K (.ref p) (.ref q) H Q := by
  refine ⟨dP e, _, .tup hp (.cons (.int _) (.cons (.int _) .nil)), .lst hq (dp_prs pr), ?_, ?_, ?_⟩
  · unfold SeqAt.shaped
    simp [dP, PyData.canLay0, PyData.canLayAll0, PyData.depth, PyData.depthAll]
  · obtain ⟨a, b⟩ := can_prs (es := es.map (·.2))
    unfold SeqAt.shaped
    rw [PyData.canLay0, a, PyData.depth, decide_eq_true (by omega)]
    rfl
  · rw [any_dP]
    exact h
/-- values by names -/
def fV : List Str → List Int → Str → Int
  | w :: ws, v :: vs, x => if x = w then v else fV ws vs x
  | _, _, _ => 0
theorem fV_at : ∀ {ws : List Str} {vs : List Int}, ws.Nodup → ∀ (j : Nat) (h : j < ws.length) (h2 : j < vs.length), fV ws vs ws[j] = vs[j]
  | w :: ws, v :: vs, nd, 0, _, _ => if_pos rfl
  | w :: ws, v :: vs, nd, j + 1, h, h2 => by
    have nd' := List.nodup_cons.mp nd
    have h' : j < ws.length := by simpa using h
    have h2' : j < vs.length := by simpa using h2
    have ne : ws[j] ≠ w := fun z => nd'.1 (z ▸ List.getElem_mem h')
    show (if ws[j] = w then v else fV ws vs ws[j]) = vs[j]
    rw [if_neg ne]
    exact fV_at nd'.2 j h' h2'
theorem getD_l {xs ys : List Int} {i : Nat} (h : i < xs.length) : (xs ++ ys).getD i 0 = xs.getD i 0 := by
  rw [List.getD_eq_getElem?_getD, List.getD_eq_getElem?_getD, List.getElem?_append_left h]
theorem getD_end {xs : List Int} {v : Int} : (xs ++ [v]).getD xs.length 0 = v := by
  rw [List.getD_eq_getElem?_getD, List.getElem?_append_right (Nat.le_refl _), Nat.sub_self]
  rfl
/-- pairs of places, each once, with other values -/
structure PrOk (vals : List Int) (prs : List (Nat × Nat)) : Prop where
  nd : prs.Nodup
  ok : ∀ x ∈ prs, x.1 < x.2 ∧ x.2 < vals.length ∧ vals.getD x.1 0 ≠ vals.getD x.2 0
theorem PrOk.nil {vals : List Int} : PrOk vals [] := ⟨List.nodup_nil, fun x h => nomatch h⟩
theorem PrOk.val {vals : List Int} {prs : List (Nat × Nat)} {v : Int} (h : PrOk vals prs) : PrOk (vals ++ [v]) prs := ⟨h.nd, fun x hx => by
  obtain ⟨a, b, c⟩ := h.ok x hx
  refine ⟨a, by rw [List.length_append]; omega, ?_⟩
  rw [getD_l (by omega), getD_l b]
  exact c⟩
theorem PrOk.add {vals : List Int} {prs : List (Nat × Nat)} {a b : Nat} (h : PrOk vals prs) (n : (a, b) ∉ prs) (h1 : a < b) (h2 : b < vals.length) (h3 : vals.getD a 0 ≠ vals.getD b 0) : PrOk vals (prs ++ [(a, b)]) := by
  refine ⟨?_, fun x hx => ?_⟩
  · rw [List.nodup_append]
    refine ⟨h.nd, by simp, fun x hx y hy e => ?_⟩
    rw [List.mem_singleton] at hy
    subst hy
    subst e
    exact n hx
  · rcases List.mem_append.mp hx with hx | hx
    · exact h.ok x hx
    · rw [List.mem_singleton] at hx
      subst hx
      exact ⟨h1, h2, h3⟩
theorem sort2 {a b : Str} {ys : List Str} (n : a ≠ b) (p : ys.Perm [a, b]) (s : ys.Pairwise fun a b => ¬ sLt b a) : ys = [(eOf a b).1, (eOf a b).2] := by
  have l := p.length_eq
  match ys, l with
  | [y1, y2], _ =>
    have m1 : y1 ∈ [a, b] := p.mem_iff.mp List.mem_cons_self
    have m2 : y2 ∈ [a, b] := p.mem_iff.mp (List.mem_cons_of_mem _ List.mem_cons_self)
    have ndp : [y1, y2].Nodup := p.nodup_iff.mpr (by simp [n])
    have ne : y1 ≠ y2 := by simpa using ndp
    have ns : ¬ sLt y2 y1 := by
      rw [List.pairwise_cons] at s
      exact s.1 y2 (List.mem_singleton.mpr rfl)
    simp only [List.mem_cons, List.not_mem_nil, or_false] at m1 m2
    unfold eOf
    rcases m1 with rfl | rfl <;> rcases m2 with rfl | rfl
    · exact absurd rfl ne
    · rw [if_pos (sLt_total ns ne)]
    · rw [if_neg ns]
    · exact absurd rfl ne
theorem nodup_ix {xs : List Str} (nd : xs.Nodup) {i j : Nat} {hi : i < xs.length} {hj : j < xs.length} (e : xs[i] = xs[j]) : i = j := by
  have h := List.pairwise_iff_getElem.mp (List.nodup_iff_pairwise_ne.mp nd)
  rcases Nat.lt_trichotomy i j with z | z | z
  · exact absurd e (h i j hi hj z)
  · exact z
  · exact absurd e.symm (h j i hj hi z)
theorem getDU {α : Type} {xs : List α} {i : Nat} {d : α} (h : i < xs.length) : xs.getD i d = xs[i] := by
  rw [List.getD_eq_getElem?_getD, List.getElem?_eq_getElem h]
  rfl
end U
namespace Law
open PySem PySem.Spec PyProof.Rows L2 U


abbrev iP (x : Nat × Nat) : Int × Int := ((x.1 : Int), (x.2 : Int))
/-- values and pairs being made -/
structure BK (H0 : Hp) (p vA pA : Addr) (vals : List Int) (prs : List (Addr × Nat × Nat)) (H : Hp) : Prop where
  go : Go p H0 H
  hv : H vA = some (.lst (vals.map V.int))
  hp : H pA = some (.lst (prs.map fun x => V.ref x.1))
  tp : ∀ x ∈ prs, H x.1 = some (.tup [.int (x.2.1 : Nat), .int (x.2.2 : Nat)])
structure BN (H0 : Hp) (p vA pA : Addr) : Prop where
  fv : H0 vA = none
  fp : H0 pA = none
  vp : vA ≠ p
  pp : pA ≠ p
  vq : vA ≠ pA
section
variable {H0 H H2 : Hp} {p vA pA : Addr} {vals : List Int} {prs : List (Addr × Nat × Nat)}
theorem PoolAt.offTB {q : Addr} {xs : List V} (h : PoolAt H p) (hq : H q = some (.tup xs)) : q ≠ p := by
  rintro rfl
  obtain ⟨ys, h⟩ := h.isL
  rw [hq] at h
  cases h
theorem BK.new (b : BK H0 p vA pA vals prs H) {t : Addr} {o : HO} (f : H t = none) : BK H0 p vA pA vals prs (upd H t o) :=
  ⟨b.go.new f, at_upd (ne_of_none b.hv f) b.hv, at_upd (ne_of_none b.hp f) b.hp, fun x hx => at_upd (ne_of_none (b.tp x hx) f) (b.tp x hx)⟩
theorem BK.step (b : BK H0 p vA pA vals prs H) (n : BN H0 p vA pA) (g : Go p H H2) : BK H0 p vA pA vals prs H2 :=
  ⟨b.go.trans g, g.at b.hv n.vp, g.at b.hp n.pp, fun x hx => g.at (b.tp x hx) (b.go.pool.offTB (b.tp x hx))⟩
theorem BK.val (b : BK H0 p vA pA vals prs H) (n : BN H0 p vA pA) {v : Int} : BK H0 p vA pA (vals ++ [v]) prs (upd H vA (.lst (vals.map V.int ++ [.int v]))) :=
  ⟨b.go.put n.fv (Ne.symm n.vp), by rw [upd_same, List.map_append]; rfl, at_upd (Ne.symm n.vq) b.hp, fun x hx => at_upd (ne_of (b.tp x hx) b.hv (by intro z; cases z)) (b.tp x hx)⟩
theorem BK.pair (b : BK H0 p vA pA vals prs H) (n : BN H0 p vA pA) {t : Addr} {x y : Nat} (ht : H t = some (.tup [.int (x : Nat), .int (y : Nat)])) : BK H0 p vA pA vals (prs ++ [(t, x, y)]) (upd H pA (.lst ((prs.map fun x => V.ref x.1) ++ [.ref t]))) :=
  ⟨b.go.put n.fp (Ne.symm n.pp), at_upd n.vq b.hv, by rw [upd_same, List.map_append]; rfl, fun z hz => by
    rcases List.mem_append.mp hz with hz | hz
    · exact at_upd (ne_of (b.tp z hz) b.hp (by intro z; cases z)) (b.tp z hz)
    · rw [List.mem_singleton] at hz
      subst hz
      exact at_upd (ne_of ht b.hp (by intro z; cases z)) ht⟩
end
theorem Go.same {p : Addr} {H H1 H2 : Hp} (a : Go p H H1) (s : Same H1 H2) : Go p H H2 := a.trans (Go.of_same a.pool s)
def PrsAt (H : Hp) (es : List (Addr × Str × Str)) : Prop := ∀ x ∈ es, H x.1 = some (.tup [.str x.2.1, .str x.2.2])
theorem PrsAt.same {H H' : Hp} {es : List (Addr × Str × Str)} (h : PrsAt H es) (s : Same H H') : PrsAt H' es := fun x hx => s _ _ (h x hx)
theorem PrsAt.go {p : Addr} {H H' : Hp} {es : List (Addr × Str × Str)} (h : PrsAt H es) (hp : PoolAt H p) (g : Go p H H') : PrsAt H' es := fun x hx => g.at (h x hx) (hp.offTB (h x hx))
/-- a random problem -/
def spProblem : Sp := fun vs H Q _ => ∃ (p : Addr) (most : Int), vs = [.ref p, .int most] ∧ PoolAt H p ∧ 0 ≤ most ∧ most ≤ 25 ∧
  ∀ (t g n e st ps : Addr) (ns ord pn : List Str) (es : List (Addr × Str × Str)) (f : Str → Int) (H' : Hp), Go p H H' → H t = none → H g = none → H st = none → H ps = none → H' t = some (.tup [.ref g, .ref st, .ref ps]) → GrAt H' g n e ns es → GrOk ns (es.map (·.2)) → ord.Perm ns → (ns.length : Int) ≤ most → es.length ≤ 1000 →
    H' st = some (.dK (kvF ord f)) → (∀ x ∈ ns, 0 ≤ f x ∧ f x < 3) → (∀ x ∈ es, f x.2.1 ≠ f x.2.2) → H' ps = some (.tup (pn.map V.str)) → (∀ x ∈ pn, x ∈ ns) → pn.length ≤ ns.length → Asc pn → Q (.ref t) H'
section
variable {P : Program} {w : World} {K : PySem.W.Frag} {mg : Str → Option Value} {base : Heap}
structure B3a (P : Program) (w : World) (K : PySem.W.Frag) (mg : Str → Option Value) (base : Heap) : Prop where
  _law_draw : Cal P w K mg base CX0 1 "_law_draw" spDraw
  _law_random_names : Cal P w K mg base CX0 3 "_law_random_names" spNamesB
theorem ok_problem {f : Addr} {fd : FuncData} (F : Fun K "_law_random_problem" "_law_random_problem" s__law_random_problem f fd) (B : Bt mg) (C : B3a P w K mg base) : FnG P w K mg base CX0 4 f fd ["_law_source", "_law_most"] spProblem := by
  refine fnG0 F sc__law_random_problem (fun vs H Q E h => ?_) (fun cdv A outer s H vs Q E hr h => ?_)
  · obtain ⟨p, most, rfl, _⟩ := h
    rfl
  · obtain ⟨p, most, rfl, hp0, m0, m1, q⟩ := h
    have nd := sc__law_random_problem.nd
    have hu := hr.u1
    have hu65 : (A.deeper (envOfC "_law_random_problem" (defScope s__law_random_problem) s.heap.objs.size f cdv)).units + 65 < cLine := by
      have := hr.u100
      omega
    refine ⟨_, (pss_cons (ps_set (i := 2) nd rfl (by first | exact Or.inl rfl | exact Or.inr rfl) (pe_lst pa_nil))
  (pss_cons (ps_set (i := 3) nd rfl (by first | exact Or.inl rfl | exact Or.inr rfl) (pe_lst pa_nil))
  (pss_cons (ps_for PassesOwn.never rfl (pi_range1 rfl B.range (pa_cons (pe_c C._law_draw hr (by decide) rfl (pa_cons (pv 0) (pa_cons (pe_op (kAdd K rfl) (pv 1) pe_int) pa_nil))) pa_nil)) (pg_name (i := 4) nd rfl (by first | exact Or.inl rfl | exact Or.inr rfl)) (pss_cons (ps_set (i := 5) nd rfl (by first | exact Or.inl rfl | exact Or.inr rfl) (pe_c C._law_draw hr (by decide) rfl (pa_cons (pv 0) (pa_cons pe_int pa_nil))))
  (pss_cons (ps_set (i := 6) nd rfl (by first | exact Or.inl rfl | exact Or.inr rfl) (pe_c C._law_draw hr (by decide) rfl (pa_cons (pv 0) (pa_cons pe_int pa_nil))))
  (C8.pss_cut (ps_if (PW.pt (pw_and (pt_cmpR uGt (pv 4) pe_int (nomark _)) (pw_and1 (pt_cmpR uGt (pv 6) pe_int (nomark _))))) (C8.pss_cut (ps_set (i := 7) nd rfl (by first | exact Or.inl rfl | exact Or.inr rfl) (pe_ifExp (pt_cmpR uLt (pv 6) pe_int (nomark _)) (pe_op uSub (pv 4) pe_int) (pe_c C._law_draw hr (by decide) rfl (pa_cons (pv 0) (pa_cons (pv 4) pa_nil)))))
  (pss_cons (ps_set (i := 5) nd rfl (by first | exact Or.inl rfl | exact Or.inr rfl) (pe_op uMod (pe_op (kAdd K rfl) (pe_op (kAdd K rfl) (pe_ix (kIx K rfl) (pv 2) (pv 7) (fun _ _ => rfl)) pe_int) (pe_op uMod (pv 5) pe_int)) pe_int))
  (pss_one (ps_expr (pe_bm PySem.F.plainAttrs_list PySem.F.slot_list_append PySem.F.type_list_append mt_append (pv 3) (pa_cons (pe_tup (pa_cons (pv 7) (pa_cons (pv 4) pa_nil))) pa_nil)))))) pss_nil)
  (pss_one (ps_expr (pe_bm PySem.F.plainAttrs_list PySem.F.slot_list_append PySem.F.type_list_append mt_append (pv 2) (pa_cons (pv 5) pa_nil))))))))
  (pss_cons (ps_set (i := 8) nd rfl (by first | exact Or.inl rfl | exact Or.inr rfl) (pe_c C._law_draw hr (by decide) rfl (pa_cons (pv 0) (pa_cons pe_int pa_nil))))
  (pss_cons (ps_for PassesOwn.never rfl (pi_range1 rfl B.range (pa_cons (pe_callB (kLen K rfl) (by rfl) B.len bb_len (pa_cons (pv 2) pa_nil)) pa_nil)) (pg_name (i := 4) nd rfl (by first | exact Or.inl rfl | exact Or.inr rfl)) (pss_one (ps_for PassesOwn.never rfl (pi_range1 rfl B.range (pa_cons (pv 4) pa_nil)) (pg_name (i := 7) nd rfl (by first | exact Or.inl rfl | exact Or.inr rfl)) (pss_one (ps_if (PW.pt (pw_and (pt_cmpR (kNinL K rfl hu65) (pe_tup (pa_cons (pv 7) (pa_cons (pv 4) pa_nil))) (pv 3) rfl) (pw_and (pt_cmpR (kNe K rfl hr.u64) (pe_ix (kIx K rfl) (pv 2) (pv 7) (fun _ _ => rfl)) (pe_ix (kIx K rfl) (pv 2) (pv 4) (fun _ _ => rfl)) (nomark _)) (pw_and1 (pt_cmpR uLt (pe_c C._law_draw hr (by decide) rfl (pa_cons (pv 0) (pa_cons pe_int pa_nil))) (pv 8) (nomark _)))))) (pss_one (ps_expr (pe_bm PySem.F.plainAttrs_list PySem.F.slot_list_append PySem.F.type_list_append mt_append (pv 3) (pa_cons (pe_tup (pa_cons (pv 7) (pa_cons (pv 4) pa_nil))) pa_nil)))) pss_nil)))))
  (pss_cons (ps_set (i := 9) nd rfl (by first | exact Or.inl rfl | exact Or.inr rfl) (pe_c C._law_random_names hr (by decide) rfl (pa_cons (pv 0) (pa_cons (pe_callB (kLen K rfl) (by rfl) B.len bb_len (pa_cons (pv 2) pa_nil)) pa_nil))))
  (pss_cons (ps_set (i := 10) nd rfl (by first | exact Or.inl rfl | exact Or.inr rfl) (pe_callB (kSorted K rfl hr.u64) (by rfl) B.sorted bb_sorted (pa_cons (pe_lc (own := [("_law_one", 11), ("_law_other", 12)]) rfl nd (ki_list K rfl (pv 3)) (blkOk_by (own := [("_law_one", 11), ("_law_other", 12)]) (N := nN__law_random_problem) (sc := defScope s__law_random_problem) (by decide +kernel)) (fun _ _ _ _ _ => (kg_tup (n := 2) K rfl rfl (pgs_cons (pg_name (i := 11) nd rfl (by first | exact Or.inl rfl | exact Or.inr rfl)) (pgs_cons (pg_name (i := 12) nd rfl (by first | exact Or.inl rfl | exact Or.inr rfl)) pgs_nil)))) (fun _ _ _ _ _ => pts_nil) (fun _ _ _ _ _ => (pe_callTy (kTuple K rfl) (by rfl) B.tuple bb_tuple (pa_cons (pe_callB (kSorted K rfl hr.u64) (by rfl) B.sorted bb_sorted (pa_cons (pe_lst (pa_cons (pe_ix (kIx K rfl) (pv 9) (pv 11) (fun _ _ => rfl)) (pa_cons (pe_ix (kIx K rfl) (pv 9) (pv 12) (fun _ _ => rfl)) pa_nil))) pa_nil)) pa_nil)))) pa_nil)))
  (pss_cons (ps_set (i := 13) nd rfl (by first | exact Or.inl rfl | exact Or.inr rfl) pe_dnewK)
  (pss_cons (ps_for PassesOwn.never rfl (pi_range1 rfl B.range (pa_cons (pe_callB (kLen K rfl) (by rfl) B.len bb_len (pa_cons (pv 9) pa_nil)) pa_nil)) (pg_name (i := 4) nd rfl (by first | exact Or.inl rfl | exact Or.inr rfl)) (pss_one (ps_dput hu (pv 13) (pe_ix (kIx K rfl) (pv 9) (pv 4) (fun _ _ => rfl)) (pe_ix (kIx K rfl) (pv 2) (pv 4) (fun _ _ => rfl)) rfl)))
  (pss_cons (ps_set (i := 14) nd rfl (by first | exact Or.inl rfl | exact Or.inr rfl) (pe_c C._law_draw hr (by decide) rfl (pa_cons (pv 0) (pa_cons pe_int pa_nil))))
  (pss_cons (ps_setLc (i := 15) (own := [("_law_word", 16)]) rfl nd rfl rfl (sw_true rfl rfl rfl (by decide +kernel)) (ki_list K rfl (pe_callB (kSorted K rfl hr.u64) (by rfl) B.sorted bb_sorted (pa_cons (pv 9) pa_nil))) (blkOk_by (own := [("_law_word", 16)]) (N := nN__law_random_problem) (sc := defScope s__law_random_problem) (by decide +kernel)) (fun _ _ _ _ _ => (pg_name (i := 16) nd rfl (by first | exact Or.inl rfl | exact Or.inr rfl))) (fun _ _ _ _ _ => (pts_one (PW.pt (pw_and (pt_cmpR uGt (pv 14) pe_int (nomark _)) (pw_and1 (pt_cmpR (kEq K rfl hr.u64) (pe_c C._law_draw hr (by decide) rfl (pa_cons (pv 0) (pa_cons pe_int pa_nil))) pe_int (nomark _))))))) (fun _ _ _ _ _ => (pv 16)))
  (pss_one (ps_ret (pe_tup (pa_cons (pe_tup (pa_cons (pe_callTy (kTuple K rfl) (by rfl) B.tuple bb_tuple (pa_cons (pe_callB (kSorted K rfl hr.u64) (by rfl) B.sorted bb_sorted (pa_cons (pv 9) pa_nil)) pa_nil)) (pa_cons (pe_callTy (kTuple K rfl) (by rfl) B.tuple bb_tuple (pa_cons (pv 10) pa_nil)) pa_nil))) (pa_cons (pv 13) (pa_cons (pe_callTy (kTuple K rfl) (by rfl) B.tuple bb_tuple (pa_cons (pv 15) pa_nil)) pa_nil))))))))))))))))), ?_⟩
    wtm_at "rd"
    intro vA fvA
    have g1 := (Go.refl hp0).new (o := .lst []) fvA
    have hvA := @upd_same H vA (.lst [])
    have nvp := hp0.ne fvA
    generalize upd H vA (.lst []) = H1 at g1 hvA
    wtm_at "rd"
    intro pA fpA
    have bn : BN H p vA pA := ⟨fvA, g1.free _ fpA, Ne.symm nvp, Ne.symm (g1.pool.ne fpA), ne_of_none hvA fpA⟩
    have b2 : BK H p vA pA [] [] (upd H1 pA (.lst [])) := ⟨g1.new fpA, at_upd (ne_of_none hvA fpA) hvA, upd_same, fun x h => nomatch h⟩
    generalize upd H1 pA (.lst []) = H2 at b2
    clear fpA hvA g1 fvA
    wtm_at "rd"
    refine use_draw b2.go.pool (by omega) (by omega) fun many H3 c0 c1 g => ?_
    have b3 := b2.step bn g
    clear b2 g
    wtm_at "rd"
    refine turnsR (fun i σ H' => ∃ (vals : List Int) (prs : List (Addr × Nat × Nat)) (us : List (Option V)), us.length = 13 ∧ σ = some (.ref p) :: some (.int most) :: some (.ref vA) :: some (.ref pA) :: us ∧ BK H p vA pA vals prs H' ∧ vals.length = i ∧ (∀ v ∈ vals, 0 ≤ v ∧ v < 3) ∧ PrOk vals (prs.map (·.2)) ∧ prs.length ≤ i) ⟨[], [], _, by decide, rfl, b3, rfl, (fun v h => nomatch h), .nil, Nat.le_refl _⟩ ?_ ?_
    · rintro i σ H' hi ⟨vals, prs, us, lu, rfl, bk, hvl, v3, po, pl⟩
      obtain ⟨u4, u5, u6, u7, u8, u9, u10, u11, u12, u13, u14, u15, u16, rfl⟩ : ∃ u4 u5 u6 u7 u8 u9 u10 u11 u12 u13 u14 u15 u16, us = [u4, u5, u6, u7, u8, u9, u10, u11, u12, u13, u14, u15, u16] := by
        match us, lu with
        | [u4, u5, u6, u7, u8, u9, u10, u11, u12, u13, u14, u15, u16], _ => exact ⟨_, _, _, _, _, _, _, _, _, _, _, _, _, rfl⟩
      wtm_at "rd"
      refine use_draw bk.go.pool (by decide) (by decide) fun v Ha v0 v1 g => ?_
      have bk := bk.step bn g
      wtm_at "rd"
      refine use_draw bk.go.pool (by decide) (by decide) fun d Hb d0 d1 g => ?_
      have bk := bk.step bn g
      wtm_at "rd"
      refine ⟨fun σ' H2 => ∃ (v' : Int) (u7 : Option V) (prs' : List (Addr × Nat × Nat)), σ' = [some (.ref p), some (.int most), some (.ref vA), some (.ref pA), some (.int (0 + (i : Int))), some (.int v'), some (.int d), u7, u8, u9, u10, u11, u12, u13, u14, u15, u16] ∧ BK H p vA pA vals prs' H2 ∧ 0 ≤ v' ∧ v' < 3 ∧ PrOk (vals ++ [v']) (prs'.map (·.2)) ∧ prs'.length ≤ i + 1, ?_, ?_⟩
      · wtm_at "rd"
        refine rd_split (fun c1 => ?_) (fun c1 => ?_)
        · wtm_at "rd"
          refine rd_split (fun c2 => ?_) (fun c2 => ?_)
          · wtm_at "rd"
            refine ⟨fun σ' H2 => ∃ j : Nat, j < i ∧ σ' = [some (.ref p), some (.int most), some (.ref vA), some (.ref pA), some (.int (0 + (i : Int))), some (.int v), some (.int d), some (.int j), u8, u9, u10, u11, u12, u13, u14, u15, u16] ∧ BK H p vA pA vals prs H2, ?_, ?_⟩
            · wtm_at "rd"
              refine rd_split (fun c3 => ?_) (fun c3 => ?_)
              · wtm_at "rd"
                exact ⟨i - 1, by omega, by rw [show (0 + (i : Int) - 1) = ((i - 1 : Nat) : Int) from by omega]; rfl, bk⟩
              · wtm_at "rd"
                refine use_draw bk.go.pool (by omega) (by omega) fun r Hc r0 r1 g => ?_
                exact ⟨r.toNat, by omega, by rw [show r = (r.toNat : Int) from by omega]; rfl, bk.step bn g⟩
            rintro σ' Hc ⟨j, hj, rfl, bk⟩
            have hjv : j < vals.length := by omega
            wtm_at "rd"
            refine rd_ixL (SqL.of bk.hv) (v := .int vals[j]) (atI_nat (by rw [List.getElem?_map, List.getElem?_eq_getElem hjv]; rfl)) ?_
            have vj := v3 _ (List.getElem_mem hjv)
            have eg : vals.getD j 0 = vals[j] := getDU hjv
            generalize vals[j] = x at *
            wtm_at "rd"
            refine rd_tyL bk.hp ?_
            wtm_at "rd"
            intro t ft
            have e0 : (0 + (i : Int)) = (i : Int) := Int.zero_add _
            rw [e0]
            have bk := bk.new (o := .tup [.int (j : Nat), .int (i : Nat)]) ft
            have ht := @upd_same Hc t (.tup [.int (j : Nat), .int (i : Nat)])
            generalize upd Hc t (.tup [.int (j : Nat), .int (i : Nat)]) = Hd at bk ht
            wtm_at "rd"
            refine rd_append bk.hp (by rw [List.length_map]; omega) ?_
            refine ⟨_, _, prs ++ [(t, j, i)], rfl, bk.pair bn ht, by omega, by omega, ?_, by rw [List.length_append]; exact Nat.add_le_add_right pl 1⟩
            rw [List.map_append]
            refine po.val.add (fun z => ?_) hj (by rw [List.length_append, hvl]; exact Nat.lt_succ_self _) ?_
            · obtain ⟨_, z2, _⟩ := po.ok _ z
              omega
            · rw [getD_l hjv, eg, ← hvl, getD_end]
              omega
          · wtm_at "rd"
            exact ⟨_, _, _, rfl, bk, v0, v1, po.val, by omega⟩
        · wtm_at "rd"
          exact ⟨_, _, _, rfl, bk, v0, v1, po.val, by omega⟩
      rintro σ' Hc ⟨v', u7, prs', rfl, bk, v0', v1', po', pl'⟩
      wtm_at "rd"
      refine rd_tyL bk.hv ?_
      wtm_at "rd"
      refine rd_append bk.hv (by rw [List.length_map]; omega) ?_
      refine ⟨vals ++ [v'], prs', _, by rfl, rfl, bk.val bn, by rw [List.length_append, hvl]; rfl, fun z hz => ?_, po', pl'⟩
      rcases List.mem_append.mp hz with hz | hz
      · exact v3 z hz
      · rw [List.mem_singleton] at hz
        omega
    rintro σ H4 ⟨vals, prs, us, lu, rfl, bk, hvl, v3, po, pl⟩
    obtain ⟨u4, u5, u6, u7, u8, u9, u10, u11, u12, u13, u14, u15, u16, rfl⟩ : ∃ u4 u5 u6 u7 u8 u9 u10 u11 u12 u13 u14 u15 u16, us = [u4, u5, u6, u7, u8, u9, u10, u11, u12, u13, u14, u15, u16] := by
      match us, lu with
      | [u4, u5, u6, u7, u8, u9, u10, u11, u12, u13, u14, u15, u16], _ => exact ⟨_, _, _, _, _, _, _, _, _, _, _, _, _, rfl⟩
    have vl25 : vals.length ≤ 25 := by omega
    wtm_at "rd"
    refine use_draw bk.go.pool (by decide) (by decide) fun dens Ha _ _ g => ?_
    have bk := bk.step bn g
    wtm_at "rd"
    refine rd_lenL (SqL.of bk.hv) ?_
    rw [List.length_map]
    wtm_at "rd"
    refine turnsR (fun i σ H' => ∃ (prs : List (Addr × Nat × Nat)) (u4 u7 : Option V), σ = [some (.ref p), some (.int most), some (.ref vA), some (.ref pA), u4, u5, u6, u7, some (.int dens), u9, u10, u11, u12, u13, u14, u15, u16] ∧ BK H p vA pA vals prs H' ∧ PrOk vals (prs.map (·.2)) ∧ prs.length ≤ 25 + 25 * i) ⟨prs, _, _, rfl, bk, po, by omega⟩ ?_ ?_
    · rintro i σ H' hi ⟨prs, u4, u7, rfl, bk, po, pl⟩
      have hi : i < vals.length := by omega
      wtm_at "rd"
      refine turnsR (fun j σ H' => ∃ (prs : List (Addr × Nat × Nat)) (u7 : Option V), σ = [some (.ref p), some (.int most), some (.ref vA), some (.ref pA), some (.int (0 + (i : Int))), u5, u6, u7, some (.int dens), u9, u10, u11, u12, u13, u14, u15, u16] ∧ BK H p vA pA vals prs H' ∧ PrOk vals (prs.map (·.2)) ∧ prs.length ≤ 25 + 25 * i + j) ⟨prs, _, rfl, bk, po, by omega⟩ ?_ ?_
      · rintro j σ H' hj ⟨prs, u7, rfl, bk, po, pl⟩
        have hj : j < i := by omega
        have hjv : j < vals.length := by omega
        have e0 : (0 + (i : Int)) = (i : Int) := Int.zero_add _
        have e1 : (0 + (j : Int)) = (j : Int) := Int.zero_add _
        rw [e0, e1]
        wtm_at "rd"
        intro t ft
        have bk := bk.new (o := .tup [.int (j : Nat), .int (i : Nat)]) ft
        have ht := @upd_same H' t (.tup [.int (j : Nat), .int (i : Nat)])
        generalize upd H' t (.tup [.int (j : Nat), .int (i : Nat)]) = Hb at bk ht
        wtm_at "rd"
        refine rd_ninLP (K := K) (e := ((j : Int), (i : Int))) (es := prs.map fun x => (x.1, iP x.2)) (SqT.of ht) (SqL.of (by rw [List.map_map]; exact bk.hp)) (fun x hx => by
          obtain ⟨y, hy, rfl⟩ := List.mem_map.mp hx
          exact SqT.of (bk.tp y hy)) ?_
        have emem : (((j : Int), (i : Int)) ∈ (prs.map fun x => (x.1, iP x.2)).map (·.2)) ↔ (j, i) ∈ prs.map (·.2) := by
          rw [List.map_map]
          constructor
          · intro z
            obtain ⟨y, hy, e⟩ := List.mem_map.mp z
            have e' : iP y.2 = ((j : Int), (i : Int)) := e
            have a1 := congrArg Prod.fst e'
            have a2 := congrArg Prod.snd e'
            have b1 : y.2.1 = j := by have : (y.2.1 : Int) = (j : Int) := a1; omega
            have b2 : y.2.2 = i := by have : (y.2.2 : Int) = (i : Int) := a2; omega
            exact List.mem_map.mpr ⟨y, hy, Prod.ext b1 b2⟩
          · intro z
            obtain ⟨y, hy, e⟩ := List.mem_map.mp z
            refine List.mem_map.mpr ⟨y, hy, ?_⟩
            show iP y.2 = _
            rw [e]
        wtm_at "rd"
        refine rd_nsplit (fun c1 => ?_) (fun c1 => ?_)
        · wtm_at "rd"
          refine rd_ixL (SqL.of bk.hv) (v := .int vals[j]) (atI_nat (by rw [List.getElem?_map, List.getElem?_eq_getElem hjv]; rfl)) ?_
          wtm_at "rd"
          refine rd_ixL (SqL.of bk.hv) (v := .int vals[i]) (atI_nat (by rw [List.getElem?_map, List.getElem?_eq_getElem hi]; rfl)) ?_
          wtm_at "rd"
          refine rd_nsplit (fun c2 => ?_) (fun c2 => ?_)
          · wtm_at "rd"
            refine use_draw bk.go.pool (by decide) (by decide) fun r Hc _ _ g => ?_
            have bk2 := bk.step bn g
            have ht2 := g.at ht (bk.go.pool.offTB ht)
            wtm_at "rd"
            refine rd_split (fun c3 => ?_) (fun c3 => ?_)
            · wtm_at "rd"
              refine rd_tyL bk2.hp ?_
              wtm_at "rd"
              intro t2 ft2
              have bk3 := bk2.new (o := .tup [.int (j : Nat), .int (i : Nat)]) ft2
              have ht3 := @upd_same Hc t2 (.tup [.int (j : Nat), .int (i : Nat)])
              generalize upd Hc t2 (.tup [.int (j : Nat), .int (i : Nat)]) = Hd at bk3 ht3
              wtm_at "rd"
              refine rd_append bk3.hp (by rw [List.length_map]; omega) ?_
              refine ⟨prs ++ [(t2, j, i)], _, rfl, bk3.pair bn ht3, ?_, by rw [List.length_append, List.length_singleton]; omega⟩
              rw [List.map_append]
              refine po.add (fun z => c1 (emem.mpr z)) hj hi ?_
              rw [getDU hjv, getDU hi]
              exact c2
            · wtm_at "rd"
              exact ⟨_, _, rfl, bk2, po, by omega⟩
          · wtm_at "rd"
            exact ⟨_, _, rfl, bk, po, by omega⟩
        · wtm_at "rd"
          exact ⟨_, _, rfl, bk, po, by omega⟩
      · rintro σ H' ⟨prs, u7, rfl, bk, po, pl⟩
        exact ⟨prs, _, _, rfl, bk, po, by omega⟩
    rintro σ H5 ⟨prs, u4, u7, rfl, bk, po, pl⟩
    have pl : prs.length ≤ 700 := by omega
    wtm_at "rd"
    refine rd_lenL (SqL.of bk.hv) ?_
    rw [List.length_map]
    wtm_at "rd"
    refine ⟨p, _, rfl, by omega, by omega, bk.go.pool, fun wA ws H6 g fwA hwA nu lw => ?_⟩
    have nwp := (bk.go.pool.ne fwA).symm
    have bk := bk.step bn g
    have lw : ws.length = vals.length := by omega
    clear g fwA
    wtm_at "rd"
    refine rd_forL (SqL.of bk.hp) ?_
    intro D fD
    refine lcL (K := K) (xs := prs.map fun x => V.ref x.1) (fun i H' => ∃ es : List (Addr × Str × Str), Same H6 H' ∧ H' D = some (.lst (es.map fun x => V.ref x.1)) ∧ PrsAt H' es ∧ es.map (·.2) = ((prs.take i).map fun x => eOf (ws.getD x.2.1 "") (ws.getD x.2.2 ""))) ⟨[], Same.new fD, upd_same, (fun x h => nomatch h), rfl⟩ ?_ ?_ ?_
    · rintro i H' hi ⟨es, sb, _⟩
      exact SqL.of (sb _ _ bk.hp)
    · rintro i y H' hy ⟨es, sb, hD, tp, em⟩
      obtain ⟨hi, rfl⟩ := map_at hy
      have pin := List.getElem_mem hi
      have ht := sb _ _ (bk.tp _ pin)
      have tk : prs.take (i + 1) = prs.take i ++ [prs[i]] := by
        rw [List.take_succ, List.getElem?_eq_getElem hi]
        rfl
      have le : es.length ≤ 700 := by
        have := congrArg List.length em
        rw [List.length_map, List.length_map, List.length_take] at this
        omega
      obtain ⟨x1, x2, x3⟩ := po.ok _ (List.mem_map_of_mem (f := fun x : Addr × Nat × Nat => x.2) pin)
      rcases hx : prs[i] with ⟨xa, a, b⟩
      rw [hx] at ht x1 x2 x3 tk
      dsimp only at ht x1 x2 x3 ⊢
      have ha : a < ws.length := by rw [lw]; exact Nat.lt_trans x1 x2
      have hb : b < ws.length := by rw [lw]; exact x2
      have ne : ws[a] ≠ ws[b] := fun z => by
        have := nodup_ix nu.nd z
        have x1 : a < b := x1
        omega
      refine rd_unp (SqT.of (xs := [.int (a : Nat), .int (b : Nat)]) ht) rfl ?_
      wtm_at "rd"
      refine rd_ixL (SqL.of (sb _ _ hwA)) (v := .str ws[a]) (atI_nat (by rw [List.getElem?_map, List.getElem?_eq_getElem ha]; rfl)) ?_
      wtm_at "rd"
      refine rd_ixL (SqL.of (sb _ _ hwA)) (v := .str ws[b]) (atI_nat (by rw [List.getElem?_map, List.getElem?_eq_getElem hb]; rfl)) ?_
      wtm_at "rd"
      intro t1 ft1
      have k1 := Same.new (o := .lst [.str ws[a], .str ws[b]]) ft1
      wtm_at "rd"
      refine rd_sortS (xs := [ws[a], ws[b]]) (SqL.of upd_same) (by show 2 ≤ 100000; decide) ?_
      intro ys py sy t2 ft2
      have k2 := Same.new (o := .lst (ys.map V.str)) ft2
      wtm_at "rd"
      refine rd_tupleL (SqL.of upd_same) ?_
      intro t3 ft3
      have k3 := Same.new (o := .tup (ys.map V.str)) ft3
      have sA := (k1.trans k2).trans k3
      have h3 := @upd_same (upd (upd H' t1 (.lst [.str ws[a], .str ws[b]])) t2 (.lst (ys.map V.str))) t3 (.tup (ys.map V.str))
      generalize upd (upd (upd H' t1 (.lst [.str ws[a], .str ws[b]])) t2 (.lst (ys.map V.str))) t3 (.tup (ys.map V.str)) = Ha at sA h3
      rw [sort2 ne py sy] at h3
      refine rd_acc (sA _ _ hD) (by rw [List.length_map]; omega) ?_
      have hDa := sA _ _ hD
      refine ⟨es ++ [(t3, eOf ws[a] ws[b])], same_put (sb.trans sA) fD, by rw [upd_same, List.map_append]; rfl, fun z hz => ?_, ?_⟩
      · rcases List.mem_append.mp hz with hz | hz
        · exact at_upd (ne_of (sA _ _ (tp z hz)) hDa (by intro z; cases z)) (sA _ _ (tp z hz))
        · rw [List.mem_singleton] at hz
          subst hz
          exact at_upd (ne_of h3 hDa (by intro z; cases z)) h3
      · rw [tk, List.map_append, List.map_append, em]
        show _ = _ ++ [eOf (ws.getD a "") (ws.getD b "")]
        rw [getDU ha, getDU hb]
        rfl
    rintro H7 ⟨es, s7, hD, tp, em⟩
    rw [List.length_map, List.take_length] at em
    have el : es.length ≤ 700 := by
      have := congrArg List.length em
      rw [List.length_map, List.length_map] at this
      omega
    have g7 := bk.go.same s7
    have hw := s7 _ _ hwA
    have hv := s7 _ _ bk.hv
    clear hwA bk s7 fD
    wtm_at "rd"
    refine rd_sortE (SqL.of hD) (fun x hx => SqT.of (tp x hx)) (by omega) ?_
    intro es2 pe se
    have tp : PrsAt H7 es2 := fun x hx => tp x (pe.mem_iff.mp hx)
    intro eA feA
    have nep := (g7.pool.ne feA).symm
    have k := Same.new (o := .lst (es2.map fun x => V.ref x.1)) feA
    have he := @upd_same H7 eA (.lst (es2.map fun x => V.ref x.1))
    have hw := k _ _ hw
    have hv := k _ _ hv
    have tp := tp.same k
    have g7 := g7.same k
    generalize upd H7 eA (.lst (es2.map fun x => V.ref x.1)) = H8 at he hw hv tp g7
    clear k feA hD
    wtm_at "rd"
    intro stA fst
    have nsp := (g7.pool.ne fst).symm
    have nws := ne_of_none hw fst
    have nvs := ne_of_none hv fst
    have nes := ne_of_none he fst
    have fst0 := g7.free _ fst
    have k := Same.new (o := .dK []) fst
    have hs := @upd_same H8 stA (.dK [])
    have hw := k _ _ hw
    have hv := k _ _ hv
    have he := k _ _ he
    have tp := tp.same k
    have g7 := g7.same k
    generalize upd H8 stA (.dK []) = H9 at he hw hv tp g7 hs
    clear k fst
    wtm_at "rd"
    refine rd_lenL (SqL.of hw) ?_
    rw [List.length_map]
    wtm_at "rd"
    refine turnsR (fun i σ H' => ∃ u4 : Option V, σ = [some (.ref p), some (.int most), some (.ref vA), some (.ref pA), u4, u5, u6, u7, some (.int dens), some (.ref wA), some (.ref eA), u11, u12, some (.ref stA), u14, u15, u16] ∧ Go p H H' ∧ But stA H9 H' ∧ H' stA = some (.dK (kvF (ws.take i) (fV ws vals)))) ⟨_, rfl, g7, But.refl, hs⟩ ?_ ?_
    · rintro i σ H' hi ⟨u4, rfl, g, bt, hs⟩
      have hi : i < ws.length := by omega
      have hiv : i < vals.length := by omega
      have e0 : (0 + (i : Int)) = (i : Int) := Int.zero_add _
      rw [e0]
      wtm_at "rd"
      refine rd_ixL (SqL.of (bt _ _ nvs hv)) (v := .int vals[i]) (atI_nat (by rw [List.getElem?_map, List.getElem?_eq_getElem hiv]; rfl)) ?_
      wtm_at "rd"
      refine rd_ixL (SqL.of (bt _ _ nws hw)) (v := .str ws[i]) (atI_nat (by rw [List.getElem?_map, List.getElem?_eq_getElem hi]; rfl)) ?_
      refine rd_dset hs (k := .inr ws[i]) rfl (by rw [List.length_map, List.length_take]; omega) ?_
      refine ⟨_, rfl, g.put fst0 (Ne.symm nsp), bt.trans But.upd, ?_⟩
      have nin : ws[i] ∉ ws.take i := fun z => by
        obtain ⟨j, hj, e⟩ := List.mem_iff_getElem.mp z
        rw [List.getElem_take] at e
        rw [List.length_take] at hj
        have := nodup_ix nu.nd e
        omega
      rw [upd_same, kvF_new nin, show ws.take (i + 1) = ws.take i ++ [ws[i]] from by rw [List.take_succ, List.getElem?_eq_getElem hi]; rfl]
      congr 2
      refine kvF_congr fun x hx => ?_
      unfold updf
      split
      · rename_i c
        rw [c]
        exact (fV_at nu.nd i hi hiv).symm
      · rfl
    rintro σ H10 ⟨u4, rfl, g, bt, hs⟩
    rw [show ((ws.length : Int)).toNat = ws.length from rfl, List.take_length] at hs
    have hw := bt _ _ nws hw
    have he := bt _ _ nes he
    have tp : PrsAt H10 es2 := fun x hx => bt _ _ (ne_of (tp x hx) (by assumption) (by intro z; cases z)) (tp x hx)
    clear bt hv
    wtm_at "rd"
    refine use_draw g.pool (by decide) (by decide) fun share H11 _ _ gd => ?_
    have hw := gd.at hw nwp
    have he := gd.at he nep
    have hs := gd.at hs nsp
    have tp := tp.go g.pool gd
    have g := g.trans gd
    clear gd
    wtm_at "rd"
    refine rd_sortS (SqL.of hw) (by omega) ?_
    intro ns1 pn1 sn1 l1 fl1
    have nl1 := (g.pool.ne fl1).symm
    have k := Same.new (o := .lst (ns1.map V.str)) fl1
    have hl1 := @upd_same H11 l1 (.lst (ns1.map V.str))
    have hw := k _ _ hw
    have he := k _ _ he
    have hs := k _ _ hs
    have tp := tp.same k
    have g := g.same k
    generalize upd H11 l1 (.lst (ns1.map V.str)) = H12 at hl1 hw he hs tp g
    clear k fl1
    wtm_at "rd"
    refine rd_forL (SqL.of hl1) ?_
    intro D2 fD2
    have nD2p := g.pool.ne fD2
    refine lcL (K := K) (xs := ns1.map V.str) (fun i H' => ∃ pn : List Str, pn.Sublist (ns1.take i) ∧ Go p H12 H' ∧ H' D2 = some (.lst (pn.map V.str))) ⟨[], .slnil, (Go.refl g.pool).new fD2, upd_same⟩ ?_ ?_ ?_
    · rintro i H' hi ⟨pn, _, ga, _⟩
      exact SqL.of (ga.at hl1 nl1)
    · rintro i y H' hy ⟨pn, sl, ga, hD2⟩
      obtain ⟨hi, rfl⟩ := map_at hy
      have lp := sl.length_le
      rw [List.length_take] at lp
      have ln1 := pn1.length_eq
      have tk : ns1.take (i + 1) = ns1.take i ++ [ns1[i]] := by
        rw [List.take_succ, List.getElem?_eq_getElem hi]
        rfl
      have skip : pn.Sublist (ns1.take (i + 1)) := by
        rw [tk]
        exact sl.trans (List.sublist_append_left _ _)
      wtm_at "rd"
      refine rd_split (fun c1 => ?_) (fun c1 => ?_)
      · wtm_at "rd"
        refine use_draw ga.pool (by decide) (by decide) fun r Hb _ _ gb => ?_
        have hD3 := gb.at hD2 (Ne.symm nD2p)
        have gc := ga.trans gb
        wtm_at "rd"
        refine rd_split (fun c2 => ?_) (fun c2 => ?_)
        · wtm_at "rd"
          refine rd_acc hD3 (by rw [List.length_map]; omega) ?_
          refine ⟨pn ++ [ns1[i]], ?_, gc.put fD2 nD2p, by rw [upd_same, List.map_append]; rfl⟩
          rw [tk]
          exact sl.append (List.Sublist.refl _)
        · exact ⟨pn, skip, gc, hD3⟩
      · wtm_at "rd"
        exact ⟨pn, skip, ga, hD2⟩
    rintro H13 ⟨pn, sl, ga, hD2⟩
    rw [List.length_map, List.take_length] at sl
    have hw := ga.at hw nwp
    have he := ga.at he nep
    have hs := ga.at hs nsp
    have tp := tp.go g.pool ga
    have g := g.trans ga
    clear ga hl1 fD2
    wtm_at "rd"
    refine rd_sortS (SqL.of hw) (by omega) ?_
    intro ns pn2 sn
    intro l2 fl2
    have kl2 := Same.new (o := .lst (ns.map V.str)) fl2
    have hl2 := @upd_same H13 l2 (.lst (ns.map V.str))
    have he := kl2 _ _ he
    have hs := kl2 _ _ hs
    have hD2 := kl2 _ _ hD2
    have tp := tp.same kl2
    have g := g.same kl2
    generalize upd H13 l2 (.lst (ns.map V.str)) = H14 at hl2 he hs hD2 tp g
    clear kl2 fl2
    wtm_at "rd"
    refine rd_tupleL (SqL.of hl2) ?_
    intro n fn
    have kn := Same.new (o := .tup (ns.map V.str)) fn
    have hn := @upd_same H14 n (.tup (ns.map V.str))
    have he := kn _ _ he
    have hs := kn _ _ hs
    have hD2 := kn _ _ hD2
    have tp := tp.same kn
    have g := g.same kn
    generalize upd H14 n (.tup (ns.map V.str)) = H15 at hn he hs hD2 tp g
    clear kn fn
    wtm_at "rd"
    refine rd_tupleL (SqL.of he) ?_
    intro e fe
    have ke := Same.new (o := .tup (es2.map fun x => V.ref x.1)) fe
    have he := @upd_same H15 e (.tup (es2.map fun x => V.ref x.1))
    have hn := ke _ _ hn
    have hs := ke _ _ hs
    have hD2 := ke _ _ hD2
    have tp := tp.same ke
    have g := g.same ke
    generalize upd H15 e (.tup (es2.map fun x => V.ref x.1)) = H16 at he hn hs hD2 tp g
    clear ke fe
    wtm_at "rd"
    intro gr fgr
    have fgr0 := g.free _ fgr
    have k := Same.new (o := .tup [.ref n, .ref e]) fgr
    have hgr := @upd_same H16 gr (.tup [.ref n, .ref e])
    have hn := k _ _ hn
    have he := k _ _ he
    have hs := k _ _ hs
    have hD2 := k _ _ hD2
    have tp := tp.same k
    have g := g.same k
    generalize upd H16 gr (.tup [.ref n, .ref e]) = H17 at hgr hn he hs hD2 tp g
    clear k fgr
    wtm_at "rd"
    refine rd_tupleL (SqL.of hD2) ?_
    intro ps fps
    have fps0 := g.free _ fps
    have k := Same.new (o := .tup (pn.map V.str)) fps
    have hps := @upd_same H17 ps (.tup (pn.map V.str))
    have hn := k _ _ hn
    have he := k _ _ he
    have hs := k _ _ hs
    have hgr := k _ _ hgr
    have tp := tp.same k
    have g := g.same k
    generalize upd H17 ps (.tup (pn.map V.str)) = H18 at hps hgr hn he hs tp g
    clear k fps
    wtm_at "rd"
    intro t ft
    have ft0 := g.free _ ft
    have k := Same.new (o := .tup [.ref gr, .ref stA, .ref ps]) ft
    have ht := @upd_same H18 t (.tup [.ref gr, .ref stA, .ref ps])
    have hn := k _ _ hn
    have he := k _ _ he
    have hs := k _ _ hs
    have hgr := k _ _ hgr
    have hps := k _ _ hps
    have tp := tp.same k
    have g := g.same k
    generalize upd H18 t (.tup [.ref gr, .ref stA, .ref ps]) = H19 at ht hps hgr hn he hs tp g
    clear k ft
    have nn := nu.perm pn2
    have nn1 := nu.perm pn1
    have inE : ∀ x ∈ es2, ∃ a b, ∃ (ha : a < ws.length) (hb : b < ws.length), a < b ∧ x.2 = eOf ws[a] ws[b] ∧ fV ws vals ws[a] ≠ fV ws vals ws[b] := fun x hx => by
      have m := List.mem_map_of_mem (f := fun x : Addr × Str × Str => x.2) (pe.mem_iff.mp hx)
      rw [em] at m
      obtain ⟨y, hy, e⟩ := List.mem_map.mp m
      obtain ⟨x1, x2, x3⟩ := po.ok _ (List.mem_map_of_mem (f := fun x : Addr × Nat × Nat => x.2) hy)
      have ha : y.2.1 < ws.length := by rw [lw]; exact Nat.lt_trans x1 x2
      have hb : y.2.2 < ws.length := by rw [lw]; exact x2
      refine ⟨y.2.1, y.2.2, ha, hb, x1, ?_, ?_⟩
      · have e' : eOf (ws.getD y.2.1 "") (ws.getD y.2.2 "") = x.2 := e
        rw [getDU ha, getDU hb] at e'
        exact e'.symm
      · rw [fV_at nu.nd _ ha (by omega), fV_at nu.nd _ hb x2, ← getDU (d := (0 : Int)) (by omega : y.2.1 < vals.length), ← getDU (d := (0 : Int)) x2]
        exact x3
    have pe2 : (es2.map (·.2)).Perm (es.map (·.2)) := pe.map _
    have ndE : (es.map (·.2)).Nodup := by
      rw [em, List.nodup_iff_pairwise_ne, List.pairwise_map]
      have h := po.nd
      rw [List.nodup_iff_pairwise_ne, List.pairwise_map] at h
      refine (List.Pairwise.and_mem.mp h).imp ?_
      intro x y ⟨hx, hy, ne⟩ e
      obtain ⟨x1, x2, x3⟩ := po.ok _ (List.mem_map_of_mem (f := fun x : Addr × Nat × Nat => x.2) hx)
      obtain ⟨y1, y2, y3⟩ := po.ok _ (List.mem_map_of_mem (f := fun x : Addr × Nat × Nat => x.2) hy)
      have hxa : x.2.1 < ws.length := by rw [lw]; exact Nat.lt_trans x1 x2
      have hxb : x.2.2 < ws.length := by rw [lw]; exact x2
      have hya : y.2.1 < ws.length := by rw [lw]; exact Nat.lt_trans y1 y2
      have hyb : y.2.2 < ws.length := by rw [lw]; exact y2
      rw [getDU hxa, getDU hxb, getDU hya, getDU hyb] at e
      rcases eOf_inj e with ⟨e1, e2⟩ | ⟨e1, e2⟩
      · have a1 := nodup_ix nu.nd e1
        have a2 := nodup_ix nu.nd e2
        exact ne (Prod.ext a1 a2)
      · have a1 := nodup_ix nu.nd e1
        have a2 := nodup_ix nu.nd e2
        omega
    have asc2 : Asc ns := asc_of_sorted sn nn.nd
    have asc1 : Asc ns1 := asc_of_sorted sn1 nn1.nd
    refine q t gr n e stA ps ns ws pn es2 (fV ws vals) _ g ft0 fgr0 fst0 fps0 ht ⟨hgr, hn, he, tp⟩ ⟨⟨asc2, nn.ok⟩, ?_, ?_, ?_⟩ pn2.symm (by rw [pn2.length_eq]; omega) (by rw [pe.length_eq]; omega) hs (fun x hx => ?_) (fun x hx => ?_) hps (fun x hx => pn2.mem_iff.mpr (pn1.mem_iff.mp (sl.mem hx))) (by have := sl.length_le; rw [pn1.length_eq] at this; rw [pn2.length_eq]; exact this) (asc1.sublist sl)
    · refine ascE_of_sorted ?_ (pe2.nodup_iff.mpr ndE)
      rw [List.pairwise_map]
      exact se
    · intro y hy
      obtain ⟨x, hx, rfl⟩ := List.mem_map.mp hy
      obtain ⟨a, b, ha, hb, h1, h2, h3⟩ := inE x hx
      rw [h2]
      exact eOf_lt fun z => h3 (by rw [z])
    · intro y hy
      obtain ⟨x, hx, rfl⟩ := List.mem_map.mp hy
      obtain ⟨a, b, ha, hb, h1, h2, h3⟩ := inE x hx
      rw [h2]
      have m1 := pn2.mem_iff.mpr (List.getElem_mem ha)
      have m2 := pn2.mem_iff.mpr (List.getElem_mem hb)
      rcases eOf_cases ws[a] ws[b] with z | z <;> rw [z]
      · exact ⟨m1, m2⟩
      · exact ⟨m2, m1⟩
    · obtain ⟨j, hj, rfl⟩ := List.mem_iff_getElem.mp (pn2.mem_iff.mp hx)
      rw [fV_at nu.nd j hj (by omega)]
      exact v3 _ (List.getElem_mem _)
    · obtain ⟨a, b, ha, hb, h1, h2, h3⟩ := inE x hx
      rw [h2]
      rcases eOf_cases ws[a] ws[b] with z | z <;> rw [z]
      · exact h3
      · exact Ne.symm h3
end
end Law


/-! paths_in, mentioned -/
namespace U
open PySem PySem.Spec PyProof.Rows L2
/-- a part of an obstruction, and the paths in it: a name, a path, or a tuple of parts -/
def PAt : Nat → Hp → V → List (List Str) → Prop
  | 0, H, v, ps => (∃ x, v = .str x ∧ ps = [[x]]) ∨ ∃ a p, v = .ref a ∧ H a = some (.lst (p.map V.str)) ∧ ps = [p]
  | n + 1, H, v, ps => ((∃ x, v = .str x ∧ ps = [[x]]) ∨ ∃ a p, v = .ref a ∧ H a = some (.lst (p.map V.str)) ∧ ps = [p]) ∨
    ∃ (a : Addr) (xs : List (V × List (List Str))), v = .ref a ∧ H a = some (.tup (xs.map (·.1))) ∧ (∀ x ∈ xs, PAt n H x.1 x.2) ∧ ps = xs.flatMap (·.2)
theorem PAt.same {H H' : Hp} (s : Same H H') : ∀ {n : Nat} {v : V} {ps : List (List Str)}, PAt n H v ps → PAt n H' v ps
  | 0, v, ps, h => by
    rcases h with h | ⟨a, p, e, ha, e2⟩
    · exact .inl h
    · exact .inr ⟨a, p, e, s _ _ ha, e2⟩
  | n + 1, v, ps, h => by
    rcases h with (h | ⟨a, p, e, ha, e2⟩) | ⟨a, xs, e, ha, hx, e2⟩
    · exact .inl (.inl h)
    · exact .inl (.inr ⟨a, p, e, s _ _ ha, e2⟩)
    · exact .inr ⟨a, xs, e, s _ _ ha, fun x h => PAt.same s (hx x h), e2⟩
def LstsAt (H : Hp) (qs : List (Addr × List Str)) : Prop := ∀ q ∈ qs, H q.1 = some (.lst (q.2.map V.str))
theorem LstsAt.same {H H' : Hp} {qs : List (Addr × List Str)} (h : LstsAt H qs) (s : Same H H') : LstsAt H' qs := fun q hq => s _ _ (h q hq)
end U
namespace Law
open PySem PySem.Spec PyProof.Rows L2 U


section
variable {P : Program} {w : World} {K : PySem.W.Frag} {mg : Str → Option Value} {base : Heap}
end
end Law

/-! mentioned -/
namespace U
open PySem PySem.Spec PyProof.Rows L2
/-- the edges along a path -/
def edgesP : List Str → List (Str × Str)
  | x :: y :: r => eOf x y :: edgesP (y :: r)
  | _ => []
/-- is it mentioned in the paths -/
def namedF (ps : List (List Str)) : List Str → Bool
  | [_, x] => decide (x ∈ ps.flatten)
  | [_, a, b] => decide ((a, b) ∈ ps.flatMap edgesP)
  | _ => false
def TxtsAt (H : Hp) (cs : List (Addr × List Str)) : Prop := ∀ c ∈ cs, H c.1 = some (.tup (c.2.map V.str))
theorem TxtsAt.same {H H' : Hp} {cs : List (Addr × List Str)} (h : TxtsAt H cs) (s : Same H H') : TxtsAt H' cs := fun c hc => s _ _ (h c hc)
end U
namespace Law
open PySem PySem.Spec PyProof.Rows L2 U


section
variable {P : Program} {w : World} {K : PySem.W.Frag} {mg : Str → Option Value} {base : Heap}
end
end Law

/-! constraints that are lifted; obstructions that stay: the plain law -/
namespace U
open PySem PySem.Spec PyProof.Rows L2
/-- the edges that are left -/
def esW (es : List (Str × Str)) (S : List (List Str)) : List (Str × Str) := es.filter fun e => decide (([("edge" : Str), e.1, e.2] : List Str) ∉ S)
/-- the pins that are left -/
def pnW (pn : List Str) (S : List (List Str)) : List Str := pn.filter fun x => decide (([("pin" : Str), x] : List Str) ∉ S)
/-- does lifting these make the target reachable -/
def GoodS (ns : List Str) (es : List (Str × Str)) (f g : Str → Int) (pn : List Str) (S : List (List Str)) : Prop := ∃ h, Lft ns (esW es S) f g (pnW pn S) h
theorem esW_cons {es : List (Str × Str)} {c : List Str} {S : List (List Str)} : esW (esW es [c]) S = esW es (c :: S) := by
  unfold esW
  rw [List.filter_filter]
  refine List.filter_congr fun e _ => ?_
  rw [Bool.eq_iff_iff]
  simp only [Bool.and_eq_true, decide_eq_true_eq, List.mem_cons, not_or, List.mem_singleton, List.not_mem_nil, or_false]
  exact And.comm
theorem pnW_cons {pn : List Str} {c : List Str} {S : List (List Str)} : pnW (pnW pn [c]) S = pnW pn (c :: S) := by
  unfold pnW
  rw [List.filter_filter]
  refine List.filter_congr fun e _ => ?_
  rw [Bool.eq_iff_iff]
  simp only [Bool.and_eq_true, decide_eq_true_eq, List.mem_cons, not_or, List.mem_singleton, List.not_mem_nil, or_false]
  exact And.comm
theorem esW_same {es : List (Str × Str)} {S T : List (List Str)} (h : ∀ c, c ∈ S ↔ c ∈ T) : esW es S = esW es T := List.filter_congr fun e _ => by
  rw [decide_eq_decide, h]
theorem pnW_same {pn : List Str} {S T : List (List Str)} (h : ∀ c, c ∈ S ↔ c ∈ T) : pnW pn S = pnW pn T := List.filter_congr fun e _ => by
  rw [decide_eq_decide, h]
theorem GoodS.same {ns : List Str} {es : List (Str × Str)} {f g : Str → Int} {pn : List Str} {S T : List (List Str)} (h : ∀ c, c ∈ S ↔ c ∈ T) (k : GoodS ns es f g pn S) : GoodS ns es f g pn T := by
  unfold GoodS at k ⊢
  rw [← esW_same h, ← pnW_same h]
  exact k
theorem GoodS.cons {ns : List Str} {es : List (Str × Str)} {f g : Str → Int} {pn : List Str} {c : List Str} {S : List (List Str)} : GoodS ns (esW es [c]) f g (pnW pn [c]) S ↔ GoodS ns es f g pn (c :: S) := by
  unfold GoodS
  rw [esW_cons, pnW_cons]
/-- an obstruction, by its paths -/
inductive ObP (ns : List Str) (es : List (Str × Str)) (f g : Str → Int) (pn : List Str) : List (List Str) → Prop
  | cyc {c : List Str} {z : Str} : Wk es c → c.head? = some z → c.getLast? = some z → psum f c ≠ psum g c → ObP ns es f g pn [c]
  | node {x : Str} {p q : List Str} : CerP ns es f pn 1 x p → CerP ns es f pn (-1) x q → x ∈ ns → f x ≠ g x → ObP ns es f g pn [[x], p, q]
  | path {p p1 q1 p2 q2 : List Str} {x y : Str} : Wk es p → p.head? = some x → p.getLast? = some y → psum f p ≠ psum g p → CerP ns es f pn 1 x p1 → CerP ns es f pn (-1) x q1 → CerP ns es f pn 1 y p2 → CerP ns es f pn (-1) y q2 → ObP ns es f g pn [p, p1, q1, p2, q2]
section
variable {ns : List Str} {es es' : List (Str × Str)} {f g h : Str → Int} {pn pn' : List Str} {dir : Int}
theorem adj_eOf (lt : ∀ e ∈ es, sLt e.1 e.2) {a b : Str} (h : Adj es a b) : eOf a b ∈ es := by
  unfold eOf
  rcases h with h | h
  · rw [if_pos (lt _ h)]
    exact h
  · rw [if_neg fun z => sLt_irrefl _ (sLt_trans z (lt _ h))]
    exact h
theorem eOf_adj {a b : Str} (h : eOf a b ∈ es) : Adj es a b := by
  unfold eOf at h
  split at h
  · exact .inl h
  · exact .inr h
theorem Wk.keep (lt : ∀ e ∈ es, sLt e.1 e.2) : ∀ {p : List Str}, (∀ e ∈ es, e ∈ edgesP p → e ∈ es') → Wk es p → Wk es' p
  | [], _, _ => trivial
  | [_], _, _ => trivial
  | a :: b :: r, k, w => ⟨eOf_adj (k _ (adj_eOf lt w.1) List.mem_cons_self), Wk.keep lt (p := b :: r) (fun e h1 h2 => k e h1 (List.mem_cons_of_mem _ h2)) w.2⟩
theorem SlP.keep (lt : ∀ e ∈ es, sLt e.1 e.2) : ∀ {p : List Str}, (∀ e ∈ es, e ∈ edgesP p → e ∈ es') → SlP es f dir p → SlP es' f dir p
  | [], _, _ => trivial
  | [_], _, _ => trivial
  | a :: b :: r, k, w => ⟨eOf_adj (k _ (adj_eOf lt w.1) List.mem_cons_self), w.2.1, SlP.keep lt (p := b :: r) (fun e h1 h2 => k e h1 (List.mem_cons_of_mem _ h2)) w.2.2⟩
theorem CerP.keep (lt : ∀ e ∈ es, sLt e.1 e.2) {x : Str} {p : List Str} (k : ∀ e ∈ es, e ∈ edgesP p → e ∈ es') (kp : ∀ y ∈ pn, y ∈ p → y ∈ pn') (c : CerP ns es f pn dir x p) : CerP ns es' f pn' dir x p := by
  refine ⟨c.hd, c.sl.keep lt k, c.ln, c.in_, ?_⟩
  obtain ⟨y, hy, z⟩ := c.en
  exact ⟨y, hy, z.imp (fun z => kp y z (List.mem_of_getLast? hy)) id⟩
theorem ObP.keep (lt : ∀ e ∈ es, sLt e.1 e.2) {ps : List (List Str)} (o : ObP ns es f g pn ps) (k : ∀ e ∈ es, e ∈ ps.flatMap edgesP → e ∈ es') (kp : ∀ y ∈ pn, y ∈ ps.flatten → y ∈ pn') : ObP ns es' f g pn' ps := by
  have k1 : ∀ p ∈ ps, ∀ e ∈ es, e ∈ edgesP p → e ∈ es' := fun p hp e he h => k e he (List.mem_flatMap.mpr ⟨p, hp, h⟩)
  have k2 : ∀ p ∈ ps, ∀ y ∈ pn, y ∈ p → y ∈ pn' := fun p hp y hy h => kp y hy (List.mem_flatten.mpr ⟨p, hp, h⟩)
  have cr : ∀ p ∈ ps, ∀ {dir : Int} {x : Str}, CerP ns es f pn dir x p → CerP ns es' f pn' dir x p := fun p hp _ _ c => c.keep lt (k1 p hp) (k2 p hp)
  cases o with
  | cyc a b c d => exact .cyc (a.keep lt (k1 _ (by simp))) b c d
  | node a b c d => exact .node (cr _ (by simp) a) (cr _ (by simp) b) c d
  | path a b c d e1 e2 e3 e4 => exact .path (a.keep lt (k1 _ (by simp))) b c d (cr _ (by simp) e1) (cr _ (by simp) e2) (cr _ (by simp) e3) (cr _ (by simp) e4)
/-- numbers along a path of one slope -/
theorem slp_num (ok : EsOk ns es f) (fe : Fits es f h) : ∀ {p : List Str} {a b : Str}, SlP es f dir p → p.head? = some a → p.getLast? = some b → (dir = 1 → h b ≤ h a) ∧ (dir = -1 → h a ≤ h b)
  | [], _, _, _, z, _ => nomatch z
  | [x], a, b, _, h1, h2 => by
    have e1 : x = a := by simpa using h1
    have e2 : x = b := by simpa using h2
    rw [← e1, ← e2]
    exact ⟨fun _ => Int.le_refl _, fun _ => Int.le_refl _⟩
  | x :: y :: r, a, b, w, h1, h2 => by
    have e1 : x = a := by simpa using h1
    subst e1
    obtain ⟨i1, i2⟩ := slp_num ok fe (p := y :: r) (a := y) (b := b) w.2.2 rfl (by rw [List.getLast?_cons_cons] at h2; exact h2)
    have k := fit_adj ok fe w.1
    have s := w.2.1
    refine ⟨fun d => ?_, fun d => ?_⟩
    · have := i1 d
      omega
    · have := i2 d
      omega
theorem rr_num (ok : EsOk ns es f) (fe : Fits es f h) {a b : Str} (r : Rr es f dir a b) : (dir = 1 → h b ≤ h a) ∧ (dir = -1 → h a ≤ h b) := by
  obtain ⟨p, h1, h2, h3⟩ := rr_path r
  exact slp_num ok fe h1 h2 h3
/-- a frozen node has the number 0 -/
theorem cer_zero (ok : EsOk ns es f) {x : Str} {p q : List Str} (a : CerP ns es f pn 1 x p) (b : CerP ns es f pn (-1) x q) (fe : Feas ns es f h pn) : h x = 0 := by
  obtain ⟨z1, i1, c1, r1⟩ := cer_anc ok (.inl rfl) a
  obtain ⟨z2, i2, c2, r2⟩ := cer_anc ok (.inr rfl) b
  have y1 := (rr_num ok fe.fit (r1 x (List.mem_of_head? a.hd))).1 rfl
  have y2 := (rr_num ok fe.fit (r2 x (List.mem_of_head? b.hd))).2 rfl
  have z : ∀ z, (z ∈ pn ∨ Cyc es f z) → h z = 0 := fun z c => c.elim (fe.pin z) (fe.cyc z)
  have := z z1 c1
  have := z z2 c2
  omega
/-- an obstruction obstructs -/
theorem ObP.no (ok : EsOk ns es f) (okg : EsOk ns es g) {ps : List (List Str)} (o : ObP ns es f g pn ps) : ¬ Lft ns es f g pn h := fun ⟨fe, m⟩ => by
  have t := feas_t ok okg fe m
  cases o with
  | cyc a b c d =>
    have := psum_lift ok okg t a b c
    omega
  | node a b c d =>
    rename_i x p q
    have := cer_zero ok a b fe
    have := m x c
    have := ok.tri x c
    have := okg.tri x c
    omega
  | path a b c d e1 e2 e3 e4 =>
    have := psum_lift ok okg t a b c
    have := cer_zero ok e1 e2 fe
    have := cer_zero ok e3 e4 fe
    omega
theorem EsOk.sub (ok : EsOk ns es f) (s : ∀ e ∈ es', e ∈ es) : EsOk ns es' f := ⟨fun e h => ok.ne e (s e h), fun e h => ok.mem e (s e h), ok.tri, fun e h => ok.pro e (s e h)⟩
theorem esW_sub {S : List (List Str)} : ∀ e ∈ esW es S, e ∈ es := fun e h => (List.mem_filter.mp h).1
/-- what makes the target reachable is mentioned by the obstruction -/
theorem ObP.hit (ok : EsOk ns es f) (okg : EsOk ns es g) (lt : ∀ e ∈ es, sLt e.1 e.2) {ps : List (List Str)} (o : ObP ns es f g pn ps) {S : List (List Str)} (k : GoodS ns es f g pn S) : ∃ c ∈ S, namedF ps c = true := by
  refine Classical.byContradiction fun no => ?_
  have no : ∀ c ∈ S, namedF ps c = false := fun c hc => by
    cases z : namedF ps c with
    | false => rfl
    | true => exact absurd ⟨c, hc, z⟩ no
  obtain ⟨h, l⟩ := k
  refine (o.keep (es' := esW es S) (pn' := pnW pn S) lt (fun e he h2 => ?_) (fun y hy h2 => ?_)).no (ok.sub esW_sub) (okg.sub esW_sub) l
  · refine List.mem_filter.mpr ⟨he, decide_eq_true fun z => ?_⟩
    have := no _ z
    rw [show namedF ps ([("edge" : Str), e.1, e.2] : List Str) = decide ((e.1, e.2) ∈ ps.flatMap edgesP) from rfl, decide_eq_false_iff_not] at this
    exact this h2
  · refine List.mem_filter.mpr ⟨hy, decide_eq_true fun z => ?_⟩
    have := no _ z
    rw [show namedF ps ([("pin" : Str), y] : List Str) = decide (y ∈ ps.flatten) from rfl, decide_eq_false_iff_not] at this
    exact this h2
end
end U

/-! apply_round: what it comes to -/
namespace Law
open PySem PySem.Spec PyProof.Rows L2 U


theorem bad_none {M : List (Str × Int)} {its : List It} (h : ∀ i (hi : i < its.length), posI M its[i] = true) : badI M its = none := by
  unfold badI
  rw [List.findIdx?_eq_none_iff]
  intro x hx
  obtain ⟨i, hi, rfl⟩ := List.mem_iff_getElem.mp hx
  rw [h i hi]
  rfl
theorem bad_some {M : List (Str × Int)} {its : List It} {i : Nat} (hi : i < its.length) (h : ∀ j (hj : j < i), posI M (its[j]'(Nat.lt_trans hj hi)) = true) (n : posI M its[i] = false) : badI M its = some i := by
  unfold badI
  rw [List.findIdx?_eq_some_iff_getElem]
  refine ⟨hi, by rw [n]; rfl, fun j hj => ?_⟩
  rw [h j hj]
  decide
def itM (m : Str × Int) : It := .tp [.str m.1, .int m.2]
theorem bad_good {M : List (Str × Int)} : ∀ {its : List It}, badI M its = none → ∃ ms : List (Str × Int), its = ms.map itM ∧ ∀ m ∈ ms, m ∈ M
  | [], _ => ⟨[], rfl, fun m hm => nomatch hm⟩
  | it :: r, h => by
    unfold badI at h
    rw [List.findIdx?_eq_none_iff] at h
    obtain ⟨ms, e, k⟩ := bad_good (M := M) (its := r) (by
      unfold badI
      rw [List.findIdx?_eq_none_iff]
      exact fun x hx => h x (List.mem_cons_of_mem _ hx))
    have h1 := h it List.mem_cons_self
    have h1 : posI M it = true := by
      cases z : posI M it with
      | true => rfl
      | false =>
        rw [z] at h1
        exact nomatch h1
    obtain ⟨m, hm, em⟩ := posI_mv h1
    refine ⟨m :: ms, by rw [List.map_cons, ← e, em]; rfl, fun q hq => ?_⟩
    rcases List.mem_cons.mp hq with rfl | hq
    · exact hm
    · exact k q hq
theorem nodes_itM {ms : List (Str × Int)} : (ms.map itM).map ndI = ms.map (·.1) := by
  rw [List.map_map]
  rfl
/-- the list's elements -/
def ItsAt (H : Hp) (cs : List V) (its : List It) : Prop := its.length = cs.length ∧ ∀ i (h : i < cs.length) (h' : i < its.length), ItAt H cs[i] its[i] ∧ its[i].ok
theorem ItsAt.same {H H' : Hp} {cs : List V} {its : List It} (h : ItsAt H cs its) (s : Same H H') : ItsAt H' cs its := ⟨h.1, fun i a b => ⟨(h.2 i a b).1.same s, (h.2 i a b).2⟩⟩
theorem ItsAt.tups : ∀ {cs : List V} {ms : List (Str × Int)} {H : Hp}, ItsAt H cs (ms.map itM) → ∃ bs : List (Addr × Str × Int), cs = bs.map (fun m => V.ref m.1) ∧ TupsAt H bs ∧ bs.map (·.2) = ms
  | [], [], _, _ => ⟨[], rfl, TupsAt.nil, rfl⟩
  | [], m :: r, _, h => by
    have := h.1
    simp at this
  | c :: cs, [], _, h => by
    have := h.1
    simp at this
  | c :: cs, m :: r, H, h => by
    have l := h.1
    rw [List.map_cons, List.length_cons, List.length_cons] at l
    obtain ⟨bs, e1, e2, e3⟩ := ItsAt.tups (cs := cs) (ms := r) (H := H) ⟨by omega, fun i a b => h.2 (i + 1) (by rw [List.length_cons]; omega) (by rw [List.map_cons, List.length_cons]; omega)⟩
    obtain ⟨a, ea, ha⟩ := (h.2 0 (by simp) (by simp)).1
    have ea : c = .ref a := ea
    refine ⟨(a, m) :: bs, by rw [List.map_cons, ← e1, ea], fun x hx => ?_, by rw [List.map_cons, e3]⟩
    rcases List.mem_cons.mp hx with rfl | hx
    · exact ha
    · exact e2 x hx
theorem dupS_step {xs : List Str} {i : Nat} (hi : i < xs.length) : dupS (xs.take i) (xs.drop i) = if xs[i] ∈ xs.take i then some xs[i] else dupS (xs.take (i + 1)) (xs.drop (i + 1)) := by
  rw [List.drop_eq_getElem_cons hi, dupS, take_snoc hi]
theorem adjS_step {es : List (Str × Str)} {xs : List Str} {i : Nat} (hi : i < xs.length) : adjS es (xs.take i) (xs.drop i) = match (xs.take i).find? (fun y => decide (y ∈ nbrF es xs[i])) with
    | some y => some (xs[i], y)
    | none => adjS es (xs.take (i + 1)) (xs.drop (i + 1)) := by
  rw [List.drop_eq_getElem_cons hi, adjS, take_snoc hi]
  all_goals (cases List.find? (fun y => decide (y ∈ nbrF es xs[i])) (List.take i xs) <;> rfl)
theorem eOf_nbr {es : List (Str × Str)} (lt : ∀ e ∈ es, sLt e.1 e.2) {x y : Str} : decide (eOf x y ∈ es) = decide (y ∈ nbrF es x) := by
  rw [Bool.eq_iff_iff, decide_eq_true_iff, decide_eq_true_iff, mem_nbrF]
  exact ⟨eOf_adj, adj_eOf lt⟩
theorem find_at {p : Str → Bool} : ∀ {xs : List Str} {i : Nat} (h : i < xs.length), (∀ j (hj : j < i), p (xs[j]'(Nat.lt_trans hj h)) = false) → p xs[i] = true → xs.find? p = some xs[i]
  | x :: r, 0, h, _, y => by
    rw [List.find?_cons]
    have y : p x = true := y
    rw [y]
    rfl
  | x :: r, i + 1, h, n, y => by
    have n0 : p x = false := n 0 (by omega)
    rw [List.find?_cons, n0]
    exact find_at (xs := r) (i := i) (by rw [List.length_cons] at h; omega) (fun j hj => n (j + 1) (by omega)) y
theorem find_no {p : Str → Bool} {xs : List Str} (h : ∀ j (hj : j < xs.length), p xs[j] = false) : xs.find? p = none := by
  rw [List.find?_eq_none]
  intro x hx
  obtain ⟨j, hj, rfl⟩ := List.mem_iff_getElem.mp hx
  rw [h j hj]
  exact Bool.false_ne_true
def spEach (K : PySem.W.Frag) (CM : Addr) : Sp := fun vs H Q E => ∃ (g n e st ps : Addr) (c : V) (ns ord pn : List Str) (es : List (Addr × Str × Str)) (f : Str → Int), vs = [.ref g, .ref st, c, .ref ps] ∧ GSt H g n e st ns ord es f ∧ SqT K H ps (pn.map V.str) ∧
  ((∃ t, TyIs K H c t ∧ isT t .lst = false ∧ PosE CM .non H E) ∨
   ∃ (mv : Addr) (cs : List V) (its : List It), c = .ref mv ∧ H mv = some (.lst cs) ∧ ItsAt H cs its ∧
    (badI (movesF ns (es.map (·.2)) f pn) its = none → ∀ H' : Hp, Same H H' → Q .non H') ∧
    ∀ i, badI (movesF ns (es.map (·.2)) f pn) its = some i → PosE CM (.int (i : Nat)) H E)
def spDist (K : PySem.W.Frag) (CD : Addr) : Sp := fun vs H Q E => ∃ (l : Addr) (xs : List Str), vs = [.ref l] ∧ H l = some (.lst (xs.map V.str)) ∧ xs.length ≤ 10000 ∧
  (dupS [] xs = none → ∀ H' : Hp, Same H H' → Q .non H') ∧
  ∀ x, dupS [] xs = some x → ∀ (d : Addr) (H' : Hp), Same H H' → H d = none → H' d = some (.xd [("node", .str x)]) → E (.ref CD) (some d) H'
def spEdgeR : Sp := fun vs H Q _ => ∃ x y : Str, vs = [.str x, .str y] ∧ ∀ t, H t = none → Q (.ref t) (upd H t (.tup [.str (eOf x y).1, .str (eOf x y).2]))
section
variable {P : Program} {w : World} {K : PySem.W.Frag} {mg : Str → Option Value} {base : Heap}
theorem ok_edgeR {f : Addr} {fd : FuncData} (F : Fun K "edge_of" "edge_of" s_edge_of f fd) (B : Bt mg) : FnG P w K mg base CX0 1 f fd ["first", "second"] spEdgeR := by
  refine fnG0 F sc_edge_of (fun vs H Q E h => ?_) (fun cdv A outer s H vs Q E hr h => ?_)
  · obtain ⟨x, y, rfl, _⟩ := h
    rfl
  · obtain ⟨x, y, rfl, q⟩ := h
    have nd := sc_edge_of.nd
    refine ⟨_, (pss_one (ps_ret (pe_ifExp (pt_cmpR uLt (pv 0) (pv 1) (nomark _)) (pe_tup (pa_cons (pv 0) (pa_cons (pv 1) pa_nil))) (pe_tup (pa_cons (pv 1) (pa_cons (pv 0) pa_nil)))))), ?_⟩
    unfold eOf at q
    wtm_at "rd"
    refine rd_split (fun c => ?_) (fun c => ?_)
    · have c : sLt x y := c
      rw [if_pos c] at q
      wtm_at "rd"
      exact fun t ft => q t ft
    · have c : ¬ sLt x y := c
      rw [if_neg c] at q
      wtm_at "rd"
      exact fun t ft => q t ft
structure RNa (P : Program) (w : World) (K : PySem.W.Frag) (mg : Str → Option Value) (base : Heap) : Prop where
  is_integer : Cal P w K mg base CX0 1 "is_integer" (spIsInt K)
  available_moves : CalK P w K mg base CX0 2 "available_moves" 2 ["pinned"] (spAvail K)
theorem ok_each {f : Addr} {fd : FuncData} {CM CB : Addr} (F : Fun K "check_each" "check_each" s_check_each f fd) (B : Bt mg) (C : RNa P w K mg base) (T : ErrX P w K mg base "InvalidMove" "position" CM CB) : FnG P w K mg base (L2.CX P w) 4 f fd ["graph", "state", "moves", "pinned"] (spEach K CM) := by
  refine fnG F sc_check_each (fun vs H Q E h => ?_) (fun cdv A outer s H vs Q E hr h => ?_)
  · obtain ⟨g, n, e, st, ps, c, ns, ord, pn, es, f, rfl, _⟩ := h
    rfl
  · have hu65 : (A.deeper (envOfC "check_each" (defScope s_check_each) s.heap.objs.size f cdv)).units + 65 < cLine := by
      have := hr.u100
      omega
    obtain ⟨g, n, e, st, ps, c, ns, ord, pn, es, f, rfl, gs, hps, alt⟩ := h
    have nd := sc_check_each.nd
    have hu := hr.u1
    refine ⟨_, (pss_cons (ps_if (pt_not (pt_val (pe_callB (kIsi K rfl) (by rfl) B.isinstance bb_isinstance (pa_cons (pv 2) (pa_cons (pe_ty rfl B.list bb_list) pa_nil))))) (pss_one (ps_rz T hr (by decide) rfl (takes_of rfl rfl rfl rfl) rfl pe_non)) pss_nil)
  (pss_cons (ps_set (i := 4) nd rfl (by first | exact Or.inl rfl | exact Or.inr rfl) (pe_cK C.available_moves hr (by decide) rfl pass0 (pa_cons (pv 0) (pa_cons (pv 1) pa_nil)) (pk_cons (pv 3) pk_nil)))
  (pss_one (ps_for (passes_of rfl) rfl (pi_enum (by rfl) B.enumerate (pa_cons (pv 2) pa_nil)) (kg_tup (n := 2) K rfl rfl (pgs_cons (pg_name (i := 5) nd rfl (by first | exact Or.inl rfl | exact Or.inr rfl)) (pgs_cons (pg_name (i := 6) nd rfl (by first | exact Or.inl rfl | exact Or.inr rfl)) pgs_nil))) (pss_one (ps_if (PW.pt (pw_or (pt_not (pt_val (pe_callB (kIsi K rfl) (by rfl) B.isinstance bb_isinstance (pa_cons (pv 6) (pa_cons (pe_ty rfl B.tuple bb_tuple) pa_nil))))) (pw_or (pt_cmpR (kNe K rfl hr.u64) (pe_callB (kLen K rfl) (by rfl) B.len bb_len (pa_cons (pv 6) pa_nil)) pe_int (nomark _)) (pw_or (pt_not (pt_val (pe_c C.is_integer hr (by decide) rfl (pa_cons (pe_ix (kIx K rfl) (pv 6) pe_int (fun _ _ => rfl)) pa_nil)))) (pw_or1 (pt_cmpR (kNinL K rfl hu65) (pv 6) (pv 4) rfl)))))) (pss_one (ps_rz T hr (by decide) rfl (takes_of rfl rfl rfl rfl) rfl (pv 5))) pss_nil)))))), ?_⟩
    wtm_at "rd"
    rcases alt with ⟨t, ht, hs, pe⟩ | ⟨mv, cs, its, rfl, hmv, hits, q1, q2⟩
    · refine rd_isi ht (t := .lst) (by decide +kernel) ?_
      rw [hs]
      wtm_at "rd"
      exact rd_mk1 fun dd H' s nd hd => pe dd H' s nd hd
    refine rd_isi (ty_lst hmv) (t := .lst) (by decide +kernel) ?_
    rw [show isT .lst .lst = true from by decide +kernel]
    wtm_at "rd"
    refine ⟨g, n, e, st, ps, ns, ord, pn, es, f, rfl, gs, hps, fun l bs H1 s1 fl hl tb eb => ?_⟩
    have sok : ∀ m ∈ bs.map (·.2), PyData.strOk m.1 = true := fun m hm => by
      rw [eb] at hm
      exact (gs.ok.names.ok _ (legal_of hm).mem).sok
    wtm_at "rd"
    refine rd_forE (SqL.of (s1 _ _ hmv)) ?_
    refine turnsW (walk_enum (K := K) (a := mv) (xs := cs)) (fun i σ H' => ∃ u5 u6 : Option V, σ = [some (.ref g), some (.ref st), some (.ref mv), some (.ref ps), some (.ref l), u5, u6] ∧ Same H1 H' ∧ ∀ j (hj : j < its.length), j < i → posI (movesF ns (es.map (·.2)) f pn) its[j] = true)
      ⟨_, _, rfl, (fun _ _ h => h), fun j hj z => absurd z (Nat.not_lt_zero _)⟩ ?_ ?_ ?_
    · rintro i σ H' hi ⟨u5, u6, rfl, s, _⟩
      exact SqL.of (s _ _ (s1 _ _ hmv))
    · rintro i y σ H3 H4 hi ⟨u5, u6, rfl, s, good⟩ ⟨T1, x1, y1, rfl, fT, rfl, e1, e2⟩
      have hx := Option.some.inj e1
      subst hx
      have hin : i < cs.length := (List.getElem?_eq_some_iff.mp e2).1
      have hio : i < its.length := by rw [hits.1]; exact hin
      obtain rfl : cs[i] = y1 := (List.getElem?_eq_some_iff.mp e2).2
      obtain ⟨hit, ok⟩ := hits.2 i hin hio
      have sT := same_add (o := .tup [.int (i : Nat), cs[i]]) s fT
      refine rd_unp (SqT.of upd_same) rfl ?_
      generalize upd H3 T1 (.tup [.int (i : Nat), cs[i]]) = H5 at sT
      have s5 := s1.trans sT
      have hit := hit.same s5
      generalize cs[i] = c at *
      have fin : ∀ {H6 : Hp}, Same H H6 → posI (movesF ns (es.map (·.2)) f pn) its[i] = false → ∀ (d : Addr) (H' : Hp), Same H6 H' → H6 d = none → H' d = some (.xd [("position", .int (i : Nat))]) → E (.ref CM) (some d) H' := fun s6 ng d H' s' nd' hd => q2 i (bad_some hio (fun j hj => good j _ hj) ng) d H' (s6.trans s') (s6.free nd') hd
      have step : posI (movesF ns (es.map (·.2)) f pn) its[i] = true → ∀ j (hj : j < its.length), j < i + 1 → posI (movesF ns (es.map (·.2)) f pn) its[j] = true := fun g1 j hj z => by
        rcases Nat.lt_succ_iff_lt_or_eq.mp z with z | rfl
        · exact good j hj z
        · exact g1
      generalize ei : its[i] = it at *
      wtm_at "rd"
      rcases ty_it (K := K) ok hit with ⟨t, ty, nt, no⟩ | ⟨a, vs, rfl, rfl, ha, vl, at3⟩
      · refine rd_isi ty (t := .tup) (by decide +kernel) ?_
        rw [nt]
        wtm_at "rd"
        refine rd_rz ?_
        wtm_at "rd"
        exact rd_mk1 fun dd H' s' nd' hd => fin s5 (posI_non no) dd H' s' nd' hd
      refine rd_isi (ty_tup ha) (t := .tup) (by decide +kernel) ?_
      rw [show isT .tup .tup = true from by decide +kernel]
      wtm_at "rd"
      refine rd_lenT (SqT.of ha) ?_
      wtm_at "rd"
      by_cases c2 : vs.length = 2
      · refine rd_nno (by omega) ?_
        match vs, c2 with
        | [a1, b1], _ =>
          have at1 := at3 a1 (by simp)
          have bt1 := at3 b1 (by simp)
          wtm_at "rd"
          refine rd_ixT (SqT.of ha) (v := b1) rfl ?_
          wtm_at "rd"
          obtain ⟨t, ty, _, _, ti⟩ := ty_atmT (K := K) (H := H5) bt1.atm
          refine ⟨b1, t, rfl, ty, ?_⟩
          wtm_at "rd"
          by_cases ci : t = .int
          · refine rd_nno ci ?_
            wtm_at "rd"
            obtain ⟨z, rfl⟩ := ti.mp ci
            refine rd_ninMv ha at1 bt1 (fun c e => nomatch e) (SqL.of (sT _ _ hl)) (tb.same sT) sok ?_
            rw [eb]
            cases g1 : posI (movesF ns (es.map (·.2)) f pn) (.tp [a1, .int z]) with
            | true =>
              wtm_at "rd"
              exact ⟨_, _, rfl, sT, step g1⟩
            | false =>
              wtm_at "rd"
              refine rd_rz ?_
              wtm_at "rd"
              exact rd_mk1 fun dd H' s' nd' hd => fin s5 g1 dd H' s' nd' hd
          · refine rd_nyes ci ?_
            wtm_at "rd"
            refine rd_rz ?_
            wtm_at "rd"
            refine rd_mk1 fun dd H' s' nd' hd => fin s5 (posI_non ?_) dd H' s' nd' hd
            have ni : ∀ z, b1 ≠ .int z := fun z e => ci (ti.mpr ⟨z, e⟩)
            cases a1 <;> cases b1 <;> first | rfl | exact absurd rfl (ni _)
      · refine rd_nyes (by omega) ?_
        wtm_at "rd"
        refine rd_rz ?_
        wtm_at "rd"
        exact rd_mk1 fun dd H' s' nd' hd => fin s5 (posI_non (mvI_len c2)) dd H' s' nd' hd
    · rintro σ H3 ⟨u5, u6, rfl, s, good⟩
      wtm_at "rd"
      exact q1 (bad_none fun j hj => good j hj (by rw [hits.1] at hj; exact hj)) _ (s1.trans s)
theorem ok_dist {f : Addr} {fd : FuncData} {CD CB : Addr} (F : Fun K "check_distinct" "check_distinct" s_check_distinct f fd) (B : Bt mg) (T : ErrX P w K mg base "DuplicateNode" "node" CD CB) : FnG P w K mg base (L2.CX P w) 4 f fd ["nodes"] (spDist K CD) := by
  refine fnG F sc_check_distinct (fun vs H Q E h => ?_) (fun cdv A outer s H vs Q E hr h => ?_)
  · obtain ⟨l, xs, rfl, _⟩ := h
    rfl
  · obtain ⟨l, xs, rfl, hl, xl, q1, q2⟩ := h
    have nd := sc_check_distinct.nd
    have hu := hr.u1
    refine ⟨_, (pss_one (ps_for (passes_of rfl) rfl (pi_enum (by rfl) B.enumerate (pa_cons (pv 0) pa_nil)) (kg_tup (n := 2) K rfl rfl (pgs_cons (pg_name (i := 1) nd rfl (by first | exact Or.inl rfl | exact Or.inr rfl)) (pgs_cons (pg_name (i := 2) nd rfl (by first | exact Or.inl rfl | exact Or.inr rfl)) pgs_nil))) (pss_one (ps_if (pt_cmpR (kIn K rfl) (pv 2) (pe_slice (kSl K rfl) (pv 0) po_none (po_some (pv 1))) rfl) (pss_one (ps_rz T hr (by decide) rfl (takes_of rfl rfl rfl rfl) rfl (pv 2))) pss_nil)))), ?_⟩
    wtm_at "rd"
    refine rd_forE (SqL.of hl) ?_
    refine turnsW (walk_enum (K := K) (a := l) (xs := xs.map V.str)) (fun i σ H' => ∃ u1 u2 : Option V, σ = [some (.ref l), u1, u2] ∧ Same H H' ∧ dupS [] xs = dupS (xs.take i) (xs.drop i))
      ⟨_, _, rfl, (fun _ _ h => h), rfl⟩ ?_ ?_ ?_
    · rintro i σ H' hi ⟨u1, u2, rfl, s, _⟩
      exact SqL.of (s _ _ hl)
    · rintro i y σ H3 H4 hi ⟨u1, u2, rfl, s, ed⟩ ⟨T1, x1, y1, rfl, fT, rfl, e1, e2⟩
      have hx := Option.some.inj e1
      subst hx
      obtain ⟨hin, rfl⟩ := map_at e2
      rw [dupS_step hin] at ed
      have sT := same_add (o := .tup [.int (i : Nat), .str xs[i]]) s fT
      refine rd_unp (SqT.of upd_same) rfl ?_
      generalize upd H3 T1 (.tup [.int (i : Nat), .str xs[i]]) = H5 at sT
      wtm_at "rd"
      refine rd_slL (SqL.of (sT _ _ hl)) ?_
      rw [cutV_to (by rw [List.length_map]; omega), ← List.map_take]
      intro t6 f6
      have s6 := same_add (o := .lst ((xs.take i).map V.str)) sT f6
      have h6 := @upd_same H5 t6 (.lst ((xs.take i).map V.str))
      generalize upd H5 t6 (.lst ((xs.take i).map V.str)) = H6 at s6 h6
      refine rd_inSL (SqL.of h6) ?_
      wtm_at "rd"
      by_cases c : xs[i] ∈ xs.take i
      · rw [if_pos c] at ed
        refine rd_yes c ?_
        wtm_at "rd"
        refine rd_rz ?_
        wtm_at "rd"
        exact rd_mk1 fun dd H' s' nd' hd => q2 _ ed dd H' (s6.trans s') (s6.free nd') hd
      · rw [if_neg c] at ed
        refine rd_no c ?_
        wtm_at "rd"
        exact ⟨_, _, rfl, s6, ed⟩
    · rintro σ H3 ⟨u1, u2, rfl, s, ed⟩
      wtm_at "rd"
      rw [List.length_map, List.drop_length] at ed
      exact q1 ed _ s
def psV42 : Option Nat → V
  | none => .non
  | some i => .int i
def RsX (CM CD CA : Addr) (H' : Hp) (C : Addr) (fs : List (Str × V)) : Rs → Prop
  | .bad o => C = CM ∧ fs = [(("position" : Str), psV42 o)]
  | .dup x => C = CD ∧ fs = [(("node" : Str), .str x)]
  | .adj x y => C = CA ∧ ∃ t, fs = [(("edge" : Str), .ref t)] ∧ H' t = some (.tup [.str (eOf x y).1, .str (eOf x y).2])
  | .good => False
def RoundE (CM CD CA : Addr) (r : Rs) (H : Hp) (E : XK) : Prop := ∀ (d C : Addr) (fs : List (Str × V)) (H' : Hp), Same H H' → H d = none → H' d = some (.xd fs) → RsX CM CD CA H' C fs r → E (.ref C) (some d) H'
def spRound (K : PySem.W.Frag) (CM CD CA : Addr) : Sp := fun vs H Q E => ∃ (g n e st ps : Addr) (c : V) (ns ord pn : List Str) (es : List (Addr × Str × Str)) (f : Str → Int) (r : Rs), vs = [.ref g, .ref st, c, .ref ps] ∧ GSt H g n e st ns ord es f ∧ SqT K H ps (pn.map V.str) ∧ RoundE CM CD CA r H E ∧
  ((r = .bad none ∧ ∃ t, TyIs K H c t ∧ isT t .lst = false) ∨
   ∃ (mv : Addr) (cs : List V) (its : List It), c = .ref mv ∧ H mv = some (.lst cs) ∧ cs.length ≤ 1000 ∧ ItsAt H cs its ∧ r = rsI (es.map (·.2)) (movesF ns (es.map (·.2)) f pn) its ∧
    ∀ ms : List (Str × Int), r = .good → its = ms.map itM → (∀ m ∈ ms, m ∈ movesF ns (es.map (·.2)) f pn) → ∀ (d : Addr) (H' : Hp), Same H H' → H d = none → H' d = some (.dK (kvF ord (playF f ms))) → Q (.ref d) H')
structure RNb (P : Program) (w : World) (K : PySem.W.Frag) (mg : Str → Option Value) (base : Heap) (CM CD : Addr) : Prop where
  check_each : Cal P w K mg base (L2.CX P w) 4 "check_each" (spEach K CM)
  check_distinct : Cal P w K mg base (L2.CX P w) 4 "check_distinct" (spDist K CD)
  edge_of : Cal P w K mg base CX0 1 "edge_of" spEdgeR
theorem ok_round {f : Addr} {fd : FuncData} {CM CD CA CB : Addr} (F : Fun K "apply_round" "apply_round" s_apply_round f fd) (B : Bt mg) (C : RNb P w K mg base CM CD) (T : ErrX P w K mg base "AdjacentMoves" "edge" CA CB) : FnG P w K mg base (L2.CX P w) 5 f fd ["graph", "state", "moves", "pinned"] (spRound K CM CD CA) := by
  refine fnG F sc_apply_round (fun vs H Q E h => ?_) (fun cdv A outer s H vs Q E hr h => ?_)
  · obtain ⟨g, n, e, st, ps, c, ns, ord, pn, es, f, r, rfl, _⟩ := h
    rfl
  · have hu65 : (A.deeper (envOfC "apply_round" (defScope s_apply_round) s.heap.objs.size f cdv)).units + 65 < cLine := by
      have := hr.u100
      omega
    obtain ⟨g, n, e, st, ps, c, ns, ord, pn, es, f, r, rfl, gs, hps, er, alt⟩ := h
    have nd := sc_apply_round.nd
    have hu := hr.u1
    refine ⟨_, (pss_cons (ps_expr (pe_cX C.check_each hr (by decide) rfl (takes_of rfl rfl rfl rfl) (pa_cons (pv 0) (pa_cons (pv 1) (pa_cons (pv 2) (pa_cons (pv 3) pa_nil))))))
  (pss_cons (ps_setLc (i := 4) (own := [("node", 5), ("value", 6)]) rfl nd rfl rfl (sw_true rfl rfl rfl (by decide +kernel)) (ki_list K rfl (pv 2)) (blkOk_by (own := [("node", 5), ("value", 6)]) (N := nN_apply_round) (sc := defScope s_apply_round) (by decide +kernel)) (fun _ _ _ _ _ => (kg_tup (n := 2) K rfl rfl (pgs_cons (pg_name (i := 5) nd rfl (by first | exact Or.inl rfl | exact Or.inr rfl)) (pgs_cons (pg_name (i := 6) nd rfl (by first | exact Or.inl rfl | exact Or.inr rfl)) pgs_nil)))) (fun _ _ _ _ _ => pts_nil) (fun _ _ _ _ _ => (pv 5)))
  (pss_cons (ps_expr (pe_cX C.check_distinct hr (by decide) rfl (takes_of rfl rfl rfl rfl) (pa_cons (pv 4) pa_nil)))
  (pss_cons (ps_for (passes_of rfl) rfl (pi_enum (by rfl) B.enumerate (pa_cons (pv 4) pa_nil)) (kg_tup (n := 2) K rfl rfl (pgs_cons (pg_name (i := 7) nd rfl (by first | exact Or.inl rfl | exact Or.inr rfl)) (pgs_cons (pg_name (i := 5) nd rfl (by first | exact Or.inl rfl | exact Or.inr rfl)) pgs_nil))) (pss_one (ps_for (passes_of rfl) rfl (ki_list K rfl (pe_slice (kSl K rfl) (pv 4) po_none (po_some (pv 7)))) (pg_name (i := 8) nd rfl (by first | exact Or.inl rfl | exact Or.inr rfl)) (pss_one (ps_if (pt_cmpR (kInT K rfl hu65) (pe_c C.edge_of hr (by decide) rfl (pa_cons (pv 5) (pa_cons (pv 8) pa_nil))) (pe_ix (kIx K rfl) (pv 0) pe_int (fun _ _ => rfl)) rfl) (pss_one (ps_rz T hr (by decide) rfl (takes_of rfl rfl rfl rfl) rfl (pe_c C.edge_of hr (by decide) rfl (pa_cons (pv 5) (pa_cons (pv 8) pa_nil))))) pss_nil)))))
  (pss_cons (ps_set (i := 9) nd rfl (by first | exact Or.inl rfl | exact Or.inr rfl) (pe_callTy cDict (by rfl) B.dict bb_dict (pa_cons (pv 1) pa_nil)))
  (pss_cons (ps_for (passes_of rfl) rfl (ki_list K rfl (pv 2)) (kg_tup (n := 2) K rfl rfl (pgs_cons (pg_name (i := 5) nd rfl (by first | exact Or.inl rfl | exact Or.inr rfl)) (pgs_cons (pg_name (i := 6) nd rfl (by first | exact Or.inl rfl | exact Or.inr rfl)) pgs_nil))) (pss_one (ps_dput hu (pv 9) (pv 5) (pv 6) rfl)))
  (pss_one (ps_ret (pv 9))))))))), ?_⟩
    wtm_at "rd"
    rcases alt with ⟨rfl, t, ty, nl⟩ | ⟨mv, cs, its, rfl, hmv, cl, hits, rfl, q⟩
    · exact ⟨g, n, e, st, ps, c, ns, ord, pn, es, f, rfl, gs, hps, .inl ⟨t, ty, nl, fun d H' s' nd' hd => er d CM _ H' s' nd' hd ⟨rfl, rfl⟩⟩⟩
    refine ⟨g, n, e, st, ps, _, ns, ord, pn, es, f, rfl, gs, hps, .inr ⟨mv, cs, its, rfl, hmv, hits, fun bn H1 s1 => ?_, fun i bi d H' s' nd' hd => er d CM _ H' s' nd' hd (by
      unfold rsI
      rw [bi]
      exact ⟨rfl, rfl⟩)⟩⟩
    obtain ⟨ms, rfl, msM⟩ := bad_good bn
    obtain ⟨bs, rfl, tb, rfl⟩ := (hits.same s1).tups
    have hmv1 := s1 _ _ hmv
    have er1 : RoundE CM CD CA (rsS (es.map (·.2)) (bs.map fun m => m.2.1)) H1 E := fun d C fs H' s' nd' hd k => er d C fs H' (s1.trans s') (s1.free nd') hd (by
      unfold rsI
      rw [bn, nodes_itM, List.map_map]
      exact k)
    have q1 : rsS (es.map (·.2)) (bs.map fun m => m.2.1) = .good → ∀ (d : Addr) (H' : Hp), Same H1 H' → H1 d = none → H' d = some (.dK (kvF ord (playF f (bs.map (·.2))))) → Q (.ref d) H' := fun z d H' s' nd' hd => q _ (by
      unfold rsI
      rw [bn, nodes_itM, List.map_map]
      exact z) rfl msM d H' (s1.trans s') (s1.free nd') hd
    have gs1 := gs.same s1
    have bl : bs.length ≤ 1000 := by
      rw [List.length_map] at cl
      exact cl
    clear q er hits bn hmv gs hps s1
    wtm_at "rd"
    refine rd_forL (SqL.of hmv1) ?_
    intro D fD
    have tup1 : ∀ {i : Nat} (hi : i < bs.length) {H' : Hp}, Same H1 H' → H' bs[i].1 = some (.tup [.str bs[i].2.1, .int bs[i].2.2]) := fun hi _ s => s _ _ (tb _ (List.getElem_mem hi))
    refine lcL (K := K) (xs := bs.map fun m => V.ref m.1) (fun j H' => Same H1 H' ∧ H' D = some (.lst (((bs.map fun m => m.2.1).take j).map V.str))) ⟨Same.new fD, upd_same⟩ ?_ ?_ ?_
    · rintro j H' hj ⟨sb, _⟩
      exact SqL.of (sb _ _ hmv1)
    · rintro j y H' hy ⟨sb, hD⟩
      obtain ⟨hj, rfl⟩ := map_at hy
      have tk := take_snoc (xs := bs.map fun m => m.2.1) (i := j) (by rw [List.length_map]; exact hj)
      rw [List.getElem_map] at tk
      refine rd_unp (SqT.of (tup1 hj sb)) rfl ?_
      wtm_at "rd"
      refine rd_acc hD (by rw [List.length_map, List.length_take, List.length_map]; omega) ?_
      refine ⟨same_put sb fD, ?_⟩
      rw [upd_same, tk, List.map_append]
      rfl
    rintro H2 ⟨s2, hD⟩
    rw [List.length_map, List.take_of_length_le (by rw [List.length_map]; exact Nat.le_refl _)] at hD
    wtm_at "rd"
    generalize exs : (bs.map fun m => m.2.1) = xs at *
    have xl : xs.length = bs.length := by rw [← exs, List.length_map]
    refine ⟨D, xs, rfl, hD, by omega, fun dn H3 s3 => ?_, fun x dx d H' s' nd' hd => er1 d CD _ H' (s2.trans s') (s2.free nd') hd (by
      unfold rsS
      rw [dx]
      exact ⟨rfl, rfl⟩)⟩
    have hD3 := s3 _ _ hD
    have s13 := s2.trans s3
    have er2 : ∀ x y, adjS (es.map (·.2)) [] xs = some (x, y) → RoundE CM CD CA (.adj x y) H1 E := fun x y ea => by
      have : rsS (es.map (·.2)) xs = .adj x y := by
        unfold rsS
        rw [dn, ea]
      rw [← this]
      exact er1
    have q2 : adjS (es.map (·.2)) [] xs = none → rsS (es.map (·.2)) xs = .good := fun ea => by
      unfold rsS
      rw [dn, ea]
    clear er1
    wtm_at "rd"
    refine rd_forE (SqL.of hD3) ?_
    refine turnsW (walk_enum (K := K) (a := D) (xs := xs.map V.str)) (fun i σ H' => ∃ u5 u6 u7 u8 u9 : Option V, σ = [some (.ref g), some (.ref st), some (.ref mv), some (.ref ps), some (.ref D), u5, u6, u7, u8, u9] ∧ Same H1 H' ∧ H' D = some (.lst (xs.map V.str)) ∧ adjS (es.map (·.2)) [] xs = adjS (es.map (·.2)) (xs.take i) (xs.drop i))
      ⟨_, _, _, _, _, rfl, s13, hD3, rfl⟩ ?_ ?_ ?_
    · rintro i σ H' hi ⟨u5, u6, u7, u8, u9, rfl, s, hd, _⟩
      exact SqL.of hd
    · rintro i y σ H4 H5 hi ⟨u5, u6, u7, u8, u9, rfl, s, hd, ed⟩ ⟨T1, x1, y1, rfl, fT, rfl, e1, e2⟩
      have hx := Option.some.inj e1
      subst hx
      obtain ⟨hin, rfl⟩ := map_at e2
      rw [adjS_step hin] at ed
      have sT := same_add (o := .tup [.int (i : Nat), .str xs[i]]) s fT
      have hd := at_upd (o := .tup [.int (i : Nat), .str xs[i]]) (ne_of_none hd fT) hd
      refine rd_unp (SqT.of upd_same) rfl ?_
      generalize upd H4 T1 (.tup [.int (i : Nat), .str xs[i]]) = H6 at sT hd
      wtm_at "rd"
      refine rd_slL (SqL.of hd) ?_
      rw [cutV_to (by rw [List.length_map]; omega), ← List.map_take]
      intro t6 f6
      have s6 := same_add (o := .lst ((xs.take i).map V.str)) sT f6
      have h6 := @upd_same H6 t6 (.lst ((xs.take i).map V.str))
      have hd := at_upd (o := .lst ((xs.take i).map V.str)) (ne_of_none hd f6) hd
      generalize upd H6 t6 (.lst ((xs.take i).map V.str)) = H7 at s6 h6 hd
      refine rd_forL (SqL.of h6) ?_
      refine turnsL (K := K) (xs := (xs.take i).map V.str) (fun j σ H' => ∃ u8 : Option V, σ = [some (.ref g), some (.ref st), some (.ref mv), some (.ref ps), some (.ref D), some (.str xs[i]), u6, some (.int (i : Nat)), u8, u9] ∧ Same H7 H' ∧ ∀ k (hk : k < (xs.take i).length), k < j → decide ((xs.take i)[k] ∈ nbrF (es.map (·.2)) xs[i]) = false) ⟨_, rfl, (fun _ _ h => h), fun k hk z => absurd z (Nat.not_lt_zero _)⟩ ?_ ?_ ?_
      · rintro j σ H' hj ⟨u8, rfl, s, _⟩
        exact SqL.of (s _ _ h6)
      · rintro j y σ H8 hy ⟨u8, rfl, s8, far⟩
        obtain ⟨hj, rfl⟩ := map_at hy
        have s18 := s6.trans s8
        have gs8 := gs1.same s18
        wtm_at "rd"
        refine ⟨_, _, rfl, fun t9 f9 => ?_⟩
        have s9 := same_add (o := .tup [.str (eOf xs[i] (xs.take i)[j]).1, .str (eOf xs[i] (xs.take i)[j]).2]) s8 f9
        have k9 := Same.new (o := .tup [.str (eOf xs[i] (xs.take i)[j]).1, .str (eOf xs[i] (xs.take i)[j]).2]) f9
        have h9 := @upd_same H8 t9 (.tup [.str (eOf xs[i] (xs.take i)[j]).1, .str (eOf xs[i] (xs.take i)[j]).2])
        generalize upd H8 t9 (.tup [.str (eOf xs[i] (xs.take i)[j]).1, .str (eOf xs[i] (xs.take i)[j]).2]) = H9 at s9 k9 h9
        have gs9 := gs8.same k9
        have nm : ∀ x ∈ xs, PyData.strOk x = true := fun x hx => by
          rw [← exs] at hx
          obtain ⟨m, hm, rfl⟩ := List.mem_map.mp hx
          exact (gs8.ok.names.ok _ (legal_of (msM _ (List.mem_map_of_mem hm))).mem).sok
        have n1 := nm xs[i] (List.getElem_mem hin)
        have n2 := nm (xs.take i)[j] (List.mem_of_mem_take (List.getElem_mem hj))
        have n3 : PyData.strOk (eOf xs[i] (xs.take i)[j]).1 = true ∧ PyData.strOk (eOf xs[i] (xs.take i)[j]).2 = true := by
          unfold eOf
          split
          · exact ⟨n1, n2⟩
          · exact ⟨n2, n1⟩
        wtm_at "rd"
        refine rd_ixT (SqT.of gs9.gr.top) (v := .ref e) rfl ?_
        refine rd_inTE (SqT.of h9) (SqT.of gs9.gr.edges) (fun x hx => SqT.of (gs9.gr.pairs x hx)) n3 (fun x hx => ⟨(gs8.ok.names.ok _ (gs8.ok.mem x hx).1).sok, (gs8.ok.names.ok _ (gs8.ok.mem x hx).2).sok⟩) ?_
        rw [eOf_nbr gs8.ok.lt]
        wtm_at "rd"
        by_cases c : (xs.take i)[j] ∈ nbrF (es.map (·.2)) xs[i]
        · rw [find_at (p := fun y => decide (y ∈ nbrF (es.map (·.2)) xs[i])) hj (fun k hk => far k _ hk) (decide_eq_true c)] at ed
          refine rd_yes c ?_
          wtm_at "rd"
          refine rd_rz ?_
          wtm_at "rd"
          refine ⟨_, _, rfl, fun ta fa => ?_⟩
          have ka := Same.new (o := .tup [.str (eOf xs[i] (xs.take i)[j]).1, .str (eOf xs[i] (xs.take i)[j]).2]) fa
          have ha := @upd_same H9 ta (.tup [.str (eOf xs[i] (xs.take i)[j]).1, .str (eOf xs[i] (xs.take i)[j]).2])
          generalize upd H9 ta (.tup [.str (eOf xs[i] (xs.take i)[j]).1, .str (eOf xs[i] (xs.take i)[j]).2]) = HA at ka ha
          wtm_at "rd"
          refine rd_mk1 fun dd H' s' nd' hd => ?_
          have sA := (s6.trans s9).trans ka
          exact er2 _ _ ed dd CA _ H' (sA.trans s') (sA.free nd') hd ⟨rfl, ta, rfl, s' _ _ ha⟩
        · refine rd_no c ?_
          wtm_at "rd"
          refine ⟨_, rfl, s9, fun k hk z => ?_⟩
          rcases Nat.lt_succ_iff_lt_or_eq.mp z with z | rfl
          · exact far k hk z
          · exact decide_eq_false c
      · rintro σ H8 ⟨u8, rfl, s8, far⟩
        rw [find_no fun k hk => far k hk (by rw [List.length_map]; exact hk)] at ed
        exact ⟨_, _, _, _, _, rfl, s6.trans s8, s8 _ _ hd, ed⟩
    rintro σ H4 ⟨u5, u6, u7, u8, u9, rfl, s4, hd, ed⟩
    rw [List.length_map, List.drop_length] at ed
    have gs4 := gs1.same s4
    have l2 := gs4.l2
    wtm_at "rd"
    refine ⟨_, .inl gs4.st, fun c fc => ?_⟩
    have fc0 := s4.free fc
    have s5 := same_add (o := .dK (kvF ord f)) s4 fc
    have hc := @upd_same H4 c (.dK (kvF ord f))
    generalize upd H4 c (.dK (kvF ord f)) = H5 at s5 hc
    wtm_at "rd"
    refine rd_forL (SqL.of (s5 _ _ hmv1)) ?_
    refine turnsL (K := K) (xs := bs.map fun m => V.ref m.1) (fun i σ H' => ∃ u5 u6 u7 u8 : Option V, σ = [some (.ref g), some (.ref st), some (.ref mv), some (.ref ps), some (.ref D), u5, u6, u7, u8, some (.ref c)] ∧ Same H1 H' ∧ H' c = some (.dK (kvF ord (playF f ((bs.map (·.2)).take i))))) ⟨_, _, _, _, rfl, s5, hc⟩ ?_ ?_ ?_
    · rintro i σ H' hi ⟨u5, u6, u7, u8, rfl, s, _⟩
      exact SqL.of (s _ _ hmv1)
    · rintro i y σ H' hy ⟨u5, u6, u7, u8, rfl, s, hc⟩
      obtain ⟨hi, rfl⟩ := map_at hy
      have ht := tup1 hi s
      have tk : (bs.map (·.2)).take (i + 1) = (bs.map (·.2)).take i ++ [bs[i].2] := by
        rw [take_snoc (by rw [List.length_map]; exact hi), List.getElem_map]
      have lg := legal_of (msM _ (List.mem_map_of_mem (List.getElem_mem hi)))
      rw [tk, playF_snoc]
      generalize bs[i] = m at *
      refine rd_unp (SqT.of ht) rfl ?_
      wtm_at "rd"
      refine rd_dset hc (k := .inr m.2.1) rfl (by rw [List.length_map, gs4.pm.length_eq]; omega) ?_
      rw [kvF_put (gs4.inO _ lg.mem)]
      exact ⟨_, _, _, _, rfl, same_put s fc0, upd_same⟩
    · rintro σ H' ⟨u5, u6, u7, u8, rfl, s, hc⟩
      rw [List.length_map, List.take_of_length_le (by rw [List.length_map]; exact Nat.le_refl _)] at hc
      wtm_at "rd"
      exact q1 (q2 ed) c H' s fc0 hc
end
end Law

/-! repr of [graph, state, pins], of moves -/
namespace Law
open PySem PySem.Spec PyProof.Rows L2 U
section
variable {K : PySem.W.Frag} {H : Hp} {Q : VK} {p q : Addr} {σ : L2.St}
end
end Law

/-! draws and tables of code objects together -/
namespace Law
open PySem PySem.Spec PyProof.Rows L2 U LamX
/-- nothing but the draws' source and the tables changes -/
structure GoN (T : List (Addr × Str)) (p : Addr) (H H' : Hp) : Prop where
  but : ∀ b o, b ≠ p → H b = some o → (∀ ps, o ≠ .tbl ps) → H' b = some o
  pool : PoolAt H' p
  tabs : Tabs T H'
theorem tabs_but {T : List (Addr × Str)} {H H' : Hp} {p : Addr} {ys : List V} (t : Tabs T H) (hp : H p = some (.lst ys)) (b : But p H H') : Tabs T H' := fun q hq => by
  obtain ⟨ps, h1, h2, h3⟩ := t q hq
  refine ⟨ps, b _ _ (ne_of h1 hp (by intro z; cases z)) h1, h2, fun pos cv hc => ?_⟩
  obtain ⟨c, e1, e2⟩ := h3 pos cv hc
  exact ⟨c, e1, b _ _ (ne_of e2 hp (by intro z; unfold CodeO at z; cases z)) e2⟩
section
variable {T : List (Addr × Str)} {p : Addr} {H H1 H' : Hp}
theorem GoN.refl (hp : PoolAt H p) (t : Tabs T H) : GoN T p H H := ⟨fun _ _ _ h _ => h, hp, t⟩
theorem GoN.trans (a : GoN T p H H1) (b : GoN T p H1 H') : GoN T p H H' := ⟨fun c o n h z => b.but c o n (a.but c o n h z) z, b.pool, b.tabs⟩
theorem GoN.of_go (t : Tabs T H) (hp : PoolAt H p) (g : Go p H H') : GoN T p H H' := ⟨fun b o n h _ => g.but b o n h, g.pool, by
  obtain ⟨ys, hy⟩ := hp.isL
  exact tabs_but t hy g.but⟩
theorem GoN.of_ext (hp : PoolAt H p) (x : ExtN H H') (t : Tabs T H') : GoN T p H H' := ⟨fun b o _ h z => x b o h z, hp.keep fun a xs h => ExtN.li x h, t⟩
theorem GoN.of_same (t : Tabs T H) (hp : PoolAt H p) (s : Same H H') : GoN T p H H' := .of_go t hp (Go.of_same hp s)
theorem GoN.go (a : GoN T p H H1) (g : Go p H1 H') : GoN T p H H' := a.trans (.of_go a.tabs a.pool g)
theorem GoN.same (a : GoN T p H H1) (s : Same H1 H') : GoN T p H H' := a.trans (.of_same a.tabs a.pool s)
theorem GoN.ext (a : GoN T p H H1) (x : ExtN H1 H') (t : Tabs T H') : GoN T p H H' := a.trans (.of_ext a.pool x t)
theorem GoN.tu (g : GoN T p H H') (hp : PoolAt H p) {a : Addr} {xs : List V} (h : H a = some (.tup xs)) : H' a = some (.tup xs) := g.but _ _ (hp.offT h) h fun _ z => nomatch z
theorem GoN.dk (g : GoN T p H H') (hp : PoolAt H p) {a : Addr} {xs : List (Key × V)} (h : H a = some (.dK xs)) : H' a = some (.dK xs) := g.but _ _ (hp.offD h) h fun _ z => nomatch z
theorem GoN.li (g : GoN T p H H') {a : Addr} {xs : List V} (n : a ≠ p) (h : H a = some (.lst xs)) : H' a = some (.lst xs) := g.but _ _ n h fun _ z => nomatch z
theorem TupsAt.ext {ms : List (Addr × Str × Int)} (h : TupsAt H ms) (x : ExtN H H') : TupsAt H' ms := fun m hm => ExtN.tu x (h m hm)
end
end Law

/-! random problems as they are used; neighbors, possible values, a random lift -/
namespace U
open PySem PySem.Spec PyProof.Rows L2
def possF (es : List (Str × Str)) (f : Str → Int) (pn : List Str) (n : Str) : List Int := if n ∈ pn then [] else ([0, 1, 2] : List Int).filter (freeB es f n)
theorem nbr_cons {es : List (Str × Str)} {x : Str} {e : Str × Str} (n : e.1 ≠ e.2) : ((if e.1 = x then [e.2] else []) ++ (if e.2 = x then [e.1] else [])) = if x = e.1 ∨ x = e.2 then [if e.2 = x then e.1 else e.2] else [] := by
  by_cases a : e.1 = x
  · have b : ¬ e.2 = x := fun z => n (a.trans z.symm)
    rw [if_pos a, if_neg b, if_pos (.inl a.symm), if_neg b]
    rfl
  · by_cases b : e.2 = x
    · rw [if_neg a, if_pos b, if_pos (.inr b.symm), if_pos b]
      rfl
    · rw [if_neg a, if_neg b, if_neg (fun z => z.elim (fun z => a z.symm) fun z => b z.symm)]
      rfl
end U
namespace Law
open PySem PySem.Spec PyProof.Rows L2 U


theorem use_problem {H : Hp} {p : Addr} {most : Int} {Q : VK} {E : XK} (h : PoolAt H p) (m0 : 0 ≤ most) (m1 : most ≤ 25)
    (k : ∀ (t g n e st ps : Addr) (ns ord pn : List Str) (es : List (Addr × Str × Str)) (f : Str → Int) (H' : Hp), Go p H H' → H t = none → H g = none → H st = none → H ps = none → H' t = some (.tup [.ref g, .ref st, .ref ps]) → GSt H' g n e st ns ord es f → H' ps = some (.tup (pn.map V.str)) → (∀ x ∈ pn, x ∈ ns) → pn.length ≤ ns.length → Asc pn → (ns.length : Int) ≤ most → Q (.ref t) H') : spProblem [.ref p, .int most] H Q E :=
  ⟨p, most, rfl, h, m0, m1, fun t g n e st ps ns ord pn es f H' go f1 f2 f3 f4 ht gr ok pm ln le hs tri pro hps pin pl asc => k t g n e st ps ns ord pn es f H' go f1 f2 f3 f4 ht ⟨gr, ok, pm, by omega, le, hs, tri, pro⟩ hps pin pl asc ln⟩
def spNbrL : Sp := fun vs H Q _ => ∃ (g n e : Addr) (x : Str) (ns : List Str) (es : List (Addr × Str × Str)), vs = [.ref g, .str x] ∧ GrAt H g n e ns es ∧ es.length ≤ 10000 ∧ (∀ y ∈ es, y.2.1 ≠ y.2.2) ∧
  ∀ (l : Addr) (H' : Hp), Same H H' → H l = none → H' l = some (.lst ((nbrF (es.map (·.2)) x).map V.str)) → Q (.ref l) H'
def spPoss (K : PySem.W.Frag) : Sp := fun vs H Q _ => ∃ (g n e st ps : Addr) (x : Str) (ns ord pn : List Str) (es : List (Addr × Str × Str)) (f : Str → Int), vs = [.ref g, .ref st, .ref ps, .str x] ∧ GSt H g n e st ns ord es f ∧ SqT K H ps (pn.map V.str) ∧ x ∈ ns ∧
  ∀ (l : Addr) (H' : Hp), Same H H' → H l = none → H' l = some (.lst ((possF (es.map (·.2)) f pn x).map V.int)) → Q (.ref l) H'
theorem GSt.neq {H : Hp} {g n e st : Addr} {ns ord : List Str} {es : List (Addr × Str × Str)} {f : Str → Int} (gs : GSt H g n e st ns ord es f) : ∀ y ∈ es, y.2.1 ≠ y.2.2 := fun y hy z => gs.pro y hy (by rw [z])
section
variable {P : Program} {w : World} {K : PySem.W.Frag} {mg : Str → Option Value} {base : Heap}
theorem ok_nbrL {f : Addr} {fd : FuncData} (F : Fun K "_law_neighbors" "_law_neighbors" s__law_neighbors f fd) (B : Bt mg) : FnG P w K mg base CX0 1 f fd ["_law_graph", "_law_node"] spNbrL := by
  refine fnG0 F sc__law_neighbors (fun vs H Q E h => ?_) (fun cdv A outer s H vs Q E hr h => ?_)
  · obtain ⟨g, n, e, x, ns, es, rfl, _⟩ := h
    rfl
  · obtain ⟨g, n, e, x, ns, es, rfl, hg, hl, ne, q⟩ := h
    have nd := sc__law_neighbors.nd
    have hu := hr.u1
    refine ⟨_, (pss_one (ps_ret (pe_lc (own := [("_law_one", 2), ("_law_other", 3)]) rfl nd (ki_tup K rfl (pe_ix (kIx K rfl) (pv 0) pe_int (fun _ _ => rfl))) (blkOk_by (own := [("_law_one", 2), ("_law_other", 3)]) (N := nN__law_neighbors) (sc := defScope s__law_neighbors) (by decide +kernel)) (fun _ _ _ _ _ => (kg_tup (n := 2) K rfl rfl (pgs_cons (pg_name (i := 2) nd rfl (by first | exact Or.inl rfl | exact Or.inr rfl)) (pgs_cons (pg_name (i := 3) nd rfl (by first | exact Or.inl rfl | exact Or.inr rfl)) pgs_nil)))) (fun _ _ _ _ _ => (pts_one (pt_cmpR (kIn K rfl) (pv 1) (pe_tup (pa_cons (pv 2) (pa_cons (pv 3) pa_nil))) rfl))) (fun _ _ _ _ _ => (pe_ifExp (pt_cmpR (kEq K rfl hr.u64) (pv 3) (pv 1) (nomark _)) (pv 2) (pv 3)))))), ?_⟩
    wtm_at "rd"
    refine rd_ixT (SqT.of hg.top) (v := .ref e) rfl ?_
    refine rd_forT (SqT.of hg.edges) ?_
    intro D fD
    refine lcT (K := K) (xs := es.map fun x => V.ref x.1) (fun i H' => Same H H' ∧ H' D = some (.lst ((nbrF ((es.map (·.2)).take i) x).map V.str))) ⟨Same.new fD, upd_same⟩ ?_ ?_ ?_
    · rintro i H' hi ⟨s, _⟩
      exact SqT.of (hg.same s).edges
    · rintro i y H' hy ⟨s, hD⟩
      obtain ⟨hi, rfl⟩ := map_at hy
      have hi2 : i < (es.map (·.2)).length := by rw [List.length_map]; exact hi
      have st := nbrF_take (x := x) hi2
      rw [List.getElem_map] at st
      have len : (nbrF ((es.map (·.2)).take i) x).length ≤ 2 * i := by
        have := nbrF_len (x := x) (es := (es.map (·.2)).take i)
        rw [List.length_take] at this
        omega
      have ee := ne _ (List.getElem_mem hi)
      rw [nbr_cons (es := []) ee] at st
      have hp := (hg.same s).pairs es[i] (List.getElem_mem hi)
      generalize es[i] = e1 at *
      refine rd_unp (SqT.of hp) rfl ?_
      wtm_at "rd"
      intro t ft
      have kt := Same.new (o := .tup [.str e1.2.1, .str e1.2.2]) ft
      have ht := @upd_same H' t (.tup [.str e1.2.1, .str e1.2.2])
      have hD := kt _ _ hD
      have s := s.trans kt
      generalize upd H' t (.tup [.str e1.2.1, .str e1.2.2]) = Ha at ht hD s
      clear kt ft
      wtm_at "rd"
      refine rd_inST (xs := [e1.2.1, e1.2.2]) (SqT.of ht) ?_
      wtm_at "rd"
      refine rd_split (fun c => ?_) (fun c => ?_)
      · have c : x = e1.2.1 ∨ x = e1.2.2 := by simpa using c
        rw [if_pos c] at st
        wtm_at "rd"
        refine rd_split (fun c2 => ?_) (fun c2 => ?_)
        · rw [if_pos c2] at st
          wtm_at "rd"
          refine rd_acc hD (by rw [List.length_map]; omega) ?_
          exact ⟨same_put s fD, by rw [upd_same, st, List.map_append]; rfl⟩
        · rw [if_neg c2] at st
          wtm_at "rd"
          refine rd_acc hD (by rw [List.length_map]; omega) ?_
          exact ⟨same_put s fD, by rw [upd_same, st, List.map_append]; rfl⟩
      · have c : ¬ (x = e1.2.1 ∨ x = e1.2.2) := by simpa using c
        rw [if_neg c, List.append_nil] at st
        exact ⟨s, by rw [st]; exact hD⟩
    · rintro H' ⟨s, hD⟩
      rw [List.length_map, List.take_of_length_le (by rw [List.length_map]; exact Nat.le_refl _)] at hD
      exact q D H' s fD hD
structure B4a (P : Program) (w : World) (K : PySem.W.Frag) (mg : Str → Option Value) (base : Heap) : Prop where
  _law_neighbors : Cal P w K mg base CX0 1 "_law_neighbors" spNbrL
theorem ok_possB {f : Addr} {fd : FuncData} (F : Fun K "_law_possible" "_law_possible" s__law_possible f fd) (B : Bt mg) (C : B4a P w K mg base) : FnG P w K mg base CX0 2 f fd ["_law_graph", "_law_state", "_law_pins", "_law_node"] (spPoss K) := by
  refine fnG0 F sc__law_possible (fun vs H Q E h => ?_) (fun cdv A outer s H vs Q E hr h => ?_)
  · obtain ⟨g, n, e, st, ps, x, ns, ord, pn, es, f, rfl, _⟩ := h
    rfl
  · obtain ⟨g, n, e, st, ps, x, ns, ord, pn, es, f, rfl, gs, hps, hx, q⟩ := h
    have nd := sc__law_possible.nd
    have hu := hr.u1
    refine ⟨_, (pss_cons (ps_set (i := 4) nd rfl (by first | exact Or.inl rfl | exact Or.inr rfl) (pe_op (kAdd K rfl) (pe_lst (pa_cons (pe_dget hu (pv 1) (pv 3) (fun _ _ => rfl)) pa_nil)) (pe_lc (own := [("_law_other", 5)]) rfl nd (ki_list K rfl (pe_c C._law_neighbors hr (by decide) rfl (pa_cons (pv 0) (pa_cons (pv 3) pa_nil)))) (blkOk_by (own := [("_law_other", 5)]) (N := nN__law_possible) (sc := defScope s__law_possible) (by decide +kernel)) (fun _ _ _ _ _ => (pg_name (i := 5) nd rfl (by first | exact Or.inl rfl | exact Or.inr rfl))) (fun _ _ _ _ _ => pts_nil) (fun _ _ _ _ _ => (pe_dget hu (pv 1) (pv 5) (fun _ _ => rfl))))))
  (pss_one (ps_ret (pe_lc (own := [("_law_value", 6)]) rfl nd (pi_range1 rfl B.range (pa_cons pe_int pa_nil)) (blkOk_by (own := [("_law_value", 6)]) (N := nN__law_possible) (sc := defScope s__law_possible) (by decide +kernel)) (fun _ _ _ _ _ => (pg_name (i := 6) nd rfl (by first | exact Or.inl rfl | exact Or.inr rfl))) (fun _ _ _ _ _ => (pts_one (PW.pt (pw_and (pt_cmpR (kNotIn K rfl) (pv 6) (pv 4) rfl) (pw_and1 (pt_cmpR (kNotIn K rfl) (pv 3) (pv 2) rfl)))))) (fun _ _ _ _ _ => (pv 6)))))), ?_⟩
    wtm_at "rd"
    refine rd_dat (.inl gs.st) (kvF_val (gs.inO _ hx)) rfl ?_
    wtm_at "rd"
    intro a1 fa1
    have s1 := Same.new (o := .lst [.int (f x)]) fa1
    have ha1 := @upd_same H a1 (.lst [.int (f x)])
    generalize upd H a1 (.lst [.int (f x)]) = H1 at s1 ha1
    have gs1 := gs.same s1
    wtm_at "rd"
    refine ⟨g, n, e, x, ns, es, rfl, gs1.gr, Nat.le_trans gs1.l3 (by decide), gs1.neq, fun l H2 s2 fl hl => ?_⟩
    have gs2 := gs1.same s2
    have ha2 := s2 _ _ ha1
    have nb : ∀ y ∈ nbrF (es.map (·.2)) x, y ∈ ns := fun y hy => (adj_in gs.eok (show Adj _ x y from mem_nbrF.mp hy)).2.1
    have nl := nbrF_len (x := x) (es := es.map (·.2))
    rw [List.length_map] at nl
    have l3 := gs.l3
    generalize hnb : nbrF (es.map (·.2)) x = nbs at *
    refine rd_forL (SqL.of hl) ?_
    intro D fD
    refine lcL (K := K) (xs := nbs.map V.str) (fun i H' => Same H2 H' ∧ H' D = some (.lst (((nbs.take i).map f).map V.int))) ⟨Same.new fD, upd_same⟩ ?_ ?_ ?_
    · rintro i H' hi ⟨s, _⟩
      exact SqL.of (s _ _ hl)
    · rintro i y H' hy ⟨s, hD⟩
      obtain ⟨hi, rfl⟩ := map_at hy
      have yin := nb _ (List.getElem_mem hi)
      wtm_at "rd"
      refine rd_dat (.inl (s _ _ gs2.st)) (kvF_val (gs.inO _ yin)) rfl ?_
      refine rd_acc hD (by rw [List.length_map, List.length_map, List.length_take]; omega) ?_
      refine ⟨same_put s fD, ?_⟩
      rw [upd_same, take_snoc hi, List.map_append, List.map_append]
      rfl
    rintro H3 ⟨s3, hD⟩
    rw [List.length_map, List.take_length] at hD
    have ha3 := s3 _ _ ha2
    refine rd_catL (xs := [.int (f x)]) ha3 hD (by rw [List.length_map, List.length_map]; show 1 + _ ≤ 100000; omega) ?_
    intro sA fsA
    have s4 := Same.new (o := .lst ([.int (f x)] ++ (nbs.map f).map V.int)) fsA
    have hsA := @upd_same H3 sA (.lst ([.int (f x)] ++ (nbs.map f).map V.int))
    generalize upd H3 sA (.lst ([.int (f x)] ++ (nbs.map f).map V.int)) = H4 at s4 hsA
    have s04 := ((s1.trans s2).trans s3).trans s4
    have hps4 := Same.seqT s04 hps
    clear s1 s2 s3 s4 ha1 ha2 ha3 hD fD fa1 fl hl gs1 gs2
    wtm_at "rd"
    intro E fE
    refine lcR (fun i H' => Same H4 H' ∧ H' E = some (.lst (((([0, 1, 2] : List Int).take i).filter fun v => freeB (es.map (·.2)) f x v && decide (x ∉ pn)).map V.int))) ⟨Same.new fE, upd_same⟩ ?_ ?_
    · rintro i H' hi ⟨s, hE⟩
      have hi : i < 3 := hi
      have tk : (([0, 1, 2] : List Int).take (i + 1)) = ([0, 1, 2] : List Int).take i ++ [(i : Int)] := by
        have : i = 0 ∨ i = 1 ∨ i = 2 := by omega
        rcases this with rfl | rfl | rfl <;> rfl
      have len : ((([0, 1, 2] : List Int).take i).filter fun v => freeB (es.map (·.2)) f x v && decide (x ∉ pn)).length ≤ 3 := Nat.le_trans (List.length_filter_le _ _) (by rw [List.length_take]; exact Nat.min_le_right _ _)
      have e0 : (0 + (i : Int)) = (i : Int) := Int.zero_add _
      rw [e0, tk, List.filter_append, List.map_append]
      have fb : freeB (es.map (·.2)) f x (i : Int) = !decide ((i : Int) ∈ [f x] ++ nbs.map f) := by
        unfold freeB
        rw [hnb]
        congr 1
        rw [decide_eq_decide, List.mem_append, List.mem_append, Or.comm]
      wtm_at "rd"
      refine rd_ninIL (xs := [f x] ++ nbs.map f) (SqL.of (by rw [List.map_append]; exact s _ _ hsA)) ?_
      rw [← fb]
      wtm_at "rd"
      refine rd_b (fun c => ?_) (fun c => ?_)
      · wtm_at "rd"
        refine rd_ninST (Same.seqT s hps4) ?_
        wtm_at "rd"
        refine rd_nsplit (fun c2 => ?_) (fun c2 => ?_)
        · wtm_at "rd"
          refine rd_acc hE (by rw [List.length_map]; omega) ?_
          refine ⟨same_put s fE, ?_⟩
          rw [upd_same, List.filter_cons, c, decide_eq_true c2]
          rfl
        · refine ⟨s, ?_⟩
          rw [show ([(i : Int)].filter fun v => freeB (es.map (·.2)) f x v && decide (x ∉ pn)) = [] from by rw [List.filter_cons, decide_eq_false (fun z => z c2), Bool.and_false]; rfl, List.map_nil, List.append_nil]
          exact hE
      · wtm_at "rd"
        refine ⟨s, ?_⟩
        rw [List.filter_cons, c, Bool.false_and, if_neg Bool.false_ne_true, List.filter_nil, List.map_nil, List.append_nil]
        exact hE
    · rintro H5 ⟨s, hE⟩
      wtm_at "rd"
      refine q E H5 (s04.trans s) (new_of_same s04 fE) ?_
      rw [hE]
      congr 3
      show ([0, 1, 2] : List Int).filter _ = possF _ f pn x
      unfold possF
      by_cases c : x ∈ pn
      · rw [if_pos c, List.filter_eq_nil_iff]
        intro a _ z
        rw [decide_eq_false (fun z => z c), Bool.and_false] at z
        exact Bool.false_ne_true z
      · rw [if_neg c]
        congr 1
        funext v
        rw [decide_eq_true c, Bool.and_true]
end
end Law

/-! _law_unused_name: a letter that names no node -/
namespace U
open PySem PySem.Spec PyProof.Rows L2
def chS (c : Nat) : Str := ⟨#[c]⟩
end U
namespace Law
open PySem PySem.Spec PyProof.Rows L2 U


def abcS : Str := "abcdefghijklmnopqrstuvwxyz"
theorem abc_cps : abcS.cps.toList = (List.range 26).map (· + 97) := by decide +kernel
theorem chS_inj {a b : Nat} (h : chS a = chS b) : a = b := by
  have h1 : (chS a).cps = (chS b).cps := congrArg Str.cps h
  have h2 : (#[a] : Array Nat).toList = (#[b] : Array Nat).toList := congrArg Array.toList h1
  exact List.head_eq_of_cons_eq h2
theorem letter_left {ns : List Str} (l : ns.length ≤ 25) : ∃ x r, ((abcS.cps.toList.map chS).filter fun x => !decide (x ∈ ns)) = x :: r ∧ x ∉ ns ∧ IsName x := by
  cases h : (abcS.cps.toList.map chS).filter fun x => !decide (x ∈ ns) with
  | nil =>
    have all : ∀ x ∈ abcS.cps.toList.map chS, x ∈ ns := fun x hx => by
      have := List.filter_eq_nil_iff.mp h x hx
      simpa using this
    have nd : (abcS.cps.toList.map chS).Nodup := by
      rw [abc_cps, List.map_map]
      refine List.pairwise_map.mpr ((List.nodup_range (n := 26)).imp fun {a b} n e => n ?_)
      have : a + 97 = b + 97 := chS_inj e
      omega
    have := nodup_len nd all
    rw [List.length_map, abc_cps, List.length_map, List.length_range] at this
    omega
  | cons x r =>
    have m : x ∈ (abcS.cps.toList.map chS).filter fun x => !decide (x ∈ ns) := by
      rw [h]
      exact List.mem_cons_self
    obtain ⟨m1, m2⟩ := List.mem_filter.mp m
    refine ⟨x, r, rfl, by simpa using m2, ?_⟩
    obtain ⟨c, hc, rfl⟩ := List.mem_map.mp m1
    rw [abc_cps] at hc
    obtain ⟨j, hj, rfl⟩ := List.mem_map.mp hc
    have := List.mem_range.mp hj
    refine ⟨Nat.le_refl _, by show 1 ≤ 8; decide, fun z hz => ?_⟩
    have e : z = j + 97 := by simpa [chS] using hz
    omega
def spUnused : Sp := fun vs H Q _ => ∃ (g n e : Addr) (ns : List Str), vs = [.ref g] ∧ H g = some (.tup [.ref n, .ref e]) ∧ H n = some (.tup (ns.map V.str)) ∧ ns.length ≤ 25 ∧ ∀ (x : Str) (H' : Hp), Same H H' → x ∉ ns → IsName x → Q (.str x) H'
section
variable {P : Program} {w : World} {K : PySem.W.Frag} {mg : Str → Option Value} {base : Heap}
theorem ok_unused {f : Addr} {fd : FuncData} (F : Fun K "_law_unused_name" "_law_unused_name" s__law_unused_name f fd) (B : Bt mg) : FnG P w K mg base CX0 1 f fd ["_law_graph"] spUnused := by
  refine fnG0 F sc__law_unused_name (fun vs H Q E h => ?_) (fun cdv A outer s H vs Q E hr h => ?_)
  · obtain ⟨g, n, e, ns, rfl, _⟩ := h
    rfl
  · obtain ⟨g, n, e, ns, rfl, hg, hn, l, q⟩ := h
    have nd := sc__law_unused_name.nd
    have hu := hr.u1
    refine ⟨_, (pss_one (ps_ret (pe_ix (kIx K rfl) (pe_lc (own := [("_law_letter", 1)]) rfl nd (pi_str pe_str) (blkOk_by (own := [("_law_letter", 1)]) (N := nN__law_unused_name) (sc := defScope s__law_unused_name) (by decide +kernel)) (fun _ _ _ _ _ => (pg_name (i := 1) nd rfl (by first | exact Or.inl rfl | exact Or.inr rfl))) (fun _ _ _ _ _ => (pts_one (pt_cmpR (kNotIn K rfl) (pv 1) (pe_ix (kIx K rfl) (pv 0) pe_int (fun _ _ => rfl)) rfl))) (fun _ _ _ _ _ => (pv 1))) pe_int (fun _ _ => rfl)))), ?_⟩
    wtm_at "rd"
    refine ⟨abcS, rfl, ?_⟩
    intro D fD
    refine lc_it walk_str (fun i H2 => Same H H2 ∧ H2 D = some (.lst ((((abcS.cps.toList.take i).map chS).filter fun x => !decide (x ∈ ns)).map V.str))) ⟨Same.new fD, upd_same⟩ (fun _ _ _ _ => trivial) ?_ ?_
    · rintro i y H2 H3 hi ⟨s, hD⟩ ⟨rfl, c, hc, rfl⟩
      have hc2 : abcS.cps.toList[i]? = some c := by rw [Array.getElem?_toList]; exact hc
      have tk : (abcS.cps.toList.take (i + 1)).map chS = (abcS.cps.toList.take i).map chS ++ [chS c] := by
        rw [List.take_succ, hc2, List.map_append]
        rfl
      have len : (((abcS.cps.toList.take i).map chS).filter fun x => !decide (x ∈ ns)).length ≤ 26 := by
        refine Nat.le_trans (List.length_filter_le _ _) ?_
        rw [List.length_map, abc_cps]
        exact Nat.le_trans (List.length_take_le' _ _) (by rw [List.length_map, List.length_range]; exact Nat.le_refl _)
      show _
      rw [tk, List.filter_append, List.map_append]
      show gName _ (V.str (chS c)) _ _ _
      wtm_at "rd"
      refine rd_ixT (SqT.of (s _ _ hg)) (v := .ref n) rfl ?_
      wtm_at "rd"
      refine rd_ninST (SqT.of (s _ _ hn)) ?_
      wtm_at "rd"
      by_cases hx : chS c ∈ ns
      · have e1 : ([chS c].filter fun x => !decide (x ∈ ns)) = [] := by simp [hx]
        rw [e1, List.map_nil, List.append_nil, if_neg (by simp [hx])]
        exact ⟨s, hD⟩
      · have e1 : ([chS c].filter fun x => !decide (x ∈ ns)) = [chS c] := by simp [hx]
        rw [e1, if_pos (by simp [hx])]
        wtm_at "rd"
        refine ⟨_, hD, by rw [List.length_map]; exact Nat.lt_of_le_of_lt len (by decide), fun b o hb => ?_, upd_same⟩
        have nb : b ≠ D := fun z => by
          rw [z, fD] at hb
          exact nomatch hb
        rw [upd_ne nb]
        exact s _ _ hb
    · rintro H2 ⟨s, hD⟩
      obtain ⟨x, r, e, nx, ix⟩ := letter_left l
      have tk : abcS.cps.toList.take abcS.cps.size = abcS.cps.toList := List.take_of_length_le (by rw [Array.length_toList]; exact Nat.le_refl _)
      rw [tk, e, List.map_cons] at hD
      wtm_at "rd"
      refine rd_ixL (SqL.of hD) (v := .str x) (by simp [atI, ixN]) ?_
      exact q x H2 s nx ix
end
end Law

/-! sorted(d) where d's keys are tuples of numbers -/
namespace U
open PySem PySem.Spec PyProof.Rows L2
section
variable {X : Cx}
end
end U

/-! sorted(d.items()), d a dict of numbers by names -/
namespace U
open PySem PySem.Spec PyProof.Rows L2 L2.DX
def rItemsK : V → List V → Hp → VK → Prop := fun x xs H Q => ∃ (a : Addr) (kvs : List (Key × V)), x = .ref a ∧ xs = [] ∧ H a = some (.dK kvs) ∧ ∀ p, H p = none → Q (.ref p) (upd H p (itemsO p a))
/-- a name and its number -/
abbrev dPr (f : Str → Int) (x : Str) : PyData := .tuple [.str x, .int (f x)]
def rSortIK : List V → Hp → VK → Prop := fun vs H Q => ∃ (p d : Addr) (ks : List Str) (f : Str → Int), vs = [.ref p] ∧ H p = some (itemsO p d) ∧ H d = some (.dK (kvF ks f)) ∧
  ∀ (H' : Hp) (l : Addr) (bs : List (Addr × Str)), Same H H' → H l = none → H' l = some (.lst (bs.map fun b => V.ref b.1)) → (∀ b ∈ bs, H' b.1 = some (.tup [.str b.2, .int (f b.2)])) → (bs.map (·.2)).Perm ks → (bs.map (·.2)).Pairwise (fun a b => ¬ sLt b a) → Q (.ref l) H'
theorem reads_si {h : Heap} {x : Str} {i : Int} : ∀ {vs : List Value} {as : List Addr}, ReadsAll h vs [.str x, .int i] as → as = [] := by
  intro vs as r
  cases r with
  | cons k1 k2 =>
    cases k1
    cases k2 with
    | cons k3 k4 =>
      cases k3
      cases k4
      rfl
theorem pr_lt {f : Str → Int} {a b : Str} (h : dLt (dPr f b) (dPr f a) = false) : ¬ sLt b a := fun z => by
  have h' : PySem.W.dataLt (.tuple [.str b, .int (f b)]) (.tuple [.str a, .int (f a)]) = false := h
  rw [PySem.W.dataLt_pair (by rfl) (by rfl)] at h'
  have ne : PyData.eqv (.str b) (.str a) = false := by
    simp only [PyData.eqv]
    refine beq_eq_false_iff_ne.mpr fun e => ?_
    rw [e] at z
    exact sLt_irrefl _ z
  rw [ne, if_neg (by decide), PySem.W.dataLt_str] at h'
  exact of_decide_eq_false h' z
section
variable {X : Cx}
theorem mt_itemsK : MtR X "dict.items" rItemsK := by
  intro pins s σ H x xs v us Q I rx rxs h
  obtain ⟨a, kvs, rfl, rfl, ha, q⟩ := h
  cases rx
  cases rxs
  obtain ⟨z, hd, vs, kv, o, es, ep, ho, hx, hdat, _⟩ := dk_of I.hok ha
  refine DT.callItems (es := es) (ep := ep) hd ⟨o, ho, hx, hdat⟩ ?_
  have fr : H s.heap.objs.size = none := I.hok.fresh (Nat.le_refl _)
  refine ⟨.ref s.heap.objs.size, upd H s.heap.objs.size (itemsO s.heap.objs.size a), ?_, rfl, q _ fr⟩
  exact I.laid (t' := s.toks) (fun b u e => Heap.get?_push_of_some _ e) (Nat.le_refl _) (itemsO_ok (Heap.get?_push_size _ rfl))
theorem prs_at {ks : List Str} {f : Str → Int} {knd : PySem.KeyKind X.prog X.w Key} : ∀ {vs : List (Key × Value)} {es : List DictEntry}, KV (kvF ks f) vs → Pairs knd es vs → (∀ k v, knd.is k v = true → RelV (kV k) v) → es.length = ks.length ∧
    ∀ j (hj : j < ks.length), ∃ e, es[j]? = some e ∧ RelV (.str ks[j]) e.key ∧ RelV (.int (f ks[j])) e.val := by
  intro vs es kv pr hk
  induction ks generalizing vs es with
  | nil =>
    cases kv
    cases pr
    exact ⟨rfl, fun j hj => absurd hj (Nat.not_lt_zero _)⟩
  | cons x ks ih =>
    cases kv with
    | cons h t =>
      cases pr with
      | cons p1 p2 p3 =>
        obtain ⟨l, at_⟩ := ih t p3
        refine ⟨by simpa using l, fun j hj => ?_⟩
        cases j with
        | zero =>
          refine ⟨_, rfl, ?_, ?_⟩
          · rw [← h.1] at p1
            exact hk _ _ p1
          · rw [p2]
            exact h.2
        | succ j => exact at_ j (by simpa using hj)
theorem cr_sortedItK (hc : X.calm = true) (hu : X.A.units + 64 < cLine) : CallR X (.builtin "sorted") rSortIK := by
  intro pins s σ H xs us Q I r h
  obtain ⟨p, d, ks, f, rfl, hp, hd, q⟩ := h
  obtain rfl := Vals.ref1 r
  have view : s.heap.IsItemsView p d := (show ObjOk X.prog X.w H s.heap p (itemsO p d) from I.hok p _ hp).1
  obtain ⟨z, hs, vs, kv, o, es, ep, ho, hx, hdat, hko, prs, ndk⟩ := dk_of I.hok hd
  obtain ⟨le, ats⟩ := prs_at (X := X) kv prs fun k v e => relV_key e
  have zl : (kvF ks f).length = ks.length := List.length_map _
  rw [Array.length_toList] at le
  refine DT.sortedI (es := es) (ep := ep) (I.ok.hd hc) view ⟨o, ho, hx, hdat⟩ (by omega) fun h' tk as hk hlt hl hG => ?_
  have la : as.length = ks.length := hl.trans le
  have nd : as.Nodup := hG.rise.imp fun h => Nat.ne_of_lt h
  have cont : ∀ (j : Nat) (b : Addr), as[j]? = some b → ∃ x, ks[j]? = some x ∧ ∃ vs, Vals [.str x, .int (f x)] vs ∧ h'.get? b = some { cls := .type "tuple", data := .seq vs.toArray } := by
    intro j b hj
    obtain ⟨e, he, hg⟩ := hG.pairs j b hj
    have hj2 : j < ks.length := by
      have := (List.getElem?_eq_some_iff.mp hj).1
      omega
    obtain ⟨e', he', r1, r2⟩ := ats j hj2
    rw [Array.getElem?_toList] at he'
    have ee : e' = e := Option.some.inj (he'.symm.trans he)
    rw [ee] at r1 r2
    exact ⟨_, List.getElem?_eq_getElem hj2, [e.key, e.val], .cons r1 (.cons r2 .nil), hg⟩
  have I1 : Inv X pins σ H { s with heap := h', toks := tk } := I.kept hk
  obtain ⟨H1, I2, mono, tk2⟩ := takeT (P := fun b vs => ∃ (j : Nat) (x : Str), as[j]? = some b ∧ ks[j]? = some x ∧ vs = [.str x, .int (f x)]) I as H I1 nd fun b hb => by
    obtain ⟨j, hj⟩ := List.mem_iff_getElem?.mp hb
    obtain ⟨x, hx, vs, rv, hg⟩ := cont j b hj
    have ab := hG.above b hb
    exact ⟨Nat.le_of_lt ab, I.hok.fresh (Nat.le_of_lt ab), [.str x, .int (f x)], ⟨j, x, hj, hx, rfl⟩, fun H2 => ⟨by show 2 ≤ sizeLine; decide, vs, rv, _, hg, rfl, 0, rfl⟩⟩
  -- names by their tuples
  obtain ⟨bs, eb1, eb2⟩ : ∃ bs : List (Addr × Str), bs.map (·.1) = as ∧ bs.map (·.2) = ks := ⟨as.zip ks, List.map_fst_zip (Nat.le_of_eq la), List.map_snd_zip (Nat.le_of_eq la.symm)⟩
  have tup : ∀ b ∈ bs, H1 b.1 = some (.tup [.str b.2, .int (f b.2)]) := by
    intro b hb
    obtain ⟨j, hj⟩ := List.mem_iff_getElem?.mp hb
    have h1 : as[j]? = some b.1 := by rw [← eb1, List.getElem?_map, hj]; rfl
    have h2 : ks[j]? = some b.2 := by rw [← eb2, List.getElem?_map, hj]; rfl
    obtain ⟨ws, ⟨i, x, i1, i2, rfl⟩, hw⟩ := tk2 b.1 (List.mem_of_getElem? h1)
    have ij : i = j := by
      have a1 := (List.getElem?_eq_some_iff.mp i1)
      have a2 := (List.getElem?_eq_some_iff.mp h1)
      obtain ⟨l1, e1⟩ := a1
      obtain ⟨l2, e2⟩ := a2
      exact (List.pairwise_iff_getElem.mp hG.rise) |> fun pw => by
        rcases Nat.lt_trichotomy i j with h | h | h
        · have := pw i j l1 l2 h
          rw [e1, e2] at this
          exact absurd this (Nat.lt_irrefl _)
        · exact h
        · have := pw j i l2 l1 h
          rw [e1, e2] at this
          exact absurd this (Nat.lt_irrefl _)
    subst ij
    obtain rfl : x = b.2 := Option.some.inj (i2.symm.trans h2)
    exact hw
  have ev : as.map Value.ref = bs.map fun b => Value.ref b.1 := by rw [← eb1, List.map_map]; rfl
  have bl : bs.length = ks.length := by rw [← eb2, List.length_map]
  rw [ev]
  have hoL : (h'.push (seqObj "list" (bs.map fun b => Value.ref b.1).toArray 0)).get? h'.objs.size = some (seqObj "list" (bs.map fun b => Value.ref b.1).toArray 0) := Heap.get?_push_size _ rfl
  have e1 : PySem.W.EachIs (fun (v : Value) (b : Addr × Str) => v = Value.ref b.1) (bs.map fun b => Value.ref b.1) bs := by
    generalize bs = cs
    induction cs with
    | nil => exact .nil
    | cons c cs ih => exact .cons rfl ih
  have rdE : ∀ b ∈ bs, ∃ as, Reads (h'.push (seqObj "list" (bs.map fun b => Value.ref b.1).toArray 0)) (.ref b.1) (dPr f b.2) as ∧ h'.objs.size ∉ as := by
    intro b hb
    obtain ⟨as2, rd⟩ := Dp.reads I2 (dPr f b.2) (.ref b.1) (.ref b.1) (.tup (SqT.of (tup b hb)) (.cons (.str _) (.cons (.int _) .nil))) rfl
    have nil : as2 = [] := by
      cases rd with
      | tuple h1 h2 h3 h4 => exact reads_si h4
    subst nil
    exact ⟨[], PyProof.Rows.Reads.keeps (fun _ _ q => Heap.get?_push_of_some _ q) rd, fun z => nomatch z⟩
  have er : PySem.W.EachIs (fun (v : Value) (b : Addr × Str) => ∃ as, Reads (h'.push (seqObj "list" (bs.map fun b => Value.ref b.1).toArray 0)) v (dPr f b.2) as ∧ h'.objs.size ∉ as) (bs.map fun b => Value.ref b.1) bs := by
    generalize hh : h'.push (seqObj "list" (bs.map fun b => Value.ref b.1).toArray 0) = hp2 at rdE
    clear hh ev eb1 eb2 tup bl hoL e1
    induction bs with
    | nil => exact .nil
    | cons c cs ih => exact .cons (rdE c List.mem_cons_self) (ih fun b hb => rdE b (List.mem_cons_of_mem _ hb))
  have hal : PySem.W.AllAlike (bs.map fun b => dPr f b.2) := PySem.W.AllAlike.of (enc := fun b : Addr × Str => dPr f b.2) fun a b => by simp [PySem.W.alike, PySem.W.alikeAll]
  have hk2 : PySem.W.Sortable (bs.map fun b => dPr f b.2) := .inl fun z hz => by
    obtain ⟨b, hb, rfl⟩ := List.mem_map.mp hz
    exact ⟨_, _, rfl⟩
  have hu2 : ∀ b, b ∈ bs → X.A.in1.units + 1 + (dPr f b.2).depth < cLine := fun b _ => by
    have d1 : (dPr f b.2).depth = 1 := by simp [PyData.depth, PyData.depthAll]
    have i1 : X.A.in1.units ≤ X.A.units + 2 := by first | exact Nat.le_refl _ | exact Nat.le_succ _ | (show _ + 1 ≤ _ + 2; exact Nat.le_succ _)
    rw [d1]
    omega
  refine PySem.W.list_sort_data (s := { s with heap := h'.push (seqObj "list" (bs.map fun b => Value.ref b.1).toArray 0), toks := tk }) (R := fun (v : Value) (b : Addr × Str) => v = Value.ref b.1) (bs := bs) (enc := fun b => dPr f b.2) hoL e1 er hal hk2 (by omega) hu2 fun out ol oe => ?_
  have perm : (bs.mergeSort (PySem.W.dataLe false fun b : Addr × Str => dPr f b.2)).Perm bs := List.mergeSort_perm _ _
  have srt : (bs.mergeSort (PySem.W.dataLe false fun b : Addr × Str => dPr f b.2)).Pairwise (fun a b => dLt (dPr f b.2) (dPr f a.2) = false) :=
    (PySem.W.sort_pairwise (PySem.W.sortLe_total _ _ _) bs).imp fun {a b} z => by
      have z' : (!dLt (dPr f b.2) (dPr f a.2)) = true := z
      simpa using z'
  generalize bs.mergeSort (PySem.W.dataLe false fun b : Addr × Str => dPr f b.2) = cs at perm srt oe
  obtain ⟨e', he'⟩ := PyProof.Rows.sortedHeap_at (vs := bs.map fun b => Value.ref b.1) (out := out.toArray) hoL
  have hlen : (cs.map fun b => V.ref b.1).length ≤ sizeLine := by
    rw [List.length_map, perm.length_eq]
    omega
  have eo : ∀ {out : List Value} {cs : List (Addr × Str)}, PySem.W.EachIs (fun v b => v = Value.ref b.1) out cs → Vals (cs.map fun b => V.ref b.1) out := by
    intro out cs e
    induction e with
    | nil => exact .nil
    | cons h _ ih => exact .cons h ih
  have fr1 : H1 h'.objs.size = none := I2.hok.fresh (Nat.le_refl _)
  refine ⟨.ref h'.objs.size, upd H1 h'.objs.size (.lst (cs.map fun b => V.ref b.1)), I2.laid (t' := tk) (fun b u e => ?_) (Nat.le_refl _)
    (show ObjOk X.prog X.w _ _ _ (.lst (cs.map fun b => V.ref b.1)) from ⟨hlen, out, e', eo oe, he'⟩), rfl, ?_⟩
  · have hb : b < h'.objs.size := Heap.lt_size e
    rw [PyProof.Rows.sortedHeap_old (Nat.ne_of_lt hb) (by rw [size_push']; exact Nat.lt_succ_of_lt hb)]
    exact Heap.get?_push_of_some _ e
  · refine q _ _ cs (fun b o hb => at_upd (ne_of_none (mono b o hb) fr1) (mono b o hb)) (I.hok.fresh (Nat.le_of_lt hlt)) upd_same (fun b hb => ?_) ?_ ?_
    · have hb' := tup b (perm.mem_iff.mp hb)
      exact at_upd (ne_of_none hb' fr1) hb'
    · rw [← eb2]
      exact perm.map _
    · exact List.pairwise_map.mpr (srt.imp fun {a b} z => pr_lt z)
end
end U

/-! repr of [graph, state, lift, pins], the lift's numbers small -/
namespace U
open PySem PySem.Spec PyProof.Rows L2
theorem int99_lv {i : Int} (h0 : -99 ≤ i) (h1 : i ≤ 99) : (PyData.int i).leavesShort 13 = true ∧ (PyData.int i).showable = true := by
  have e : i.natAbs < 10 ^ 2 := by omega
  constructor
  · rw [PyData.leavesShort, decide_eq_true_eq]
    have := int_text_length_le10 (a := i) (k := 2) (by decide) e
    show (Str.ofString (toString i)).length ≤ 13
    rw [PySem.ofString_length]
    omega
  · rw [PyData.showable, decide_eq_true_eq]
    by_cases z : i.natAbs = 0
    · rw [z]
      decide
    · exact (Nat.log2_lt z).mpr (Nat.lt_trans e (by decide))
end U

/-! k42: random moves, the expected result -/
namespace U
open PySem PySem.Spec PyProof.Rows L2
def SmallD (ks : List Str) (f : Str → Int) : Prop := ks.Nodup ∧ ks.length ≤ 100 ∧ ∀ n ∈ ks, IsName n ∧ -99 ≤ f n ∧ f n ≤ 99
theorem lvs_prs {f : Str → Int} : ∀ {ks : List Str}, (∀ n ∈ ks, IsName n ∧ -99 ≤ f n ∧ f n ≤ 99) → PyData.leavesShortAll 13 (ks.map (dPr f)) = true ∧ PyData.showableAll (ks.map (dPr f)) = true ∧ PyData.bulkAll (ks.map (dPr f)) ≤ 19 * ks.length ∧ PyData.depthAll (ks.map (dPr f)) ≤ 1 ∧ PyData.hasDictAll (ks.map (dPr f)) = false
  | [], _ => by simp [PyData.leavesShortAll, PyData.showableAll, PyData.bulkAll, PyData.depthAll, PyData.hasDictAll]
  | n :: ks, h => by
    obtain ⟨a, b, c, d, e⟩ := lvs_prs (ks := ks) fun x hx => h x (List.mem_cons_of_mem _ hx)
    obtain ⟨h1, h2, h3⟩ := h n List.mem_cons_self
    have b1 := h1.bk
    obtain ⟨i1, i2⟩ := int99_lv h2 h3
    have l1 := h1.lv
    simp only [List.map_cons, PyData.leavesShortAll, PyData.showableAll, PyData.bulkAll, PyData.depthAll, PyData.hasDictAll, List.length_cons, PyData.leavesShort, PyData.showable, PyData.bulk, PyData.depth, PyData.hasDict, a, b, e] at *
    rw [l1, i1, i2]
    refine ⟨rfl, rfl, ?_, ?_, rfl⟩
    · omega
    · omega
theorem shows_prs {ks : List Str} {f : Str → Int} (h : SmallD ks f) : Shows (.list (ks.map (dPr f))) := by
  obtain ⟨_, l, h⟩ := h
  obtain ⟨a, b, c, d, _⟩ := lvs_prs h
  refine ⟨?_, ?_, ?_, ?_⟩
  · rw [PyData.showable, b]
  · rw [PyData.leavesShort, a]
  · rw [PyData.bulk]
    omega
  · rw [PyData.depth]
    omega
theorem dp_prN {K : PySem.W.Frag} {H : Hp} {f : Str → Int} : ∀ {bs : List (Addr × Str)}, (∀ b ∈ bs, H b.1 = some (.tup [.str b.2, .int (f b.2)])) → DpAll K H (bs.map fun b => V.ref b.1) ((bs.map (·.2)).map (dPr f))
  | [], _ => .nil
  | b :: bs, h => .cons (.tup (SqT.of (h b List.mem_cons_self)) (.cons (.str _) (.cons (.int _) .nil))) (dp_prN fun x hx => h x (List.mem_cons_of_mem _ hx))
end U
namespace Law
open PySem PySem.Spec PyProof.Rows L2 U L2.DX


theorem ItsAt.snoc {H : Hp} {cs : List V} {its : List It} {c : V} {it : It} (h : ItsAt H cs its) (h1 : ItAt H c it) (h2 : it.ok) : ItsAt H (cs ++ [c]) (its ++ [it]) := by
  have l := h.1
  refine ⟨by simp [l], fun i a b => ?_⟩
  by_cases z : i < cs.length
  · rw [List.getElem_append_left z, List.getElem_append_left (by omega)]
    exact h.2 i z (by omega)
  · rw [List.length_append, List.length_singleton] at a
    have : i = cs.length := by omega
    subst this
    rw [List.getElem_append_right (by omega), List.getElem_append_right (by omega)]
    simp only [l, Nat.sub_self, List.getElem_cons_zero]
    exact ⟨h1, h2⟩
theorem ItsAt.app {H : Hp} {cs : List V} {its : List It} (h : ItsAt H cs its) : ∀ {cs2 : List V} {its2 : List It}, ItsAt H cs2 its2 → ItsAt H (cs ++ cs2) (its ++ its2) := fun {cs2 its2} h2 => by
  have l := h.1
  have l2 := h2.1
  refine ⟨by simp [l, l2], fun i a b => ?_⟩
  by_cases z : i < cs.length
  · rw [List.getElem_append_left z, List.getElem_append_left (by omega)]
    exact h.2 i z (by omega)
  · rw [List.length_append] at a
    rw [List.getElem_append_right (by omega), List.getElem_append_right (by omega)]
    have := h2.2 (i - cs.length) (by omega) (by omega)
    simp only [l]
    exact this
theorem ItsAt.nil {H : Hp} : ItsAt H [] [] := ⟨rfl, fun i h => nomatch h⟩
theorem ItsAt.cons {H : Hp} {c : V} {it : It} {cs : List V} {its : List It} (h1 : ItAt H c it) (h2 : it.ok) (h : ItsAt H cs its) : ItsAt H (c :: cs) (it :: its) := ItsAt.app (ItsAt.snoc ItsAt.nil h1 h2) h
/-- an element stands in another heap -/
theorem ItAt.keep {H H' : Hp} {v : V} {it : It} (h : ItAt H v it) (o : it.ok) (s : ∀ a xs, v = .ref a → xs.length ≤ 3 → (H a = some (.tup xs) → H' a = some (.tup xs)) ∧ (H a = some (.lst xs) → H' a = some (.lst xs))) : ItAt H' v it := by
  cases it with
  | atm u => exact h
  | tp vs =>
    obtain ⟨a, e, z⟩ := h
    exact ⟨a, e, (s a vs e o.1).1 z⟩
  | ls vs =>
    obtain ⟨a, e, z⟩ := h
    exact ⟨a, e, (s a vs e o.1).2 z⟩
theorem ItsAt.keep {H H' : Hp} {cs : List V} {its : List It} (h : ItsAt H cs its) (s : ∀ a xs, V.ref a ∈ cs → xs.length ≤ 3 → (H a = some (.tup xs) → H' a = some (.tup xs)) ∧ (H a = some (.lst xs) → H' a = some (.lst xs))) : ItsAt H' cs its := ⟨h.1, fun i a b => ⟨(h.2 i a b).1.keep (h.2 i a b).2 fun x xs e => s x xs (e ▸ List.getElem_mem a), (h.2 i a b).2⟩⟩
theorem ItsAt.put {H : Hp} {cs : List V} {its : List It} {mv : Addr} {o : HO} (h : ItsAt H cs its) (n : V.ref mv ∉ cs) : ItsAt (upd H mv o) cs its := h.keep fun a xs m _ => by
  have : a ≠ mv := fun z => n (z ▸ m)
  exact ⟨fun z => at_upd this z, fun z => at_upd this z⟩
theorem pool4 {H : Hp} {p a : Addr} {xs : List V} (hp : PoolAt H p) (h : H a = some (.lst xs)) (l : xs.length ≤ 3) : a ≠ p := by
  obtain ⟨c, ys, b, g, s, e, _⟩ := hp
  rintro rfl
  rw [h] at e
  have := congrArg List.length (HO.lst.inj (Option.some.inj e))
  simp only [List.length_cons, List.length_nil] at this
  omega
theorem ItsAt.go {H H' : Hp} {p : Addr} {cs : List V} {its : List It} (h : ItsAt H cs its) (hp : PoolAt H p) (g : Go p H H') : ItsAt H' cs its := h.keep fun a xs _ l => ⟨fun z => g.tup hp z, fun z => g.at z (pool4 hp z l)⟩
structure MvSt (p : Addr) (H H' : Hp) (l mv : Addr) (bs : List (Addr × Str × Int)) (cs : List V) (its : List It) (k : Nat) : Prop where
  go : Go p H H'
  hl : H' l = some (.lst (bs.map fun m => V.ref m.1))
  tb : TupsAt H' bs
  hm : H' mv = some (.lst cs)
  it : ItsAt H' cs its
  le : cs.length ≤ k
  ne : V.ref mv ∉ cs
  fm : H mv = none
  nl : p ≠ l
  nm : p ≠ mv
  lm : l ≠ mv
theorem MvSt.same {p : Addr} {H H' H2 : Hp} {l mv : Addr} {bs : List (Addr × Str × Int)} {cs : List V} {its : List It} {k : Nat} (m : MvSt p H H' l mv bs cs its k) (s : Same H' H2) : MvSt p H H2 l mv bs cs its k :=
  ⟨m.go.same s, s _ _ m.hl, m.tb.same s, s _ _ m.hm, m.it.same s, m.le, m.ne, m.fm, m.nl, m.nm, m.lm⟩
theorem MvSt.step {p : Addr} {H H' H2 : Hp} {l mv : Addr} {bs : List (Addr × Str × Int)} {cs : List V} {its : List It} {k : Nat} (m : MvSt p H H' l mv bs cs its k) (g : Go p H' H2) : MvSt p H H2 l mv bs cs its k :=
  ⟨m.go.trans g, g.at m.hl (Ne.symm m.nl), m.tb.go m.go.pool g, g.at m.hm (Ne.symm m.nm), m.it.go m.go.pool g, m.le, m.ne, m.fm, m.nl, m.nm, m.lm⟩
theorem MvSt.push {p : Addr} {H H' : Hp} {l mv : Addr} {bs : List (Addr × Str × Int)} {cs : List V} {its : List It} {k : Nat} {c : V} {it : It} (m : MvSt p H H' l mv bs cs its k) (h : ItAt H' c it) (o : it.ok) (n : c ≠ .ref mv) : MvSt p H (upd H' mv (.lst (cs ++ [c]))) l mv bs (cs ++ [c]) (its ++ [it]) (k + 1) := by
  have nn : V.ref mv ∉ cs ++ [c] := fun z => (List.mem_append.mp z).elim m.ne fun z => n (List.mem_singleton.mp z).symm
  refine ⟨m.go.put m.fm m.nm, at_upd m.lm m.hl, m.tb.put m.hm, upd_same, (m.it.snoc h o).put nn, ?_, nn, m.fm, m.nl, m.nm, m.lm⟩
  have := m.le
  rw [List.length_append, List.length_singleton]
  omega
theorem MvSt.up {p : Addr} {H H' : Hp} {l mv : Addr} {bs : List (Addr × Str × Int)} {cs : List V} {its : List It} {k : Nat} (m : MvSt p H H' l mv bs cs its k) : MvSt p H H' l mv bs cs its (k + 1) :=
  ⟨m.go, m.hl, m.tb, m.hm, m.it, Nat.le_succ_of_le m.le, m.ne, m.fm, m.nl, m.nm, m.lm⟩
/-- a list of elements under way -/
def JAt (H : Hp) (mv : Addr) (ds : List V) (js : List It) : Prop := ItsAt H ds js ∧ V.ref mv ∉ ds ∧ ∃ xs, H mv = some (.lst xs)
theorem JAt.snoc {H H' : Hp} {mv : Addr} {ds : List V} {js : List It} {c : V} {it : It} (j : JAt H mv ds js) (s : Same H H') (h : ItAt H' c it) (o : it.ok) (n : c ≠ .ref mv) : JAt H' mv (ds ++ [c]) (js ++ [it]) := by
  obtain ⟨j1, j2, xs, j3⟩ := j
  exact ⟨(j1.same s).snoc h o, fun z => (List.mem_append.mp z).elim j2 fun z => n (List.mem_singleton.mp z).symm, xs, s _ _ j3⟩
theorem AtmT.noref {v : V} (h : AtmT v) (a : Addr) : v ≠ .ref a := by
  rintro rfl
  rcases h.atm with z | ⟨_, z⟩ | ⟨_, z⟩ | ⟨_, z⟩ <;> cases z
theorem JAt.atm {H : Hp} {mv : Addr} {ds : List V} {js : List It} {v : V} (j : JAt H mv ds js) (o : AtmT v) : JAt H mv (ds ++ [v]) (js ++ [.atm v]) := j.snoc (fun _ _ h => h) (it := .atm v) rfl o (o.noref mv)
theorem JAt.tup {H : Hp} {mv t : Addr} {ds : List V} {js : List It} {vs : List V} (j : JAt H mv ds js) (f : H t = none) (o : (It.tp vs).ok) : JAt (upd H t (.tup vs)) mv (ds ++ [.ref t]) (js ++ [.tp vs]) := j.snoc (Same.new f) (it := .tp vs) ⟨t, rfl, upd_same⟩ o fun z => by
  obtain ⟨_, _, xs, h⟩ := j
  injection z with z
  rw [← z, f] at h
  cases h
theorem JAt.lst {H : Hp} {mv t : Addr} {ds : List V} {js : List It} {vs : List V} (j : JAt H mv ds js) (f : H t = none) (o : (It.ls vs).ok) : JAt (upd H t (.lst vs)) mv (ds ++ [.ref t]) (js ++ [.ls vs]) := j.snoc (Same.new f) (it := .ls vs) ⟨t, rfl, upd_same⟩ o fun z => by
  obtain ⟨_, _, xs, h⟩ := j
  injection z with z
  rw [← z, f] at h
  cases h
theorem JAt.same {H H' : Hp} {mv : Addr} {ds : List V} {js : List It} (j : JAt H mv ds js) (s : Same H H') : JAt H' mv ds js := ⟨j.1.same s, j.2.1, j.2.2.imp fun _ h => s _ _ h⟩
theorem atT_int {i : Int} (a : -1 ≤ i) (b : i ≤ 4) : AtmT (.int i) := by
  by_cases c : i = 4
  · exact .inr (.inl (by rw [c]))
  · exact .inl (.inr (.inr (.inl ⟨i, rfl, a, by omega⟩)))
theorem atT_name {x : Str} (h : IsName x) : AtmT (.str x) := .inl (atmS_name h)
theorem atT_non : AtmT .non := .inl (.inl rfl)
theorem atT_bl (b : Bool) : AtmT (.bl b) := .inl (.inr (.inl ⟨b, rfl⟩))
theorem atT_ab : AtmT (.str "ab") := .inl (.inr (.inr (.inr ⟨_, rfl, by decide +kernel, by decide +kernel, by decide +kernel⟩)))
theorem atT_e : AtmT (.str "") := .inl (.inr (.inr (.inr ⟨_, rfl, by decide +kernel, by decide +kernel, by decide +kernel⟩)))
theorem ok0 : (It.tp []).ok := ⟨by decide, fun v h => nomatch h⟩
theorem at1 {a : V} (ha : AtmT a) : ∀ v ∈ [a], AtmT v := fun v h => by
  rw [List.mem_singleton.mp h]
  exact ha
theorem at2 {a b : V} (ha : AtmT a) (hb : AtmT b) : ∀ v ∈ [a, b], AtmT v := fun v h => by
  rcases List.mem_cons.mp h with rfl | h
  · exact ha
  · exact at1 hb v h
theorem at3 {a b c : V} (ha : AtmT a) (hb : AtmT b) (hc : AtmT c) : ∀ v ∈ [a, b, c], AtmT v := fun v h => by
  rcases List.mem_cons.mp h with rfl | h
  · exact ha
  · exact at2 hb hc v h
theorem ok1 {a : V} (ha : AtmT a) : (It.tp [a]).ok := ⟨by simp, at1 ha⟩
theorem ok2 {a b : V} (ha : AtmT a) (hb : AtmT b) : (It.tp [a, b]).ok := ⟨by simp, at2 ha hb⟩
theorem ok3 {a b c : V} (ha : AtmT a) (hb : AtmT b) (hc : AtmT c) : (It.tp [a, b, c]).ok := ⟨by simp, at3 ha hb hc⟩
theorem okl {a b : V} (ha : AtmT a) (hb : AtmT b) : (It.ls [a, b]).ok := ⟨by simp, at2 ha hb⟩
theorem movesF_tk {ns : List Str} {es : List (Str × Str)} {f : Str → Int} {pn : List Str} {i : Nat} (hin : i < ns.length) : movesF (ns.take (i + 1)) es f pn = movesF (ns.take i) es f pn ++ (possF es f pn ns[i]).map fun v => (ns[i], v) := by
  rw [movesF_vals, movesF_vals, take_snoc hin, List.flatMap_append]
  simp [valsF, possF]
theorem possF_len {es : List (Str × Str)} {f : Str → Int} {pn : List Str} {n : Str} : (possF es f pn n).length ≤ 3 := by
  unfold possF
  split
  · simp
  · exact Nat.le_trans (List.length_filter_le _ _) (by simp)
theorem movesF_len2 {ns : List Str} {es : List (Str × Str)} {f : Str → Int} {pn : List Str} : (movesF ns es f pn).length ≤ 3 * ns.length := by
  induction ns with
  | nil => simp [movesF]
  | cons x r ih =>
    have : movesF (x :: r) es f pn = ((possF es f pn x).map fun v => (x, v)) ++ movesF r es f pn := by
      rw [movesF_vals, movesF_vals, List.flatMap_cons]
      rfl
    rw [this, List.length_append, List.length_map, List.length_cons]
    have := possF_len (es := es) (f := f) (pn := pn) (n := x)
    omega
theorem ne_noT {K : PySem.W.Frag} {H : Hp} {Q : VK} {p q : Addr} {xs : List Str} (hp : SqT K H p (xs.map V.str)) (hq : SqT K H q []) (ok : ∀ x ∈ xs, PyData.strOk x = true) (h : Q (.bl (decide (xs ≠ []))) H) : rNeU K (.ref p) (.ref q) H Q := by
  refine ⟨.tuple (xs.map PyData.str), .tuple [], .tup hp (dp_strs xs), .tup hq .nil, by
    unfold SeqAt.shaped
    rw [PyData.canLay0, can_strs ok, PyData.depth, dep_strs]
    rfl, by decide +kernel, ?_⟩
  have : PyData.eqv (.tuple (xs.map PyData.str)) (.tuple []) = decide (xs = []) := by
    cases xs <;> simp [PyData.eqv, PyData.eqvAll]
  rw [this, ← decide_not]
  exact h
def spRandMv (K : PySem.W.Frag) : Sp := fun vs H Q _ => ∃ (p g n e st ps : Addr) (ns ord pn : List Str) (es : List (Addr × Str × Str)) (f : Str → Int), vs = [.ref p, .ref g, .ref st, .ref ps] ∧ PoolAt H p ∧ GSt H g n e st ns ord es f ∧ H ps = some (.tup (pn.map V.str)) ∧ ns.length ≤ 6 ∧
  ∀ (t l mv : Addr) (bs : List (Addr × Str × Int)) (cs : List V) (its : List It) (H' : Hp), Go p H H' → H' t = some (.tup [.ref l, .ref mv]) → H' l = some (.lst (bs.map fun m => V.ref m.1)) → TupsAt H' bs → bs.map (·.2) = movesF ns (es.map (·.2)) f pn → H' mv = some (.lst cs) → ItsAt H' cs its → cs.length ≤ 5 → V.ref mv ∉ cs → Q (.ref t) H'
section
variable {P : Program} {w : World} {K : PySem.W.Frag} {mg : Str → Option Value} {base : Heap}
structure ROa (P : Program) (w : World) (K : PySem.W.Frag) (mg : Str → Option Value) (base : Heap) : Prop where
  _law_draw : Cal P w K mg base CX0 1 "_law_draw" spDraw
  _law_possible : Cal P w K mg base CX0 2 "_law_possible" (spPoss K)
  _law_unused_name : Cal P w K mg base CX0 1 "_law_unused_name" spUnused
theorem ok_randMv {f : Addr} {fd : FuncData} (F : Fun K "_law_random_moves" "_law_random_moves" s__law_random_moves f fd) (B : Bt mg) (C : ROa P w K mg base) : FnG P w K mg base CX0 3 f fd ["_law_source", "_law_graph", "_law_state", "_law_pins"] (spRandMv K) := by
  refine fnG0 F sc__law_random_moves (fun vs H Q E h => ?_) (fun cdv A outer s H vs Q E hr h => ?_)
  · obtain ⟨p, g, n, e, st, ps, ns, ord, pn, es, f, rfl, _⟩ := h
    rfl
  · obtain ⟨p, g, n, e, st, ps, ns, ord, pn, es, f, rfl, hp, gs, hps, l6, q⟩ := h
    have nd := sc__law_random_moves.nd
    have hu := hr.u1
    refine ⟨_, (pss_cons (ps_set (i := 4) nd rfl (by first | exact Or.inl rfl | exact Or.inr rfl) (pe_lst pa_nil))
  (pss_cons (ps_for PassesOwn.never rfl (ki_tup K rfl (pe_ix (kIx K rfl) (pv 1) pe_int (fun _ _ => rfl))) (pg_name (i := 5) nd rfl (by first | exact Or.inl rfl | exact Or.inr rfl)) (pss_one (ps_set (i := 4) nd rfl (by first | exact Or.inl rfl | exact Or.inr rfl) (pe_op (kAdd K rfl) (pv 4) (pe_lc (own := [("_law_value", 6)]) rfl nd (ki_list K rfl (pe_c C._law_possible hr (by decide) rfl (pa_cons (pv 1) (pa_cons (pv 2) (pa_cons (pv 3) (pa_cons (pv 5) pa_nil)))))) (blkOk_by (own := [("_law_value", 6)]) (N := nN__law_random_moves) (sc := defScope s__law_random_moves) (by decide +kernel)) (fun _ _ _ _ _ => (pg_name (i := 6) nd rfl (by first | exact Or.inl rfl | exact Or.inr rfl))) (fun _ _ _ _ _ => pts_nil) (fun _ _ _ _ _ => (pe_tup (pa_cons (pv 5) (pa_cons (pv 6) pa_nil)))))))))
  (pss_cons (ps_set (i := 7) nd rfl (by first | exact Or.inl rfl | exact Or.inr rfl) (pe_lst pa_nil))
  (pss_cons (ps_for PassesOwn.never rfl (pi_range1 rfl B.range (pa_cons (pe_c C._law_draw hr (by decide) rfl (pa_cons (pv 0) (pa_cons pe_int pa_nil))) pa_nil)) (pg_name (i := 8) nd rfl (by first | exact Or.inl rfl | exact Or.inr rfl)) (pss_cons (ps_set (i := 9) nd rfl (by first | exact Or.inl rfl | exact Or.inr rfl) (pe_c C._law_draw hr (by decide) rfl (pa_cons (pv 0) (pa_cons pe_int pa_nil))))
  (pss_cons (ps_set (i := 10) nd rfl (by first | exact Or.inl rfl | exact Or.inr rfl) (pe_lst (pa_cons pe_non (pa_cons pe_int (pa_cons (pe_tup pa_nil) (pa_cons pe_str (pa_cons (pe_tup (pa_cons pe_str (pa_cons pe_int pa_nil))) (pa_cons (pe_tup (pa_cons pe_non (pa_cons pe_int pa_nil))) (pa_cons (pe_lst (pa_cons pe_int (pa_cons pe_int pa_nil))) (pa_cons (pe_tup (pa_cons (pe_c C._law_unused_name hr (by decide) rfl (pa_cons (pv 1) pa_nil)) (pa_cons pe_int pa_nil))) pa_nil))))))))))
  (C8.pss_cut (ps_if (pt_cmpR (kNe K rfl hr.u64) (pe_ix (kIx K rfl) (pv 1) pe_int (fun _ _ => rfl)) (pe_tup pa_nil) (nomark _)) (pss_cons (ps_set (i := 5) nd rfl (by first | exact Or.inl rfl | exact Or.inr rfl) (pe_ix (kIx K rfl) (pe_ix (kIx K rfl) (pv 1) pe_int (fun _ _ => rfl)) (pe_c C._law_draw hr (by decide) rfl (pa_cons (pv 0) (pa_cons (pe_callB (kLen K rfl) (by rfl) B.len bb_len (pa_cons (pe_ix (kIx K rfl) (pv 1) pe_int (fun _ _ => rfl)) pa_nil)) pa_nil))) (fun _ _ => rfl)))
  (pss_cons (ps_set (i := 10) nd rfl (by first | exact Or.inl rfl | exact Or.inr rfl) (pe_op (kAdd K rfl) (pv 10) (pe_lst (pa_cons (pv 5) (pa_cons (pe_tup (pa_cons (pv 5) pa_nil)) (pa_cons (pe_lst (pa_cons (pv 5) (pa_cons pe_int pa_nil))) (pa_cons (pe_tup (pa_cons (pv 5) (pa_cons pe_bl pa_nil))) (pa_cons (pe_tup (pa_cons (pv 5) (pa_cons pe_non pa_nil))) (pa_cons (pe_tup (pa_cons (pv 5) (pa_cons pe_int (pa_cons pe_int pa_nil)))) pa_nil)))))))))
  (pss_one (ps_if (pt_cmpR (kEq K rfl hr.u64) (pv 9) pe_int (nomark _)) (pss_one (ps_expr (pe_bm PySem.F.plainAttrs_list PySem.F.slot_list_append PySem.F.type_list_append mt_append (pv 7) (pa_cons (pe_tup (pa_cons (pv 5) (pa_cons (pe_op uSub (pe_c C._law_draw hr (by decide) rfl (pa_cons (pv 0) (pa_cons pe_int pa_nil))) pe_int) pa_nil))) pa_nil)))) pss_nil)))) pss_nil)
  (C8.pss_cut (ps_if (PW.pt (pw_and (pt_cmpR uLt (pv 9) pe_int (nomark _)) (pw_and1 (pt_cmpR (kNe K rfl hr.u64) (pv 4) (pe_lst pa_nil) (nomark _))))) (pss_one (ps_expr (pe_bm PySem.F.plainAttrs_list PySem.F.slot_list_append PySem.F.type_list_append mt_append (pv 7) (pa_cons (pe_ix (kIx K rfl) (pv 4) (pe_c C._law_draw hr (by decide) rfl (pa_cons (pv 0) (pa_cons (pe_callB (kLen K rfl) (by rfl) B.len bb_len (pa_cons (pv 4) pa_nil)) pa_nil))) (fun _ _ => rfl)) pa_nil)))) pss_nil)
  (pss_one (ps_if (pt_cmpR (kEq K rfl hr.u64) (pv 9) pe_int (nomark _)) (pss_one (ps_expr (pe_bm PySem.F.plainAttrs_list PySem.F.slot_list_append PySem.F.type_list_append mt_append (pv 7) (pa_cons (pe_ix (kIx K rfl) (pv 10) (pe_c C._law_draw hr (by decide) rfl (pa_cons (pv 0) (pa_cons (pe_callB (kLen K rfl) (by rfl) B.len bb_len (pa_cons (pv 10) pa_nil)) pa_nil))) (fun _ _ => rfl)) pa_nil)))) pss_nil)))))))
  (pss_one (ps_ret (pe_tup (pa_cons (pv 4) (pa_cons (pv 7) pa_nil))))))))), ?_⟩
    wtm_at "rd"
    have l2 := gs.l2
    intro l0 fl0
    have g1 := (Go.refl hp).new (o := .lst []) fl0
    have hl0 := @upd_same H l0 (.lst [])
    have nl0 := hp.ne fl0
    generalize upd H l0 (.lst []) = H1 at g1 hl0
    wtm_at "rd"
    refine rd_ixT (SqT.of (gs.go hp g1).gr.top) (v := .ref n) rfl ?_
    refine rd_forT (SqT.of (gs.go hp g1).gr.nodes) ?_
    refine turnsT (K := K) (xs := ns.map V.str) (fun i σ H' => ∃ (l : Addr) (bs : List (Addr × Str × Int)) (u5 : Option V), σ = [some (.ref p), some (.ref g), some (.ref st), some (.ref ps), some (.ref l), u5, none, none, none, none, none] ∧ Go p H H' ∧ p ≠ l ∧ H' l = some (.lst (bs.map fun m => V.ref m.1)) ∧ TupsAt H' bs ∧ bs.map (·.2) = movesF (ns.take i) (es.map (·.2)) f pn) ⟨l0, [], _, rfl, g1, nl0, hl0, TupsAt.nil, by simp [movesF]⟩ ?_ ?_ ?_
    · rintro i σ H' hi ⟨l, bs, u5, rfl, ga, _⟩
      exact SqT.of (gs.go hp ga).gr.nodes
    · rintro i y σ H2 hy ⟨l, bs, u5, rfl, ga, nl, hl, tb, eb⟩
      obtain ⟨hi, rfl⟩ := map_at hy
      have bl : bs.length ≤ 300 := by
        have h1 := congrArg List.length eb
        have h2 := movesF_len2 (ns := ns.take i) (es := es.map (·.2)) (f := f) (pn := pn)
        rw [List.length_map] at h1
        rw [List.length_take] at h2
        omega
      rw [movesF_tk hi]
      generalize ex : ns[i] = x at *
      have xin : x ∈ ns := by
        rw [← ex]
        exact List.getElem_mem hi
      wtm_at "rd"
      refine ⟨g, n, e, st, ps, x, ns, ord, pn, es, f, rfl, gs.go hp ga, SqT.of (ga.tup hp hps), xin, fun q2 H3 s3 fq hq => ?_⟩
      have ga := ga.same s3
      have hl := s3 _ _ hl
      have tb := tb.same s3
      clear fq s3
      wtm_at "rd"
      refine rd_forL (SqL.of hq) ?_
      intro D fD
      refine lcL (K := K) (xs := (possF (es.map (·.2)) f pn x).map V.int) (fun j H' => ∃ ms : List (Addr × Str × Int), Same H3 H' ∧ H' D = some (.lst (ms.map fun m => V.ref m.1)) ∧ TupsAt H' ms ∧ ms.map (·.2) = ((possF (es.map (·.2)) f pn x).take j).map fun v => (x, v)) ⟨[], Same.new fD, upd_same, TupsAt.nil, rfl⟩ ?_ ?_ ?_
      · rintro j H' hj ⟨ms, sb, _⟩
        exact SqL.of (sb _ _ hq)
      · rintro j y H4 hy ⟨ms, sb, hD, tm, em⟩
        obtain ⟨hj, rfl⟩ := map_at hy
        have tk := take_snoc hj
        have ml : ms.length ≤ 3 := by
          have h1 := congrArg List.length em
          rw [List.length_map, List.length_map, List.length_take] at h1
          have := possF_len (es := es.map (·.2)) (f := f) (pn := pn) (n := x)
          omega
        wtm_at "rd"
        intro t ft
        have sb := same_add (o := .tup [.str x, .int (possF (es.map (·.2)) f pn x)[j]]) sb ft
        have hD := at_upd (o := .tup [.str x, .int (possF (es.map (·.2)) f pn x)[j]]) (ne_of_none hD ft) hD
        have tm := tm.new (o := .tup [.str x, .int (possF (es.map (·.2)) f pn x)[j]]) ft
        have ht := @upd_same H4 t (.tup [.str x, .int (possF (es.map (·.2)) f pn x)[j]])
        generalize upd H4 t (.tup [.str x, .int (possF (es.map (·.2)) f pn x)[j]]) = H5 at sb hD tm ht
        refine rd_acc hD (by rw [List.length_map]; omega) ?_
        refine ⟨ms ++ [(t, x, (possF (es.map (·.2)) f pn x)[j])], same_put sb fD, by rw [upd_same, List.map_append]; rfl, ?_, by rw [List.map_append, em, tk, List.map_append]; rfl⟩
        refine TupsAt.put (tm.app fun m hm => ?_) hD
        cases List.mem_singleton.mp hm
        exact ht
      · rintro H4 ⟨ms, sb, hD, tm, em⟩
        rw [List.length_map, List.take_length] at em
        have ml : ms.length ≤ 3 := by
          have h1 := congrArg List.length em
          rw [List.length_map, List.length_map] at h1
          have := possF_len (es := es.map (·.2)) (f := f) (pn := pn) (n := x)
          omega
        have ga := ga.same sb
        have hl := sb _ _ hl
        have tb := tb.same sb
        wtm_at "rd"
        refine rd_catL hl hD (by rw [List.length_map, List.length_map]; omega) ?_
        intro t ft
        refine ⟨t, bs ++ ms, _, rfl, ga.new ft, ga.pool.ne ft, by rw [upd_same, List.map_append], (tb.app tm).new ft, by rw [List.map_append, eb, em]⟩
    rintro σ H2 ⟨l, bs, u5, rfl, ga, nl, hl, tb, eb⟩
    rw [List.length_map, List.take_length] at eb
    have bl : bs.length ≤ 300 := by
      have h1 := congrArg List.length eb
      have h2 := movesF_len2 (ns := ns) (es := es.map (·.2)) (f := f) (pn := pn)
      rw [List.length_map] at h1
      omega
    wtm_at "rd"
    intro mv fmv
    have st0 : MvSt p H (upd H2 mv (.lst [])) l mv bs [] [] 0 := ⟨ga.new fmv, at_upd (ne_of_none hl fmv) hl, tb.new fmv, upd_same, ItsAt.nil, by simp, by simp, ga.free _ fmv, nl, ga.pool.ne fmv, ne_of_none hl fmv⟩
    generalize upd H2 mv (.lst []) = H3 at st0
    clear ga hl tb
    wtm_at "rd"
    refine use_draw st0.go.pool (by decide) (by decide) fun cnt H4 c0 c1 g4 => ?_
    have st0 := st0.step g4
    clear g4
    wtm_at "rd"
    refine turnsR (fun k σ H' => ∃ (cs : List V) (its : List It) (u5 u6 u8 u9 u10 : Option V), σ = [some (.ref p), some (.ref g), some (.ref st), some (.ref ps), some (.ref l), u5, u6, some (.ref mv), u8, u9, u10] ∧ MvSt p H H' l mv bs cs its k) ⟨[], [], _, _, _, _, _, rfl, st0⟩ ?_ ?_
    · rintro k σ H5 hk ⟨cs, its, u5, u6, u8, u9, u10, rfl, st1⟩
      have sv := st1
      clear st1 st0
      wtm_at "rd"
      refine use_draw sv.go.pool (by decide) (by decide) fun dir H6 d0 d1 g6 => ?_
      have sv := sv.step g6
      clear g6
      wtm_at "rd"
      have j : JAt H6 mv [.non, .int 7] [.atm .non, .atm (.int 7)] := JAt.atm (JAt.atm (ds := []) (js := []) ⟨ItsAt.nil, by simp, cs, sv.hm⟩ atT_non) (.inr (.inr rfl))
      intro t1 f1
      have j := j.tup (vs := []) f1 ok0
      have sv := sv.same (Same.new (o := .tup []) f1)
      generalize upd _ t1 (.tup []) = HX at j sv
      clear f1
      wtm_at "rd"
      have j := j.atm atT_ab
      intro t2 f2
      have j := j.tup (vs := [.str "", .int 0]) f2 (ok2 atT_e (atT_int (by decide) (by decide)))
      have sv := sv.same (Same.new (o := .tup [.str "", .int 0]) f2)
      generalize upd _ t2 (.tup [.str "", .int 0]) = HX at j sv
      clear f2
      wtm_at "rd"
      intro t3 f3
      have j := j.tup (vs := [.non, .int 1]) f3 (ok2 atT_non (atT_int (by decide) (by decide)))
      have sv := sv.same (Same.new (o := .tup [.non, .int 1]) f3)
      generalize upd _ t3 (.tup [.non, .int 1]) = HX at j sv
      clear f3
      wtm_at "rd"
      intro t4 f4
      have j := j.lst (vs := [.int 1, .int 2]) f4 (okl (atT_int (by decide) (by decide)) (atT_int (by decide) (by decide)))
      have sv := sv.same (Same.new (o := .lst [.int 1, .int 2]) f4)
      generalize upd _ t4 (.lst [.int 1, .int 2]) = HX at j sv
      clear f4
      wtm_at "rd"
      refine ⟨g, n, e, ns, rfl, (gs.go hp sv.go).gr.top, (gs.go hp sv.go).gr.nodes, by omega, fun ux HU su nin unm => ?_⟩
      have j := j.same su
      have sv := sv.same su
      clear su
      wtm_at "rd"
      intro t5 f5
      have j := j.tup (vs := [.str ux, .int 1]) f5 (ok2 (atT_name unm) (atT_int (by decide) (by decide)))
      have sv := sv.same (Same.new (o := .tup [.str ux, .int 1]) f5)
      generalize upd _ t5 (.tup [.str ux, .int 1]) = HX at j sv
      clear f5
      wtm_at "rd"
      intro iv fiv
      have fiv0 := sv.go.free _ fiv
      have niv := sv.go.pool.ne fiv
      have nmi := ne_of_none sv.hm fiv
      have j : JAt HX mv [V.non, .int 7, .ref t1, .str "ab", .ref t2, .ref t3, .ref t4, .ref t5] _ := j
      generalize eds : ([V.non, .int 7, .ref t1, .str "ab", .ref t2, .ref t3, .ref t4, .ref t5] : List V) = ds at j ⊢
      have dl : ds.length = 8 := by
        rw [← eds]
        rfl
      generalize ([It.atm V.non, It.atm (V.int 7)] ++ [It.tp []] ++ [It.atm (V.str (Str.ofString "ab"))] ++ [It.tp [V.str (Str.ofString ""), V.int 0]] ++ [It.tp [V.non, V.int 1]] ++ [It.ls [V.int 1, V.int 2]] ++ [It.tp [V.str ux, V.int 1]]) = js at j
      clear eds
      have j := j.same (Same.new (o := .lst ds) fiv)
      have sv := sv.same (Same.new (o := .lst ds) fiv)
      have hiv := @upd_same HX iv (.lst ds)
      generalize upd HX iv (.lst ds) = HI at j sv hiv
      clear fiv
      wtm_at "rd"
      refine ⟨fun σ' H' => ∃ (cs : List V) (its : List It) (ds : List V) (js : List It) (u5 : Option V) (iv : Addr) (k' : Nat), k' ≤ 1 ∧ (10 ≠ dir → k' = 0) ∧ σ' = [some (.ref p), some (.ref g), some (.ref st), some (.ref ps), some (.ref l), u5, u6, some (.ref mv), some (.int (0 + (k : Int))), some (.int dir), some (.ref iv)] ∧ MvSt p H H' l mv bs cs its (k + k') ∧ JAt H' mv ds js ∧ H' iv = some (.lst ds) ∧ p ≠ iv ∧ mv ≠ iv ∧ 8 ≤ ds.length ∧ ds.length ≤ 14, ?_, ?_⟩
      · wtm_at "rd"
        refine rd_ixT (SqT.of (gs.go hp sv.go).gr.top) (v := .ref n) rfl ?_
        wtm_at "rd"
        intro e0 fe0
        have j := j.same (Same.new (o := .tup []) fe0)
        have sv := sv.same (Same.new (o := .tup []) fe0)
        have hiv := Same.new (o := .tup []) fe0 _ _ hiv
        have he0 := @upd_same HI e0 (.tup [])
        generalize upd HI e0 (.tup []) = HE at j sv hiv he0
        clear fe0
        refine ne_noT (SqT.of (gs.go hp sv.go).gr.nodes) (SqT.of he0) (fun x hx => (gs.ok.names.ok x hx).sok) ?_
        wtm_at "rd"
        refine rd_split (fun c => ?_) (fun c => ?_)
        · wtm_at "rd"
          refine rd_ixT (SqT.of (gs.go hp sv.go).gr.top) (v := .ref n) rfl ?_
          wtm_at "rd"
          refine rd_ixT (SqT.of (gs.go hp sv.go).gr.top) (v := .ref n) rfl ?_
          wtm_at "rd"
          refine rd_lenT (SqT.of (gs.go hp sv.go).gr.nodes) ?_
          wtm_at "rd"
          have npos : 0 < ns.length := List.length_pos_iff.mpr c
          refine use_draw sv.go.pool (by rw [List.length_map]; omega) (by rw [List.length_map]; omega) fun r HF r0 r1 gF => ?_
          rw [List.length_map] at r1
          have j : JAt HF mv ds js := ⟨j.1.go sv.go.pool gF, j.2.1, _, (sv.step gF).hm⟩
          have hiv := gF.at hiv (Ne.symm niv)
          have sv := sv.step gF
          clear gF
          obtain ⟨rn, rfl⟩ := Int.eq_ofNat_of_zero_le r0
          have hrn : rn < ns.length := by omega
          refine rd_ixT (SqT.of (gs.go hp sv.go).gr.nodes) (v := .str ns[rn]) (atI_nat (by rw [List.getElem?_map, List.getElem?_eq_getElem hrn]; rfl)) ?_
          have nm := gs.ok.names.ok _ (List.getElem_mem hrn)
          generalize ns[rn] = x at *
          wtm_at "rd"
          have j1 : JAt HF mv [.str x] [.atm (.str x)] := JAt.atm (ds := []) (js := []) ⟨ItsAt.nil, by simp, cs, sv.hm⟩ (atT_name nm)
          intro s1 f1
          have j1 := j1.tup (vs := [.str x]) f1 (ok1 (atT_name nm))
          have hiv := Same.new (o := .tup [.str x]) f1 _ _ hiv
          have j := j.same (Same.new (o := .tup [.str x]) f1)
          have sv := sv.same (Same.new (o := .tup [.str x]) f1)
          generalize upd _ s1 (.tup [.str x]) = HX at j sv hiv j1
          clear f1
          wtm_at "rd"
          intro s2 f2
          have j1 := j1.lst (vs := [.str x, .int 1]) f2 (okl (atT_name nm) (atT_int (by decide) (by decide)))
          have hiv := Same.new (o := .lst [.str x, .int 1]) f2 _ _ hiv
          have j := j.same (Same.new (o := .lst [.str x, .int 1]) f2)
          have sv := sv.same (Same.new (o := .lst [.str x, .int 1]) f2)
          generalize upd _ s2 (.lst [.str x, .int 1]) = HX at j sv hiv j1
          clear f2
          wtm_at "rd"
          intro s3 f3
          have j1 := j1.tup (vs := [.str x, .bl true]) f3 (ok2 (atT_name nm) (atT_bl _))
          have hiv := Same.new (o := .tup [.str x, .bl true]) f3 _ _ hiv
          have j := j.same (Same.new (o := .tup [.str x, .bl true]) f3)
          have sv := sv.same (Same.new (o := .tup [.str x, .bl true]) f3)
          generalize upd _ s3 (.tup [.str x, .bl true]) = HX at j sv hiv j1
          clear f3
          wtm_at "rd"
          intro s4 f4
          have j1 := j1.tup (vs := [.str x, .non]) f4 (ok2 (atT_name nm) atT_non)
          have hiv := Same.new (o := .tup [.str x, .non]) f4 _ _ hiv
          have j := j.same (Same.new (o := .tup [.str x, .non]) f4)
          have sv := sv.same (Same.new (o := .tup [.str x, .non]) f4)
          generalize upd _ s4 (.tup [.str x, .non]) = HX at j sv hiv j1
          clear f4
          wtm_at "rd"
          intro s5 f5
          have j1 := j1.tup (vs := [.str x, .int 0, .int 0]) f5 (ok3 (atT_name nm) (atT_int (by decide) (by decide)) (atT_int (by decide) (by decide)))
          have hiv := Same.new (o := .tup [.str x, .int 0, .int 0]) f5 _ _ hiv
          have j := j.same (Same.new (o := .tup [.str x, .int 0, .int 0]) f5)
          have sv := sv.same (Same.new (o := .tup [.str x, .int 0, .int 0]) f5)
          generalize upd _ s5 (.tup [.str x, .int 0, .int 0]) = HX at j sv hiv j1
          clear f5
          wtm_at "rd"
          intro q1 fq1
          have j1 : JAt HX mv [V.str x, .ref s1, .ref s2, .ref s3, .ref s4, .ref s5] _ := j1
          generalize ex1 : ([V.str x, .ref s1, .ref s2, .ref s3, .ref s4, .ref s5] : List V) = xs1 at j1 ⊢
          have xl1 : xs1.length = 6 := by
            rw [← ex1]
            rfl
          generalize ([It.atm (V.str x)] ++ [It.tp [V.str x]] ++ [It.ls [V.str x, V.int 1]] ++ [It.tp [V.str x, V.bl true]] ++ [It.tp [V.str x, V.non]] ++ [It.tp [V.str x, V.int 0, V.int 0]]) = js1 at j1
          clear ex1
          have k1 := Same.new (o := .lst xs1) fq1
          have j1 := j1.same k1
          have j := j.same k1
          have sv := sv.same k1
          have hiv := k1 _ _ hiv
          have hq1 := @upd_same HX q1 (.lst xs1)
          generalize upd HX q1 (.lst xs1) = HY at j j1 sv hiv hq1
          clear k1 fq1
          wtm_at "rd"
          refine rd_catL hiv hq1 (by omega) ?_
          intro v2 fv2
          have jj : JAt HY mv (ds ++ xs1) (js ++ js1) := ⟨ItsAt.app j.1 j1.1, fun z => (List.mem_append.mp z).elim j.2.1 j1.2.1, j.2.2⟩
          have k2 := Same.new (o := .lst (ds ++ xs1)) fv2
          have jj := jj.same k2
          have nv2 := sv.go.pool.ne fv2
          have nvm := ne_of_none sv.hm fv2
          have sv := sv.same k2
          have hv2 := @upd_same HY v2 (.lst (ds ++ xs1))
          have lv2 : (ds ++ xs1).length = 14 := by
            rw [List.length_append]
            omega
          generalize upd HY v2 (.lst (ds ++ xs1)) = HZ at jj sv hv2
          generalize ds ++ xs1 = ds2 at *
          generalize js ++ js1 = js2 at *
          clear j j1 hiv k2 fv2 hq1
          wtm_at "rd"
          refine rd_split (fun c10 => ?_) (fun c10 => ?_)
          · wtm_at "rd"
            refine rd_tyL sv.hm ?_
            wtm_at "rd"
            refine use_draw sv.go.pool (by decide) (by decide) fun val HV v0 v1 gV => ?_
            have jj : JAt HV mv ds2 js2 := ⟨jj.1.go sv.go.pool gV, jj.2.1, _, (sv.step gV).hm⟩
            have hv2 := gV.at hv2 (Ne.symm nv2)
            have sv := sv.step gV
            clear gV
            wtm_at "rd"
            intro tt ftt
            have ok : (It.tp [.str x, .int (val - 1)]).ok := ok2 (atT_name nm) (atT_int (by omega) (by omega))
            have k2 := Same.new (o := .tup [.str x, .int (val - 1)]) ftt
            have ntm := ne_of_none sv.hm ftt
            have jj := jj.same k2
            have hv2 := k2 _ _ hv2
            have sv := sv.same k2
            have htt := @upd_same HV tt (.tup [.str x, .int (val - 1)])
            generalize upd HV tt (.tup [.str x, .int (val - 1)]) = HW at jj hv2 sv htt
            clear k2 ftt
            wtm_at "rd"
            refine rd_append sv.hm (by have := sv.le; omega) ?_
            have pu := sv.push (c := .ref tt) (it := .tp [.str x, .int (val - 1)]) ⟨tt, rfl, htt⟩ ok (fun z => ntm (by injection z with z; exact z.symm))
            wtm_at "rd"
            exact ⟨_, _, ds2, js2, _, v2, 1, by decide, fun z => absurd c10.symm z, rfl, pu, ⟨jj.1.put jj.2.1, jj.2.1, _, upd_same⟩, at_upd (Ne.symm nvm) hv2, nv2, nvm, by omega, by omega⟩
          · wtm_at "rd"
            exact ⟨_, _, ds2, js2, _, v2, 0, by decide, fun _ => rfl, rfl, sv, jj, hv2, nv2, nvm, by omega, by omega⟩
        · wtm_at "rd"
          exact ⟨cs, its, ds, js, _, iv, 0, by decide, fun _ => rfl, rfl, sv, j, hiv, niv, nmi, by omega, by omega⟩
      · clear j sv hiv niv nmi dl
        rintro σ' HA ⟨cs, its, ds, js, u5, iv, k', k1, k2, rfl, sv, j, hiv, niv, nmi, dl, dh⟩
        wtm_at "rd"
        have sokM : ∀ m ∈ bs.map (·.2), PyData.strOk m.1 = true := fun m hm => by
          rw [eb] at hm
          exact (gs.ok.names.ok _ (legal_of hm).mem).sok
        refine ⟨fun σ' H' => ∃ (cs : List V) (its : List It) (k' : Nat), k' ≤ 1 ∧ (dir = 11 → k' = 0) ∧ σ' = [some (.ref p), some (.ref g), some (.ref st), some (.ref ps), some (.ref l), u5, u6, some (.ref mv), some (.int (0 + (k : Int))), some (.int dir), some (.ref iv)] ∧ MvSt p H H' l mv bs cs its (k + k') ∧ JAt H' mv ds js ∧ H' iv = some (.lst ds), ?_, ?_⟩
        · wtm_at "rd"
          refine rd_split (fun c9 => ?_) (fun c9 => ?_)
          · have kz : k' = 0 := k2 (by omega)
            subst kz
            wtm_at "rd"
            intro z0 fz
            have kz := Same.new (o := .lst []) fz
            have j := j.same kz
            have sv := sv.same kz
            have hiv := kz _ _ hiv
            have hz := @upd_same HA z0 (.lst [])
            generalize upd HA z0 (.lst []) = HB at j sv hiv hz
            clear kz fz
            obtain ⟨lm1, lm2⟩ := lay_mvs sokM
            refine rd_neNilD (SqL.of sv.hl) (dp_mvs sv.tb) (SqL.of hz) lm1 (by omega) ?_
            wtm_at "rd"
            by_cases be : bs = []
            · subst be
              refine rd_F ?_
              wtm_at "rd"
              exact ⟨cs, its, 0, by decide, fun _ => rfl, rfl, sv, j, hiv⟩
            have bpos : 0 < bs.length := List.length_pos_iff.mpr be
            have bne : (!(bs.map fun m => V.ref m.1).isEmpty) = true := by
              cases bs with
              | nil => exact absurd rfl be
              | cons _ _ => rfl
            rw [bne]
            wtm_at "rd"
            refine rd_tyL sv.hm ?_
            wtm_at "rd"
            refine rd_lenL (SqL.of sv.hl) ?_
            wtm_at "rd"
            refine use_draw sv.go.pool (by rw [List.length_map]; omega) (by rw [List.length_map]; omega) fun r HF r0 r1 gF => ?_
            rw [List.length_map] at r1
            have j : JAt HF mv ds js := ⟨j.1.go sv.go.pool gF, j.2.1, _, (sv.step gF).hm⟩
            have hiv := gF.at hiv (Ne.symm niv)
            have sv := sv.step gF
            clear gF
            obtain ⟨rn, rfl⟩ := Int.eq_ofNat_of_zero_le r0
            have hrn : rn < bs.length := by omega
            refine rd_ixL (SqL.of sv.hl) (v := .ref bs[rn].1) (atI_nat (by rw [List.getElem?_map, List.getElem?_eq_getElem hrn]; rfl)) ?_
            have mm := List.getElem_mem hrn
            have ht := sv.tb _ mm
            have lg : Legal ns (es.map (·.2)) f pn bs[rn].2 := legal_of (by
              rw [← eb]
              exact List.mem_map_of_mem mm)
            generalize bs[rn] = b at *
            wtm_at "rd"
            refine rd_append sv.hm (by have := sv.le; omega) ?_
            have v0 := lg.val
            have pu := sv.push (c := .ref b.1) (it := itM b.2) ⟨b.1, rfl, ht⟩ (ok2 (atT_name (gs.ok.names.ok _ lg.mem)) (atT_int (by omega) (by omega))) (fun z => by
              injection z with z
              rw [z, sv.hm] at ht
              cases ht)
            wtm_at "rd"
            refine ⟨_, _, 1, by decide, fun z => absurd z (by omega), rfl, pu, ⟨j.1.put j.2.1, j.2.1, _, upd_same⟩, at_upd (Ne.symm nmi) hiv⟩
          · wtm_at "rd"
            exact ⟨cs, its, k', k1, fun z => k2 (by omega), rfl, sv, j, hiv⟩
        rintro σ' HB ⟨cs2, its2, k3, k4, k5, rfl, sv2, j2, hiv2⟩
        wtm_at "rd"
        refine rd_split (fun c11 => ?_) (fun c11 => ?_)
        · have kz : k3 = 0 := k5 c11
          subst kz
          wtm_at "rd"
          refine rd_tyL sv2.hm ?_
          wtm_at "rd"
          refine rd_lenL (SqL.of hiv2) ?_
          wtm_at "rd"
          refine use_draw sv2.go.pool (by omega) (by omega) fun r HF r0 r1 gF => ?_
          have j : JAt HF mv ds js := ⟨j2.1.go sv2.go.pool gF, j2.2.1, _, (sv2.step gF).hm⟩
          have hiv := gF.at hiv2 (Ne.symm niv)
          have sv := sv2.step gF
          clear gF
          obtain ⟨rn, rfl⟩ := Int.eq_ofNat_of_zero_le r0
          have hrn : rn < ds.length := by omega
          have hrj : rn < js.length := by rw [j.1.1]; exact hrn
          refine rd_ixL (SqL.of hiv) (v := ds[rn]) (atI_nat (List.getElem?_eq_getElem hrn)) ?_
          wtm_at "rd"
          refine rd_append sv.hm (by have := sv.le; omega) ?_
          obtain ⟨i1, i2⟩ := j.1.2 rn hrn hrj
          have pu := sv.push i1 i2 (fun z => j.2.1 (z ▸ List.getElem_mem hrn))
          wtm_at "rd"
          exact ⟨_, _, _, _, _, _, _, rfl, pu⟩
        · wtm_at "rd"
          have : k3 = 0 ∨ k3 = 1 := by omega
          rcases this with rfl | rfl
          · exact ⟨_, _, _, _, _, _, _, rfl, sv2.up⟩
          · exact ⟨_, _, _, _, _, _, _, rfl, sv2⟩
    · rintro σ H5 ⟨cs, its, u5, u6, u8, u9, u10, rfl, st1⟩
      wtm_at "rd"
      intro t ft
      have st2 := st1.same (Same.new (o := .tup [.ref l, .ref mv]) ft)
      exact q t l mv bs cs its _ st2.go upd_same st2.hl st2.tb eb st2.hm st2.it (by have := st2.le; omega) st2.ne
end
end Law

/-! k42: the expected result -/
namespace Law
open PySem PySem.Spec PyProof.Rows L2 U L2.DX


def oD : Option Nat → PyData
  | none => .none
  | some i => .int i
def resD (ord : List Str) (F : Str → Int) : Rs → PyData
  | .bad o => .tuple [.str "move", oD o, .bool true, .bool false, .bool false]
  | .dup x => .tuple [.str "duplicate", .str x, .bool true, .bool false, .bool false]
  | .adj x y => .tuple [.str "adjacent", .tuple [.str (eOf x y).1, .str (eOf x y).2], .bool true, .bool false, .bool false]
  | .good => .list ((sortS ord).map (dPr F))
theorem sort2q {a b : Str} {ys : List Str} (p : ys.Perm [a, b]) (s : ys.Pairwise fun a b => ¬ sLt b a) : ys = [(eOf a b).1, (eOf a b).2] := by
  by_cases n : a = b
  · subst n
    have l := p.length_eq
    match ys, l with
    | [y1, y2], _ =>
      have m1 : y1 ∈ [a, a] := p.mem_iff.mp List.mem_cons_self
      have m2 : y2 ∈ [a, a] := p.mem_iff.mp (List.mem_cons_of_mem _ List.mem_cons_self)
      simp only [List.mem_cons, List.not_mem_nil, or_false, or_self] at m1 m2
      subst m1
      rw [m2]
      rcases eOf_cases y1 y1 with z | z <;> rw [z]
  · exact sort2 n p s
def spImp (K : PySem.W.Frag) : Sp := fun vs H Q _ => ∃ (l : Addr) (c : V) (bs : List (Addr × Str × Int)) (it : It), vs = [.ref l, c] ∧ H l = some (.lst (bs.map fun m => V.ref m.1)) ∧ TupsAt H bs ∧ (∀ m ∈ bs.map (·.2), PyData.strOk m.1 = true) ∧ ItAt H c it ∧ it.ok ∧ Q (.bl (!posI (bs.map (·.2)) it)) H
def mvsI (its : List It) : List (Str × Int) := its.filterMap mvI
theorem mvsI_itM : ∀ {ms : List (Str × Int)}, mvsI (ms.map itM) = ms
  | [] => rfl
  | m :: r => by
    have := mvsI_itM (ms := r)
    unfold mvsI at this ⊢
    rw [List.map_cons, List.filterMap_cons]
    show m :: _ = _
    rw [this]
def spExp42 (K : PySem.W.Frag) : Sp := fun vs H Q _ => ∃ (g n e st l mv : Addr) (ns ord pn : List Str) (es : List (Addr × Str × Str)) (f : Str → Int) (bs : List (Addr × Str × Int)) (cs : List V) (its : List It), vs = [.ref g, .ref st, .ref l, .ref mv] ∧ GSt H g n e st ns ord es f ∧
  H l = some (.lst (bs.map fun m => V.ref m.1)) ∧ TupsAt H bs ∧ bs.map (·.2) = movesF ns (es.map (·.2)) f pn ∧ H mv = some (.lst cs) ∧ ItsAt H cs its ∧ cs.length ≤ 1000 ∧
  ∀ (u : V) (H' : Hp), Same H H' → Dp K H' u (resD ord (playF f (mvsI its)) (rsI (es.map (·.2)) (movesF ns (es.map (·.2)) f pn) its)) → Q u H'
section
variable {P : Program} {w : World} {K : PySem.W.Frag} {mg : Str → Option Value} {base : Heap}
theorem ok_imp {f : Addr} {fd : FuncData} (F : Fun K "_law_is_impossible" "_law_is_impossible" s__law_is_impossible f fd) (B : Bt mg) (Bb : mg "bool" = none) : FnG P w K mg base CX0 1 f fd ["_law_possible_here", "_law_candidate"] (spImp K) := by
  refine fnG0 F sc__law_is_impossible (fun vs H Q E h => ?_) (fun cdv A outer s H vs Q E hr h => ?_)
  · obtain ⟨l, c, bs, it, rfl, _⟩ := h
    rfl
  · have hu65 : (A.deeper (envOfC "_law_is_impossible" (defScope s__law_is_impossible) s.heap.objs.size f cdv)).units + 65 < cLine := by
      have := hr.u100
      omega
    obtain ⟨l, c, bs, it, rfl, hl, tb, sok, hit, ok, q⟩ := h
    have nd := sc__law_is_impossible.nd
    have hu := hr.u1
    refine ⟨_, (pss_cons (ps_if (PW.pt (pw_or (pt_not (pt_val (pe_callB (kIsi K rfl) (by rfl) B.isinstance bb_isinstance (pa_cons (pv 1) (pa_cons (pe_ty rfl B.tuple bb_tuple) pa_nil))))) (pw_or1 (pt_cmpR (kNe K rfl hr.u64) (pe_callB (kLen K rfl) (by rfl) B.len bb_len (pa_cons (pv 1) pa_nil)) pe_int (nomark _))))) (pss_one (ps_ret pe_bl)) pss_nil)
  (pss_one (ps_ret (pe_or (pe_callB (kIsi K rfl) (by rfl) B.isinstance bb_isinstance (pa_cons (pe_ix (kIx K rfl) (pv 1) pe_int (fun _ _ => rfl)) (pa_cons (pe_ty rfl Bb bb_bool) pa_nil))) (pe_one (pe_cmpR (kNinL K rfl hu65) (pv 1) (pv 0) rfl)))))), ?_⟩
    wtm_at "rd"
    rcases ty_it (K := K) ok hit with ⟨t, ty, nt, no⟩ | ⟨a, vs, rfl, rfl, ha, vl, at3⟩
    · rw [posI_non no] at q
      refine rd_isi ty (t := .tup) (by decide +kernel) ?_
      rw [nt]
      wtm_at "rd"
      exact q
    refine rd_isi (ty_tup ha) (t := .tup) (by decide +kernel) ?_
    rw [show isT .tup .tup = true from by decide +kernel]
    wtm_at "rd"
    refine rd_lenT (SqT.of ha) ?_
    wtm_at "rd"
    by_cases c2 : vs.length = 2
    · refine rd_nno (by omega) ?_
      match vs, c2 with
      | [a1, b1], _ =>
        have at1 := at3 a1 (by simp)
        have bt1 := at3 b1 (by simp)
        wtm_at "rd"
        refine rd_ixT (SqT.of ha) (v := b1) rfl ?_
        wtm_at "rd"
        obtain ⟨t, ty, _, tb1, _⟩ := ty_atmT (K := K) (H := H) bt1.atm
        refine rd_isi ty (t := .bl) (by decide +kernel) ?_
        by_cases ci : isT t .bl = true
        · obtain ⟨z, rfl⟩ := tb1.mp ci
          rw [posI_non (by cases a1 <;> rfl)] at q
          rw [ci]
          wtm_at "rd"
          exact q
        · have nb : ∀ z, b1 ≠ .bl z := fun z e => ci (tb1.mpr ⟨z, e⟩)
          rw [Bool.eq_false_iff.mpr ci]
          wtm_at "rd"
          refine rd_ninMv ha at1 bt1 nb (SqL.of hl) tb sok ?_
          exact q
    · rw [posI_non (mvI_len c2)] at q
      refine rd_nyes (by omega) ?_
      wtm_at "rd"
      exact q
structure RQa (P : Program) (w : World) (K : PySem.W.Frag) (mg : Str → Option Value) (base : Heap) : Prop where
  _law_is_impossible : Cal P w K mg base CX0 1 "_law_is_impossible" (spImp K)
  _law_neighbors : Cal P w K mg base CX0 1 "_law_neighbors" spNbrL
theorem ok_exp42 {f : Addr} {fd : FuncData} (F : Fun K "_law_compute_expected" "_law_compute_expected" s__law_compute_expected f fd) (B : Bt mg) (C : RQa P w K mg base) : FnG P w K mg base CX0 3 f fd ["_law_graph", "_law_state", "_law_possible_here", "_law_items"] (spExp42 K) := by
  refine fnG0 F sc__law_compute_expected (fun vs H Q E h => ?_) (fun cdv A outer s H vs Q E hr h => ?_)
  · obtain ⟨g, n, e, st, l, mv, ns, ord, pn, es, f, bs, cs, its, rfl, _⟩ := h
    rfl
  · obtain ⟨g, n, e, st, l, mv, ns, ord, pn, es, f, bs, cs, its, rfl, gs, hl, tb, eb, hmv, hits, cl, q⟩ := h
    have nd := sc__law_compute_expected.nd
    have hu := hr.u1
    refine ⟨_, (pss_cons (ps_for PassesOwn.never rfl (pi_range1 rfl B.range (pa_cons (pe_callB (kLen K rfl) (by rfl) B.len bb_len (pa_cons (pv 3) pa_nil)) pa_nil)) (pg_name (i := 4) nd rfl (by first | exact Or.inl rfl | exact Or.inr rfl)) (pss_one (ps_if (pt_val (pe_c C._law_is_impossible hr (by decide) rfl (pa_cons (pv 2) (pa_cons (pe_ix (kIx K rfl) (pv 3) (pv 4) (fun _ _ => rfl)) pa_nil)))) (pss_one (ps_ret (pe_tup (pa_cons pe_str (pa_cons (pv 4) (pa_cons pe_bl (pa_cons pe_bl (pa_cons pe_bl pa_nil)))))))) pss_nil)))
  (pss_cons (ps_set (i := 5) nd rfl (by first | exact Or.inl rfl | exact Or.inr rfl) (pe_lc (own := [("_law_candidate", 6)]) rfl nd (ki_list K rfl (pv 3)) (blkOk_by (own := [("_law_candidate", 6)]) (N := nN__law_compute_expected) (sc := defScope s__law_compute_expected) (by decide +kernel)) (fun _ _ _ _ _ => (pg_name (i := 6) nd rfl (by first | exact Or.inl rfl | exact Or.inr rfl))) (fun _ _ _ _ _ => pts_nil) (fun _ _ _ _ _ => (pe_ix (kIx K rfl) (pv 6) pe_int (fun _ _ => rfl)))))
  (pss_cons (ps_for PassesOwn.never rfl (pi_range1 rfl B.range (pa_cons (pe_callB (kLen K rfl) (by rfl) B.len bb_len (pa_cons (pv 5) pa_nil)) pa_nil)) (pg_name (i := 4) nd rfl (by first | exact Or.inl rfl | exact Or.inr rfl)) (pss_one (ps_if (pt_cmpR (kIn K rfl) (pe_ix (kIx K rfl) (pv 5) (pv 4) (fun _ _ => rfl)) (pe_slice (kSl K rfl) (pv 5) po_none (po_some (pv 4))) rfl) (pss_one (ps_ret (pe_tup (pa_cons pe_str (pa_cons (pe_ix (kIx K rfl) (pv 5) (pv 4) (fun _ _ => rfl)) (pa_cons pe_bl (pa_cons pe_bl (pa_cons pe_bl pa_nil)))))))) pss_nil)))
  (pss_cons (ps_for PassesOwn.never rfl (pi_range1 rfl B.range (pa_cons (pe_callB (kLen K rfl) (by rfl) B.len bb_len (pa_cons (pv 5) pa_nil)) pa_nil)) (pg_name (i := 4) nd rfl (by first | exact Or.inl rfl | exact Or.inr rfl)) (pss_cons (ps_setLc (i := 7) (own := [("_law_node", 8)]) rfl nd rfl rfl (sw_true rfl rfl rfl (by decide +kernel)) (ki_list K rfl (pe_slice (kSl K rfl) (pv 5) po_none (po_some (pv 4)))) (blkOk_by (own := [("_law_node", 8)]) (N := nN__law_compute_expected) (sc := defScope s__law_compute_expected) (by decide +kernel)) (fun _ _ _ _ _ => (pg_name (i := 8) nd rfl (by first | exact Or.inl rfl | exact Or.inr rfl))) (fun _ _ _ _ _ => (pts_one (pt_cmpR (kIn K rfl) (pv 8) (pe_c C._law_neighbors hr (by decide) rfl (pa_cons (pv 0) (pa_cons (pe_ix (kIx K rfl) (pv 5) (pv 4) (fun _ _ => rfl)) pa_nil))) rfl))) (fun _ _ _ _ _ => (pv 8)))
  (pss_one (ps_if (pt_cmpR (kNe K rfl hr.u64) (pv 7) (pe_lst pa_nil) (nomark _)) (pss_one (ps_ret (pe_tup (pa_cons pe_str (pa_cons (pe_callTy (kTuple K rfl) (by rfl) B.tuple bb_tuple (pa_cons (pe_callB (kSorted K rfl hr.u64) (by rfl) B.sorted bb_sorted (pa_cons (pe_lst (pa_cons (pe_ix (kIx K rfl) (pv 5) (pv 4) (fun _ _ => rfl)) (pa_cons (pe_ix (kIx K rfl) (pv 7) pe_int (fun _ _ => rfl)) pa_nil))) pa_nil)) pa_nil)) (pa_cons pe_bl (pa_cons pe_bl (pa_cons pe_bl pa_nil)))))))) pss_nil))))
  (pss_cons (ps_set (i := 9) nd rfl (by first | exact Or.inl rfl | exact Or.inr rfl) (pe_callTy cDict (by rfl) B.dict bb_dict (pa_cons (pv 1) pa_nil)))
  (pss_cons (ps_for PassesOwn.never rfl (ki_list K rfl (pv 3)) (kg_tup (n := 2) K rfl rfl (pgs_cons (pg_name (i := 8) nd rfl (by first | exact Or.inl rfl | exact Or.inr rfl)) (pgs_cons (pg_name (i := 10) nd rfl (by first | exact Or.inl rfl | exact Or.inr rfl)) pgs_nil))) (pss_one (ps_dput hu (pv 9) (pv 8) (pv 10) rfl)))
  (pss_one (ps_ret (pe_callB (cr_sortedItK rfl hr.u64) (by rfl) B.sorted bb_sorted (pa_cons (pe_bm0 PySem.F.plainAttrs_dict PySem.F.slot_dict_items PySem.F.type_dict_items mt_itemsK (pv 9)) pa_nil)))))))))), ?_⟩
    wtm_at "rd"
    refine rd_lenL (SqL.of hmv) ?_
    wtm_at "rd"
    rw [Int.toNat_natCast]
    have sokM : ∀ m ∈ bs.map (·.2), PyData.strOk m.1 = true := fun m hm => by
      rw [eb] at hm
      exact (gs.ok.names.ok _ (legal_of hm).mem).sok
    have il := hits.1
    refine turnsR (fun i σ H' => ∃ u4 : Option V, σ = [some (.ref g), some (.ref st), some (.ref l), some (.ref mv), u4, none, none, none, none, none, none] ∧ H = H' ∧ ∀ j (hj : j < its.length), j < i → posI (movesF ns (es.map (·.2)) f pn) its[j] = true) ⟨_, rfl, rfl, fun j hj z => absurd z (Nat.not_lt_zero _)⟩ ?_ ?_
    · rintro i σ H' hi ⟨u4, rfl, rfl, good⟩
      have hio : i < its.length := by omega
      obtain ⟨hit, ok⟩ := hits.2 i hi hio
      wtm_at "rd"
      refine rd_ixL (SqL.of hmv) (v := cs[i]) (by rw [Int.zero_add]; exact atI_nat (List.getElem?_eq_getElem hi)) ?_
      refine ⟨l, cs[i], bs, its[i], rfl, hl, tb, sokM, hit, ok, ?_⟩
      rw [eb]
      cases g1 : posI (movesF ns (es.map (·.2)) f pn) its[i] with
      | true =>
        wtm_at "rd"
        refine ⟨_, rfl, rfl, fun j hj z => ?_⟩
        rcases Nat.lt_succ_iff_lt_or_eq.mp z with z | rfl
        · exact good j hj z
        · exact g1
      | false =>
        wtm_at "rd"
        intro t ft
        refine q _ _ (Same.new ft) ?_
        have bi := bad_some hio (fun j hj => good j _ hj) g1
        have : rsI (es.map (·.2)) (movesF ns (es.map (·.2)) f pn) its = .bad (some i) := by
          unfold rsI
          rw [bi]
        rw [this, Int.zero_add]
        exact .tup (SqT.of upd_same) (.cons (.str _) (.cons (.int _) (.cons (.bl _) (.cons (.bl _) (.cons (.bl _) .nil)))))
    rintro σ H' ⟨u4, rfl, rfl, good⟩
    have good2 : ∀ j (hj : j < its.length), posI (movesF ns (es.map (·.2)) f pn) its[j] = true := fun j hj => by
      have h2 : j < cs.length := Nat.lt_of_lt_of_eq hj il
      exact good j hj h2
    have bn : badI (movesF ns (es.map (·.2)) f pn) its = none := bad_none good2
    clear good2
    obtain ⟨ms, rfl, msM⟩ := bad_good bn
    obtain ⟨ws, rfl, tw, rfl⟩ := hits.tups
    rw [mvsI_itM] at q
    have q : ∀ (u : V) (H' : Hp), Same H H' → Dp K H' u (resD ord (playF f (ws.map (·.2))) (rsS (es.map (·.2)) (ws.map fun m => m.2.1))) → Q u H' := fun u H' s' d => q u H' s' (by
      unfold rsI
      rw [bn, nodes_itM, List.map_map]
      exact d)
    have wl : ws.length ≤ 1000 := by
      rw [List.length_map] at cl
      exact cl
    clear bn hits il good hl tb eb sokM
    wtm_at "rd"
    refine rd_forL (SqL.of hmv) ?_
    intro D fD
    refine lcL (K := K) (xs := ws.map fun m => V.ref m.1) (fun j H' => Same H H' ∧ H' D = some (.lst (((ws.map fun m => m.2.1).take j).map V.str))) ⟨Same.new fD, upd_same⟩ ?_ ?_ ?_
    · rintro j H' hj ⟨sb, _⟩
      exact SqL.of (sb _ _ hmv)
    · rintro j y H' hy ⟨sb, hD⟩
      obtain ⟨hj, rfl⟩ := map_at hy
      have tk := take_snoc (xs := ws.map fun m => m.2.1) (i := j) (by rw [List.length_map]; exact hj)
      rw [List.getElem_map] at tk
      wtm_at "rd"
      refine rd_ixT (SqT.of (sb _ _ (tw _ (List.getElem_mem hj)))) (v := .str ws[j].2.1) rfl ?_
      refine rd_acc hD (by rw [List.length_map, List.length_take, List.length_map]; omega) ?_
      refine ⟨same_put sb fD, ?_⟩
      rw [upd_same, tk, List.map_append]
      rfl
    rintro H2 ⟨s2, hD⟩
    rw [List.length_map, List.take_of_length_le (by rw [List.length_map]; exact Nat.le_refl _)] at hD
    wtm_at "rd"
    generalize exs : (ws.map fun m => m.2.1) = xs at *
    have xl : xs.length = ws.length := by rw [← exs, List.length_map]
    refine rd_lenL (SqL.of hD) ?_
    rw [List.length_map]
    wtm_at "rd"
    rw [Int.toNat_natCast]
    refine turnsR (fun i σ H' => ∃ u4 u6 : Option V, σ = [some (.ref g), some (.ref st), some (.ref l), some (.ref mv), u4, some (.ref D), u6, none, none, none, none] ∧ Same H H' ∧ H' D = some (.lst (xs.map V.str)) ∧ dupS [] xs = dupS (xs.take i) (xs.drop i)) ⟨_, _, rfl, s2, hD, rfl⟩ ?_ ?_
    · rintro i σ H3 hi ⟨u4, u6, rfl, s3, hD3, ed⟩
      rw [dupS_step hi] at ed
      wtm_at "rd"
      refine rd_ixL (SqL.of hD3) (v := .str xs[i]) (by rw [Int.zero_add]; exact atI_nat (by rw [List.getElem?_map, List.getElem?_eq_getElem hi]; rfl)) ?_
      wtm_at "rd"
      refine rd_slL (SqL.of hD3) ?_
      rw [Int.zero_add, cutV_to (by rw [List.length_map]; omega), ← List.map_take]
      intro t6 f6
      have s6 := same_add (o := .lst ((xs.take i).map V.str)) s3 f6
      have h6 := @upd_same H3 t6 (.lst ((xs.take i).map V.str))
      have hD6 := at_upd (o := .lst ((xs.take i).map V.str)) (ne_of_none hD3 f6) hD3
      generalize upd H3 t6 (.lst ((xs.take i).map V.str)) = H6 at s6 h6 hD6
      refine rd_inSL (SqL.of h6) ?_
      wtm_at "rd"
      by_cases c : xs[i] ∈ xs.take i
      · rw [if_pos c] at ed
        refine rd_yes c ?_
        wtm_at "rd"
        refine rd_ixL (SqL.of hD6) (v := .str xs[i]) (by exact atI_nat (by rw [List.getElem?_map, List.getElem?_eq_getElem hi]; rfl)) ?_
        wtm_at "rd"
        intro t ft
        refine q _ _ (same_add s6 ft) ?_
        have : rsS (es.map (·.2)) xs = .dup xs[i] := by
          unfold rsS
          rw [ed]
        rw [this]
        exact .tup (SqT.of upd_same) (.cons (.str _) (.cons (.str _) (.cons (.bl _) (.cons (.bl _) (.cons (.bl _) .nil)))))
      · rw [if_neg c] at ed
        refine rd_no c ?_
        wtm_at "rd"
        exact ⟨_, _, rfl, s6, hD6, ed⟩
    rintro σ H3 ⟨u4, u6, rfl, s3, hD3, dn⟩
    rw [List.drop_length] at dn
    have dn : dupS [] xs = none := dn
    clear s2 hD
    wtm_at "rd"
    refine rd_lenL (SqL.of hD3) ?_
    rw [List.length_map]
    wtm_at "rd"
    rw [Int.toNat_natCast]
    refine turnsR (fun i σ H' => ∃ u4 u6 u7 : Option V, σ = [some (.ref g), some (.ref st), some (.ref l), some (.ref mv), u4, some (.ref D), u6, u7, none, none, none] ∧ Same H H' ∧ H' D = some (.lst (xs.map V.str)) ∧ adjS (es.map (·.2)) [] xs = adjS (es.map (·.2)) (xs.take i) (xs.drop i)) ⟨_, _, _, rfl, s3, hD3, rfl⟩ ?_ ?_
    · rintro i σ H4 hi ⟨u4, u6, u7, rfl, s4, hD4, ed⟩
      rw [adjS_step hi] at ed
      wtm_at "rd"
      refine rd_slL (SqL.of hD4) ?_
      rw [Int.zero_add, cutV_to (by rw [List.length_map]; omega), ← List.map_take]
      intro t6 f6
      have s6 := same_add (o := .lst ((xs.take i).map V.str)) s4 f6
      have h6 := @upd_same H4 t6 (.lst ((xs.take i).map V.str))
      have hD6 := at_upd (o := .lst ((xs.take i).map V.str)) (ne_of_none hD4 f6) hD4
      generalize upd H4 t6 (.lst ((xs.take i).map V.str)) = H6 at s6 h6 hD6
      refine rd_forL (SqL.of h6) ?_
      intro N fN
      have gs6 := gs.same s6
      refine lcL (K := K) (xs := (xs.take i).map V.str) (fun j H' => Same H6 H' ∧ H' N = some (.lst ((((xs.take i).take j).filter fun y => decide (y ∈ nbrF (es.map (·.2)) xs[i])).map V.str))) ⟨Same.new fN, upd_same⟩ ?_ ?_ ?_
      · rintro j H' hj ⟨sb, _⟩
        exact SqL.of (sb _ _ h6)
      · rintro j y H7 hy ⟨sb, hN⟩
        obtain ⟨hj, rfl⟩ := map_at hy
        have tk := take_snoc hj
        have lt : (((xs.take i).take j).filter fun y => decide (y ∈ nbrF (es.map (·.2)) xs[i])).length ≤ 1000 := Nat.le_trans (List.length_filter_le _ _) (by rw [List.length_take, List.length_take]; omega)
        wtm_at "rd"
        refine rd_ixL (SqL.of (sb _ _ hD6)) (v := .str xs[i]) (by exact atI_nat (by rw [List.getElem?_map, List.getElem?_eq_getElem hi]; rfl)) ?_
        refine ⟨g, n, e, xs[i], ns, es, rfl, (gs6.same sb).gr, by have := gs.l3; omega, gs6.neq, fun ln H8 s8 fl8 h8 => ?_⟩
        have sb8 := sb.trans s8
        have hN8 := s8 _ _ hN
        wtm_at "rd"
        refine rd_inSL (SqL.of h8) ?_
        wtm_at "rd"
        by_cases c : (xs.take i)[j] ∈ nbrF (es.map (·.2)) xs[i]
        · rw [decide_eq_true c]
          wtm_at "rd"
          refine rd_acc hN8 (by rw [List.length_map]; omega) ?_
          refine ⟨same_put sb8 fN, ?_⟩
          rw [upd_same, tk, List.filter_append, List.map_append, List.filter_cons_of_pos (p := fun y => decide (y ∈ nbrF (es.map (·.2)) xs[i])) (decide_eq_true c), List.filter_nil]
          rfl
        · rw [decide_eq_false c, if_neg Bool.false_ne_true]
          refine ⟨sb8, ?_⟩
          rw [hN8, tk, List.filter_append, List.filter_cons_of_neg (p := fun y => decide (y ∈ nbrF (es.map (·.2)) xs[i])) (by rw [decide_eq_false c]; exact Bool.false_ne_true), List.filter_nil, List.append_nil]
      rintro H7 ⟨sb, hN⟩
      rw [List.length_map, List.take_length] at hN
      have s7 := s6.trans sb
      have hD7 := sb _ _ hD6
      have gs7 := gs.same s7
      wtm_at "rd"
      intro z0 fz
      have s8 := same_add (o := .lst []) s7 fz
      have hN8 := at_upd (o := .lst []) (ne_of_none hN fz) hN
      have hD8 := at_upd (o := .lst []) (ne_of_none hD7 fz) hD7
      have hz := @upd_same H7 z0 (.lst [])
      generalize upd H7 z0 (.lst []) = H8 at s8 hN8 hD8 hz
      have nm : ∀ x ∈ xs, PyData.strOk x = true := fun x hx => by
        rw [← exs] at hx
        obtain ⟨m, hm, rfl⟩ := List.mem_map.mp hx
        exact (gs.ok.names.ok _ (legal_of (msM _ (List.mem_map_of_mem hm))).mem).sok
      refine rd_neNil (SqL.of hN8) (SqL.of hz) (fun x hx => nm x (List.mem_of_mem_take (List.mem_filter.mp hx).1)) ?_
      rw [← List.head?_filter] at ed
      generalize ((xs.take i).filter fun y => decide (y ∈ nbrF (es.map (·.2)) xs[i])) = near at *
      match near, ed with
      | [], ed =>
        wtm_at "rd"
        exact ⟨_, _, _, rfl, s8, hD8, ed⟩
      | y :: r, ed =>
        rw [show (!(y :: r).isEmpty) = true from rfl]
        wtm_at "rd"
        refine rd_ixL (SqL.of hD8) (v := .str xs[i]) (by exact atI_nat (by rw [List.getElem?_map, List.getElem?_eq_getElem hi]; rfl)) ?_
        wtm_at "rd"
        refine rd_ixL (SqL.of hN8) (v := .str y) (atI_nat (xs := (y :: r).map V.str) (j := 0) rfl) ?_
        wtm_at "rd"
        intro t1 ft1
        have k1 := same_add (o := .lst [.str xs[i], .str y]) s8 ft1
        wtm_at "rd"
        refine rd_sortS (xs := [xs[i], y]) (SqL.of upd_same) (by show 2 ≤ 100000; decide) ?_
        intro ys py sy t2 ft2
        have k2 := same_add (o := .lst (ys.map V.str)) k1 ft2
        wtm_at "rd"
        refine rd_tupleL (SqL.of upd_same) ?_
        intro t3 ft3
        have k3 := same_add (o := .tup (ys.map V.str)) k2 ft3
        have h3 := @upd_same (upd (upd H8 t1 (.lst [.str xs[i], .str y])) t2 (.lst (ys.map V.str))) t3 (.tup (ys.map V.str))
        generalize upd (upd (upd H8 t1 (.lst [.str xs[i], .str y])) t2 (.lst (ys.map V.str))) t3 (.tup (ys.map V.str)) = Ha at k3 h3
        rw [sort2q py sy] at h3
        wtm_at "rd"
        intro t ft
        refine q _ _ (same_add k3 ft) ?_
        have : rsS (es.map (·.2)) xs = .adj xs[i] y := by
          unfold rsS
          rw [dn, ed]
          rfl
        rw [this]
        exact .tup (SqT.of upd_same) (.cons (.str _) (.cons (.tup (SqT.of (Same.new ft _ _ h3)) (.cons (.str _) (.cons (.str _) .nil))) (.cons (.bl _) (.cons (.bl _) (.cons (.bl _) .nil)))))
    rintro σ H4 ⟨u4, u6, u7, rfl, s4, hD4, an⟩
    rw [List.drop_length] at an
    have an : adjS (es.map (·.2)) [] xs = none := an
    have rg : rsS (es.map (·.2)) xs = .good := by
      unfold rsS
      rw [dn, an]
    have gs4 := gs.same s4
    have l2 := gs4.l2
    wtm_at "rd"
    refine ⟨_, .inl gs4.st, fun c fc => ?_⟩
    have fc0 := s4.free fc
    have s5 := same_add (o := .dK (kvF ord f)) s4 fc
    have hc := @upd_same H4 c (.dK (kvF ord f))
    generalize upd H4 c (.dK (kvF ord f)) = H5 at s5 hc
    wtm_at "rd"
    refine rd_forL (SqL.of (s5 _ _ hmv)) ?_
    refine turnsL (K := K) (xs := ws.map fun m => V.ref m.1) (fun i σ H' => ∃ u4 u6 u7 u8 uX : Option V, σ = [some (.ref g), some (.ref st), some (.ref l), some (.ref mv), u4, some (.ref D), u6, u7, u8, some (.ref c), uX] ∧ Same H H' ∧ H' c = some (.dK (kvF ord (playF f ((ws.map (·.2)).take i))))) ⟨_, _, _, _, _, rfl, s5, hc⟩ ?_ ?_ ?_
    · rintro i σ H' hi ⟨u4, u6, u7, u8, uX, rfl, s, _⟩
      exact SqL.of (s _ _ hmv)
    · rintro i y σ H' hy ⟨u4, u6, u7, u8, uX, rfl, s, hc⟩
      obtain ⟨hi, rfl⟩ := map_at hy
      have ht := s _ _ (tw _ (List.getElem_mem hi))
      have tk : (ws.map (·.2)).take (i + 1) = (ws.map (·.2)).take i ++ [ws[i].2] := by
        rw [take_snoc (by rw [List.length_map]; exact hi), List.getElem_map]
      have lg := legal_of (msM _ (List.mem_map_of_mem (List.getElem_mem hi)))
      rw [tk, playF_snoc]
      generalize ws[i] = m at *
      refine rd_unp (SqT.of ht) rfl ?_
      wtm_at "rd"
      refine rd_dset hc (k := .inr m.2.1) rfl (by rw [List.length_map, gs4.pm.length_eq]; omega) ?_
      rw [kvF_put (gs4.inO _ lg.mem)]
      exact ⟨_, _, _, _, _, rfl, same_put s fc0, upd_same⟩
    · rintro σ H' ⟨u4, u6, u7, u8, uX, rfl, s, hc⟩
      rw [List.length_map, List.take_of_length_le (by rw [List.length_map]; exact Nat.le_refl _)] at hc
      wtm_at "rd"
      refine rd_tyD hc ?_
      refine ⟨c, _, rfl, rfl, hc, fun v1 fv1 => ?_⟩
      wtm_at "rd"
      refine ⟨v1, c, ord, playF f (ws.map (·.2)), rfl, upd_same, at_upd (ne_of_none hc fv1) hc, fun H1 lx bs1 t1 fl1 hl1 tl1 pm1 srt1 => ?_⟩
      have k1 : Same H H1 := fun b o h => t1 _ _ (same_add s fv1 b o h)
      wtm_at "rd"
      refine q _ _ k1 ?_
      rw [rg]
      have e : bs1.map (·.2) = sortS ord := sort_uniq pm1 srt1 (gs4.pm.nodup_iff.mpr gs4.nd)
      have d := dp_prN (K := K) tl1
      rw [e] at d
      exact .lst (SqL.of hl1) d
end
end Law

/-! try with any number of handlers, all of one name, the exception kept -/
namespace U
open PySem PySem.Spec PyProof.Rows L2
def wK1 (K : PySem.W.Frag) (c : Value) (i : Nat) (ts : TS) (more : WX) (D : Ends) : WX := fun cls d σ H =>
  ∃ b, PySem.W.exmOne K cls c = some b ∧ (b = false → more cls d σ H) ∧
    (b = true → ∀ a, H a = none → ts { nx := fun σ1 H1 => D.nx (σ1.set i none) H1, rt := D.rt, bk := fun σ1 H1 => D.bk (σ1.set i none) H1, ct := fun σ1 H1 => D.ct (σ1.set i none) H1 } (σ.set i (some (.ref a))) (upd H a (exk a cls d)))
/-- the handlers, and what they wish -/
inductive Hds (X : Cx) (n : Str) (i : Nat) (Wout : WX) : List ExceptHandler → (Ends → WX) → Prop where
  | nil : Hds X n i Wout [] (fun _ => Wout)
  | cons {x : Str} {c : Value} {np pos' : Pos} {b₀ : Stmt} {suite : List Stmt} {ts : TS} {hs : List ExceptHandler} {w : Ends → WX} (hc : L2.Names X x c) (hsu : ∀ (a : Addr) (pn : List (Addr × Obj)), PSs (X.suite a pn) (b₀ :: suite) ts) (r : Hds X n i Wout hs w) :
      Hds X n i Wout (.ExceptHandler (some (.Name x np)) (some n) (b₀ :: suite) pos' :: hs) (fun D => wK1 X.K c i ts (w D) D)
section
variable {X : Cx} {n : Str} {i : Nat} {body : List Stmt} {pos : Pos} {tb : WX → TS} {Wout : WX}
theorem ps_try_keepN {h₀ : ExceptHandler} {hs : List ExceptHandler} {w : Ends → WX} (hst : X.stack = X.env :: X.outer) (hf : X.env.frame = some X.env.locals) (hN : X.N.Nodup) (hi : X.N[i]? = some n) (hln : X.env.kindOf n = some .local) (tk : Takes X Wout)
    (hb : ∀ (W : WX) (pn : List (Addr × Obj)) (xe : Value → Shared → Prop), Takes (X.tr pn xe) W → PassesOwn (model X.prog X.w) X.A X.env xe → PSs (X.tr pn xe) body (tb W))
    (hds : Hds X n i Wout (h₀ :: hs) w) :
    PS X (.Try body (h₀ :: hs) [] [] pos) (fun D σ H => tb (w D) D σ H) := by
  refine ⟨fun pins s σ H D I want => ?_⟩
  have okX := I.ok
  have frX : X.A.frames = some (X.env :: X.outer) := by rw [okX.frames, hst]
  refine wpAny_Try_except ?_
  have run := (hb (w D) (X.pn ++ pins) (fun e t1 => wpAny (model X.prog X.w) X.A (noteFrame e X.env) (fun _ t2 => wpAny (model X.prog X.w) X.A (setFlight e none) (fun _ t3 =>
    wpAny (model X.prog X.w) X.A (handleBy e X.env (h₀ :: hs)) (SP X pins D) X.xe t3) X.xe t2) X.xe t1) ?_ PassesOwn.looking).run [] s σ H D (I.toTry _) want
  · refine wpAny_mono run (fun f t1 h => ?_) fun _ _ z => z
    cases f with
    | next =>
      obtain ⟨σ1, H1, J, q⟩ := h
      exact wpAny_execs_nil ⟨σ1, H1, J.ofTry okX, q⟩
    | brk =>
      obtain ⟨σ1, H1, J, q⟩ := h
      exact ⟨σ1, H1, J.ofTry okX, q⟩
    | cont =>
      obtain ⟨σ1, H1, J, q⟩ := h
      exact ⟨σ1, H1, J.ofTry okX, q⟩
    | ret v =>
      obtain ⟨v1, σ1, H1, J, r, q⟩ := h
      exact ⟨v1, σ1, H1, J.ofTry okX, r, q⟩
  · intro u t0 xx
    obtain ⟨a, B, sI, pins1, σ1, H1, cls, d, rfl, J1, nb, up, sky, na, os, ag, wish⟩ := xx
    have J : Inv X pins σ1 H1 sI := J1.ofTry okX
    have sky1 : Sky B (X.env :: X.outer) a (Zc cls d) X.env.locals t0.heap := by rw [← hst]; exact sky
    show wpAny (model X.prog X.w) X.A (noteFrame (.ref a) X.env) _ _ _
    refine Sky.land Zc.steady frX hf sky1 fun h3 fl3 up3 => ?_
    have J3 : Inv X pins σ1 H1 { t0 with heap := h3 } := J.landed nb fl3.1 (up.trans up3) os ag
    obtain ⟨oe3, vs3, he3, hz3, hd3⟩ := fl3.there
    have off : ∀ {h : Heap} {o : Obj} {vs : Array Value}, h.FunFrames B (X.env :: X.outer) → h.get? a = some o → o.data = .fields vs → a ∉ frs (X.env :: X.outer) := by
      intro h o vs ff e dd hm
      obtain ⟨_, o1, e1, hnf⟩ := ff.mem hm
      rw [e] at e1
      cases e1
      exact hnf _ dd
    have nfr := off fl3.2.2.1 he3 hd3
    have nL : a ≠ X.env.locals := fun z => nfr (List.mem_filterMap.mpr ⟨X.env, List.mem_cons_self, by rw [hf, z]⟩)
    have nF : a ∉ X.fs := by
      intro hm
      obtain ⟨e, he, q⟩ := List.mem_filterMap.mp hm
      exact nfr (List.mem_filterMap.mpr ⟨e, List.mem_cons_of_mem _ he, q⟩)
    have S3 := J3.suite he3 hd3 na nL nF
    have LT : PySem.W.Looks (model X.prog X.w) h3 (typeOf (.ref a)) cls := fun A Q E s k q => wpAny_typeOf_ref (k _ _ he3) (by rw [hz3.1]; exact q)
    -- by the handlers
    have all : ∀ {hs : List ExceptHandler} {w : Ends → WX}, Hds X n i Wout hs w → w D cls d σ1 H1 → wpAny (model X.prog X.w) X.A (handleBy (.ref a) X.env hs) (SP X pins D) X.xe { t0 with heap := h3 } := by
      intro hs w hds
      induction hds with
      | nil =>
        intro wish
        refine wpAny_handleBy_nil ?_
        obtain ⟨k1, k2, k3, oe, vs, T, oT, ts1, he, hz, hd, h1, hr⟩ := id fl3
        unfold PySem.passOn
        refine wpAny_bind (wpAny_field he hd h1 ?_)
        rw [if_neg (show ¬ ((Value.ref T == Value.none) = true) from by simp)]
        have onward : wpAny (model X.prog X.w) X.A (setFlight (.ref a) X.env.frame) (fun _ s4 => wpAny (model X.prog X.w) X.A (throw (.ref a) : Sem Flow) (SP X pins D) X.xe s4) X.xe { t0 with heap := h3 } := by
          rw [hf]
          refine HandSPX.setFlight_upZ fl3 fun h4 hh4 up4 => wpAny_throw (tk _ _ ?_)
          exact ⟨a, B, sI, pins, σ1, H1, cls, d, rfl, J, nb, (up.trans up3).trans up4, .inr (.inr (by rw [hst]; exact hh4)), na, os, ag, wish⟩
        first
          | exact wpAny_bind (wpAny_pure (wpAny_bind onward))
          | exact wpAny_bind onward
      | @cons x c np pos' b₀ suite ts hs w hc hsu r ih =>
        rintro ⟨b, hb1, hno, hyes⟩
        refine wpAny_handleBy_cons (codeAny_handlers_test ?_) (by intro q; cases q)
        have LM := PySem.W.exm_one (M := model X.prog X.w) (J3.kIn) LT hb1
        have named : ∀ {Q E : Value → Shared → Prop}, Q c { t0 with heap := h3 } → wpAny (model X.prog X.w) (X.A.mark (some (.ref a))) (eval (.Name x np) X.env) Q E { t0 with heap := h3 } := by
          intro Q E q
          obtain ⟨hg, hdbg, hm | ⟨hm, hv, hnn⟩⟩ := hc
          · exact ld_glob (X := X.suite a ((a, oe3) :: (X.pn ++ pins))) S3 hg hm q hdbg
          · exact ld_blt (X := X.suite a ((a, oe3) :: (X.pn ++ pins))) S3 hg hm hv q hnn hdbg
        refine named (LM.here ?_)
        cases b with
        | false =>
          show wpAny _ X.A (handleBy (.ref a) X.env hs) _ _ _
          exact ih (hno rfl)
        | true =>
          refine codeAny_handlers_suite_as ?_
          refine HandSPX.lands_againZ fl3 fun h4 fl4 up4 => ?_
          obtain ⟨oe4, vs4, he4, hz4, hd4⟩ := fl4.there
          have J4 : Inv X pins σ1 (upd H1 a (exk a cls d)) { t0 with heap := h4 } := landed_k J nb fl4.1 ((up.trans up3).trans up4) os ag fl4.2.1 (by rw [hst]; exact nfr) na he4 hz4 hd4
          have S4 : Inv (X.suite a (X.pn ++ pins)) [] σ1 (upd H1 a (exk a cls d)) { t0 with heap := h4 } :=
            ⟨J4.ok.suite _ _, J4.os, J4.bare, J4.base, J4.loc, J4.cell, J4.free, J4.freeC, fun p hp => J4.pin p (by rw [List.append_nil] at hp; exact hp), J4.hok, J4.len⟩
          refine store_ok (X := X.suite a (X.pn ++ pins)) (v := .ref a) S4 hN hi (.inl hln) rfl (fun s5 S5 => ?_) (.inr hln)
          refine wpAny_mono ((hsu a (X.pn ++ pins)).run [] s5 _ _ _ S5 (hyes rfl a na)) (fun f s6 hsp => ?_) (fun _ _ z => False.elim z)
          have back : ∀ {σ6 : L2.St} {H6 : Hp}, Inv (X.suite a (X.pn ++ pins)) [] σ6 H6 s6 → Inv X pins σ6 H6 s6 := fun S =>
            ⟨okX, S.os, S.bare, S.base, S.loc, S.cell, S.free, S.freeC, fun p hp => S.pin p (List.mem_append_left _ hp), S.hok, S.len⟩
          have over : ∀ {σ6 : L2.St} {H6 : Hp} {Q : Shared → Prop}, Inv (X.suite a (X.pn ++ pins)) [] σ6 H6 s6 → (∀ s7, Inv X pins (σ6.set i none) H6 s7 → Q s7) →
              wpAny (model X.prog X.w) X.A (do bindName X.env n .none; unbindBehindTheSuite X.env n pos') (fun _ s7 => Q s7) X.xe s6 := fun S6 hq => gone_ok (back S6) hN hi hln hq
          cases f with
          | next =>
            obtain ⟨σ6, H6, S6, q6⟩ := hsp
            exact over S6 fun s7 J7 => ⟨_, _, J7, q6⟩
          | brk =>
            obtain ⟨σ6, H6, S6, q6⟩ := hsp
            exact over S6 fun s7 J7 => ⟨_, _, J7, q6⟩
          | cont =>
            obtain ⟨σ6, H6, S6, q6⟩ := hsp
            exact over S6 fun s7 J7 => ⟨_, _, J7, q6⟩
          | ret v =>
            obtain ⟨v6, σ6, H6, S6, r6, q6⟩ := hsp
            exact over S6 fun s7 J7 => ⟨_, _, _, J7, r6, q6⟩
    exact all hds wish
end
end U

/-! isinstance of a kept exception, its dict known -/
namespace U
open PySem PySem.Spec PyProof.Rows L2
section
variable {P : Program} {w : World} {A : Around} {E : Value → Shared → Prop} {K : PySem.W.Frag} {x D : Addr} {ox : Obj} {od : Option Obj}
theorem find_class (C : ExcC K D) : PySem.W.findObj K D od "__class__" = some (.bind (.builtin "getset_descriptor.__get__") (.builtin "object.__class__")) := by
  obtain ⟨cd, hc, _⟩ := PySem.W.any_some C.hd
  unfold PySem.W.findObj
  rw [hc, Option.bind_some, C.ha, Option.bind_some]
  simp [C.hn, C.ht]
theorem class_of_exc {Q : Option Value → Shared → Prop} {s : Shared} (C : ExcC K D) (X : K.In s.heap) (I : PySem.W.InstAt s.heap x ox D od) (h : Q (some (.ref D)) { s with toks := s.toks + 1 }) : wpAny (model P w) A (getAttr? (.ref x) "__class__") Q E s := by
  obtain ⟨hp, g, d, t, os⟩ := s
  have lt := I.type (M := model P w)
  have l1 := PySem.W.looks_findIn (M := model P w) X C.hg
  have l2 := PySem.W.looks_findIn (M := model P w) X C.hk
  have l3 := PySem.W.looks_find (M := model P w) X I (find_class C)
  have isB : PySem.W.Looks (model P w) hp (isInstance (.ref x) (.type "BaseException")) true := lt.andThen (PySem.W.looks_subIn X C.hs)
  have q1 : (Value.builtin "BaseException.__getattribute__" == Value.builtin "object.__getattribute__") = false := by decide +kernel
  have q2 : (onTheHeap (Value.ref D) && Value.builtin "BaseException.__getattribute__" == Value.builtin "object.__getattribute__") = false := by rw [q1] <;> rfl
  have q3 : (false && onTheHeap (Value.builtin "BaseException.__getattribute__")) = false := rfl
  unfold getAttr? getAttrBy? getAttrBy
  refine wpAny_bind (wpAny_mkText (wpAny_bind (wpAny_attempt ?_)))
  refine wpAny_holding (wpAny_bind (lt.at (wpAny_bind (l1.at ?_))))
  show wpAny _ _ (if (onTheHeap (Value.ref D) && Value.builtin "BaseException.__getattribute__" == Value.builtin "object.__getattribute__") = true then _ else _) _ _ _
  rw [q2, if_neg Bool.false_ne_true]
  unfold getAttrByItsOwn hookBefore
  refine wpAny_bind ?_
  rw [if_pos (show onTheHeap (Value.ref D) = true from rfl)]
  refine l2.at (wpAny_bind (wpAny_attempt (wpAny_holding ?_)))
  unfold callGetattribute
  rw [q3, if_neg Bool.false_ne_true]
  unfold boundAndCalled
  rw [PySem.F.excAttr_ValueError.ga.bind (.ref x)]
  refine wpAny_bind (wpAny_pure ?_)
  show wpAny _ _ (call (.builtin "BaseException.__getattribute__") [.ref x, .str "__class__" t]) _ _ _
  refine wpAny_call (PySem.codeAny_call_builtin PySem.F.excAttr_ValueError.ga.plain PySem.F.entry_bexc_ga ?_)
  have args := PySem.F.args_bexc_ga (.ref x) (.str "__class__" t)
  refine @PySem.W.check_slot (model P w) _ _ ⟨hp, g, d, t + 1, os⟩ "BaseException.__getattribute__" "BaseException" "__getattribute__" (.ref x) [.str "__class__" t] [] _ (by decide +kernel) (by decide +kernel) isB args ?_
  unfold Builtin.«object.__getattribute__»
  refine wpAny_bind (wpAny_of_eq (a := ((Value.ref x : Value), [Value.str "__class__" t])) (by first | rfl | (simp only [slotArgs]; rfl)) ?_)
  refine wpAny_bind (wpAny_pure ?_)
  refine wpAny_bind (lt.at (wpAny_bind (l3.at ?_)))
  show wpAny _ _ (holding [Value.builtin "object.__class__"] (call (.builtin "getset_descriptor.__get__") [.builtin "object.__class__", .ref x, .ref D]) >>= ret) _ _ _
  refine wpAny_bind (wpAny_holding (wpAny_call ?_))
  refine PySem.W.class_get (s := ⟨hp, g, d, t + 1, os⟩) (ox := ox) (od := od) X I C.hm ?_
  refine wpAny_pure ?_
  show wpAny _ _ (handedOut (.ref D)) _ _ _
  rw [PySem.W.handedOut_of (v := .ref D) rfl]
  first
    | exact wpAny_pure (wpAny_pure h)
    | exact wpAny_pure h
    | exact wpAny_pure (wpAny_bind (wpAny_pure (wpAny_pure h)))
theorem kitx_exc (C : ExcC K D) : PySem.W.KitX K (.ref x) (.ref D) (fun h => ∃ ox od, PySem.W.InstAt h x ox D od) where
  ty := fun _ _ _ ⟨_, _, I⟩ => I.type
  it := fun M h X _ => by
    obtain ⟨cd, hcD, _⟩ := PySem.W.any_some C.hd
    unfold PySem.W.clsIn at hcD
    split at hcD
    · rename_i ho
      intro A' Q' E' s' k q
      unfold isType loadHead
      refine wpAny_bind (wpAny_loadPart (k _ _ (X _ _ ho)) ?_)
      exact wpAny_pure q
    · cases hcD
  ne := fun h tp dd its n sl X htp => (PySem.W.handS_kitx_exc (x := x) (ox := default) C.hg C.hk C.hs C.hd C.ha C.hn C.ht C.hm).ne h tp dd its n sl X htp
  ca := fun X ⟨_, _, I⟩ k => class_of_exc C X I k
end
/-- isinstance(e, c), e kept -/
def rIsK (K : PySem.W.Frag) : List V → Hp → VK → Prop := fun xs H Q => ∃ (a C dd : Addr) (fs : List (Str × V)) (c : V) (cv : Value) (b : Bool), xs = [.ref a, c] ∧ H a = some (exk a (.ref C) (some dd)) ∧ H dd = some (.xd fs) ∧ ExcC K C ∧ (∀ u, RelV c u → u = cv) ∧ PySem.W.kitOne K (.ref C) cv = some b ∧ Q (.bl b) H
theorem kIsK {X : Cx} (K : PySem.W.Frag) (hK : X.K = K) : CallR X (.builtin "isinstance") (rIsK K) := by
  subst hK
  intro pins s σ H xs us Q I r h
  obtain ⟨a, C, dd, fs, c, cv, b, rfl, hk, hdd, T, hcv, e, q⟩ := h
  match us, r with
  | [_, u], .cons rx (.cons rt .nil) =>
    cases rx
    have ec := hcv _ rt
    subst ec
    obtain ⟨oe, vs, h1, hz, hd⟩ := exk_at I.hok hk
    have hx : ObjOk X.prog X.w H s.heap dd (.xd fs) := I.hok dd _ hdd
    obtain ⟨mA, hns, hr⟩ := hx
    obtain ⟨od, ho, hl2⟩ := lookIn_ns hns
    have J : PySem.W.InstAt s.heap a oe C (some od) := by
      refine ⟨h1, hz.1, ?_, ?_⟩
      · unfold PySem.W.notCls
        rw [hd] <;> rfl
      · rw [hz.2]
        exact ho
    exact PySem.W.kia_one (kitx_exc T) I.kIn ⟨_, _, J⟩ e (fun z => nomatch z) fun tk => ⟨.bl b, H, I.kept (t' := tk) fun _ _ z => z, rfl, q⟩
theorem rd_isK {K : PySem.W.Frag} {H : Hp} {Q : VK} {a C dd : Addr} {fs : List (Str × V)} {c : V} {cv : Value} {b : Bool} (hk : H a = some (exk a (.ref C) (some dd))) (hd : H dd = some (.xd fs)) (T : ExcC K C) (hc : ∀ u, RelV c u → u = cv) (e : PySem.W.kitOne K (.ref C) cv = some b) (h : Q (.bl b) H) : rIsK K [.ref a, c] H Q :=
  ⟨a, C, dd, fs, c, cv, b, rfl, hk, hd, T, hc, e, h⟩
end U
namespace U
open PySem PySem.Spec PyProof.Rows L2
theorem kit_ref {K : PySem.W.Frag} {D C : Addr} (h1 : PySem.W.isClsIn K C = true) (h2 : PySem.W.typeIn K (.ref C) = some (.type "type")) (h3 : PySem.W.subIn K (.ref D) (.ref C) = some false) (h4 : PySem.W.subIn K (.ref D) (.ref D) = some true) : PySem.W.kitOne K (.ref D) (.ref C) = some false := by
  have ne : (Value.ref D == Value.ref C) = false := by
    refine Bool.eq_false_iff.mpr fun z => ?_
    have e : D = C := Value.ref.inj (beq_iff_eq.mp z)
    rw [e] at h3 h4
    rw [h3] at h4
    cases h4
  have h1' : (PySem.W.clsIn K C).isSome = true := h1
  unfold PySem.W.kitOne PySem.W.kitCls
  rw [if_neg (by rw [ne]; exact Bool.false_ne_true)]
  show (if ((PySem.W.clsIn K C).isSome && PySem.W.typeIn K (.ref C) == some (.type "type")) = true then PySem.W.subIn K (.ref D) (.ref C) else none) = some false
  rw [if_pos (by rw [h1', h2] <;> rfl)]
  exact h3
theorem kit_refT {K : PySem.W.Frag} {D C : Addr} (h1 : PySem.W.isClsIn K C = true) (h2 : PySem.W.typeIn K (.ref C) = some (.type "type")) (h3 : PySem.W.subIn K (.ref D) (.ref C) = some true) : PySem.W.kitOne K (.ref D) (.ref C) = some true := by
  have h1' : (PySem.W.clsIn K C).isSome = true := h1
  unfold PySem.W.kitOne PySem.W.kitCls
  split
  · rfl
  · show (if ((PySem.W.clsIn K C).isSome && PySem.W.typeIn K (.ref C) == some (.type "type")) = true then PySem.W.subIn K (.ref D) (.ref C) else none) = some true
    rw [if_pos (by rw [h1', h2] <;> rfl)]
    exact h3
theorem kit_ty {K : PySem.W.Frag} {D : Addr} {T : String} {b : Bool} (h1 : PySem.W.kitMeta T = true) (h3 : PySem.W.subIn K (.ref D) (.type T) = some b) : PySem.W.kitOne K (.ref D) (.type T) = some b := by
  unfold PySem.W.kitOne PySem.W.kitCls
  show (if (Value.ref D == Value.type T) = true then some true else if PySem.W.kitMeta T = true then PySem.W.subIn K (.ref D) (.type T) else none) = some b
  rw [if_neg (fun z => nomatch (beq_iff_eq.mp z : Value.ref D = Value.type T)), if_pos h1]
  exact h3
end U

/-! the facts of an own error class, gathered from the fragment -/
namespace U
open PySem PySem.Spec PyProof.Rows L2
theorem exm_sub {K : PySem.W.Frag} {S T : Addr} (h1 : PySem.W.subIn K (.ref S) (.type "BaseException") = some true) (b1 : PySem.W.subIn K (.ref T) (.type "BaseException") = some true) (h2 : PySem.W.isClsIn K T = true) (h3 : PySem.W.typeIn K (.ref T) = some (.type "type")) (h4 : PySem.W.subIn K (.ref S) (.ref T) = some true) :
    PySem.W.exmOne K (.ref S) (.ref T) = some true := by
  have e1 : (PySem.W.subIn K (.ref T) (.type "BaseException") == some true) = true := by rw [b1] <;> rfl
  have e2 : ((PySem.W.clsIn K T).isSome && PySem.W.typeIn K (.ref T) == some (.type "type")) = true := by
    have h2' : (PySem.W.clsIn K T).isSome = true := h2
    rw [h2', h3] <;> rfl
  show (if (PySem.W.subIn K (.ref T) (.type "BaseException") == some true) = true then (if ((PySem.W.clsIn K T).isSome && PySem.W.typeIn K (.ref T) == some (.type "type")) = true then PySem.W.subIn K (.ref S) (.ref T) else none) else none) = some true
  rw [if_pos e1, if_pos e2]
  exact h4
theorem own_mk {K : PySem.W.Frag} {mg : Str → Option Value} {x f : Str} {C CB fI : Addr} {nm q : Str} {N : Addr} {bs : List Value} {sn : List Str} {sub : List Value} {ab : Bool} {col : Option Bool} {dd : Option Addr} {m0 m1 m2 m3 m5 : Option Value}
    (gC : mg x = some (.ref C)) (gB : mg "InputError" = some (.ref CB))
    (xL : K.lookup C = some (excClassObj nm q C N bs [.ref CB, .type "ValueError", .type "Exception", .type "BaseException", .type "object"] true sn sub ab col dd m0 m1 m2 m3 m5 "ValueError.__new__"))
    (sa : PySem.W.findIn K (.ref C) "__setattr__" = some (some (.builtin "object.__setattr__"))) (ga : PySem.W.findIn K (.ref C) "__getattribute__" = some (some (.builtin "BaseException.__getattribute__"))) (gg : PySem.W.findIn K (.ref C) "__getattr__" = some none) (nb : PySem.W.findIn K (.ref C) f = some none)
    (a1 : PySem.W.findIn K (.ref C) "__init__" = some (some (.ref fI))) (t1 : PySem.W.typeIn K (.ref fI) = some (.type "function"))
    (kC : PySem.W.keepIn K (.ref C) = true) (eC : PySem.W.subIn K (.ref C) (.type "BaseException") = some true) (tC : PySem.W.typeIn K (.ref C) = some (.type "type")) (hC : PySem.W.hasDictIn K C = true) (iC : PySem.W.isClsIn K C = true) (sC : PySem.W.subIn K (.ref C) (.ref C) = some true)
    (kB : PySem.W.keepIn K (.ref CB) = true) (eB : PySem.W.subIn K (.ref CB) (.type "BaseException") = some true) (tB : PySem.W.typeIn K (.ref CB) = some (.type "type")) (iB : PySem.W.isClsIn K CB = true) (sB : PySem.W.subIn K (.ref C) (.ref CB) = some true)
    (gB2 : PySem.W.specialIn K (.ref CB) "__getattribute__" = some (some (.builtin "type.__getattribute__"))) (rB : PySem.W.readsIn K CB (.type "type") = true) (aB : PySem.W.findCls K (.ref CB) (.type "type") "__init__" = some (.val (.builtin "ValueError.__init__"))) : OwnX K mg x f C CB fI where
  gC := gC
  ox := ⟨⟨nm, q, N, bs, _, sn, sub, ab, col, dd, m0, m1, m2, m3, m5, xL, by first | rfl | decide +kernel⟩, sa, eC, tC, kC⟩
  no := nb
  iC := a1
  tI := t1
  xf := ⟨ga, gg, eC, hC⟩
  gB := gB
  bi := ⟨kB, gB2, rB, aB⟩
  ex := exm_sub eC eC iC tC sC
  eb := exm_sub eC eB iB tB sB
end U

/-! own exceptions with one field over any built-in class of the plain kind -/
namespace U
open PySem PySem.Spec PyProof.Rows L2
section
variable {P : Program} {w : World} {A : Around} {R : Result → Shared → Prop} {hp : Heap} {g : Array GenState} {d : Drawn} {t : Nat} {os : OsState} {B newId initId : String} {bmB : List Value}
end
section
variable {X : Cx} {pins : List (Addr × Obj)} {σ : L2.St} {H : Hp} {s : Shared} {a C dx : Addr} {f : Str} {y : V} {u : Value} {B newId initId : String} {bmB : List Value}
variable {o e : Expr} {es : List Expr} {to te : TE} {ta : TA} {p p' p1 p2 pos : Pos}
end
section
variable {X : Cx} {W : WX} {j : Nat} {x f : Str} {B newId initId : String} {bmB : List Value} {C : Addr} {e : Expr} {te : TE} {p p2 pos : Pos}
end
section
variable {K : PySem.W.Frag} {H : Hp} {Q : VK} {D : Ends} {σ : L2.St} {newId : String} {bmB : List Value} {ta : TA} {te : TE}
end
end U

/-! own exceptions over KeyError: made by LookupError's __new__ -/
namespace U
open PySem PySem.Spec PyProof.Rows L2
section
variable {M : Model} {A : Around} {E : Value → Shared → Prop} {h : Heap} {g : Array GenState} {d : Drawn} {t : Nat} {os : OsState}
variable {nm q : Str} {C N : Addr} {bs bm bmN : List Value} {hdct : Bool} {sn : List Str} {sub : List Value} {ab : Bool} {col : Option Bool} {dd : Option Addr} {k0 k1 k2 k3 k5 : Option Value} {NB newId iI : String}
end
section
variable {P : Program} {w : World} {A : Around} {R : Result → Shared → Prop} {h : Heap} {g : Array GenState} {d : Drawn} {t : Nat} {os : OsState}
variable {nm q : Str} {C N : Addr} {bs bm bmN : List Value} {hdct : Bool} {sn : List Str} {sub : List Value} {ab : Bool} {col : Option Bool} {dd : Option Addr} {k0 k1 k2 k3 k5 : Option Value} {NB newId iI : String}
end
end U

/-! k42: _law_call -/
namespace Law
open PySem PySem.Spec PyProof.Rows L2 U L2.DX


def spCall42 (K : PySem.W.Frag) : Sp := fun vs H Q _ => ∃ (g n e st ps : Addr) (c : V) (ns ord pn : List Str) (es : List (Addr × Str × Str)) (f F : Str → Int) (r : Rs), vs = [.ref g, .ref st, c, .ref ps] ∧ GSt H g n e st ns ord es f ∧ SqT K H ps (pn.map V.str) ∧
  ((r = .bad none ∧ ∃ t, TyIs K H c t ∧ isT t .lst = false) ∨
   ∃ (mv : Addr) (cs : List V) (its : List It), c = .ref mv ∧ H mv = some (.lst cs) ∧ cs.length ≤ 1000 ∧ ItsAt H cs its ∧ r = rsI (es.map (·.2)) (movesF ns (es.map (·.2)) f pn) its ∧ F = playF f (mvsI its)) ∧
  ∀ (u : V) (H' : Hp), Same H H' → Dp K H' u (resD ord F r) → Q u H'
/-- the classes of k42's errors -/
structure Is42 (K : PySem.W.Frag) (mg : Str → Option Value) (CM CD CA CB : Addr) : Prop where
  cM : ExcC K CM
  cD : ExcC K CD
  cA : ExcC K CA
  gM : mg "InvalidMove" = some (.ref CM)
  gD : mg "DuplicateNode" = some (.ref CD)
  gA : mg "AdjacentMoves" = some (.ref CA)
  gI : mg "InputError" = some (.ref CB)
  eMM : PySem.W.exmOne K (.ref CM) (.ref CM) = some true
  eDM : PySem.W.exmOne K (.ref CD) (.ref CM) = some false
  eDD : PySem.W.exmOne K (.ref CD) (.ref CD) = some true
  eAM : PySem.W.exmOne K (.ref CA) (.ref CM) = some false
  eAD : PySem.W.exmOne K (.ref CA) (.ref CD) = some false
  eAA : PySem.W.exmOne K (.ref CA) (.ref CA) = some true
  kMB : PySem.W.kitOne K (.ref CM) (.ref CB) = some true
  kMD : PySem.W.kitOne K (.ref CM) (.ref CD) = some false
  kMA : PySem.W.kitOne K (.ref CM) (.ref CA) = some false
  kDB : PySem.W.kitOne K (.ref CD) (.ref CB) = some true
  kDM : PySem.W.kitOne K (.ref CD) (.ref CM) = some false
  kDA : PySem.W.kitOne K (.ref CD) (.ref CA) = some false
  kAB : PySem.W.kitOne K (.ref CA) (.ref CB) = some true
  kAM : PySem.W.kitOne K (.ref CA) (.ref CM) = some false
  kAD : PySem.W.kitOne K (.ref CA) (.ref CD) = some false
theorem rd_tXkV {K : PySem.W.Frag} {f : Str} {te : TE} {σ : L2.St} {H : Hp} {Q : VK} (h : te σ H fun x H1 => ∃ (a C dd : Addr) (fs : List (Str × V)) (v : V), x = .ref a ∧ H1 a = some (exk a (.ref C) (some dd)) ∧ XfC K C ∧ PySem.W.findIn K (.ref C) f = some none ∧ H1 dd = some (.xd fs) ∧ fs.lookup f = some v ∧ Q v H1) : tXk K f te σ H Q := h
theorem lk_V {k : Str} {v : V} : List.lookup k [(k, v)] = some v := by
  have e : (k == k) = true := beq_self_eq_true k
  simp only [List.lookup, e]
theorem rd_cK2V {sp : Sp} {np nk : Nat} {W : WX} {t tk : TA} {σ : L2.St} {H : Hp} {Q : VK} (h : t σ H fun vs H1 => vs.length = np ∧ tk σ H1 fun zs H2 => zs.length = nk ∧ sp (vs ++ zs) H2 Q fun cls d H' => W cls d σ H') : tCK2 sp np nk W t tk σ H Q := h
theorem pe_xkV {X : Cx} {K : PySem.W.Frag} (hK : X.K = K) {e : Expr} {te : TE} {pos : Pos} {n : Str} (he : PE X e te) (hb : attributeBase e n X.env (eval e X.env) = eval e X.env := by rfl) : PE X (.Attribute e n pos) (tXk K n te) := by
  subst hK
  exact pe_xk he hb
section
variable {P : Program} {w : World} {K : PySem.W.Frag} {mg : Str → Option Value} {base : Heap}
structure RVa (P : Program) (w : World) (K : PySem.W.Frag) (mg : Str → Option Value) (base : Heap) (CM CD CA : Addr) : Prop where
  apply_round : CalK P w K mg base (L2.CX P w) 5 "apply_round" 3 ["pinned"] (spRound K CM CD CA)
theorem ok_call42 {f : Addr} {fd : FuncData} {CM CD CA CB fM fD fA : Addr} (F : Fun K "_law_call" "_law_call" s__law_call f fd) (B : Bt mg) (C : RVa P w K mg base CM CD CA) (TM : OwnX K mg "InvalidMove" "position" CM CB fM) (TD : OwnX K mg "DuplicateNode" "node" CD CB fD) (TA : OwnX K mg "AdjacentMoves" "edge" CA CB fA) (IS : Is42 K mg CM CD CA CB) : FnG P w K mg base CX0 6 f fd ["_law_graph", "_law_state", "_law_items", "_law_pins"] (spCall42 K) := by
  refine fnG0 F sc__law_call (fun vs H Q E h => ?_) (fun cdv A outer s H vs Q E hr h => ?_)
  · obtain ⟨g, n, e, st, ps, c, ns, ord, pn, es, f, F, r, rfl, _⟩ := h
    rfl
  · obtain ⟨g, n, e, st, ps, c, ns, ord, pn, es, f, F, r, rfl, gs, hps, alt, q⟩ := h
    have nd := sc__law_call.nd
    have hu := hr.u1
    have gI : ∃ u, mg "InputError" = some u ∧ RelV (.ref CB) u := ⟨_, IS.gI, rfl⟩
    have gM : ∃ u, mg "InvalidMove" = some u ∧ RelV (.ref CM) u := ⟨_, IS.gM, rfl⟩
    have gD : ∃ u, mg "DuplicateNode" = some u ∧ RelV (.ref CD) u := ⟨_, IS.gD, rfl⟩
    have gA : ∃ u, mg "AdjacentMoves" = some u ∧ RelV (.ref CA) u := ⟨_, IS.gA, rfl⟩
    refine ⟨_, (pss_cons (ps_set (i := 4) nd rfl (by first | exact Or.inl rfl | exact Or.inr rfl) pe_non)
  (pss_cons (ps_try_keepN (i := 5) (Wout := fun _ _ _ _ => False) rfl rfl nd rfl rfl L2.takes0 (fun W pn xe tk _ => pss_one (ps_set (i := 4) nd rfl (Or.inl rfl) (pe_cKX C.apply_round hr (by decide) rfl tk (pa_cons (pv 0) (pa_cons (pv 1) (pa_cons (pv 2) pa_nil))) (pk_cons (pv 3) pk_nil)))) (.cons ⟨rfl, by decide, Or.inl IS.gM⟩ (fun a pn => pss_cons (ps_set (i := 6) nd rfl (Or.inl rfl) (pe_lst (pa_cons (pe_callB (kIsK K rfl) (by rfl) B.isinstance bb_isinstance (pa_cons (pv 5) (pa_cons (pe_gl rfl gD) pa_nil))) (pa_cons (pe_callB (kIsK K rfl) (by rfl) B.isinstance bb_isinstance (pa_cons (pv 5) (pa_cons (pe_gl rfl gA) pa_nil))) pa_nil)))) (pss_one (ps_set (i := 4) nd rfl (Or.inl rfl) (pe_tup (pa_cons pe_str (pa_cons (pe_xkV (K := K) rfl (pv 5)) (pa_cons (pe_callB (kIsK K rfl) (by rfl) B.isinstance bb_isinstance (pa_cons (pv 5) (pa_cons (pe_gl rfl gI) pa_nil))) (pa_cons (pe_ix (kIx K rfl) (pv 6) pe_int (fun _ _ => rfl)) (pa_cons (pe_ix (kIx K rfl) (pv 6) pe_int (fun _ _ => rfl)) pa_nil))))))))) (.cons ⟨rfl, by decide, Or.inl IS.gD⟩ (fun a pn => pss_cons (ps_set (i := 6) nd rfl (Or.inl rfl) (pe_lst (pa_cons (pe_callB (kIsK K rfl) (by rfl) B.isinstance bb_isinstance (pa_cons (pv 5) (pa_cons (pe_gl rfl gM) pa_nil))) (pa_cons (pe_callB (kIsK K rfl) (by rfl) B.isinstance bb_isinstance (pa_cons (pv 5) (pa_cons (pe_gl rfl gA) pa_nil))) pa_nil)))) (pss_one (ps_set (i := 4) nd rfl (Or.inl rfl) (pe_tup (pa_cons pe_str (pa_cons (pe_xkV (K := K) rfl (pv 5)) (pa_cons (pe_callB (kIsK K rfl) (by rfl) B.isinstance bb_isinstance (pa_cons (pv 5) (pa_cons (pe_gl rfl gI) pa_nil))) (pa_cons (pe_ix (kIx K rfl) (pv 6) pe_int (fun _ _ => rfl)) (pa_cons (pe_ix (kIx K rfl) (pv 6) pe_int (fun _ _ => rfl)) pa_nil))))))))) (.cons ⟨rfl, by decide, Or.inl IS.gA⟩ (fun a pn => pss_cons (ps_set (i := 6) nd rfl (Or.inl rfl) (pe_lst (pa_cons (pe_callB (kIsK K rfl) (by rfl) B.isinstance bb_isinstance (pa_cons (pv 5) (pa_cons (pe_gl rfl gM) pa_nil))) (pa_cons (pe_callB (kIsK K rfl) (by rfl) B.isinstance bb_isinstance (pa_cons (pv 5) (pa_cons (pe_gl rfl gD) pa_nil))) pa_nil)))) (pss_one (ps_set (i := 4) nd rfl (Or.inl rfl) (pe_tup (pa_cons pe_str (pa_cons (pe_xkV (K := K) rfl (pv 5)) (pa_cons (pe_callB (kIsK K rfl) (by rfl) B.isinstance bb_isinstance (pa_cons (pv 5) (pa_cons (pe_gl rfl gI) pa_nil))) (pa_cons (pe_ix (kIx K rfl) (pv 6) pe_int (fun _ _ => rfl)) (pa_cons (pe_ix (kIx K rfl) (pv 6) pe_int (fun _ _ => rfl)) pa_nil))))))))) .nil))))
  (pss_one (ps_ret (pe_ifExp (pt_val (pe_callB (kIsi K rfl) (by rfl) B.isinstance bb_isinstance (pa_cons (pv 4) (pa_cons (pe_ty rfl B.dict bb_dict) pa_nil)))) (pe_callB (cr_sortedItK rfl hr.u64) (by rfl) B.sorted bb_sorted (pa_cons (pe_bm0 PySem.F.plainAttrs_dict PySem.F.slot_dict_items PySem.F.type_dict_items mt_itemsK (pv 4)) pa_nil)) (pv 4)))))), ?_⟩
    wtm_at "rd"
    refine rd_cK2V ?_
    wtm_at "rd"
    have done : r = .good → ∀ (d : Addr) (H' : Hp), Same H H' → H' d = some (.dK (kvF ord F)) → ∀ (v1 : Addr), H' v1 = none → ∀ (H1 : Hp) (l : Addr) (bs1 : List (Addr × Str)), Same (upd H' v1 (itemsO v1 d)) H1 → H1 l = some (.lst (bs1.map fun b => V.ref b.1)) → (∀ b ∈ bs1, H1 b.1 = some (.tup [.str b.2, .int (F b.2)])) → (bs1.map (·.2)).Perm ord → (bs1.map (·.2)).Pairwise (fun a b => ¬ sLt b a) → Q (.ref l) H1 := fun rg d H' s' hd v1 fv1 H1 l bs1 t1 hl1 tl1 pm1 srt1 => by
      refine q _ _ (fun b o h => t1 _ _ (same_add s' fv1 b o h)) ?_
      rw [rg]
      have e : bs1.map (·.2) = sortS ord := sort_uniq pm1 srt1 (gs.pm.nodup_iff.mpr gs.nd)
      have dd := dp_prN (K := K) tl1
      rw [e] at dd
      exact .lst (SqL.of hl1) dd
    refine ⟨g, n, e, st, ps, c, ns, ord, pn, es, f, r, rfl, gs, hps, fun d CC fs H1 s1 nd1 hd k => ?_, ?_⟩
    · cases r with
      | bad o =>
        obtain ⟨rfl, rfl⟩ := k
        refine ⟨true, IS.eMM, (fun z => nomatch z), fun _ a na => ?_⟩
        have k := Same.new (o := exk a (.ref CC) (some d)) na
        have ha := @upd_same H1 a (exk a (.ref CC) (some d))
        have hd2 := k _ _ hd
        have sa := s1.trans k
        generalize upd H1 a (exk a (.ref CC) (some d)) = H2 at ha hd2 sa 
        clear k
        wtm_at "rd"
        refine rd_isK ha hd2 IS.cM (fun u hu => hu) IS.kMD ?_
        wtm_at "rd"
        refine rd_isK ha hd2 IS.cM (fun u hu => hu) IS.kMA ?_
        wtm_at "rd"
        intro ol fol
        have k2 := Same.new (o := .lst [.bl false, .bl false]) fol
        have hol := @upd_same H2 ol (.lst [.bl false, .bl false])
        have ha := k2 _ _ ha
        have hd2 := k2 _ _ hd2
        have sa := sa.trans k2
        generalize upd H2 ol (.lst [.bl false, .bl false]) = H3 at ha hd2 sa hol 
        clear k2 fol
        wtm_at "rd"
        refine rd_tXkV ?_
        wtm_at "rd"
        refine ⟨a, CC, d, _, (psV42 o), rfl, ha, TM.xf, TM.no, hd2, lk_V, ?_⟩
        wtm_at "rd"
        refine rd_isK ha hd2 IS.cM (fun u hu => hu) IS.kMB ?_
        wtm_at "rd"
        refine rd_ixL (SqL.of hol) (v := .bl false) rfl ?_
        wtm_at "rd"
        refine rd_ixL (SqL.of hol) (v := .bl false) rfl ?_
        wtm_at "rd"
        intro t ft
        have hT := @upd_same H3 t (.tup [.str "move", (psV42 o), .bl true, .bl false, .bl false])
        have sa := same_add (o := .tup [.str "move", (psV42 o), .bl true, .bl false, .bl false]) sa ft
        generalize upd H3 t (.tup [.str "move", (psV42 o), .bl true, .bl false, .bl false]) = H4 at hT sa 
        wtm_at "rd"
        refine rd_isi (ty_tup hT) (t := .dct) (by decide +kernel) ?_
        rw [show isT .tup .dct = false from by decide +kernel]
        wtm_at "rd"
        refine q _ _ sa ?_
        refine .tup (SqT.of hT) (.cons (.str _) (.cons ?_ (.cons (.bl _) (.cons (.bl _) (.cons (.bl _) .nil)))))
        cases o with
        | none => exact .non
        | some i => exact .int _
      | dup x =>
        obtain ⟨rfl, rfl⟩ := k
        refine ⟨false, IS.eDM, (fun _ => ⟨true, IS.eDD, (fun z => nomatch z), fun _ a na => ?_⟩), fun z => nomatch z⟩
        have k := Same.new (o := exk a (.ref CC) (some d)) na
        have ha := @upd_same H1 a (exk a (.ref CC) (some d))
        have hd2 := k _ _ hd
        have sa := s1.trans k
        generalize upd H1 a (exk a (.ref CC) (some d)) = H2 at ha hd2 sa 
        clear k
        wtm_at "rd"
        refine rd_isK ha hd2 IS.cD (fun u hu => hu) IS.kDM ?_
        wtm_at "rd"
        refine rd_isK ha hd2 IS.cD (fun u hu => hu) IS.kDA ?_
        wtm_at "rd"
        intro ol fol
        have k2 := Same.new (o := .lst [.bl false, .bl false]) fol
        have hol := @upd_same H2 ol (.lst [.bl false, .bl false])
        have ha := k2 _ _ ha
        have hd2 := k2 _ _ hd2
        have sa := sa.trans k2
        generalize upd H2 ol (.lst [.bl false, .bl false]) = H3 at ha hd2 sa hol 
        clear k2 fol
        wtm_at "rd"
        refine rd_tXkV ?_
        wtm_at "rd"
        refine ⟨a, CC, d, _, (.str x), rfl, ha, TD.xf, TD.no, hd2, lk_V, ?_⟩
        wtm_at "rd"
        refine rd_isK ha hd2 IS.cD (fun u hu => hu) IS.kDB ?_
        wtm_at "rd"
        refine rd_ixL (SqL.of hol) (v := .bl false) rfl ?_
        wtm_at "rd"
        refine rd_ixL (SqL.of hol) (v := .bl false) rfl ?_
        wtm_at "rd"
        intro t ft
        have hT := @upd_same H3 t (.tup [.str "duplicate", (.str x), .bl true, .bl false, .bl false])
        have sa := same_add (o := .tup [.str "duplicate", (.str x), .bl true, .bl false, .bl false]) sa ft
        generalize upd H3 t (.tup [.str "duplicate", (.str x), .bl true, .bl false, .bl false]) = H4 at hT sa 
        wtm_at "rd"
        refine rd_isi (ty_tup hT) (t := .dct) (by decide +kernel) ?_
        rw [show isT .tup .dct = false from by decide +kernel]
        wtm_at "rd"
        refine q _ _ sa ?_
        exact .tup (SqT.of hT) (.cons (.str _) (.cons (.str _) (.cons (.bl _) (.cons (.bl _) (.cons (.bl _) .nil)))))
      | adj x y =>
        obtain ⟨rfl, tt, rfl, ht⟩ := k
        refine ⟨false, IS.eAM, (fun _ => ⟨false, IS.eAD, (fun _ => ⟨true, IS.eAA, (fun z => nomatch z), fun _ a na => ?_⟩), fun z => nomatch z⟩), fun z => nomatch z⟩
        have k := Same.new (o := exk a (.ref CC) (some d)) na
        have ha := @upd_same H1 a (exk a (.ref CC) (some d))
        have hd2 := k _ _ hd
        have sa := s1.trans k
        have ht2 := k _ _ ht
        generalize upd H1 a (exk a (.ref CC) (some d)) = H2 at ha hd2 sa ht2
        clear k
        wtm_at "rd"
        refine rd_isK ha hd2 IS.cA (fun u hu => hu) IS.kAM ?_
        wtm_at "rd"
        refine rd_isK ha hd2 IS.cA (fun u hu => hu) IS.kAD ?_
        wtm_at "rd"
        intro ol fol
        have k2 := Same.new (o := .lst [.bl false, .bl false]) fol
        have hol := @upd_same H2 ol (.lst [.bl false, .bl false])
        have ha := k2 _ _ ha
        have hd2 := k2 _ _ hd2
        have sa := sa.trans k2
        have ht2 := k2 _ _ ht2
        generalize upd H2 ol (.lst [.bl false, .bl false]) = H3 at ha hd2 sa hol ht2
        clear k2 fol
        wtm_at "rd"
        refine rd_tXkV ?_
        wtm_at "rd"
        refine ⟨a, CC, d, _, (.ref tt), rfl, ha, TA.xf, TA.no, hd2, lk_V, ?_⟩
        wtm_at "rd"
        refine rd_isK ha hd2 IS.cA (fun u hu => hu) IS.kAB ?_
        wtm_at "rd"
        refine rd_ixL (SqL.of hol) (v := .bl false) rfl ?_
        wtm_at "rd"
        refine rd_ixL (SqL.of hol) (v := .bl false) rfl ?_
        wtm_at "rd"
        intro t ft
        have hT := @upd_same H3 t (.tup [.str "adjacent", (.ref tt), .bl true, .bl false, .bl false])
        have sa := same_add (o := .tup [.str "adjacent", (.ref tt), .bl true, .bl false, .bl false]) sa ft
        have ht2 := Same.new (o := .tup [.str "adjacent", .ref tt, .bl true, .bl false, .bl false]) ft _ _ ht2
        generalize upd H3 t (.tup [.str "adjacent", (.ref tt), .bl true, .bl false, .bl false]) = H4 at hT sa ht2
        wtm_at "rd"
        refine rd_isi (ty_tup hT) (t := .dct) (by decide +kernel) ?_
        rw [show isT .tup .dct = false from by decide +kernel]
        wtm_at "rd"
        refine q _ _ sa ?_
        exact .tup (SqT.of hT) (.cons (.str _) (.cons (.tup (SqT.of ht2) (.cons (.str _) (.cons (.str _) .nil))) (.cons (.bl _) (.cons (.bl _) (.cons (.bl _) .nil)))))
      | good => exact k.elim
    · rcases alt with ⟨rfl, t, ty, nl⟩ | ⟨mv, cs, its, rfl, hmv, cl, hits, er, eF⟩
      · exact .inl ⟨rfl, t, ty, nl⟩
      · refine .inr ⟨mv, cs, its, rfl, hmv, cl, hits, er, fun ms rg eits msM d H' s' nd' hd => ?_⟩
        rw [eits, mvsI_itM] at eF
        rw [← eF] at hd
        wtm_at "rd"
        refine rd_isi (ty_dK hd) (t := .dct) (by decide +kernel) ?_
        rw [show isT .dct .dct = true from by decide +kernel]
        wtm_at "rd"
        refine rd_tyD hd ?_
        refine ⟨d, _, rfl, rfl, hd, fun v1 fv1 => ?_⟩
        wtm_at "rd"
        refine ⟨v1, d, ord, F, rfl, upd_same, at_upd (ne_of_none hd fv1) hd, fun H1 lx bs1 t1 fl1 hl1 tl1 pm1 srt1 => ?_⟩
        wtm_at "rd"
        exact done rg d H' s' hd v1 fv1 H1 lx bs1 t1 hl1 tl1 pm1 srt1
end
end Law

/-! which own error is caught by which handler -/
namespace U
open PySem PySem.Spec PyProof.Rows L2
theorem exm_subE {K : PySem.W.Frag} {S T : Addr} (h1 : PySem.W.subIn K (.ref S) (.type "BaseException") = some true) (b1 : PySem.W.subIn K (.ref T) (.type "BaseException") = some true) (h2 : PySem.W.isClsIn K T = true) (h3 : PySem.W.typeIn K (.ref T) = some (.type "type")) {b : Bool} (h4 : PySem.W.subIn K (.ref S) (.ref T) = some b) :
    PySem.W.exmOne K (.ref S) (.ref T) = some b := by
  have e1 : (PySem.W.subIn K (.ref T) (.type "BaseException") == some true) = true := by rw [b1] <;> rfl
  have e2 : ((PySem.W.clsIn K T).isSome && PySem.W.typeIn K (.ref T) == some (.type "type")) = true := by
    have h2' : (PySem.W.clsIn K T).isSome = true := h2
    rw [h2', h3] <;> rfl
  show (if (PySem.W.subIn K (.ref T) (.type "BaseException") == some true) = true then (if ((PySem.W.clsIn K T).isSome && PySem.W.typeIn K (.ref T) == some (.type "type")) = true then PySem.W.subIn K (.ref S) (.ref T) else none) else none) = _
  rw [if_pos e1, if_pos e2]
  exact h4
end U

/-! k42: the law -/
namespace Law
open PySem PySem.Spec PyProof.Rows L2 U L2.DX


theorem ok_initMv {f : Addr} {fd : FuncData} {C CB : Addr} {x : Str} {P : Program} {w : World} {K : PySem.W.Frag} {mg : Str → Option Value} {base : Heap} (F : Fun K "__init__" "InvalidMove.__init__" s_InvalidMove_init f fd) (T : OwnX K mg x "position" C CB f) : FnOk P w K mg base CX0 1 f fd ["self", "position"] (spInit1 C "position") := by
  refine F.ok sc_InvalidMove_init (fun vs H Q E h => ?_) (fun cdv A outer s H vs Q E hr h => ?_)
  · obtain ⟨a, v, rfl, _⟩ := h
    rfl
  · obtain ⟨a, v, rfl, ha, q⟩ := h
    refine ⟨_, pss_cons (ps_expr (pe_binit (x := "InputError") rfl T.gB T.bi (pa_cons (pv 0) (pa_cons pe_str pa_nil)))) (pss_one (ps_ost (pv 0) (pv 1))), ?_⟩
    wtm_at "rd"
    refine rd_vei (v := v) ?_
    wtm_at "rd"
    refine ⟨a, C, _, rfl, by decide, T.ox, ha, ?_⟩
    dsimp only
    refine rd_ost ?_
    wtm_at "rd"
    exact ⟨a, C, rfl, T.ox, T.no, .inl ⟨ha, fun dx n1 n2 => q dx n1 n2⟩⟩
theorem ok_initDN {f : Addr} {fd : FuncData} {C CB : Addr} {x : Str} {P : Program} {w : World} {K : PySem.W.Frag} {mg : Str → Option Value} {base : Heap} (F : Fun K "__init__" "DuplicateNode.__init__" s_DuplicateNode_init f fd) (T : OwnX K mg x "node" C CB f) : FnOk P w K mg base CX0 1 f fd ["self", "node"] (spInit1 C "node") := by
  refine F.ok sc_DuplicateNode_init (fun vs H Q E h => ?_) (fun cdv A outer s H vs Q E hr h => ?_)
  · obtain ⟨a, v, rfl, _⟩ := h
    rfl
  · obtain ⟨a, v, rfl, ha, q⟩ := h
    refine ⟨_, pss_cons (ps_expr (pe_binit (x := "InputError") rfl T.gB T.bi (pa_cons (pv 0) (pa_cons pe_str pa_nil)))) (pss_one (ps_ost (pv 0) (pv 1))), ?_⟩
    wtm_at "rd"
    refine rd_vei (v := v) ?_
    wtm_at "rd"
    refine ⟨a, C, _, rfl, by decide, T.ox, ha, ?_⟩
    dsimp only
    refine rd_ost ?_
    wtm_at "rd"
    exact ⟨a, C, rfl, T.ox, T.no, .inl ⟨ha, fun dx n1 n2 => q dx n1 n2⟩⟩
theorem ok_initAM {f : Addr} {fd : FuncData} {C CB : Addr} {x : Str} {P : Program} {w : World} {K : PySem.W.Frag} {mg : Str → Option Value} {base : Heap} (F : Fun K "__init__" "AdjacentMoves.__init__" s_AdjacentMoves_init f fd) (T : OwnX K mg x "edge" C CB f) : FnOk P w K mg base CX0 1 f fd ["self", "edge"] (spInit1 C "edge") := by
  refine F.ok sc_AdjacentMoves_init (fun vs H Q E h => ?_) (fun cdv A outer s H vs Q E hr h => ?_)
  · obtain ⟨a, v, rfl, _⟩ := h
    rfl
  · obtain ⟨a, v, rfl, ha, q⟩ := h
    refine ⟨_, pss_cons (ps_expr (pe_binit (x := "InputError") rfl T.gB T.bi (pa_cons (pv 0) (pa_cons pe_str pa_nil)))) (pss_one (ps_ost (pv 0) (pv 1))), ?_⟩
    wtm_at "rd"
    refine rd_vei (v := v) ?_
    wtm_at "rd"
    refine ⟨a, C, _, rfl, by decide, T.ox, ha, ?_⟩
    dsimp only
    refine rd_ost ?_
    wtm_at "rd"
    exact ⟨a, C, rfl, T.ox, T.no, .inl ⟨ha, fun dx n1 n2 => q dx n1 n2⟩⟩
theorem dup_nodup : ∀ {s xs : List Str}, dupS s xs = none → xs.Nodup ∧ ∀ x ∈ xs, x ∉ s
  | s, [], _ => ⟨List.nodup_nil, fun x h => nomatch h⟩
  | s, x :: r, h => by
    rw [dupS] at h
    by_cases c : x ∈ s
    · rw [if_pos c] at h
      cases h
    · rw [if_neg c] at h
      obtain ⟨a, b⟩ := dup_nodup h
      refine ⟨List.nodup_cons.mpr ⟨fun z => b x z (List.mem_append_right _ List.mem_cons_self), a⟩, fun y hy => ?_⟩
      rcases List.mem_cons.mp hy with rfl | hy
      · exact c
      · exact fun z => b y hy (List.mem_append_left _ z)
theorem dup_mem : ∀ {s xs : List Str} {x : Str}, dupS s xs = some x → x ∈ xs
  | s, [], x, h => nomatch h
  | s, y :: r, x, h => by
    rw [dupS] at h
    by_cases c : y ∈ s
    · rw [if_pos c] at h
      rw [← Option.some.inj h]
      exact List.mem_cons_self
    · rw [if_neg c] at h
      exact List.mem_cons_of_mem _ (dup_mem h)
theorem adj_apart {es : List (Str × Str)} : ∀ {s xs : List Str}, adjS es s xs = none → (∀ x ∈ xs, ∀ y ∈ s, y ∉ nbrF es x) ∧ xs.Pairwise (fun y x => y ∉ nbrF es x)
  | s, [], _ => ⟨(fun x h => nomatch h), .nil⟩
  | s, x :: r, h => by
    rw [adjS] at h
    cases e : s.find? (fun y => decide (y ∈ nbrF es x)) with
    | some y =>
      rw [e] at h
      cases h
    | none =>
      rw [e] at h
      have h : adjS es (s ++ [x]) r = none := h
      obtain ⟨a, b⟩ := adj_apart h
      rw [List.find?_eq_none] at e
      refine ⟨fun z hz y hy => ?_, List.pairwise_cons.mpr ⟨fun z hz => a z hz x (List.mem_append_right _ List.mem_cons_self), b⟩⟩
      rcases List.mem_cons.mp hz with rfl | hz
      · exact fun m => e y hy (decide_eq_true m)
      · exact a z hz y (List.mem_append_left _ hy)
theorem adj_mem {es : List (Str × Str)} : ∀ {s xs : List Str} {q : Str × Str}, adjS es s xs = some q → q.1 ∈ xs ∧ q.2 ∈ s ++ xs
  | s, [], q, h => nomatch h
  | s, x :: r, q, h => by
    rw [adjS] at h
    cases e : s.find? (fun y => decide (y ∈ nbrF es x)) with
    | some y =>
      rw [e] at h
      have h : some (x, y) = some q := h
      rw [← Option.some.inj h]
      exact ⟨List.mem_cons_self, List.mem_append_left _ (List.mem_of_find?_eq_some e)⟩
    | none =>
      rw [e] at h
      have h : adjS es (s ++ [x]) r = some q := h
      obtain ⟨a, b⟩ := adj_mem h
      refine ⟨List.mem_cons_of_mem _ a, ?_⟩
      rw [List.append_assoc] at b
      exact b
/-- what a good round is -/
theorem rnd_good {ns : List Str} {es : List (Str × Str)} {pn : List Str} {f : Str → Int} {its : List It} (ok : EsOk ns es f) (h : rsI es (movesF ns es f pn) its = .good) : ∃ ms : List (Str × Int), its = ms.map itM ∧ (∀ m ∈ ms, m ∈ movesF ns es f pn) ∧ Rnd ns es pn f ms := by
  unfold rsI at h
  cases eb : badI (movesF ns es f pn) its with
  | some i =>
    rw [eb] at h
    cases h
  | none =>
    rw [eb] at h
    obtain ⟨ms, rfl, msM⟩ := bad_good eb
    rw [nodes_itM] at h
    have h : rsS es (ms.map (·.1)) = .good := h
    unfold rsS at h
    cases ed : dupS [] (ms.map (·.1)) with
    | some x =>
      rw [ed] at h
      cases h
    | none =>
      rw [ed] at h
      cases ea : adjS es [] (ms.map (·.1)) with
      | some q =>
        rw [ea] at h
        cases h
      | none =>
        refine ⟨ms, rfl, msM, fun m hm => legal_of (msM m hm), (dup_nodup ed).1, fun a ha b hb z => ?_⟩
        have pw := (adj_apart ea).2
        obtain ⟨i, hi, rfl⟩ := List.mem_iff_getElem.mp ha
        obtain ⟨j, hj, rfl⟩ := List.mem_iff_getElem.mp hb
        rcases Nat.lt_trichotomy i j with c | c | c
        · exact List.pairwise_iff_getElem.mp pw i j hi hj c (mem_nbrF.mpr (.inr z))
        · subst c
          exact ok.ne _ z rfl
        · exact List.pairwise_iff_getElem.mp pw j i hj hi c (mem_nbrF.mpr (.inl z))
def RsOk : Rs → Prop
  | .bad o => ∀ i, o = some i → i ≤ 99
  | .dup x => IsName x
  | .adj x y => IsName x ∧ IsName y
  | .good => True
theorem rs_ok {ns : List Str} {es : List (Str × Str)} {pn : List Str} {f : Str → Int} {its : List It} (nm : ∀ x ∈ ns, IsName x) (l : its.length ≤ 99) : RsOk (rsI es (movesF ns es f pn) its) := by
  unfold rsI
  cases eb : badI (movesF ns es f pn) its with
  | some i =>
    intro j e
    cases e
    unfold badI at eb
    rw [List.findIdx?_eq_some_iff_getElem] at eb
    obtain ⟨h, _⟩ := eb
    omega
  | none =>
    obtain ⟨ms, rfl, msM⟩ := bad_good eb
    rw [nodes_itM]
    have nx : ∀ x ∈ ms.map (·.1), IsName x := fun x hx => by
      obtain ⟨m, hm, rfl⟩ := List.mem_map.mp hx
      exact nm _ (legal_of (msM m hm)).mem
    show RsOk (rsS es (ms.map (·.1)))
    unfold rsS
    cases ed : dupS [] (ms.map (·.1)) with
    | some x => exact nx x (dup_mem ed)
    | none =>
      cases ea : adjS es [] (ms.map (·.1)) with
      | some q =>
        obtain ⟨a, b⟩ := adj_mem ea
        exact ⟨nx _ a, nx _ b⟩
      | none => trivial
theorem sm_bl42 (b : Bool) : SmD 8 0 (.bool b) := by cases b <;> exact ⟨by decide +kernel, by decide +kernel, by decide +kernel, by decide +kernel, by decide +kernel⟩
theorem sm_t42 {s : Str} {d : PyData} (hs : SmD 20 0 (.str s)) (h : SmD 40 3 d) : SmD 200 10 (.tuple [.str s, d, .bool true, .bool false, .bool false]) := (SmD.tup (SmDs.cons hs (SmDs.cons h (SmDs.cons (sm_bl42 _) (SmDs.cons (sm_bl42 _) (SmDs.cons (sm_bl42 _) .nil)))))).mono (by decide) (by decide)
theorem sm_i42 {i : Nat} (h : i ≤ 99) : SmD 8 0 (.int (i : Int)) := by
  obtain ⟨a, b⟩ := int99_lv (i := (i : Int)) (by omega) (by omega)
  exact ⟨a, b, by simp [PyData.bulk], by simp [PyData.depth], by simp [PyData.hasDict]⟩
theorem ty_seqL42 {K : PySem.W.Frag} {H : Hp} {a : Addr} {xs : List V} (h : SqL K H a xs) : TyIs K H (.ref a) .lst := by
  rcases h with (h | ⟨o, h⟩) | h
  · exact ty_lst h
  · exact .base (.frz h)
  · obtain ⟨_, _, _, h1, h2, _⟩ := h
    exact .kList h1 h2
theorem dp_refT {K : PySem.W.Frag} {H : Hp} {u : V} {ds : List PyData} (h : Dp K H u (.tuple ds)) : ∃ a, u = .ref a ∧ TyIs K H u .tup := by
  cases h with
  | tup hp _ => exact ⟨_, rfl, ty_seqT hp⟩
theorem dp_refL {K : PySem.W.Frag} {H : Hp} {u : V} {ds : List PyData} (h : Dp K H u (.list ds)) : ∃ a, u = .ref a ∧ TyIs K H u .lst := by
  cases h with
  | lst hp _ => exact ⟨_, rfl, ty_seqL42 hp⟩
theorem rp_res {K : PySem.W.Frag} {H : Hp} {u : V} {ord : List Str} {F : Str → Int} {r : Rs} (d : Dp K H u (resD ord F r)) (ok : RsOk r) (sm : r = .good → SmallD ord F) : Rp K H u (resD ord F r).shown := by
  cases r with
  | bad o =>
    obtain ⟨a, rfl, _⟩ := dp_refT d
    have s := sm_t42 (s := "move") (d := oD o) ⟨by decide +kernel, by decide +kernel, by decide +kernel, by decide +kernel, by decide +kernel⟩ (by
      cases o with
      | none => exact ⟨by decide +kernel, by decide +kernel, by decide +kernel, by decide +kernel, by decide +kernel⟩
      | some i => exact (sm_i42 (ok i rfl)).mono (by decide) (by decide))
    exact .of d s.nd (s.shows (by decide) (by decide))
  | dup x =>
    obtain ⟨a, rfl, _⟩ := dp_refT d
    have s := sm_t42 (s := "duplicate") (d := .str x) ⟨by decide +kernel, by decide +kernel, by decide +kernel, by decide +kernel, by decide +kernel⟩ ((SmD.name ok).mono (by decide) (by decide))
    exact .of d s.nd (s.shows (by decide) (by decide))
  | adj x y =>
    obtain ⟨a, rfl, _⟩ := dp_refT d
    have e : IsName (eOf x y).1 ∧ IsName (eOf x y).2 := by
      unfold eOf
      split
      · exact ok
      · exact ⟨ok.2, ok.1⟩
    have s := sm_t42 (s := "adjacent") (d := .tuple [.str (eOf x y).1, .str (eOf x y).2]) ⟨by decide +kernel, by decide +kernel, by decide +kernel, by decide +kernel, by decide +kernel⟩ ((SmD.tup (SmDs.cons (SmD.name e.1) (SmDs.cons (SmD.name e.2) .nil))).mono (by decide) (by decide))
    exact .of d s.nd (s.shows (by decide) (by decide))
  | good =>
    obtain ⟨a, rfl, _⟩ := dp_refL d
    have sm := sm rfl
    have sp : (sortS ord).Perm ord := sortS_perm _
    have sm' : SmallD (sortS ord) F := ⟨sp.nodup_iff.mpr sm.1, by rw [sp.length_eq]; exact sm.2.1, fun n hn => sm.2.2 n (sp.mem_iff.mp hn)⟩
    refine .of d ?_ (shows_prs sm')
    show PyData.hasDict (.list _) = false
    rw [PyData.hasDict, (lvs_prs sm'.2.2).2.2.2.2]
theorem eq_noT {K : PySem.W.Frag} {H : Hp} {Q : VK} {p q : Addr} {xs : List Str} (hp : SqT K H p (xs.map V.str)) (hq : SqT K H q []) (ok : ∀ x ∈ xs, PyData.strOk x = true) (h : Q (.bl (decide (xs = []))) H) : rEqU K (.ref p) (.ref q) H Q := by
  refine ⟨.tuple (xs.map PyData.str), .tuple [], .tup hp (dp_strs xs), .tup hq .nil, by
    unfold SeqAt.shaped
    rw [PyData.canLay0, can_strs ok, PyData.depth, dep_strs]
    rfl, by decide +kernel, ?_⟩
  have : PyData.eqv (.tuple (xs.map PyData.str)) (.tuple []) = decide (xs = []) := by
    cases xs <;> simp [PyData.eqv, PyData.eqvAll]
  rw [this]
  exact h
theorem rd_cD2V {sp : Sp} {dvs : List V} {W : WX} {t : TA} {σ : L2.St} {H : Hp} {Q : VK} (h : t σ H fun vs H1 => sp (vs ++ dvs) H1 Q fun cls d H' => W cls d σ H') : tCD2 sp dvs W t σ H Q := h
theorem eqvAll_prs {F : Str → Int} : ∀ ks : List Str, PyData.eqvAll (ks.map (dPr F)) (ks.map (dPr F)) = true
  | [] => by simp [PyData.eqvAll]
  | k :: r => by
    rw [List.map_cons, PyData.eqvAll, eqvAll_prs r]
    simp [PyData.eqv, PyData.eqvAll]
theorem eqv_prs {ord : List Str} {F : Str → Int} : PyData.eqv (resD ord F .good) (resD ord F .good) = true := by
  show PyData.eqv (.list _) (.list _) = true
  rw [PyData.eqv, eqvAll_prs]
theorem eqv_mv0 {ord : List Str} {F : Str → Int} : PyData.eqv (resD ord F (.bad none)) (.tuple [.str "move", .none, .bool true, .bool false, .bool false]) = true := by
  show PyData.eqv (.tuple _) (.tuple _) = true
  simp [oD, PyData.eqv, PyData.eqvAll]
theorem shaped_prs {ord : List Str} {F : Str → Int} (sm : SmallD ord F) : SeqAt.shaped (resD ord F .good) = true := by
  have sp : (sortS ord).Perm ord := sortS_perm _
  have a : ∀ ks : List Str, (∀ k ∈ ks, PyData.strOk k = true) → PyData.canLayAll0 (ks.map (dPr F)) = true ∧ PyData.depthAll (ks.map (dPr F)) ≤ 1 := by
    intro ks
    induction ks with
    | nil => intro _; simp [PyData.canLayAll0, PyData.depthAll]
    | cons k r ih =>
      intro h
      obtain ⟨x, y⟩ := ih fun z hz => h z (List.mem_cons_of_mem _ hz)
      have h1 := h k List.mem_cons_self
      have c : (dPr F k).canLay0 = true := by simp [PyData.canLay0, PyData.canLayAll0, h1]
      have d : (dPr F k).depth = 1 := by simp [PyData.depth, PyData.depthAll]
      rw [List.map_cons, PyData.canLayAll0, PyData.depthAll, x, c, d]
      exact ⟨rfl, by omega⟩
  obtain ⟨x, y⟩ := a (sortS ord) fun k hk => (sm.2.2 k (sp.mem_iff.mp hk)).1.sok
  show SeqAt.shaped (.list _) = true
  unfold SeqAt.shaped
  rw [PyData.canLay0, x, PyData.depth, decide_eq_true (by omega)]
  rfl
theorem wz_all {n k : Nat} : ∀ {ds : List PyData}, (∀ d ∈ ds, Wz n k d) → WzA ((n + 1) * ds.length) k ds
  | [], _ => ⟨WzA.nil.lv, WzA.nil.sh, Nat.le_trans WzA.nil.bk (Nat.zero_le _), Nat.le_trans WzA.nil.dp (Nat.zero_le _)⟩
  | d :: ds, h => by
    have r := wz_all (ds := ds) fun x hx => h x (List.mem_cons_of_mem _ hx)
    have h1 := h d List.mem_cons_self
    have a := WzA.cons h1 r
    have hb := h1.bk
    have rb := r.bk
    have hd := h1.dp
    have rd := r.dp
    refine ⟨a.lv, a.sh, ?_, ?_⟩
    · rw [PyData.bulkAll, List.length_cons, Nat.mul_succ]
      omega
    · rw [PyData.depthAll]
      omega
theorem It.dg {H : Hp} {v : V} {it : It} (o : it.ok) (h : ItAt H v it) : Dg H v it.dat := by
  cases it with
  | atm u =>
    have h : v = u := h
    subst h
    exact .atm (AtmT.atm o)
  | tp vs =>
    obtain ⟨a, rfl, ha⟩ := h
    exact .tup ha (dg_atms fun x hx => (o.2 x hx).atm)
  | ls vs =>
    obtain ⟨a, rfl, ha⟩ := h
    exact .lst ha (dg_atms fun x hx => (o.2 x hx).atm)
theorem ItsAt.dg {H : Hp} : ∀ {cs : List V} {its : List It}, ItsAt H cs its → DgAll H cs (its.map It.dat)
  | [], [], _ => .nil
  | [], m :: r, h => by
    have := h.1
    simp at this
  | c :: cs, [], h => by
    have := h.1
    simp at this
  | c :: cs, m :: r, h => by
    have l := h.1
    rw [List.length_cons, List.length_cons] at l
    have h0 := h.2 0 (by simp) (by simp)
    exact .cons (It.dg h0.2 h0.1) (ItsAt.dg (cs := cs) (its := r) ⟨by omega, fun i a b => h.2 (i + 1) (by rw [List.length_cons]; omega) (by rw [List.length_cons]; omega)⟩)
theorem ItsAt.oks {H : Hp} {cs : List V} {its : List It} (h : ItsAt H cs its) : ∀ it ∈ its, it.ok := fun it hi => by
  obtain ⟨i, hj, rfl⟩ := List.mem_iff_getElem.mp hi
  exact (h.2 i (by rw [← h.1]; exact hj) hj).2
theorem dg_strs42 {H : Hp} : ∀ xs : List Str, DgAll H (xs.map V.str) (xs.map PyData.str)
  | [] => .nil
  | x :: r => .cons (.atm (.inr (.inr (.inr ⟨x, rfl⟩)))) (dg_strs42 r)
theorem dg_edges42 {H : Hp} : ∀ {es : List (Addr × Str × Str)}, (∀ x ∈ es, H x.1 = some (.tup [.str x.2.1, .str x.2.2])) → DgAll H (es.map fun x => V.ref x.1) ((es.map (·.2)).map dE)
  | [], _ => .nil
  | x :: r, h => .cons (.tup (h x List.mem_cons_self) (.cons (.atm (.inr (.inr (.inr ⟨_, rfl⟩)))) (.cons (.atm (.inr (.inr (.inr ⟨_, rfl⟩)))) .nil))) (dg_edges42 fun y hy => h y (List.mem_cons_of_mem _ hy))
abbrev dAll42 (ns : List Str) (es : List (Str × Str)) (ord : List Str) (f : Str → Int) (its : List It) (pn : List Str) : PyData := .tuple [.tuple [.tuple (ns.map PyData.str), .tuple (es.map dE)], .dict (ord.map fun n => (.str n, vD (.int (f n)))), .list (its.map It.dat), .tuple (pn.map PyData.str)]
theorem repr42 {H : Hp} {Q : VK} {t g n e st mv ps : Addr} {ns ord pn : List Str} {es : List (Addr × Str × Str)} {f : Str → Int} {cs : List V} {its : List It} (gs : GSt H g n e st ns ord es f) (pin : ∀ x ∈ pn, x ∈ ns) (pl : pn.length ≤ 100) (hmv : H mv = some (.lst cs)) (hits : ItsAt H cs its) (c5 : cs.length ≤ 5) (hps : H ps = some (.tup (pn.map V.str)))
    (ht : H t = some (.tup [.ref g, .ref st, .ref mv, .ref ps])) (q : Q (.str (dAll42 ns (es.map (·.2)) ord f its pn).shown) H) : rReprG [.ref t] H Q := by
  have nm := gs.ok.names.ok
  have l2 := gs.l2
  have l3 := gs.l3
  have lo := gs.pm.length_eq
  have at_ : ∀ n ∈ ord, IsName n ∧ AtmS (.int (f n)) := fun n hn => by
    have m := gs.pm.mem_iff.mp hn
    have := gs.tri n m
    exact ⟨nm n m, .inr (.inr (.inl ⟨f n, rfl, by omega, by omega⟩))⟩
  have w1 : Wz 900 1 (.tuple (ns.map PyData.str)) := by
    have a := SmDs.names nm
    exact (Wz.tup ⟨a.lv, a.sh, a.bk, a.dp⟩).mono (by omega) (by omega)
  have w2 : Wz 100000 6 (.tuple ((es.map (·.2)).map dE)) := by
    have a := SmDs.of (n := 50) (m := 5) (ds := (es.map (·.2)).map dE) fun d hd => by
      obtain ⟨y, hy, rfl⟩ := List.mem_map.mp hd
      obtain ⟨z1, z2⟩ := gs.ok.mem y hy
      exact (SmD.tup (SmDs.cons (SmD.name (nm _ z1)) (SmDs.cons (SmD.name (nm _ z2)) .nil))).mono (by decide) (by decide)
    rw [List.length_map, List.length_map] at a
    exact (Wz.tup ⟨a.lv, a.sh, a.bk, a.dp⟩).mono (by omega) (by omega)
  have w3 : Wz 4000 1 (.dict (ord.map fun n => (.str n, vD (.int (f n))))) := (Wz.dct at_).mono (by omega) (Nat.le_refl _)
  have w4 : Wz 400 2 (.list (its.map It.dat)) := by
    have a := wz_all (n := 63) (k := 1) (ds := its.map It.dat) fun d hd => by
      obtain ⟨y, hy, rfl⟩ := List.mem_map.mp hd
      exact It.wz (hits.oks y hy)
    rw [List.length_map, hits.1] at a
    exact (Wz.lst a).mono (by omega) (by omega)
  have w5 : Wz 900 1 (.tuple (pn.map PyData.str)) := by
    have a := SmDs.names (xs := pn) fun x hx => nm x (pin x hx)
    exact (Wz.tup ⟨a.lv, a.sh, a.bk, a.dp⟩).mono (by omega) (by omega)
  refine rd_reprG ht (.cons (.tup gs.gr.top (.cons (.tup gs.gr.nodes (dg_strs42 _)) (.cons (.tup gs.gr.edges (dg_edges42 gs.gr.pairs)) .nil))) (.cons (.dct (F := fun n => .int (f n)) gs.st fun n hn => (at_ n hn).2.atm) (.cons (.lst hmv hits.dg) (.cons (.tup hps (dg_strs42 _)) .nil)))) ((Wz.tup (WzA.cons (Wz.tup (WzA.cons w1 (WzA.cons w2 WzA.nil))) (WzA.cons w3 (WzA.cons w4 (WzA.cons w5 WzA.nil))))).shows (by decide) (by decide)) q
def spLaw (K : PySem.W.Frag) : Sp := fun vs H Q _ => ∃ (a : Addr) (nums : List Int), vs = [.ref a] ∧ SqL K H a (nums.map V.int) ∧ nums.length ≤ 63 ∧ ∀ H' : Hp, Q (.bl true) H'
section
variable {P : Program} {w : World} {K : PySem.W.Frag} {mg : Str → Option Value} {base : Heap}
structure N42c (P : Program) (w : World) (K : PySem.W.Frag) (mg : Str → Option Value) (base : Heap) (CM CD CA tp : Addr) : Prop where
  _law_box : Cal P w K mg base CX0 1 "_law_box" (spBox K)
  _law_random_problem : Cal P w K mg base CX0 4 "_law_random_problem" spProblem
  _law_random_moves : Cal P w K mg base CX0 3 "_law_random_moves" (spRandMv K)
  _law_compute_expected : Cal P w K mg base CX0 3 "_law_compute_expected" (spExp42 K)
  _law_call : Cal P w K mg base CX0 6 "_law_call" (spCall42 K)
  apply_round : CalK P w K mg base (L2.CX P w) 5 "apply_round" 3 ["pinned"] (spRound K CM CD CA)
  apply_round_d : CalD P w K mg base (L2.CX P w) 5 "apply_round" [.ref tp] (spRound K CM CD CA)
  apply_moves : CalK P w K mg base CX0 4 "apply_moves" 3 ["pinned"] (spApply K)
  sp : ∀ H, SqT K H tp []
theorem ok_law {f : Addr} {fd : FuncData} {CM CD CA tp : Addr} (F : Fun K "law" "law" s_law f fd) (B : Bt mg) (C : N42c P w K mg base CM CD CA tp) : FnG P w K mg base CX0 7 f fd ["_law_script"] (spLaw K) := by
  refine fnG0 F sc_law (fun vs H Q E h => ?_) (fun cdv A outer s H vs Q E hr h => ?_)
  · obtain ⟨a, nums, rfl, _⟩ := h
    rfl
  · obtain ⟨a, nums, rfl, hs, hl, q⟩ := h
    have nd := sc_law.nd
    have hu := hr.u1
    refine ⟨_, (pss_cons (ps_set (i := 1) nd rfl (by first | exact Or.inl rfl | exact Or.inr rfl) (pe_c C._law_box hr (by decide) rfl (pa_cons (pv 0) pa_nil)))
  (pss_cons (ps_asg (pe_c C._law_random_problem hr (by decide) rfl (pa_cons (pv 1) (pa_cons pe_int pa_nil))) (kg_tup (n := 3) K rfl rfl (pgs_cons (pg_name (i := 2) nd rfl (by first | exact Or.inl rfl | exact Or.inr rfl)) (pgs_cons (pg_name (i := 3) nd rfl (by first | exact Or.inl rfl | exact Or.inr rfl)) (pgs_cons (pg_name (i := 4) nd rfl (by first | exact Or.inl rfl | exact Or.inr rfl)) pgs_nil)))))
  (pss_cons (ps_asg (pe_c C._law_random_moves hr (by decide) rfl (pa_cons (pv 1) (pa_cons (pv 2) (pa_cons (pv 3) (pa_cons (pv 4) pa_nil))))) (kg_tup (n := 2) K rfl rfl (pgs_cons (pg_name (i := 5) nd rfl (by first | exact Or.inl rfl | exact Or.inr rfl)) (pgs_cons (pg_name (i := 6) nd rfl (by first | exact Or.inl rfl | exact Or.inr rfl)) pgs_nil))))
  (pss_cons (ps_set (i := 7) nd rfl (by first | exact Or.inl rfl | exact Or.inr rfl) (pe_callB (kReprG hr.g hr.u64) (by rfl) B.repr bb_repr (pa_cons (pe_tup (pa_cons (pv 2) (pa_cons (pv 3) (pa_cons (pv 6) (pa_cons (pv 4) pa_nil))))) pa_nil)))
  (pss_cons (ps_set (i := 8) nd rfl (by first | exact Or.inl rfl | exact Or.inr rfl) (pe_c C._law_compute_expected hr (by decide) rfl (pa_cons (pv 2) (pa_cons (pv 3) (pa_cons (pv 5) (pa_cons (pv 6) pa_nil))))))
  (pss_cons (ps_for PassesOwn.never rfl (pi_range1 rfl B.range (pa_cons pe_int pa_nil)) (pg_name (i := 9) nd rfl (by first | exact Or.inl rfl | exact Or.inr rfl)) (pss_cons (ps_if (pt_cmpR (kNe K rfl hr.u64) (pe_callB (kReprV K rfl hr.g hr.u64) (by rfl) B.repr bb_repr (pa_cons (pe_c C._law_call hr (by decide) rfl (pa_cons (pv 2) (pa_cons (pv 3) (pa_cons (pv 6) (pa_cons (pv 4) pa_nil))))) pa_nil)) (pe_callB (kReprV K rfl hr.g hr.u64) (by rfl) B.repr bb_repr (pa_cons (pv 8) pa_nil)) (nomark _)) (pss_one (ps_ret pe_bl)) pss_nil)
  (pss_one (ps_if (pt_val (pe_callB (kIsi K rfl) (by rfl) B.isinstance bb_isinstance (pa_cons (pv 8) (pa_cons (pe_ty rfl B.list bb_list) pa_nil)))) (pss_one (ps_expr (pe_dclear (pe_cKX C.apply_round hr (by decide) rfl L2.takes0 (pa_cons (pv 2) (pa_cons (pv 3) (pa_cons (pv 6) pa_nil))) (pk_cons (pv 4) pk_nil))))) pss_nil))))
  (C8.pss_cut (ps_if (PW.pt (pw_and (pt_val (pe_callB (kIsi K rfl) (by rfl) B.isinstance bb_isinstance (pa_cons (pv 8) (pa_cons (pe_ty rfl B.list bb_list) pa_nil)))) (pw_and (pt_cmpR (kEq K rfl hr.u64) (pv 4) (pe_tup pa_nil) (nomark _)) (pw_and1 (pt_cmpR (kNe K rfl hr.u64) (pe_callB (cr_sortedItK rfl hr.u64) (by rfl) B.sorted bb_sorted (pa_cons (pe_bm0 PySem.F.plainAttrs_dict PySem.F.slot_dict_items PySem.F.type_dict_items mt_itemsK (pe_cDX C.apply_round_d hr (by decide) rfl L2.takes0 (pa_cons (pv 2) (pa_cons (pv 3) (pa_cons (pv 6) pa_nil))))) pa_nil)) (pv 8) (nomark _)))))) (pss_one (ps_ret pe_bl)) pss_nil)
  (C8.pss_cut (ps_if (pt_val (pe_callB (kIsi K rfl) (by rfl) B.isinstance bb_isinstance (pa_cons (pv 8) (pa_cons (pe_ty rfl B.list bb_list) pa_nil)))) (pss_cons (ps_set (i := 10) nd rfl (by first | exact Or.inl rfl | exact Or.inr rfl) (pe_cK C.apply_moves hr (by decide) rfl pass0 (pa_cons (pv 2) (pa_cons (pv 3) (pa_cons (pe_callTy (kList K rfl rfl) (by rfl) B.list bb_list (pa_cons (pv 6) pa_nil)) pa_nil))) (pk_cons (pv 4) pk_nil)))
  (pss_cons (ps_if (pt_cmpR (kNe K rfl hr.u64) (pe_callB (kReprV K rfl hr.g hr.u64) (by rfl) B.repr bb_repr (pa_cons (pe_callB (cr_sortedItK rfl hr.u64) (by rfl) B.sorted bb_sorted (pa_cons (pe_bm0 PySem.F.plainAttrs_dict PySem.F.slot_dict_items PySem.F.type_dict_items mt_itemsK (pv 10)) pa_nil)) pa_nil)) (pe_callB (kReprV K rfl hr.g hr.u64) (by rfl) B.repr bb_repr (pa_cons (pv 8) pa_nil)) (nomark _)) (pss_one (ps_ret pe_bl)) pss_nil)
  (pss_cons (ps_set (i := 10) nd rfl (by first | exact Or.inl rfl | exact Or.inr rfl) (pe_cK C.apply_moves hr (by decide) rfl pass0 (pa_cons (pv 2) (pa_cons (pv 3) (pa_cons (kRevL K rfl (pv 6)) pa_nil))) (pk_cons (pv 4) pk_nil)))
  (pss_one (ps_if (pt_cmpR (kNe K rfl hr.u64) (pe_callB (kReprV K rfl hr.g hr.u64) (by rfl) B.repr bb_repr (pa_cons (pe_callB (cr_sortedItK rfl hr.u64) (by rfl) B.sorted bb_sorted (pa_cons (pe_bm0 PySem.F.plainAttrs_dict PySem.F.slot_dict_items PySem.F.type_dict_items mt_itemsK (pv 10)) pa_nil)) pa_nil)) (pe_callB (kReprV K rfl hr.g hr.u64) (by rfl) B.repr bb_repr (pa_cons (pv 8) pa_nil)) (nomark _)) (pss_one (ps_ret pe_bl)) pss_nil))))) pss_nil)
  (pss_cons (ps_for PassesOwn.never rfl (ki_list K rfl (pe_lst (pa_cons pe_non (pa_cons (pe_tup pa_nil) (pa_cons (pe_callTy (kTuple K rfl) (by rfl) B.tuple bb_tuple (pa_cons (pv 6) pa_nil)) (pa_cons pe_int pa_nil)))))) (pg_name (i := 11) nd rfl (by first | exact Or.inl rfl | exact Or.inr rfl)) (pss_one (ps_if (pt_cmpR (kNe K rfl hr.u64) (pe_c C._law_call hr (by decide) rfl (pa_cons (pv 2) (pa_cons (pv 3) (pa_cons (pv 11) (pa_cons (pv 4) pa_nil))))) (pe_tup (pa_cons pe_str (pa_cons pe_non (pa_cons pe_bl (pa_cons pe_bl (pa_cons pe_bl pa_nil)))))) (nomark _)) (pss_one (ps_ret pe_bl)) pss_nil)))
  (pss_one (ps_ret (pe_cmpR (kEq K rfl hr.u64) (pe_callB (kReprG hr.g hr.u64) (by rfl) B.repr bb_repr (pa_cons (pe_tup (pa_cons (pv 2) (pa_cons (pv 3) (pa_cons (pv 6) (pa_cons (pv 4) pa_nil))))) pa_nil)) (pv 7) (nomark _))))))))))))), ?_⟩
    wtm_at "rd"
    refine ⟨a, nums, rfl, hs, hl, fun p H1 s1 fp hp => ?_⟩
    wtm_at "rd"
    refine use_problem hp (by decide) (by decide) fun t g n e st ps ns ord pn es f H2 g2 _ _ _ _ ht gs hps pin pl asc n7 => ?_
    refine rd_unp (SqT.of ht) rfl ?_
    wtm_at "rd"
    refine ⟨p, g, n, e, st, ps, ns, ord, pn, es, f, rfl, g2.pool, gs, hps, by omega, fun t2 l mv bs cs its H3 g3 ht2 hl2 tb eb hmv hits c5 _ => ?_⟩
    have gs := gs.go g2.pool g3
    have hps := g3.tup g2.pool hps
    refine rd_unp (SqT.of ht2) rfl ?_
    clear g2 g3 ht ht2 s1
    wtm_at "rd"
    intro tt ftt
    have k1 := Same.new (o := .tup [.ref g, .ref st, .ref mv, .ref ps]) ftt
    have htt := @upd_same H3 tt (.tup [.ref g, .ref st, .ref mv, .ref ps])
    have gs := gs.same k1
    have hps := k1 _ _ hps
    have hl2 := k1 _ _ hl2
    have tb := tb.same k1
    have hmv := k1 _ _ hmv
    have hits := hits.same k1
    generalize upd H3 tt (.tup [.ref g, .ref st, .ref mv, .ref ps]) = H4 at htt gs hps hl2 tb hmv hits
    clear k1 ftt
    wtm_at "rd"
    refine repr42 gs pin (by omega) hmv hits c5 hps htt ?_
    generalize hS : (dAll42 ns (es.map (·.2)) ord f its pn).shown = S
    clear htt
    wtm_at "rd"
    obtain ⟨r, er⟩ : ∃ r, r = rsI (es.map (·.2)) (movesF ns (es.map (·.2)) f pn) its := ⟨_, rfl⟩
    obtain ⟨F', eF⟩ : ∃ F', F' = playF f (mvsI its) := ⟨_, rfl⟩
    refine ⟨g, n, e, st, l, mv, ns, ord, pn, es, f, bs, cs, its, rfl, gs, hl2, tb, eb, hmv, hits, by omega, fun u H5 s5 du => ?_⟩
    rw [← er, ← eF] at du
    have gs := gs.same s5
    have hps := s5 _ _ hps
    have hmv := s5 _ _ hmv
    have hits := hits.same s5
    clear hl2 tb eb s5
    have rok : RsOk r := by
      rw [er]
      exact rs_ok gs.ok.names.ok (by rw [hits.1]; omega)
    have good : r = .good → ∃ ms : List (Str × Int), its = ms.map itM ∧ (∀ m ∈ ms, m ∈ movesF ns (es.map (·.2)) f pn) ∧ Rnd ns (es.map (·.2)) pn f ms ∧ F' = playF f ms := fun z => by
      rw [er] at z
      obtain ⟨ms, e1, e2, e3⟩ := rnd_good gs.eok z
      exact ⟨ms, e1, e2, e3, by rw [eF, e1, mvsI_itM]⟩
    have sm : r = .good → SmallD ord F' := fun z => by
      obtain ⟨ms, e1, e2, e3, e4⟩ := good z
      have l2 := gs.l2
      refine ⟨gs.pm.nodup_iff.mpr gs.nd, by rw [gs.pm.length_eq]; exact l2, fun x hx => ?_⟩
      have m := gs.pm.mem_iff.mp hx
      have o := (seq_ok gs.eok e3.seq ms.length (Nat.le_refl _)).tri x m
      rw [List.take_length, ← e4] at o
      exact ⟨gs.ok.names.ok x m, by omega, by omega⟩
    have useCall : ∀ {HA : Hp} {Q : VK} {E : XK}, Same H5 HA → (∀ v H', Same HA H' → Dp K H' v (resD ord F' r) → Q v H') → spCall42 K [.ref g, .ref st, .ref mv, .ref ps] HA Q E := fun {HA Q E} sA k =>
      ⟨g, n, e, st, ps, .ref mv, ns, ord, pn, es, f, F', r, rfl, gs.same sA, SqT.of (sA _ _ hps), .inr ⟨mv, cs, its, rfl, sA _ _ hmv, by omega, hits.same sA, er, eF⟩, k⟩
    have useRound : r = .good → ∀ {HA : Hp} {Q : VK} {pz : Addr}, Same H5 HA → SqT K HA pz (pn.map V.str) → (∀ d H', Same HA H' → HA d = none → H' d = some (.dK (kvF ord F')) → Q (.ref d) H') → spRound K CM CD CA [.ref g, .ref st, .ref mv, .ref pz] HA Q (fun _ _ _ => False) := fun rg {HA Q pz} sA hz k => by
      refine ⟨g, n, e, st, pz, .ref mv, ns, ord, pn, es, f, r, rfl, gs.same sA, hz, fun d C' fs H' s' nd' hd kk => ?_, .inr ⟨mv, cs, its, rfl, sA _ _ hmv, by omega, hits.same sA, er, fun ms _ eits _ d H' s' nd' hd => ?_⟩⟩
      · rw [rg] at kk
        exact kk.elim
      · refine k d H' s' nd' ?_
        rw [eF, eits, mvsI_itM]
        exact hd
    have rep : ∀ {HA : Hp} {v : V}, Dp K HA v (resD ord F' r) → Rp K HA v (resD ord F' r).shown := fun d => rp_res d rok sm
    generalize hT : (resD ord F' r).shown = T at rep
    have srtDp : r = .good → ∀ {HA : Hp} {lx : Addr} {bs1 : List (Addr × Str)}, HA lx = some (.lst (bs1.map fun b => V.ref b.1)) → (∀ b ∈ bs1, HA b.1 = some (.tup [.str b.2, .int (F' b.2)])) → (bs1.map (·.2)).Perm ord → (bs1.map (·.2)).Pairwise (fun a b => ¬ sLt b a) → Dp K HA (.ref lx) (resD ord F' r) := fun rg {HA lx bs1} hl1 tl1 pm1 srt1 => by
      rw [rg]
      have e : bs1.map (·.2) = sortS ord := sort_uniq pm1 srt1 (gs.pm.nodup_iff.mpr gs.nd)
      have dd := dp_prN (K := K) tl1
      rw [e] at dd
      exact .lst (SqL.of hl1) dd
    have uty : ∀ {HA : Hp}, Same H5 HA → (r = .good ∧ TyIs K HA u .lst) ∨ (r ≠ .good ∧ TyIs K HA u .tup) := fun {HA} sA => by
      have d := Dp.same du sA
      cases r with
      | good => exact .inl ⟨rfl, (dp_refL d).choose_spec.2⟩
      | bad o => exact .inr ⟨(fun z => nomatch z), (dp_refT d).choose_spec.2⟩
      | dup x => exact .inr ⟨(fun z => nomatch z), (dp_refT d).choose_spec.2⟩
      | adj x y => exact .inr ⟨(fun z => nomatch z), (dp_refT d).choose_spec.2⟩
    wtm_at "rd"
    refine turnsR (fun i σ H' => ∃ u9 : Option V, σ = [some (.ref a), some (.ref p), some (.ref g), some (.ref st), some (.ref ps), some (.ref l), some (.ref mv), some (.str S), some u, u9, none, none] ∧ Same H5 H') ⟨_, rfl, fun _ _ h => h⟩ ?_ ?_
    · rintro i σ HA hi ⟨u9, rfl, sA⟩
      wtm_at "rd"
      refine useCall sA fun v HB sB dv => ?_
      have sB := sA.trans sB
      wtm_at "rd"
      refine rd_reprV (rep dv) ?_
      wtm_at "rd"
      refine rd_reprV (rep (Dp.same du sB)) ?_
      wtm_at "rd"
      rw [decide_eq_true rfl]
      wtm_at "rd"
      rcases uty sB with ⟨rg, ty⟩ | ⟨_, ty⟩
      · refine rd_isi ty (t := .lst) (by decide +kernel) ?_
        rw [show isT .lst .lst = true from by decide +kernel]
        wtm_at "rd"
        refine rd_cK2V ?_
        wtm_at "rd"
        refine useRound rg sB (SqT.of (sB _ _ hps)) fun d HC sC fd hd => ?_
        wtm_at "rd"
        refine rd_tyD hd ?_
        refine rd_clr hd ?_
        wtm_at "rd"
        exact ⟨_, rfl, same_put (sB.trans sC) (sB.free fd)⟩
      · refine rd_isi ty (t := .lst) (by decide +kernel) ?_
        rw [show isT .tup .lst = false from by decide +kernel]
        wtm_at "rd"
        exact ⟨_, rfl, sB⟩
    rintro σ HA ⟨u9, rfl, sA⟩
    wtm_at "rd"
    refine ⟨fun σ' H' => σ' = [some (.ref a), some (.ref p), some (.ref g), some (.ref st), some (.ref ps), some (.ref l), some (.ref mv), some (.str S), some u, u9, none, none] ∧ Same H5 H', ?_, ?_⟩
    · wtm_at "rd"
      rcases uty sA with ⟨rg, ty⟩ | ⟨_, ty⟩
      · refine rd_isi ty (t := .lst) (by decide +kernel) ?_
        rw [show isT .lst .lst = true from by decide +kernel]
        wtm_at "rd"
        intro e0 fe0
        have sE := same_add (o := .tup []) sA fe0
        have he0 := @upd_same HA e0 (.tup [])
        generalize upd HA e0 (.tup []) = HE at sE he0
        refine eq_noT (SqT.of (sE _ _ hps)) (SqT.of he0) (fun x hx => (gs.ok.names.ok x (pin x hx)).sok) ?_
        wtm_at "rd"
        by_cases pe : pn = []
        · rw [decide_eq_true pe]
          wtm_at "rd"
          refine rd_cD2V ?_
          wtm_at "rd"
          refine useRound rg sE (pz := tp) (by rw [pe]; exact C.sp _) fun d HF sF fd hd => ?_
          have sF := sE.trans sF
          wtm_at "rd"
          refine rd_tyD hd ?_
          refine ⟨d, _, rfl, rfl, hd, fun v1 fv1 => ?_⟩
          wtm_at "rd"
          refine ⟨v1, d, ord, F', rfl, upd_same, at_upd (ne_of_none hd fv1) hd, fun HG lx bs1 t1 fl1 hl1 tl1 pm1 srt1 => ?_⟩
          have sG : Same H5 HG := fun b o h => t1 _ _ (same_add sF fv1 b o h)
          have dl := srtDp rg hl1 tl1 pm1 srt1
          have dv := Dp.same du sG
          rw [rg] at dl dv
          wtm_at "rd"
          refine ⟨_, _, dl, dv, shaped_prs (sm rg), shaped_prs (sm rg), ?_⟩
          rw [show PyData.eqv (resD ord F' .good) (resD ord F' .good) = true from eqv_prs]
          wtm_at "rd"
          exact ⟨rfl, sG⟩
        · rw [decide_eq_false pe]
          wtm_at "rd"
          exact ⟨rfl, sE⟩
      · refine rd_isi ty (t := .lst) (by decide +kernel) ?_
        rw [show isT .tup .lst = false from by decide +kernel]
        wtm_at "rd"
        exact ⟨rfl, sA⟩
    rintro σ' HB ⟨rfl, sB⟩
    clear sA
    refine ⟨fun σ' H' => ∃ u10 : Option V, σ' = [some (.ref a), some (.ref p), some (.ref g), some (.ref st), some (.ref ps), some (.ref l), some (.ref mv), some (.str S), some u, u9, u10, none] ∧ Same H5 H', ?_, ?_⟩
    · wtm_at "rd"
      rcases uty sB with ⟨rg, ty⟩ | ⟨_, ty⟩
      · refine rd_isi ty (t := .lst) (by decide +kernel) ?_
        rw [show isT .lst .lst = true from by decide +kernel]
        wtm_at "rd"
        obtain ⟨ms, e1, msM, rnd, e4⟩ := good rg
        have hw := hits
        rw [e1] at hw
        obtain ⟨ws, ew, tw, em⟩ := hw.tups
        have hmw := hmv
        rw [ew] at hmw
        refine rd_listL (SqL.of (sB _ _ hmw)) ?_
        intro l1 fl1
        have s6 := same_add (o := .lst (ws.map fun m => V.ref m.1)) sB fl1
        have hl1 := @upd_same HB l1 (.lst (ws.map fun m => V.ref m.1))
        generalize upd HB l1 (.lst (ws.map fun m => V.ref m.1)) = H6 at s6 hl1
        wtm_at "rd"
        refine ⟨g, n, e, st, l1, ps, ns, ord, pn, es, f, ws, rfl, gs.same s6, hl1, tw.same s6, by rw [em]; exact rnd.seq, SqT.of (s6 _ _ hps), fun d H7 s7 fd7 hd => ?_⟩
        rw [em, ← e4] at hd
        have s7 := s6.trans s7
        wtm_at "rd"
        refine rd_tyD hd ?_
        refine ⟨d, _, rfl, rfl, hd, fun v1 fv1 => ?_⟩
        wtm_at "rd"
        refine ⟨v1, d, ord, F', rfl, upd_same, at_upd (ne_of_none hd fv1) hd, fun HG lx bs1 t1 fl1 hl1 tl1 pm1 srt1 => ?_⟩
        have sG : Same H5 HG := fun b o h => t1 _ _ (same_add s7 fv1 b o h)
        wtm_at "rd"
        refine rd_reprV (rep (srtDp rg hl1 tl1 pm1 srt1)) ?_
        wtm_at "rd"
        refine rd_reprV (rep (Dp.same du sG)) ?_
        wtm_at "rd"
        rw [decide_eq_true rfl]
        clear hl1 tl1 pm1 srt1 t1 fl1 fv1 hd s7 s6
        wtm_at "rd"
        refine rd_revL ?_
        wtm_at "rd"
        refine ⟨mv, _, rfl, SqL.of (sG _ _ hmw), fun l1 fl1 => ?_⟩
        rw [← List.map_reverse]
        have s6 := same_add (o := .lst (ws.reverse.map fun m => V.ref m.1)) sG fl1
        have hl1 := @upd_same HG l1 (.lst (ws.reverse.map fun m => V.ref m.1))
        generalize upd HG l1 (.lst (ws.reverse.map fun m => V.ref m.1)) = H6 at s6 hl1
        wtm_at "rd"
        refine ⟨g, n, e, st, l1, ps, ns, ord, pn, es, f, ws.reverse, rfl, gs.same s6, hl1, fun m hm => s6 _ _ (tw m (List.mem_reverse.mp hm)), by rw [List.map_reverse, em]; exact rnd.rev.seq, SqT.of (s6 _ _ hps), fun d H7 s7 fd7 hd => ?_⟩
        have er2 : playF f (ws.reverse.map (·.2)) = F' := by
          rw [List.map_reverse, em, e4]
          funext x
          exact playF_rev rnd.nd x
        rw [er2] at hd
        have s7 := s6.trans s7
        wtm_at "rd"
        refine rd_tyD hd ?_
        refine ⟨d, _, rfl, rfl, hd, fun v1 fv1 => ?_⟩
        wtm_at "rd"
        refine ⟨v1, d, ord, F', rfl, upd_same, at_upd (ne_of_none hd fv1) hd, fun HI lx bs1 t1 fl1 hl1 tl1 pm1 srt1 => ?_⟩
        have sI : Same H5 HI := fun b o h => t1 _ _ (same_add s7 fv1 b o h)
        wtm_at "rd"
        refine rd_reprV (rep (srtDp rg hl1 tl1 pm1 srt1)) ?_
        wtm_at "rd"
        refine rd_reprV (rep (Dp.same du sI)) ?_
        wtm_at "rd"
        rw [decide_eq_true rfl]
        wtm_at "rd"
        exact ⟨_, rfl, sI⟩
      · refine rd_isi ty (t := .lst) (by decide +kernel) ?_
        rw [show isT .tup .lst = false from by decide +kernel]
        wtm_at "rd"
        exact ⟨_, rfl, sB⟩
    rintro σ' HC ⟨u10, rfl, sC⟩
    clear sB
    wtm_at "rd"
    intro z0 fz0
    have s6 := same_add (o := .tup []) sC fz0
    have hz0 := @upd_same HC z0 (.tup [])
    generalize upd HC z0 (.tup []) = H6 at s6 hz0
    clear sC fz0
    wtm_at "rd"
    refine rd_tupleL (SqL.of (s6 _ _ hmv)) ?_
    intro z1 fz1
    have s7 := same_add (o := .tup cs) s6 fz1
    have hz0 := Same.new (o := .tup cs) fz1 _ _ hz0
    have hz1 := @upd_same H6 z1 (.tup cs)
    generalize upd H6 z1 (.tup cs) = H7 at s7 hz0 hz1
    clear s6 fz1
    wtm_at "rd"
    intro zl fzl
    have k8 := Same.new (o := .lst [.non, .ref z0, .ref z1, .int 3]) fzl
    have s8 := s7.trans k8
    have hz0 := k8 _ _ hz0
    have hz1 := k8 _ _ hz1
    have hzl := @upd_same H7 zl (.lst [.non, .ref z0, .ref z1, .int 3])
    generalize upd H7 zl (.lst [.non, .ref z0, .ref z1, .int 3]) = H8 at s8 hz0 hz1 hzl
    clear s7 k8 fzl
    refine rd_forL (SqL.of hzl) ?_
    refine turnsL (K := K) (xs := [.non, .ref z0, .ref z1, .int 3]) (fun i σ H' => ∃ u11 : Option V, σ = [some (.ref a), some (.ref p), some (.ref g), some (.ref st), some (.ref ps), some (.ref l), some (.ref mv), some (.str S), some u, u9, u10, u11] ∧ Same H8 H') ⟨_, rfl, fun _ _ h => h⟩ ?_ ?_ ?_
    · rintro i σ H' hi ⟨u11, rfl, s⟩
      exact SqL.of (s _ _ hzl)
    · rintro i y σ H9 hy ⟨u11, rfl, s9⟩
      have my := List.mem_of_getElem? hy
      have ty : ∃ t, TyIs K H9 y t ∧ isT t .lst = false := by
        simp only [List.mem_cons, List.not_mem_nil, or_false] at my
        rcases my with rfl | rfl | rfl | rfl
        · exact ⟨_, ty_non, by decide +kernel⟩
        · exact ⟨_, ty_tup (s9 _ _ hz0), by decide +kernel⟩
        · exact ⟨_, ty_tup (s9 _ _ hz1), by decide +kernel⟩
        · exact ⟨_, ty_int, by decide +kernel⟩
      have sX := s8.trans s9
      wtm_at "rd"
      refine ⟨g, n, e, st, ps, y, ns, ord, pn, es, f, F', .bad none, rfl, gs.same sX, SqT.of (sX _ _ hps), .inl ⟨rfl, ty⟩, fun v HX sv dv => ?_⟩
      wtm_at "rd"
      intro tw ftw
      have kw := Same.new (o := .tup [.str "move", .non, .bl true, .bl false, .bl false]) ftw
      have hw := @upd_same HX tw (.tup [.str "move", .non, .bl true, .bl false, .bl false])
      have dv := Dp.same dv kw
      have sY := (s9.trans sv).trans kw
      generalize upd HX tw (.tup [.str "move", .non, .bl true, .bl false, .bl false]) = HY at hw dv sY
      obtain ⟨av, rfl, _⟩ := dp_refT dv
      refine ⟨_, .tuple [.str "move", .none, .bool true, .bool false, .bool false], dv, .tup (SqT.of hw) (.cons (.str _) (.cons .non (.cons (.bl _) (.cons (.bl _) (.cons (.bl _) .nil))))), (show SeqAt.shaped (.tuple [.str "move", .none, .bool true, .bool false, .bool false]) = true by decide +kernel), by decide +kernel, ?_⟩
      rw [show PyData.eqv (resD ord F' (.bad none)) (.tuple [.str "move", .none, .bool true, .bool false, .bool false]) = true from eqv_mv0]
      wtm_at "rd"
      exact ⟨_, rfl, sY⟩
    rintro σ H9 ⟨u11, rfl, s9⟩
    have sX := s8.trans s9
    wtm_at "rd"
    intro tt ftt
    have sY := same_add (o := .tup [.ref g, .ref st, .ref mv, .ref ps]) sX ftt
    have htt := @upd_same H9 tt (.tup [.ref g, .ref st, .ref mv, .ref ps])
    generalize upd H9 tt (.tup [.ref g, .ref st, .ref mv, .ref ps]) = HZ at sY htt
    wtm_at "rd"
    refine repr42 (gs.same sY) pin (by omega) (sY _ _ hmv) (hits.same sY) c5 (sY _ _ hps) htt ?_
    rw [hS]
    wtm_at "rd"
    rw [decide_eq_true rfl]
    exact q _
end
end Law

/-! the law's own head, one table of code objects tracked -/
namespace U
open PySem PySem.Spec PyProof.Rows L2 LamX
end U
namespace U
open PySem PySem.Spec PyProof.Rows L2
end U

end
namespace Law
open PySem PySem.Spec PyProof.Rows L2 U
theorem all_mk {l : PySem.W.OpenLaw} {w : World} {K : PySem.W.Frag} {h : Heap} {mg : Str → Option Value} {fa : Addr} (X : K.In h) (G : h.Ns mainGlobals mg) (hfa : mg "law" = some (.ref fa))
    {od0 an0 : Option Addr} {sl0 : Array (Option Value)} {f0 : Addr} {oc0 kV0 dc0 pm0 cd0 ct0 : Value}
    {od1 an1 : Option Addr} {sl1 : Array (Option Value)} {f1 : Addr} {oc1 kV1 dc1 pm1 cd1 ct1 : Value}
    {od2 an2 : Option Addr} {sl2 : Array (Option Value)} {f2 : Addr} {oc2 kV2 dc2 pm2 cd2 ct2 : Value}
    {od3 an3 : Option Addr} {sl3 : Array (Option Value)} {f3 : Addr} {oc3 kV3 dc3 pm3 cd3 ct3 : Value}
    {od4 an4 : Option Addr} {sl4 : Array (Option Value)} {f4 : Addr} {oc4 kV4 dc4 pm4 cd4 ct4 : Value}
    {od5 an5 : Option Addr} {sl5 : Array (Option Value)} {f5 : Addr} {oc5 kV5 dc5 pm5 cd5 ct5 : Value}
    {D6 T6 : Addr} {odT6 : Option Addr} {nT6 : Nat} {slT6 : Array (Option Value)}
    {od6 an6 : Option Addr} {sl6 : Array (Option Value)} {f6 : Addr} {oc6 dc6 pm6 cd6 ct6 : Value}
    {od7 an7 : Option Addr} {sl7 : Array (Option Value)} {f7 : Addr} {oc7 kV7 dc7 pm7 cd7 ct7 : Value}
    {D8 T8 : Addr} {odT8 : Option Addr} {nT8 : Nat} {slT8 : Array (Option Value)}
    {od8 an8 : Option Addr} {sl8 : Array (Option Value)} {f8 : Addr} {oc8 dc8 pm8 cd8 ct8 : Value}
    {od9 an9 : Option Addr} {sl9 : Array (Option Value)} {f9 : Addr} {oc9 kV9 dc9 pm9 cd9 ct9 : Value}
    {od10 an10 : Option Addr} {sl10 : Array (Option Value)} {f10 : Addr} {oc10 kV10 dc10 pm10 cd10 ct10 : Value}
    {D11 T11 : Addr} {odT11 : Option Addr} {nT11 : Nat} {slT11 : Array (Option Value)}
    {od11 an11 : Option Addr} {sl11 : Array (Option Value)} {f11 : Addr} {oc11 dc11 pm11 cd11 ct11 : Value}
    {od12 an12 : Option Addr} {sl12 : Array (Option Value)} {f12 : Addr} {oc12 kV12 dc12 pm12 cd12 ct12 : Value}
    {od13 an13 : Option Addr} {sl13 : Array (Option Value)} {f13 : Addr} {oc13 kV13 dc13 pm13 cd13 ct13 : Value}
    {od14 an14 : Option Addr} {sl14 : Array (Option Value)} {f14 : Addr} {oc14 kV14 dc14 pm14 cd14 ct14 : Value}
    {od15 an15 : Option Addr} {sl15 : Array (Option Value)} {f15 : Addr} {oc15 kV15 dc15 pm15 cd15 ct15 : Value}
    {od16 an16 : Option Addr} {sl16 : Array (Option Value)} {f16 : Addr} {oc16 kV16 dc16 pm16 cd16 ct16 : Value}
    {od17 an17 : Option Addr} {sl17 : Array (Option Value)} {f17 : Addr} {oc17 kV17 dc17 pm17 cd17 ct17 : Value}
    {od18 an18 : Option Addr} {sl18 : Array (Option Value)} {f18 : Addr} {oc18 kV18 dc18 pm18 cd18 ct18 : Value}
    {od19 an19 : Option Addr} {sl19 : Array (Option Value)} {f19 : Addr} {oc19 kV19 dc19 pm19 cd19 ct19 : Value}
    {od20 an20 : Option Addr} {sl20 : Array (Option Value)} {f20 : Addr} {oc20 kV20 dc20 pm20 cd20 ct20 : Value}
    {od21 an21 : Option Addr} {sl21 : Array (Option Value)} {f21 : Addr} {oc21 kV21 dc21 pm21 cd21 ct21 : Value}
    {od22 an22 : Option Addr} {sl22 : Array (Option Value)} {f22 : Addr} {oc22 kV22 dc22 pm22 cd22 ct22 : Value}
    {od23 an23 : Option Addr} {sl23 : Array (Option Value)} {f23 : Addr} {oc23 kV23 dc23 pm23 cd23 ct23 : Value}
    {od24 an24 : Option Addr} {sl24 : Array (Option Value)} {f24 : Addr} {oc24 kV24 dc24 pm24 cd24 ct24 : Value}
    {va : Addr} {odV : Option Addr} {nV : Nat} {slV : Array (Option Value)} {q0 q1 q2 : Tok}
    {CB : Addr}
    {CE0 fE0 : Addr} {nmE0 qE0 : Str} {NE0 : Addr} {bsE0 : List Value} {snE0 : List Str} {subE0 : List Value} {abE0 : Bool} {colE0 : Option Bool} {ddE0 : Option Addr} {mA0 mB0 mC0 mD0 mE0 : Option Value} {odE0 anE0 : Option Addr} {slE0 : Array (Option Value)} {ocE0 kVE0 dcE0 pmE0 cdE0 ctE0 : Value}
    {CE1 fE1 : Addr} {nmE1 qE1 : Str} {NE1 : Addr} {bsE1 : List Value} {snE1 : List Str} {subE1 : List Value} {abE1 : Bool} {colE1 : Option Bool} {ddE1 : Option Addr} {mA1 mB1 mC1 mD1 mE1 : Option Value} {odE1 anE1 : Option Addr} {slE1 : Array (Option Value)} {ocE1 kVE1 dcE1 pmE1 cdE1 ctE1 : Value}
    {CE2 fE2 : Addr} {nmE2 qE2 : Str} {NE2 : Addr} {bsE2 : List Value} {snE2 : List Str} {subE2 : List Value} {abE2 : Bool} {colE2 : Option Bool} {ddE2 : Option Addr} {mA2 mB2 mC2 mD2 mE2 : Option Value} {odE2 anE2 : Option Addr} {slE2 : Array (Option Value)} {ocE2 kVE2 dcE2 pmE2 cdE2 ctE2 : Value}
    (a0 : PySem.W.nsIn K mainGlobals "has_node" = some (some (.ref f0))) (l0 : K.lookup f0 = some ⟨oc0, od0, .func (PySem.W.fnOf "has_node" "has_node" (defArgs s_has_node) (defBody s_has_node) (defScope s_has_node) .none kV0 dc0 pm0 an0 cd0 ct0), sl0⟩) (c0 : PySem.W.codeIn K cd0 "has_node" = true) (k0 : PySem.W.keepIn K (.ref f0) = true)
    (a1 : PySem.W.nsIn K mainGlobals "edge_of" = some (some (.ref f1))) (l1 : K.lookup f1 = some ⟨oc1, od1, .func (PySem.W.fnOf "edge_of" "edge_of" (defArgs s_edge_of) (defBody s_edge_of) (defScope s_edge_of) .none kV1 dc1 pm1 an1 cd1 ct1), sl1⟩) (c1 : PySem.W.codeIn K cd1 "edge_of" = true) (k1 : PySem.W.keepIn K (.ref f1) = true)
    (a2 : PySem.W.nsIn K mainGlobals "adjacency" = some (some (.ref f2))) (l2 : K.lookup f2 = some ⟨oc2, od2, .func (PySem.W.fnOf "adjacency" "adjacency" (defArgs s_adjacency) (defBody s_adjacency) (defScope s_adjacency) .none kV2 dc2 pm2 an2 cd2 ct2), sl2⟩) (c2 : PySem.W.codeIn K cd2 "adjacency" = true) (k2 : PySem.W.keepIn K (.ref f2) = true)
    (a3 : PySem.W.nsIn K mainGlobals "is_integer" = some (some (.ref f3))) (l3 : K.lookup f3 = some ⟨oc3, od3, .func (PySem.W.fnOf "is_integer" "is_integer" (defArgs s_is_integer) (defBody s_is_integer) (defScope s_is_integer) .none kV3 dc3 pm3 an3 cd3 ct3), sl3⟩) (c3 : PySem.W.codeIn K cd3 "is_integer" = true) (k3 : PySem.W.keepIn K (.ref f3) = true)
    (a4 : PySem.W.nsIn K mainGlobals "is_value" = some (some (.ref f4))) (l4 : K.lookup f4 = some ⟨oc4, od4, .func (PySem.W.fnOf "is_value" "is_value" (defArgs s_is_value) (defBody s_is_value) (defScope s_is_value) .none kV4 dc4 pm4 an4 cd4 ct4), sl4⟩) (c4 : PySem.W.codeIn K cd4 "is_value" = true) (k4 : PySem.W.keepIn K (.ref f4) = true)
    (a5 : PySem.W.nsIn K mainGlobals "values_for" = some (some (.ref f5))) (l5 : K.lookup f5 = some ⟨oc5, od5, .func (PySem.W.fnOf "values_for" "values_for" (defArgs s_values_for) (defBody s_values_for) (defScope s_values_for) .none kV5 dc5 pm5 an5 cd5 ct5), sl5⟩) (c5 : PySem.W.codeIn K cd5 "values_for" = true) (k5 : PySem.W.keepIn K (.ref f5) = true)
    (a6 : PySem.W.nsIn K mainGlobals "available_moves" = some (some (.ref f6))) (l6 : K.lookup f6 = some ⟨oc6, od6, .func (PySem.W.fnOf "available_moves" "available_moves" (defArgs s_available_moves) (defBody s_available_moves) (defScope s_available_moves) .none (.ref D6) dc6 pm6 an6 cd6 ct6), sl6⟩) (c6 : PySem.W.codeIn K cd6 "available_moves" = true) (k6 : PySem.W.keepIn K (.ref f6) = true)
    (d6 : PySem.W.nsIn K D6 "pinned" = some (some (.ref T6))) (t6 : K.lookup T6 = some ⟨.type "tuple", odT6, .seq #[] nT6, slT6⟩)
    (a7 : PySem.W.nsIn K mainGlobals "is_move" = some (some (.ref f7))) (l7 : K.lookup f7 = some ⟨oc7, od7, .func (PySem.W.fnOf "is_move" "is_move" (defArgs s_is_move) (defBody s_is_move) (defScope s_is_move) .none kV7 dc7 pm7 an7 cd7 ct7), sl7⟩) (c7 : PySem.W.codeIn K cd7 "is_move" = true) (k7 : PySem.W.keepIn K (.ref f7) = true)
    (a8 : PySem.W.nsIn K mainGlobals "apply_moves" = some (some (.ref f8))) (l8 : K.lookup f8 = some ⟨oc8, od8, .func (PySem.W.fnOf "apply_moves" "apply_moves" (defArgs s_apply_moves) (defBody s_apply_moves) (defScope s_apply_moves) .none (.ref D8) dc8 pm8 an8 cd8 ct8), sl8⟩) (c8 : PySem.W.codeIn K cd8 "apply_moves" = true) (k8 : PySem.W.keepIn K (.ref f8) = true)
    (d8 : PySem.W.nsIn K D8 "pinned" = some (some (.ref T8))) (t8 : K.lookup T8 = some ⟨.type "tuple", odT8, .seq #[] nT8, slT8⟩)
    (a9 : PySem.W.nsIn K mainGlobals "check_each" = some (some (.ref f9))) (l9 : K.lookup f9 = some ⟨oc9, od9, .func (PySem.W.fnOf "check_each" "check_each" (defArgs s_check_each) (defBody s_check_each) (defScope s_check_each) .none kV9 dc9 pm9 an9 cd9 ct9), sl9⟩) (c9 : PySem.W.codeIn K cd9 "check_each" = true) (k9 : PySem.W.keepIn K (.ref f9) = true)
    (a10 : PySem.W.nsIn K mainGlobals "check_distinct" = some (some (.ref f10))) (l10 : K.lookup f10 = some ⟨oc10, od10, .func (PySem.W.fnOf "check_distinct" "check_distinct" (defArgs s_check_distinct) (defBody s_check_distinct) (defScope s_check_distinct) .none kV10 dc10 pm10 an10 cd10 ct10), sl10⟩) (c10 : PySem.W.codeIn K cd10 "check_distinct" = true) (k10 : PySem.W.keepIn K (.ref f10) = true)
    (a11 : PySem.W.nsIn K mainGlobals "apply_round" = some (some (.ref f11))) (l11 : K.lookup f11 = some ⟨oc11, od11, .func (PySem.W.fnOf "apply_round" "apply_round" (defArgs s_apply_round) (defBody s_apply_round) (defScope s_apply_round) .none (.ref D11) dc11 pm11 an11 cd11 ct11), sl11⟩) (c11 : PySem.W.codeIn K cd11 "apply_round" = true) (k11 : PySem.W.keepIn K (.ref f11) = true)
    (d11 : PySem.W.nsIn K D11 "pinned" = some (some (.ref T11))) (t11 : K.lookup T11 = some ⟨.type "tuple", odT11, .seq #[] nT11, slT11⟩)
    (a12 : PySem.W.nsIn K mainGlobals "_law_box" = some (some (.ref f12))) (l12 : K.lookup f12 = some ⟨oc12, od12, .func (PySem.W.fnOf "_law_box" "_law_box" (defArgs s__law_box) (defBody s__law_box) (defScope s__law_box) .none kV12 dc12 pm12 an12 cd12 ct12), sl12⟩) (c12 : PySem.W.codeIn K cd12 "_law_box" = true) (k12 : PySem.W.keepIn K (.ref f12) = true)
    (a13 : PySem.W.nsIn K mainGlobals "_law_draw" = some (some (.ref f13))) (l13 : K.lookup f13 = some ⟨oc13, od13, .func (PySem.W.fnOf "_law_draw" "_law_draw" (defArgs s__law_draw) (defBody s__law_draw) (defScope s__law_draw) .none kV13 dc13 pm13 an13 cd13 ct13), sl13⟩) (c13 : PySem.W.codeIn K cd13 "_law_draw" = true) (k13 : PySem.W.keepIn K (.ref f13) = true)
    (a14 : PySem.W.nsIn K mainGlobals "_law_stem" = some (some (.ref f14))) (l14 : K.lookup f14 = some ⟨oc14, od14, .func (PySem.W.fnOf "_law_stem" "_law_stem" (defArgs s__law_stem) (defBody s__law_stem) (defScope s__law_stem) .none kV14 dc14 pm14 an14 cd14 ct14), sl14⟩) (c14 : PySem.W.codeIn K cd14 "_law_stem" = true) (k14 : PySem.W.keepIn K (.ref f14) = true)
    (a15 : PySem.W.nsIn K mainGlobals "_law_random_names" = some (some (.ref f15))) (l15 : K.lookup f15 = some ⟨oc15, od15, .func (PySem.W.fnOf "_law_random_names" "_law_random_names" (defArgs s__law_random_names) (defBody s__law_random_names) (defScope s__law_random_names) .none kV15 dc15 pm15 an15 cd15 ct15), sl15⟩) (c15 : PySem.W.codeIn K cd15 "_law_random_names" = true) (k15 : PySem.W.keepIn K (.ref f15) = true)
    (a16 : PySem.W.nsIn K mainGlobals "_law_random_problem" = some (some (.ref f16))) (l16 : K.lookup f16 = some ⟨oc16, od16, .func (PySem.W.fnOf "_law_random_problem" "_law_random_problem" (defArgs s__law_random_problem) (defBody s__law_random_problem) (defScope s__law_random_problem) .none kV16 dc16 pm16 an16 cd16 ct16), sl16⟩) (c16 : PySem.W.codeIn K cd16 "_law_random_problem" = true) (k16 : PySem.W.keepIn K (.ref f16) = true)
    (a17 : PySem.W.nsIn K mainGlobals "_law_neighbors" = some (some (.ref f17))) (l17 : K.lookup f17 = some ⟨oc17, od17, .func (PySem.W.fnOf "_law_neighbors" "_law_neighbors" (defArgs s__law_neighbors) (defBody s__law_neighbors) (defScope s__law_neighbors) .none kV17 dc17 pm17 an17 cd17 ct17), sl17⟩) (c17 : PySem.W.codeIn K cd17 "_law_neighbors" = true) (k17 : PySem.W.keepIn K (.ref f17) = true)
    (a18 : PySem.W.nsIn K mainGlobals "_law_possible" = some (some (.ref f18))) (l18 : K.lookup f18 = some ⟨oc18, od18, .func (PySem.W.fnOf "_law_possible" "_law_possible" (defArgs s__law_possible) (defBody s__law_possible) (defScope s__law_possible) .none kV18 dc18 pm18 an18 cd18 ct18), sl18⟩) (c18 : PySem.W.codeIn K cd18 "_law_possible" = true) (k18 : PySem.W.keepIn K (.ref f18) = true)
    (a19 : PySem.W.nsIn K mainGlobals "_law_unused_name" = some (some (.ref f19))) (l19 : K.lookup f19 = some ⟨oc19, od19, .func (PySem.W.fnOf "_law_unused_name" "_law_unused_name" (defArgs s__law_unused_name) (defBody s__law_unused_name) (defScope s__law_unused_name) .none kV19 dc19 pm19 an19 cd19 ct19), sl19⟩) (c19 : PySem.W.codeIn K cd19 "_law_unused_name" = true) (k19 : PySem.W.keepIn K (.ref f19) = true)
    (a20 : PySem.W.nsIn K mainGlobals "_law_random_moves" = some (some (.ref f20))) (l20 : K.lookup f20 = some ⟨oc20, od20, .func (PySem.W.fnOf "_law_random_moves" "_law_random_moves" (defArgs s__law_random_moves) (defBody s__law_random_moves) (defScope s__law_random_moves) .none kV20 dc20 pm20 an20 cd20 ct20), sl20⟩) (c20 : PySem.W.codeIn K cd20 "_law_random_moves" = true) (k20 : PySem.W.keepIn K (.ref f20) = true)
    (a21 : PySem.W.nsIn K mainGlobals "_law_is_impossible" = some (some (.ref f21))) (l21 : K.lookup f21 = some ⟨oc21, od21, .func (PySem.W.fnOf "_law_is_impossible" "_law_is_impossible" (defArgs s__law_is_impossible) (defBody s__law_is_impossible) (defScope s__law_is_impossible) .none kV21 dc21 pm21 an21 cd21 ct21), sl21⟩) (c21 : PySem.W.codeIn K cd21 "_law_is_impossible" = true) (k21 : PySem.W.keepIn K (.ref f21) = true)
    (a22 : PySem.W.nsIn K mainGlobals "_law_compute_expected" = some (some (.ref f22))) (l22 : K.lookup f22 = some ⟨oc22, od22, .func (PySem.W.fnOf "_law_compute_expected" "_law_compute_expected" (defArgs s__law_compute_expected) (defBody s__law_compute_expected) (defScope s__law_compute_expected) .none kV22 dc22 pm22 an22 cd22 ct22), sl22⟩) (c22 : PySem.W.codeIn K cd22 "_law_compute_expected" = true) (k22 : PySem.W.keepIn K (.ref f22) = true)
    (a23 : PySem.W.nsIn K mainGlobals "_law_call" = some (some (.ref f23))) (l23 : K.lookup f23 = some ⟨oc23, od23, .func (PySem.W.fnOf "_law_call" "_law_call" (defArgs s__law_call) (defBody s__law_call) (defScope s__law_call) .none kV23 dc23 pm23 an23 cd23 ct23), sl23⟩) (c23 : PySem.W.codeIn K cd23 "_law_call" = true) (k23 : PySem.W.keepIn K (.ref f23) = true)
    (a24 : PySem.W.nsIn K mainGlobals "law" = some (some (.ref f24))) (l24 : K.lookup f24 = some ⟨oc24, od24, .func (PySem.W.fnOf "law" "law" (defArgs s_law) (defBody s_law) (defScope s_law) .none kV24 dc24 pm24 an24 cd24 ct24), sl24⟩) (c24 : PySem.W.codeIn K cd24 "law" = true) (k24 : PySem.W.keepIn K (.ref f24) = true)
    (z0 : PySem.W.nsIn K mainGlobals "len" = some none)
    (z1 : PySem.W.nsIn K mainGlobals "abs" = some none)
    (z2 : PySem.W.nsIn K mainGlobals "max" = some none)
    (z3 : PySem.W.nsIn K mainGlobals "min" = some none)
    (z4 : PySem.W.nsIn K mainGlobals "sorted" = some none)
    (z5 : PySem.W.nsIn K mainGlobals "isinstance" = some none)
    (z6 : PySem.W.nsIn K mainGlobals "int" = some none)
    (z7 : PySem.W.nsIn K mainGlobals "list" = some none)
    (z8 : PySem.W.nsIn K mainGlobals "tuple" = some none)
    (z9 : PySem.W.nsIn K mainGlobals "str" = some none)
    (z10 : PySem.W.nsIn K mainGlobals "range" = some none)
    (z11 : PySem.W.nsIn K mainGlobals "enumerate" = some none)
    (z12 : PySem.W.nsIn K mainGlobals "dict" = some none)
    (z13 : PySem.W.nsIn K mainGlobals "sum" = some none)
    (z14 : PySem.W.nsIn K mainGlobals "all" = some none)
    (z15 : PySem.W.nsIn K mainGlobals "any" = some none)
    (z16 : PySem.W.nsIn K mainGlobals "repr" = some none)
    (z17 : PySem.W.nsIn K mainGlobals "set" = some none)
    (z18 : PySem.W.nsIn K mainGlobals "zip" = some none)
    (z19 : PySem.W.nsIn K mainGlobals "reversed" = some none)
    (z20 : PySem.W.nsIn K mainGlobals "bool" = some none)
    (v0 : PySem.W.nsIn K mainGlobals "VALUES" = some (some (.ref va))) (v1 : K.lookup va = some ⟨.type "tuple", odV, .seq #[.int 0 q0, .int 1 q1, .int 2 q2] nV, slV⟩)
    (y0 : PySem.W.nsIn K mainGlobals "InputError" = some (some (.ref CB))) (y1 : PySem.W.keepIn K (.ref CB) = true) (y2 : PySem.W.subIn K (.ref CB) (.type "BaseException") = some true) (y3 : PySem.W.typeIn K (.ref CB) = some (.type "type")) (y4 : PySem.W.isClsIn K CB = true)
    (y5 : PySem.W.specialIn K (.ref CB) "__getattribute__" = some (some (.builtin "type.__getattribute__"))) (y6 : PySem.W.readsIn K CB (.type "type") = true) (y7 : PySem.W.findCls K (.ref CB) (.type "type") "__init__" = some (.val (.builtin "ValueError.__init__")))
    (xa0 : PySem.W.nsIn K mainGlobals "InvalidMove" = some (some (.ref CE0))) (xb0 : K.lookup CE0 = some (excClassObj nmE0 qE0 CE0 NE0 bsE0 [.ref CB, .type "ValueError", .type "Exception", .type "BaseException", .type "object"] true snE0 subE0 abE0 colE0 ddE0 mA0 mB0 mC0 mD0 mE0 "ValueError.__new__")) (xc0 : PySem.W.findIn K (.ref CE0) "__setattr__" = some (some (.builtin "object.__setattr__"))) (xd0 : PySem.W.findIn K (.ref CE0) "__getattribute__" = some (some (.builtin "BaseException.__getattribute__"))) (xe0 : PySem.W.findIn K (.ref CE0) "__getattr__" = some none) (xf0 : PySem.W.findIn K (.ref CE0) "position" = some none) (xg0 : PySem.W.findIn K (.ref CE0) "__init__" = some (some (.ref fE0))) (xh0 : PySem.W.typeIn K (.ref fE0) = some (.type "function")) (xi0 : K.lookup fE0 = some ⟨ocE0, odE0, .func (PySem.W.fnOf "__init__" "InvalidMove.__init__" (defArgs s_InvalidMove_init) (defBody s_InvalidMove_init) (defScope s_InvalidMove_init) .none kVE0 dcE0 pmE0 anE0 cdE0 ctE0), slE0⟩) (xj0 : PySem.W.codeIn K cdE0 "InvalidMove.__init__" = true) (xk0 : PySem.W.keepIn K (.ref fE0) = true) (xl0 : PySem.W.keepIn K (.ref CE0) = true) (xm0 : PySem.W.subIn K (.ref CE0) (.type "BaseException") = some true) (xn0 : PySem.W.typeIn K (.ref CE0) = some (.type "type")) (xo0 : PySem.W.hasDictIn K CE0 = true) (xp0 : PySem.W.isClsIn K CE0 = true) (xq0 : PySem.W.subIn K (.ref CE0) (.ref CE0) = some true) (xr0 : PySem.W.subIn K (.ref CE0) (.ref CB) = some true)
    (xu0 : PySem.W.findIn K (.ref CE0) "__class__" = some (some (.builtin "object.__class__"))) (xv0 : PySem.W.specialIn K (.builtin "object.__class__") "__get__" = some (some (.builtin "getset_descriptor.__get__"))) (xw0 : PySem.W.takesIn K (.builtin "object.__class__") = some true) (xx0 : PySem.W.mroIn K CE0 (.type "object") = some true)
    (xa1 : PySem.W.nsIn K mainGlobals "DuplicateNode" = some (some (.ref CE1))) (xb1 : K.lookup CE1 = some (excClassObj nmE1 qE1 CE1 NE1 bsE1 [.ref CB, .type "ValueError", .type "Exception", .type "BaseException", .type "object"] true snE1 subE1 abE1 colE1 ddE1 mA1 mB1 mC1 mD1 mE1 "ValueError.__new__")) (xc1 : PySem.W.findIn K (.ref CE1) "__setattr__" = some (some (.builtin "object.__setattr__"))) (xd1 : PySem.W.findIn K (.ref CE1) "__getattribute__" = some (some (.builtin "BaseException.__getattribute__"))) (xe1 : PySem.W.findIn K (.ref CE1) "__getattr__" = some none) (xf1 : PySem.W.findIn K (.ref CE1) "node" = some none) (xg1 : PySem.W.findIn K (.ref CE1) "__init__" = some (some (.ref fE1))) (xh1 : PySem.W.typeIn K (.ref fE1) = some (.type "function")) (xi1 : K.lookup fE1 = some ⟨ocE1, odE1, .func (PySem.W.fnOf "__init__" "DuplicateNode.__init__" (defArgs s_DuplicateNode_init) (defBody s_DuplicateNode_init) (defScope s_DuplicateNode_init) .none kVE1 dcE1 pmE1 anE1 cdE1 ctE1), slE1⟩) (xj1 : PySem.W.codeIn K cdE1 "DuplicateNode.__init__" = true) (xk1 : PySem.W.keepIn K (.ref fE1) = true) (xl1 : PySem.W.keepIn K (.ref CE1) = true) (xm1 : PySem.W.subIn K (.ref CE1) (.type "BaseException") = some true) (xn1 : PySem.W.typeIn K (.ref CE1) = some (.type "type")) (xo1 : PySem.W.hasDictIn K CE1 = true) (xp1 : PySem.W.isClsIn K CE1 = true) (xq1 : PySem.W.subIn K (.ref CE1) (.ref CE1) = some true) (xr1 : PySem.W.subIn K (.ref CE1) (.ref CB) = some true)
    (xu1 : PySem.W.findIn K (.ref CE1) "__class__" = some (some (.builtin "object.__class__"))) (xv1 : PySem.W.specialIn K (.builtin "object.__class__") "__get__" = some (some (.builtin "getset_descriptor.__get__"))) (xw1 : PySem.W.takesIn K (.builtin "object.__class__") = some true) (xx1 : PySem.W.mroIn K CE1 (.type "object") = some true)
    (xa2 : PySem.W.nsIn K mainGlobals "AdjacentMoves" = some (some (.ref CE2))) (xb2 : K.lookup CE2 = some (excClassObj nmE2 qE2 CE2 NE2 bsE2 [.ref CB, .type "ValueError", .type "Exception", .type "BaseException", .type "object"] true snE2 subE2 abE2 colE2 ddE2 mA2 mB2 mC2 mD2 mE2 "ValueError.__new__")) (xc2 : PySem.W.findIn K (.ref CE2) "__setattr__" = some (some (.builtin "object.__setattr__"))) (xd2 : PySem.W.findIn K (.ref CE2) "__getattribute__" = some (some (.builtin "BaseException.__getattribute__"))) (xe2 : PySem.W.findIn K (.ref CE2) "__getattr__" = some none) (xf2 : PySem.W.findIn K (.ref CE2) "edge" = some none) (xg2 : PySem.W.findIn K (.ref CE2) "__init__" = some (some (.ref fE2))) (xh2 : PySem.W.typeIn K (.ref fE2) = some (.type "function")) (xi2 : K.lookup fE2 = some ⟨ocE2, odE2, .func (PySem.W.fnOf "__init__" "AdjacentMoves.__init__" (defArgs s_AdjacentMoves_init) (defBody s_AdjacentMoves_init) (defScope s_AdjacentMoves_init) .none kVE2 dcE2 pmE2 anE2 cdE2 ctE2), slE2⟩) (xj2 : PySem.W.codeIn K cdE2 "AdjacentMoves.__init__" = true) (xk2 : PySem.W.keepIn K (.ref fE2) = true) (xl2 : PySem.W.keepIn K (.ref CE2) = true) (xm2 : PySem.W.subIn K (.ref CE2) (.type "BaseException") = some true) (xn2 : PySem.W.typeIn K (.ref CE2) = some (.type "type")) (xo2 : PySem.W.hasDictIn K CE2 = true) (xp2 : PySem.W.isClsIn K CE2 = true) (xq2 : PySem.W.subIn K (.ref CE2) (.ref CE2) = some true) (xr2 : PySem.W.subIn K (.ref CE2) (.ref CB) = some true)
    (xu2 : PySem.W.findIn K (.ref CE2) "__class__" = some (some (.builtin "object.__class__"))) (xv2 : PySem.W.specialIn K (.builtin "object.__class__") "__get__" = some (some (.builtin "getset_descriptor.__get__"))) (xw2 : PySem.W.takesIn K (.builtin "object.__class__") = some true) (xx2 : PySem.W.mroIn K CE2 (.type "object") = some true)
    (zDM : PySem.W.subIn K (.ref CE1) (.ref CE0) = some false)
    (zAM : PySem.W.subIn K (.ref CE2) (.ref CE0) = some false)
    (zAD : PySem.W.subIn K (.ref CE2) (.ref CE1) = some false)
    (zMD : PySem.W.subIn K (.ref CE0) (.ref CE1) = some false)
    (zMA : PySem.W.subIn K (.ref CE0) (.ref CE2) = some false)
    (zDA : PySem.W.subIn K (.ref CE1) (.ref CE2) = some false) :
    ∃ fd : FuncData, (∀ (s : Shared) (u : Value), BindsTo s fd ⟨[u], []⟩ [("_law_script", u)]) ∧ ∀ base : Heap, K.In base → base.Ns mainGlobals mg → FnG l.prog w K mg base CX0 7 fa fd ["_law_script"] (spLaw K) := by
  have e := hfa.symm.trans (PySem.W.mg_of X G a24)
  cases e
  have n_len := PySem.W.mg_none_of X G z0
  have n_abs := PySem.W.mg_none_of X G z1
  have n_max := PySem.W.mg_none_of X G z2
  have n_min := PySem.W.mg_none_of X G z3
  have n_sorted := PySem.W.mg_none_of X G z4
  have n_isinstance := PySem.W.mg_none_of X G z5
  have n_int := PySem.W.mg_none_of X G z6
  have n_list := PySem.W.mg_none_of X G z7
  have n_tuple := PySem.W.mg_none_of X G z8
  have n_str := PySem.W.mg_none_of X G z9
  have n_range := PySem.W.mg_none_of X G z10
  have n_enumerate := PySem.W.mg_none_of X G z11
  have n_dict := PySem.W.mg_none_of X G z12
  have n_sum := PySem.W.mg_none_of X G z13
  have n_all := PySem.W.mg_none_of X G z14
  have n_any := PySem.W.mg_none_of X G z15
  have n_repr := PySem.W.mg_none_of X G z16
  have n_set := PySem.W.mg_none_of X G z17
  have n_zip := PySem.W.mg_none_of X G z18
  have n_reversed := PySem.W.mg_none_of X G z19
  have n_bool := PySem.W.mg_none_of X G z20
  have B : Bt mg := { len := n_len, abs := n_abs, max := n_max, min := n_min, sorted := n_sorted, isinstance := n_isinstance, int := n_int, list := n_list, tuple := n_tuple, str := n_str, range := n_range, enumerate := n_enumerate, dict := n_dict, sum := n_sum, all := n_all, any := n_any, repr := n_repr, set := n_set, zip := n_zip, reversed := n_reversed }
  have hV := PySem.W.mg_of X G v0
  have sV : ∀ H, SqT K H va ([0, 1, 2].map V.int) := fun H => .inr ⟨_, _, _, v1, rfl, rfl, (by show 3 ≤ sizeLine; decide), .cons ⟨_, rfl⟩ (.cons ⟨_, rfl⟩ (.cons ⟨_, rfl⟩ .nil))⟩
  have F0 := fun_mk (st := s_has_node) l0 c0 k0
  have b0 := F0.binds (ps := ["graph", "candidate"]) fun _ _ _ _ _ _ us hl => match us, hl with | [_, _], _ => rfl
  have F1 := fun_mk (st := s_edge_of) l1 c1 k1
  have b1 := F1.binds (ps := ["first", "second"]) fun _ _ _ _ _ _ us hl => match us, hl with | [_, _], _ => rfl
  have F2 := fun_mk (st := s_adjacency) l2 c2 k2
  have b2 := F2.binds (ps := ["graph"]) fun _ _ _ _ _ _ us hl => match us, hl with | [_], _ => rfl
  have F3 := fun_mk (st := s_is_integer) l3 c3 k3
  have b3 := F3.binds (ps := ["candidate"]) fun _ _ _ _ _ _ us hl => match us, hl with | [_], _ => rfl
  have F4 := fun_mk (st := s_is_value) l4 c4 k4
  have b4 := F4.binds (ps := ["candidate"]) fun _ _ _ _ _ _ us hl => match us, hl with | [_], _ => rfl
  have F5 := fun_mk (st := s_values_for) l5 c5 k5
  have b5 := F5.binds (ps := ["state", "node", "adjacent", "pinned"]) fun _ _ _ _ _ _ us hl => match us, hl with | [_, _, _, _], _ => rfl
  have sT6 : ∀ H, SqT K H T6 [] := fun H => .inr ⟨_, _, _, t6, rfl, rfl, (by show 0 ≤ sizeLine; decide), .nil⟩
  have FD6 : FunD K "available_moves" "available_moves" (defArgs s_available_moves) (defBody s_available_moves) (defScope s_available_moves) [] [("pinned", .ref T6)] f6 _ := ⟨⟨_, _, _, _, _, _, _, _, _, _, rfl, l6, c6, .inl ⟨rfl, rfl⟩, .inr ⟨D6, rfl, fun q hq => by
    rw [List.mem_singleton] at hq
    subst hq
    exact ⟨_, d6, rfl⟩⟩⟩, k6⟩
  obtain ⟨ds6, vd6, bd6⟩ := FD6.binds0 (ps := ["graph", "state", "pinned"]) 2 (by simp) rfl fun D doc pm an cdv ct us ks hu hk => match us, ks, hu, hk with | [_, _], [_], _, _ => ⟨_, _, _, _, _, _, rfl, rfl, rfl⟩
  have F6 := fun_mk (st := s_available_moves) l6 c6 k6
  have F7 := fun_mk (st := s_is_move) l7 c7 k7
  have b7 := F7.binds (ps := ["graph", "state", "adjacent", "candidate", "pinned"]) fun _ _ _ _ _ _ us hl => match us, hl with | [_, _, _, _, _], _ => rfl
  have sT8 : ∀ H, SqT K H T8 [] := fun H => .inr ⟨_, _, _, t8, rfl, rfl, (by show 0 ≤ sizeLine; decide), .nil⟩
  have FD8 : FunD K "apply_moves" "apply_moves" (defArgs s_apply_moves) (defBody s_apply_moves) (defScope s_apply_moves) [] [("pinned", .ref T8)] f8 _ := ⟨⟨_, _, _, _, _, _, _, _, _, _, rfl, l8, c8, .inl ⟨rfl, rfl⟩, .inr ⟨D8, rfl, fun q hq => by
    rw [List.mem_singleton] at hq
    subst hq
    exact ⟨_, d8, rfl⟩⟩⟩, k8⟩
  obtain ⟨ds8, vd8, bd8⟩ := FD8.binds0 (ps := ["graph", "state", "moves", "pinned"]) 3 (by simp) rfl fun D doc pm an cdv ct us ks hu hk => match us, ks, hu, hk with | [_, _, _], [_], _, _ => ⟨_, _, _, _, _, _, rfl, rfl, rfl⟩
  have F8 := fun_mk (st := s_apply_moves) l8 c8 k8
  have F9 := fun_mk (st := s_check_each) l9 c9 k9
  have b9 := F9.binds (ps := ["graph", "state", "moves", "pinned"]) fun _ _ _ _ _ _ us hl => match us, hl with | [_, _, _, _], _ => rfl
  have F10 := fun_mk (st := s_check_distinct) l10 c10 k10
  have b10 := F10.binds (ps := ["nodes"]) fun _ _ _ _ _ _ us hl => match us, hl with | [_], _ => rfl
  have sT11 : ∀ H, SqT K H T11 [] := fun H => .inr ⟨_, _, _, t11, rfl, rfl, (by show 0 ≤ sizeLine; decide), .nil⟩
  have FD11 : FunD K "apply_round" "apply_round" (defArgs s_apply_round) (defBody s_apply_round) (defScope s_apply_round) [] [("pinned", .ref T11)] f11 _ := ⟨⟨_, _, _, _, _, _, _, _, _, _, rfl, l11, c11, .inl ⟨rfl, rfl⟩, .inr ⟨D11, rfl, fun q hq => by
    rw [List.mem_singleton] at hq
    subst hq
    exact ⟨_, d11, rfl⟩⟩⟩, k11⟩
  obtain ⟨ds11, vd11, bd11⟩ := FD11.binds0 (ps := ["graph", "state", "moves", "pinned"]) 3 (by simp) rfl fun D doc pm an cdv ct us ks hu hk => match us, ks, hu, hk with | [_, _, _], [_], _, _ => ⟨_, _, _, _, _, _, rfl, rfl, rfl⟩
  have F11 := fun_mk (st := s_apply_round) l11 c11 k11
  have F12 := fun_mk (st := s__law_box) l12 c12 k12
  have b12 := F12.binds (ps := ["_law_script"]) fun _ _ _ _ _ _ us hl => match us, hl with | [_], _ => rfl
  have F13 := fun_mk (st := s__law_draw) l13 c13 k13
  have b13 := F13.binds (ps := ["_law_source", "_law_count"]) fun _ _ _ _ _ _ us hl => match us, hl with | [_, _], _ => rfl
  have F14 := fun_mk (st := s__law_stem) l14 c14 k14
  have b14 := F14.binds (ps := ["_law_source"]) fun _ _ _ _ _ _ us hl => match us, hl with | [_], _ => rfl
  have F15 := fun_mk (st := s__law_random_names) l15 c15 k15
  have b15 := F15.binds (ps := ["_law_source", "_law_count"]) fun _ _ _ _ _ _ us hl => match us, hl with | [_, _], _ => rfl
  have F16 := fun_mk (st := s__law_random_problem) l16 c16 k16
  have b16 := F16.binds (ps := ["_law_source", "_law_most"]) fun _ _ _ _ _ _ us hl => match us, hl with | [_, _], _ => rfl
  have F17 := fun_mk (st := s__law_neighbors) l17 c17 k17
  have b17 := F17.binds (ps := ["_law_graph", "_law_node"]) fun _ _ _ _ _ _ us hl => match us, hl with | [_, _], _ => rfl
  have F18 := fun_mk (st := s__law_possible) l18 c18 k18
  have b18 := F18.binds (ps := ["_law_graph", "_law_state", "_law_pins", "_law_node"]) fun _ _ _ _ _ _ us hl => match us, hl with | [_, _, _, _], _ => rfl
  have F19 := fun_mk (st := s__law_unused_name) l19 c19 k19
  have b19 := F19.binds (ps := ["_law_graph"]) fun _ _ _ _ _ _ us hl => match us, hl with | [_], _ => rfl
  have F20 := fun_mk (st := s__law_random_moves) l20 c20 k20
  have b20 := F20.binds (ps := ["_law_source", "_law_graph", "_law_state", "_law_pins"]) fun _ _ _ _ _ _ us hl => match us, hl with | [_, _, _, _], _ => rfl
  have F21 := fun_mk (st := s__law_is_impossible) l21 c21 k21
  have b21 := F21.binds (ps := ["_law_possible_here", "_law_candidate"]) fun _ _ _ _ _ _ us hl => match us, hl with | [_, _], _ => rfl
  have F22 := fun_mk (st := s__law_compute_expected) l22 c22 k22
  have b22 := F22.binds (ps := ["_law_graph", "_law_state", "_law_possible_here", "_law_items"]) fun _ _ _ _ _ _ us hl => match us, hl with | [_, _, _, _], _ => rfl
  have F23 := fun_mk (st := s__law_call) l23 c23 k23
  have b23 := F23.binds (ps := ["_law_graph", "_law_state", "_law_items", "_law_pins"]) fun _ _ _ _ _ _ us hl => match us, hl with | [_, _, _, _], _ => rfl
  have F24 := fun_mk (st := s_law) l24 c24 k24
  have b24 := F24.binds (ps := ["_law_script"]) fun _ _ _ _ _ _ us hl => match us, hl with | [_], _ => rfl
  have own0 := own_mk (x := "InvalidMove") (f := "position") (PySem.W.mg_of X G xa0) (PySem.W.mg_of X G y0) xb0 xc0 xd0 xe0 xf0 xg0 xh0 xl0 xm0 xn0 xo0 xp0 xq0 y1 y2 y3 y4 xr0 y5 y6 y7
  have FE0 := fun_mk (st := s_InvalidMove_init) xi0 xj0 xk0
  have bE0 := FE0.binds (ps := ["self", "position"]) fun _ _ _ _ _ _ us hl => match us, hl with | [_, _], _ => rfl
  have own1 := own_mk (x := "DuplicateNode") (f := "node") (PySem.W.mg_of X G xa1) (PySem.W.mg_of X G y0) xb1 xc1 xd1 xe1 xf1 xg1 xh1 xl1 xm1 xn1 xo1 xp1 xq1 y1 y2 y3 y4 xr1 y5 y6 y7
  have FE1 := fun_mk (st := s_DuplicateNode_init) xi1 xj1 xk1
  have bE1 := FE1.binds (ps := ["self", "node"]) fun _ _ _ _ _ _ us hl => match us, hl with | [_, _], _ => rfl
  have own2 := own_mk (x := "AdjacentMoves") (f := "edge") (PySem.W.mg_of X G xa2) (PySem.W.mg_of X G y0) xb2 xc2 xd2 xe2 xf2 xg2 xh2 xl2 xm2 xn2 xo2 xp2 xq2 y1 y2 y3 y4 xr2 y5 y6 y7
  have FE2 := fun_mk (st := s_AdjacentMoves_init) xi2 xj2 xk2
  have bE2 := FE2.binds (ps := ["self", "edge"]) fun _ _ _ _ _ _ us hl => match us, hl with | [_, _], _ => rfl
  have is42 : Is42 K mg CE0 CE1 CE2 CB := ⟨⟨xd0, xe0, xm0, xo0, xu0, xv0, xw0, xx0⟩, ⟨xd1, xe1, xm1, xo1, xu1, xv1, xw1, xx1⟩, ⟨xd2, xe2, xm2, xo2, xu2, xv2, xw2, xx2⟩, PySem.W.mg_of X G xa0, PySem.W.mg_of X G xa1, PySem.W.mg_of X G xa2, PySem.W.mg_of X G y0, exm_subE xm0 xm0 xp0 xn0 xq0, exm_subE xm1 xm0 xp0 xn0 zDM, exm_subE xm1 xm1 xp1 xn1 xq1, exm_subE xm2 xm0 xp0 xn0 zAM, exm_subE xm2 xm1 xp1 xn1 zAD, exm_subE xm2 xm2 xp2 xn2 xq2, kit_refT y4 y3 xr0, kit_ref xp1 xn1 zMD xq0, kit_ref xp2 xn2 zMA xq0, kit_refT y4 y3 xr1, kit_ref xp0 xn0 zDM xq1, kit_ref xp2 xn2 zDA xq1, kit_refT y4 y3 xr2, kit_ref xp0 xn0 zAM xq2, kit_ref xp1 xn1 zAD xq2⟩
  refine ⟨PySem.W.fnOf "law" "law" (defArgs s_law) (defBody s_law) (defScope s_law) .none kV24 dc24 pm24 an24 cd24 ct24, fun s v => .of_eq rfl, fun base _ _ => ?_⟩
  have err0 : ErrX l.prog w K mg base "InvalidMove" "position" CE0 CB := ⟨⟨_, _, own0, ok_initMv FE0 own0, bE0⟩⟩
  have err1 : ErrX l.prog w K mg base "DuplicateNode" "node" CE1 CB := ⟨⟨_, _, own1, ok_initDN FE1 own1, bE1⟩⟩
  have err2 : ErrX l.prog w K mg base "AdjacentMoves" "edge" CE2 CB := ⟨⟨_, _, own2, ok_initAM FE2 own2, bE2⟩⟩
  have c_has_node : Cal l.prog w K mg base (CX0) 1 "has_node" (spHas) := ⟨⟨_, _, _, ok_has F0 B, PySem.W.mg_of X G a0, k0, b0⟩⟩
  have c_edge_of : Cal l.prog w K mg base (CX0) 1 "edge_of" (spEdgeR) := ⟨⟨_, _, _, ok_edgeR F1 B, PySem.W.mg_of X G a1, k1, b1⟩⟩
  have c_adjacency : Cal l.prog w K mg base (CX0) 1 "adjacency" (spAdj) := ⟨⟨_, _, _, ok_adj F2 B, PySem.W.mg_of X G a2, k2, b2⟩⟩
  have c_is_integer : Cal l.prog w K mg base (CX0) 1 "is_integer" (spIsInt K) := ⟨⟨_, _, _, ok_is_integer F3 B n_bool, PySem.W.mg_of X G a3, k3, b3⟩⟩
  have c_is_value : Cal l.prog w K mg base (CX0) 2 "is_value" (spIsVal) := ⟨⟨_, _, _, ok_is_value F4 B ⟨c_is_integer⟩, PySem.W.mg_of X G a4, k4, b4⟩⟩
  have c_values_for : Cal l.prog w K mg base (CX0) 1 "values_for" (spVals K) := ⟨⟨_, _, _, ok_vals F5 B hV sV, PySem.W.mg_of X G a5, k5, b5⟩⟩
  have c_available_moves : CalK l.prog w K mg base (CX0) 2 "available_moves" 2 ["pinned"] (spAvail K) := ⟨⟨_, _, ["graph", "state", "pinned"], ok_avail F6 B ⟨c_adjacency, c_values_for⟩, PySem.W.mg_of X G a6, k6, fun us ws hu hw => match us, ws, hu, hw with | [_, _], [_], _, _ => rfl⟩⟩
  have e_available_moves : CalD l.prog w K mg base (CX0) 2 "available_moves" [.ref T6] (spAvail K) := ⟨⟨_, _, _, ds6, ok_avail F6 B ⟨c_adjacency, c_values_for⟩, PySem.W.mg_of X G a6, k6, vd6, bd6⟩⟩
  have c_is_move : Cal l.prog w K mg base (CX0) 3 "is_move" (spIsMove K) := ⟨⟨_, _, _, ok_is_move F7 B ⟨c_has_node, c_is_value, c_values_for⟩, PySem.W.mg_of X G a7, k7, b7⟩⟩
  have c_apply_moves : CalK l.prog w K mg base (CX0) 4 "apply_moves" 3 ["pinned"] (spApply K) := ⟨⟨_, _, ["graph", "state", "moves", "pinned"], ok_apply F8 B ⟨c_adjacency, c_is_move⟩, PySem.W.mg_of X G a8, k8, fun us ws hu hw => match us, ws, hu, hw with | [_, _, _], [_], _, _ => rfl⟩⟩
  have e_apply_moves : CalD l.prog w K mg base (CX0) 4 "apply_moves" [.ref T8] (spApply K) := ⟨⟨_, _, _, ds8, ok_apply F8 B ⟨c_adjacency, c_is_move⟩, PySem.W.mg_of X G a8, k8, vd8, bd8⟩⟩
  have c_check_each : Cal l.prog w K mg base (L2.CX l.prog w) 4 "check_each" (spEach K CE0) := ⟨⟨_, _, _, ok_each F9 B ⟨c_is_integer, c_available_moves⟩ err0, PySem.W.mg_of X G a9, k9, b9⟩⟩
  have c_check_distinct : Cal l.prog w K mg base (L2.CX l.prog w) 4 "check_distinct" (spDist K CE1) := ⟨⟨_, _, _, ok_dist F10 B err1, PySem.W.mg_of X G a10, k10, b10⟩⟩
  have c_apply_round : CalK l.prog w K mg base (L2.CX l.prog w) 5 "apply_round" 3 ["pinned"] (spRound K CE0 CE1 CE2) := ⟨⟨_, _, ["graph", "state", "moves", "pinned"], ok_round F11 B ⟨c_check_each, c_check_distinct, c_edge_of⟩ err2, PySem.W.mg_of X G a11, k11, fun us ws hu hw => match us, ws, hu, hw with | [_, _, _], [_], _, _ => rfl⟩⟩
  have e_apply_round : CalD l.prog w K mg base (L2.CX l.prog w) 5 "apply_round" [.ref T11] (spRound K CE0 CE1 CE2) := ⟨⟨_, _, _, ds11, ok_round F11 B ⟨c_check_each, c_check_distinct, c_edge_of⟩ err2, PySem.W.mg_of X G a11, k11, vd11, bd11⟩⟩
  have c__law_box : Cal l.prog w K mg base (CX0) 1 "_law_box" (spBox K) := ⟨⟨_, _, _, ok_box F12 B, PySem.W.mg_of X G a12, k12, b12⟩⟩
  have c__law_draw : Cal l.prog w K mg base (CX0) 1 "_law_draw" (spDraw) := ⟨⟨_, _, _, ok_draw F13 B, PySem.W.mg_of X G a13, k13, b13⟩⟩
  have c__law_stem : Cal l.prog w K mg base (CX0) 2 "_law_stem" (spStem) := ⟨⟨_, _, _, ok_stem F14 B ⟨c__law_draw⟩, PySem.W.mg_of X G a14, k14, b14⟩⟩
  have c__law_random_names : Cal l.prog w K mg base (CX0) 3 "_law_random_names" (spNamesB) := ⟨⟨_, _, _, ok_namesB F15 B ⟨c__law_draw, c__law_stem⟩, PySem.W.mg_of X G a15, k15, b15⟩⟩
  have c__law_random_problem : Cal l.prog w K mg base (CX0) 4 "_law_random_problem" (spProblem) := ⟨⟨_, _, _, ok_problem F16 B ⟨c__law_draw, c__law_random_names⟩, PySem.W.mg_of X G a16, k16, b16⟩⟩
  have c__law_neighbors : Cal l.prog w K mg base (CX0) 1 "_law_neighbors" (spNbrL) := ⟨⟨_, _, _, ok_nbrL F17 B, PySem.W.mg_of X G a17, k17, b17⟩⟩
  have c__law_possible : Cal l.prog w K mg base (CX0) 2 "_law_possible" (spPoss K) := ⟨⟨_, _, _, ok_possB F18 B ⟨c__law_neighbors⟩, PySem.W.mg_of X G a18, k18, b18⟩⟩
  have c__law_unused_name : Cal l.prog w K mg base (CX0) 1 "_law_unused_name" (spUnused) := ⟨⟨_, _, _, ok_unused F19 B, PySem.W.mg_of X G a19, k19, b19⟩⟩
  have c__law_random_moves : Cal l.prog w K mg base (CX0) 3 "_law_random_moves" (spRandMv K) := ⟨⟨_, _, _, ok_randMv F20 B ⟨c__law_draw, c__law_possible, c__law_unused_name⟩, PySem.W.mg_of X G a20, k20, b20⟩⟩
  have c__law_is_impossible : Cal l.prog w K mg base (CX0) 1 "_law_is_impossible" (spImp K) := ⟨⟨_, _, _, ok_imp F21 B n_bool, PySem.W.mg_of X G a21, k21, b21⟩⟩
  have c__law_compute_expected : Cal l.prog w K mg base (CX0) 3 "_law_compute_expected" (spExp42 K) := ⟨⟨_, _, _, ok_exp42 F22 B ⟨c__law_is_impossible, c__law_neighbors⟩, PySem.W.mg_of X G a22, k22, b22⟩⟩
  have c__law_call : Cal l.prog w K mg base (CX0) 6 "_law_call" (spCall42 K) := ⟨⟨_, _, _, ok_call42 F23 B ⟨c_apply_round⟩ own0 own1 own2 is42, PySem.W.mg_of X G a23, k23, b23⟩⟩
  exact ok_law F24 B ⟨c__law_box, c__law_random_problem, c__law_random_moves, c__law_compute_expected, c__law_call, c_apply_round, e_apply_round, c_apply_moves, sT11⟩
theorem walk {l : PySem.W.OpenLaw} {q : Program} {loose : List Str} {XP : (Str → Option Value) → Heap → Prop} {YP : World → Heap → Prop} {d : DefRec} {K : Params → PySem.W.Frag} (hn : l.most = some 63) (hdf : d.params.defaults = [])
    (hY : ∀ (w : World) (h : Heap), YP w h → (K w.params).In h)
    (F : ∀ (w : World) (mg : Str → Option Value) (fa : Addr) (h : Heap), (K w.params).In h → h.Ns mainGlobals mg → mg d.name = some (.ref fa) →
      ∃ fd : FuncData, (∀ (s : Shared) (u : Value), BindsTo s fd ⟨[u], []⟩ [("_law_script", u)]) ∧ ∀ base : Heap, (K w.params).In base → base.Ns mainGlobals mg → FnG l.prog w (K w.params) mg base CX0 7 fa fd ["_law_script"] (spLaw (K w.params))) :
    PySem.W.WalkO q loose XP YP l.row.toRowW d [] (fun f vs => PySem.call f vs) :=
  walk_G (n := 63) (k := 7) (x := "_law_script") (sp := spLaw) hn (by decide) hdf ⟨rfl, by decide, by decide⟩ hY F fun K H a ns hl _ _ hS => ⟨a, ns, rfl, hS, hl, fun _ => rfl⟩
end Law
open PySem PySem.W PyProof.Rows
set_option maxRecDepth 100000 in
set_option maxHeartbeats 0 in
theorem PySem.Challenge.cw_threeturned_k42_apply_one_round_holds : PySem.Challenge.rw_threeturned_k42_apply_one_round.Holds := by
  w_on; o_law; k_head; (case hw => w_witness2)
  k_fill
  refine Law.walk (l := PySem.Challenge.rw_threeturned_k42_apply_one_round) rfl rfl (fun w h Y => PySem.W.kIn_of Y) ?F
  case F =>
    intro w mg fa h KX G hmg
    refine' Law.all_mk KX G hmg ?a0 ?l0 ?c0 ?k0 ?a1 ?l1 ?c1 ?k1 ?a2 ?l2 ?c2 ?k2 ?a3 ?l3 ?c3 ?k3 ?a4 ?l4 ?c4 ?k4 ?a5 ?l5 ?c5 ?k5 ?a6 ?l6 ?c6 ?k6 ?d6 ?t6 ?a7 ?l7 ?c7 ?k7 ?a8 ?l8 ?c8 ?k8 ?d8 ?t8 ?a9 ?l9 ?c9 ?k9 ?a10 ?l10 ?c10 ?k10 ?a11 ?l11 ?c11 ?k11 ?d11 ?t11 ?a12 ?l12 ?c12 ?k12 ?a13 ?l13 ?c13 ?k13 ?a14 ?l14 ?c14 ?k14 ?a15 ?l15 ?c15 ?k15 ?a16 ?l16 ?c16 ?k16 ?a17 ?l17 ?c17 ?k17 ?a18 ?l18 ?c18 ?k18 ?a19 ?l19 ?c19 ?k19 ?a20 ?l20 ?c20 ?k20 ?a21 ?l21 ?c21 ?k21 ?a22 ?l22 ?c22 ?k22 ?a23 ?l23 ?c23 ?k23 ?a24 ?l24 ?c24 ?k24 ?z0 ?z1 ?z2 ?z3 ?z4 ?z5 ?z6 ?z7 ?z8 ?z9 ?z10 ?z11 ?z12 ?z13 ?z14 ?z15 ?z16 ?z17 ?z18 ?z19 ?z20 ?v0 ?v1 ?y0 ?y1 ?y2 ?y3 ?y4 ?y5 ?y6 ?y7 ?xa0 ?xb0 ?xc0 ?xd0 ?xe0 ?xf0 ?xg0 ?xh0 ?xi0 ?xj0 ?xk0 ?xl0 ?xm0 ?xn0 ?xo0 ?xp0 ?xq0 ?xr0 ?xu0 ?xv0 ?xw0 ?xx0 ?xa1 ?xb1 ?xc1 ?xd1 ?xe1 ?xf1 ?xg1 ?xh1 ?xi1 ?xj1 ?xk1 ?xl1 ?xm1 ?xn1 ?xo1 ?xp1 ?xq1 ?xr1 ?xu1 ?xv1 ?xw1 ?xx1 ?xa2 ?xb2 ?xc2 ?xd2 ?xe2 ?xf2 ?xg2 ?xh2 ?xi2 ?xj2 ?xk2 ?xl2 ?xm2 ?xn2 ?xo2 ?xp2 ?xq2 ?xr2 ?xu2 ?xv2 ?xw2 ?xx2 ?zDM ?zAM ?zAD ?zMD ?zMA ?zDA
    (case a0 => k_is); (case l0 => k_is); (case c0 => k_is); (case k0 => k_is)
    (case a1 => k_is); (case l1 => k_is); (case c1 => k_is); (case k1 => k_is)
    (case a2 => k_is); (case l2 => k_is); (case c2 => k_is); (case k2 => k_is)
    (case a3 => k_is); (case l3 => k_is); (case c3 => k_is); (case k3 => k_is)
    (case a4 => k_is); (case l4 => k_is); (case c4 => k_is); (case k4 => k_is)
    (case a5 => k_is); (case l5 => k_is); (case c5 => k_is); (case k5 => k_is)
    (case a6 => k_is); (case l6 => k_is); (case c6 => k_is); (case k6 => k_is)
    (case d6 => k_is); (case t6 => k_is); (case a7 => k_is); (case l7 => k_is)
    (case c7 => k_is); (case k7 => k_is); (case a8 => k_is); (case l8 => k_is)
    (case c8 => k_is); (case k8 => k_is); (case d8 => k_is); (case t8 => k_is)
    (case a9 => k_is); (case l9 => k_is); (case c9 => k_is); (case k9 => k_is)
    (case a10 => k_is); (case l10 => k_is); (case c10 => k_is); (case k10 => k_is)
    (case a11 => k_is); (case l11 => k_is); (case c11 => k_is); (case k11 => k_is)
    (case d11 => k_is); (case t11 => k_is); (case a12 => k_is); (case l12 => k_is)
    (case c12 => k_is); (case k12 => k_is); (case a13 => k_is); (case l13 => k_is)
    (case c13 => k_is); (case k13 => k_is); (case a14 => k_is); (case l14 => k_is)
    (case c14 => k_is); (case k14 => k_is); (case a15 => k_is); (case l15 => k_is)
    (case c15 => k_is); (case k15 => k_is); (case a16 => k_is); (case l16 => k_is)
    (case c16 => k_is); (case k16 => k_is); (case a17 => k_is); (case l17 => k_is)
    (case c17 => k_is); (case k17 => k_is); (case a18 => k_is); (case l18 => k_is)
    (case c18 => k_is); (case k18 => k_is); (case a19 => k_is); (case l19 => k_is)
    (case c19 => k_is); (case k19 => k_is); (case a20 => k_is); (case l20 => k_is)
    (case c20 => k_is); (case k20 => k_is); (case a21 => k_is); (case l21 => k_is)
    (case c21 => k_is); (case k21 => k_is); (case a22 => k_is); (case l22 => k_is)
    (case c22 => k_is); (case k22 => k_is); (case a23 => k_is); (case l23 => k_is)
    (case c23 => k_is); (case k23 => k_is); (case a24 => k_is); (case l24 => k_is)
    (case c24 => k_is); (case k24 => k_is); (case z0 => k_is); (case z1 => k_is)
    (case z2 => k_is); (case z3 => k_is); (case z4 => k_is); (case z5 => k_is)
    (case z6 => k_is); (case z7 => k_is); (case z8 => k_is); (case z9 => k_is)
    (case z10 => k_is); (case z11 => k_is); (case z12 => k_is); (case z13 => k_is)
    (case z14 => k_is); (case z15 => k_is); (case z16 => k_is); (case z17 => k_is)
    (case z18 => k_is); (case z19 => k_is); (case z20 => k_is); (case v0 => k_is)
    (case v1 => k_is); (case y0 => k_is); (case y1 => k_is); (case y2 => k_is)
    (case y3 => k_is); (case y4 => k_is); (case y5 => k_is); (case y6 => k_is)
    (case y7 => k_is); (case xa0 => k_is); (case xb0 => k_is); (case xc0 => k_is)
    (case xd0 => k_is); (case xe0 => k_is); (case xf0 => k_is); (case xg0 => k_is)
    (case xh0 => k_is); (case xi0 => k_is); (case xj0 => k_is); (case xk0 => k_is)
    (case xl0 => k_is); (case xm0 => k_is); (case xn0 => k_is); (case xo0 => k_is)
    (case xp0 => k_is); (case xq0 => k_is); (case xr0 => k_is); (case xu0 => k_is)
    (case xv0 => k_is); (case xw0 => k_is); (case xx0 => k_is); (case xa1 => k_is)
    (case xb1 => k_is); (case xc1 => k_is); (case xd1 => k_is); (case xe1 => k_is)
    (case xf1 => k_is); (case xg1 => k_is); (case xh1 => k_is); (case xi1 => k_is)
    (case xj1 => k_is); (case xk1 => k_is); (case xl1 => k_is); (case xm1 => k_is)
    (case xn1 => k_is); (case xo1 => k_is); (case xp1 => k_is); (case xq1 => k_is)
    (case xr1 => k_is); (case xu1 => k_is); (case xv1 => k_is); (case xw1 => k_is)
    (case xx1 => k_is); (case xa2 => k_is); (case xb2 => k_is); (case xc2 => k_is)
    (case xd2 => k_is); (case xe2 => k_is); (case xf2 => k_is); (case xg2 => k_is)
    (case xh2 => k_is); (case xi2 => k_is); (case xj2 => k_is); (case xk2 => k_is)
    (case xl2 => k_is); (case xm2 => k_is); (case xn2 => k_is); (case xo2 => k_is)
    (case xp2 => k_is); (case xq2 => k_is); (case xr2 => k_is); (case xu2 => k_is)
    (case xv2 => k_is); (case xw2 => k_is); (case xx2 => k_is); (case zDM => k_is)
    (case zAM => k_is); (case zAD => k_is); (case zMD => k_is); (case zMA => k_is)
    (case zDA => k_is)

