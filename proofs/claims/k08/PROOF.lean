import PyProof.Rows.All
import Wide.All
import OpenK.AllK
import Wide.FinOn
import HandS.ForMost
import HandS.Exc
import HandS.EndBits
import HandS.Wide
import HandS.Codes
import HandS.TupAny
import HandS.IsInst
import HandS.Walk
import HandS.Flow
import HandS.SetKeys
import HandS.SortKw
import HandS.Style
import KE.SortData
import HandS.More
import HandS.DictComp
import HandS.Defaults
import HandS.Deep
import PyProof.RowDictHeap
import PyProof.ReprRoads
import PyProof.ReprBulk
import PySem.Challenge.RW_threeturned_k08_impossible_moves
import HandS.ExcInit
import HandS.ExcIs
import HandS.ExcField
import HandS.Nested
import KE.GoesEnum
import KE.GoesMore
import HandS.Finally
import KE.KExcInit
import HandS.WordsExc
import PyProof.DictUpdate
import PyProof.P3In
import HandS.List
import HandS.Lambda
import KE.DataMinKey
import HandS.EndTab
set_option Elab.async false
set_option linter.all false
set_option maxRecDepth 100000
set_option maxHeartbeats 4000000
/-! calls with room and with nothing being shown (guards known) -/
namespace U
open PySem PySem.Spec PyProof.Rows L2

/-- room for k calls, and no repr is under way -/
structure Rm (k : Nat) (A : Around) : Prop where
  r : Room k A
  g : A.guards = some []
theorem Rm.mono {j k : Nat} {A : Around} (h : Rm k A) (hj : j ≤ k) : Rm j A := ⟨h.r.mono hj, h.g⟩
theorem Rm.deeper {k : Nat} {A : Around} (h : Rm (k + 1) A) (env : Env) : Rm k (A.deeper env) := ⟨h.r.deeper env, h.g⟩
theorem Rm.u1 {k : Nat} {A : Around} (h : Rm k A) : A.units + 1 < cLine := by
  have z := h.r.un
  omega
theorem Rm.u64 {k : Nat} {A : Around} (h : Rm k A) : A.units + 64 < cLine := h.r.units
theorem Rm.u0 {k : Nat} {A : Around} (h : Rm k A) : A.units < cLine := by
  have z := h.r.un
  omega
/-- the def at f keeps the promise sp -/
structure FnG (P : Program) (w : World) (K : PySem.W.Frag) (mg : Str → Option Value) (base : Heap) (CX : CXT) (k : Nat) (f : Addr) (fd : FuncData) (ps : List Str) (sp : Sp) : Prop where
  len : ∀ vs H Q E, sp vs H Q E → vs.length = ps.length
  go : ∀ (A : Around) (outer : List Env) (s : Shared) (H : Hp) (args : Args) (us : List Value) (vs : List V) (Q : VK) (E : XK), Rm k A →
    Env0 P w K mg base A outer s H → BindsTo s fd args (ps.zip us) → Vals vs us → sp vs H Q E → codeAny (model P w) A (.call (.ref f) args) (CR CX outer P w H s Q E) s
/-- room ran out of is no way: L2's own promise serves -/
theorem FnG.of {P : Program} {w : World} {K : PySem.W.Frag} {mg : Str → Option Value} {base : Heap} {CX : CXT} {k : Nat} {f : Addr} {fd : FuncData} {ps : List Str} {sp : Sp} (F : FnOk P w K mg base CX k f fd ps sp) : FnG P w K mg base CX k f fd ps sp :=
  ⟨F.len, fun A outer s H args us vs Q E hr => F.run A outer s H args us vs Q E hr.r⟩

section
variable {P : Program} {w : World} {K : PySem.W.Frag} {mg : Str → Option Value} {base : Heap} {CX : CXT}
/-- a def by its body -/
theorem fnG {x qual : Str} {st : Stmt} {f : Addr} {fd : FuncData} {N ps : List Str} {k : Nat} {sp : Sp} (F : Fun K x qual st f fd) (S : FnScope N ps (defScope st)) (len : ∀ vs H Q E, sp vs H Q E → vs.length = ps.length)
    (body : ∀ (cdv : Value) (A : Around) (outer : List Env) (s : Shared) (H : Hp) (vs : List V) (Q : VK) (E : XK), Rm k (A.deeper (envOfC qual (defScope st) s.heap.objs.size f cdv)) → sp vs H Q E →
      ∃ t, PSs (cxOf CX P w K mg base N qual (defScope st) f cdv A outer s H E) (defBody st) t ∧ t { nx := fun _ H' => Q .non H', rt := Q } (start N vs) H) :
    FnG P w K mg base CX (k + 1) f fd ps sp := by
  obtain ⟨oc, od, kV, doc, pm, an, cdv, ct, osl, rfl, lk, hcd⟩ := F.ex
  refine ⟨len, fun A outer s H args us vs Q E room e0 bd rel want => ?_⟩
  have count := len _ _ _ _ want
  have kin : K.In s.heap := e0.mod.kin.keeps fun b o e => (e0.bs b o e).1
  have kinds : ∀ y ∈ ps.zip us, (defScope st).names.lookup y.1 = some .local ∨ ((defScope st).names.lookup y.1 = some .cell ∧ ((cellsFrom (s.heap.objs.size + 1) (defScope st).names []).lookup y.1).isSome = true) := by
    rintro ⟨n, v⟩ hy
    cases S.par n (List.of_mem_zip hy).1 with
    | inl q => exact .inl q
    | inr q => exact .inr ⟨q, PySem.W.cellsFrom_some _ _ _ (.inl q)⟩
  apply codeAny_call_function room.r.depth (kin _ _ lk) rfl S.co S.gen rfl (PySem.W.codeRec_of kin hcd) (bd _ _ _ _ _)
  apply wpAny_newFunctionEnv_cells S.kind kinds
  intro env he s1 x
  subst he
  have lim : s.heap.NoLimit := e0.mod.nolimit.keeps fun b o e => (e0.bs b o e).1
  refine ⟨lim.keeps x.toInCall.keep, codeAny_func ?_⟩
  obtain ⟨t, ht, want'⟩ := body cdv A outer s H vs Q E (room.deeper _) want
  have I := inv_start (CX := CX) (P := P) (w := w) (K := K) (mg := mg) (base := base) (E := E) S room.r.hd e0 count rel x
  refine wpAny_mono (ht.run [] s1 (start N vs) H _ I want') ?_ fun e s' hs => hs
  intro fl s' hs
  cases fl with
  | ret u =>
    obtain ⟨v, σ', H', J, rv, q⟩ := hs
    exact ⟨v, H', J.os, J.bare, J.base, J.hok, rv, q⟩
  | next =>
    obtain ⟨σ', H', J, q⟩ := hs
    exact ⟨V.non, H', J.os, J.bare, J.base, J.hok, rfl, q⟩
  | brk => exact hs.elim fun _ z => z.elim fun _ z => z.2.elim
  | cont => exact hs.elim fun _ z => z.elim fun _ z => z.2.elim
/-- a def that no exception leaves -/
theorem fnG0 {x qual : Str} {st : Stmt} {f : Addr} {fd : FuncData} {N ps : List Str} {k : Nat} {sp : Sp} (F : Fun K x qual st f fd) (S : FnScope N ps (defScope st)) (len : ∀ vs H Q E, sp vs H Q E → vs.length = ps.length)
    (body : ∀ (cdv : Value) (A : Around) (outer : List Env) (s : Shared) (H : Hp) (vs : List V) (Q : VK) (E : XK), Rm k (A.deeper (envOfC qual (defScope st) s.heap.objs.size f cdv)) → sp vs H Q E →
      ∃ t, PSs (cxOf CX0 P w K mg base N qual (defScope st) f cdv A outer s H E).nox (defBody st) t ∧ t { nx := fun _ H' => Q .non H', rt := Q } (start N vs) H) :
    FnG P w K mg base CX0 (k + 1) f fd ps sp := fnG F S len fun cdv A outer s H vs Q E hr h => by
  obtain ⟨t, p, q⟩ := body cdv A outer s H vs Q E hr h
  exact ⟨t, p.nox, q⟩
/-- a def that may be called by its global name -/
structure Cal (P : Program) (w : World) (K : PySem.W.Frag) (mg : Str → Option Value) (base : Heap) (CX : CXT) (k : Nat) (x : Str) (sp : Sp) : Prop where
  ex : ∃ (f : Addr) (fd : FuncData) (ps : List Str), FnG P w K mg base CX k f fd ps sp ∧ mg x = some (.ref f) ∧ PySem.W.keepIn K (.ref f) = true ∧ Binds K fd ps []
end

section
variable {X : Cx} {CX : L2.CXT} {k j : Nat} {f : Addr} {fd : FuncData} {ps : List Str} {sp : Sp} {E : XK} {x : Str} {p pos : Pos} {e : Expr} {es : List Expr} {t : TA}
theorem callG {pins : List (Addr × Obj)} {σ : L2.St} {H : Hp} {s : Shared} {Q : VK} {us : List Value} {vs : List V} (F : FnG X.prog X.w X.K X.mg X.base CX k f fd ps sp) (hr : Rm k X.A) (hb : Binds X.K fd ps []) (hx : Passes CX X E)
    (I : Inv X pins σ H s) (r : Vals vs us) (h : sp vs H Q E) : wpAny (model X.prog X.w) X.A (call (.ref f) us) (EP X pins σ Q) X.xe s := by
  have count : us.length = ps.length := r.length ▸ F.len _ _ _ _ h
  have bd := hb s us I.kIn (by rw [List.append_nil]; exact count)
  rw [List.append_nil] at bd
  refine wpAny_call (codeAny_mono (F.go X.A X.stack s H ⟨us, []⟩ us vs Q E hr I.env0 bd r h) ?_)
  intro res s' hq
  cases res with
  | error er => exact hx pins σ H s er s' I hq
  | ok fl =>
    cases fl with
    | ret u => exact I.after hq
    | next => exact hq.elim
    | brk => exact hq.elim
    | cont => exact hq.elim
/-- f(..): the promise -/
def tC1 (sp : Sp) (E : XK) (t : TA) : TE := fun σ H Q => t σ H fun vs H1 => sp vs H1 Q E
theorem pe_cG (c : Cal X.prog X.w X.K X.mg X.base CX k x sp) (hr : Rm j X.A) (hk : k ≤ j) (hg : Gl X x) (hx : Passes CX X E) (ha : PA X (e :: es) t)
    (hdb : (x == ("__debug__" : Str)) = false := by decide) (he : starEach (e :: es) X.env = (false, eval e X.env) :: starEach es X.env := by rfl) (hpl : (backTo pos (starEach es X.env)).any (·.1) = false := by rfl) :
    PE X (.Call (.Name x p) (e :: es) [] pos) (tC1 sp E t) := by
  obtain ⟨f, fd, ps, F, hm, kp, b⟩ := c.ex
  refine ⟨fun pins s σ H Q I h => wpAny_Call_Name_kw (ld_glob I hg hm ?_ hdb)⟩
  refine PySem.W.callWith_K (h₀ := X.base) I.ok.mod.kin kp (thn (ha.run pos pins s σ H _ I h) ?_) he hpl
  rintro us s1 ⟨vs, H1, I1, r, q⟩
  exact ⟨I1.kIn, callG F (hr.mono hk) b hx I1 r q⟩
theorem pe_c (c : Cal X.prog X.w X.K X.mg X.base CX0 k x sp) (hr : Rm j X.A) (hk : k ≤ j) (hg : Gl X x) (ha : PA X (e :: es) t)
    (hdb : (x == ("__debug__" : Str)) = false := by decide) (he : starEach (e :: es) X.env = (false, eval e X.env) :: starEach es X.env := by rfl) (hpl : (backTo pos (starEach es X.env)).any (·.1) = false := by rfl) :
    PE X (.Call (.Name x p) (e :: es) [] pos) (tC1 sp E0 t) := pe_cG c hr hk hg pass0 ha hdb he hpl
/-- .. what is raised is wished for at the caller's slots -/
def tC2 (sp : Sp) (W : WX) (t : TA) : TE := fun σ H Q => t σ H fun vs H1 => sp vs H1 Q fun cls d H' => W cls d σ H'
end

/-! ### the law's own head -/
theorem law_G {P : Program} {w : World} {K : PySem.W.Frag} {mg mb : Str → Option Value} {k : Nat} {fa a : Addr} {fd : FuncData} {x : Str} {sp : Sp} {s₁ : Shared} {vs : List Value} {ns : List Int}
    (KX : K.In s₁.heap) (hns : s₁.heap.Ns mainGlobals mg) (hb : s₁.heap.Ns builtinsNs mb) (hbb : ∀ x : Str, x ≠ "__name__" → mb x = bootBuiltins x) (hlim : s₁.heap.NoLimit) (hg : s₁.gens = #[])
    (ha : s₁.heap.get? a = some { cls := .type "list", data := .seq vs.toArray }) (hi : IntsAre vs ns) (hl : ns.length ≤ sizeLine) (hr : Room k callerA)
    (F : ∀ base : Heap, K.In base → base.Ns mainGlobals mg → FnG P w K mg base CX0 k fa fd [x] sp) (hbind : ∀ (s : Shared) (u : Value), BindsTo s fd ⟨[u], []⟩ [(x, u)])
    (hsp : ∀ H : Hp, Only H → SqL K H a (ns.map V.int) → sp [.ref a] H (fun v _ => v = .bl true) fun _ _ _ => False) :
    codeAny (model P w) callerA (.call (.ref fa) ⟨[.ref a], []⟩) (fun r s' => r = .ok (.ret (.bool true)) ∧ OldK s₁.heap s'.heap ∧ s'.os = s₁.os ∧ AllBare s'.gens) s₁ := by
  /- the promise as L2's head asks it: of room alone; it asks it of callerA alone -/
  have Z : ∀ base : Heap, K.In base → base.Ns mainGlobals mg → ∀ (outer : List Env) (s : Shared) (H : Hp) (args : Args) (us : List Value) (vs : List V) (Q : VK) (E : XK),
      Env0 P w K mg base callerA outer s H → BindsTo s fd args ([x].zip us) → Vals vs us → sp vs H Q E → codeAny (model P w) callerA (.call (.ref fa) args) (CR CX0 outer P w H s Q E) s :=
    fun base h1 h2 outer s H args us vs Q E e b r q => (F base h1 h2).go callerA outer s H args us vs Q E ⟨hr, rfl⟩ e b r q
  have rv := vals_ints hi
  have lenV := hi.length
  have main : ∀ H : Hp, Only H → SqL K H a (ns.map V.int) → HOk P w H s₁.heap → (∀ b, H b ≠ none → b = a) → (H a ≠ none → K.lookup a = none) →
      codeAny (model P w) callerA (.call (.ref fa) ⟨[.ref a], []⟩) (fun r s' => r = .ok (.ret (.bool true)) ∧ OldK s₁.heap s'.heap ∧ s'.os = s₁.os ∧ AllBare s'.gens) s₁ := by
    intro H only seq ok only_a own
    have free_dict : ∀ {b : Addr} {o : Obj} {es : Array DictEntry} {ep : Nat}, s₁.heap.get? b = some o → o.data = .dict es ep → H b = none := by
      intro b o es ep e d
      cases q : H b with
      | none => rfl
      | some u =>
        obtain rfl : b = a := only_a b (by rw [q]; simp)
        obtain rfl := Option.some.inj (ha.symm.trans e)
        cases d
    have stays : ∀ {b : Addr} {m : Str → Option Value}, s₁.heap.Ns b m → (hidT s₁.heap H).Ns b m := by
      rintro b m ⟨o, es, ep, e, d, r⟩
      exact ⟨o, es, ep, hidT_get e (free_dict e d), d, r⟩
    have kin : K.In (hidT s₁.heap H) := by
      intro b o e
      refine hidT_get (KX b o e) ?_
      cases q : H b with
      | none => rfl
      | some u =>
        obtain rfl : b = a := only_a b (by rw [q]; simp)
        rw [own (by rw [q]; simp)] at e
        cases e
    have md : Mod K mg (hidT s₁.heap H) := ⟨kin, stays hns, ⟨mb, stays hb, hbb⟩, by
      obtain ⟨mc, h1, h2⟩ := hlim
      exact ⟨mc, stays h1, h2⟩⟩
    have e0 : Env0 P w K mg (hidT s₁.heap H) callerA [] s₁ H := ⟨rfl, md, fun b o e => of_hidT e, Nat.le_of_eq (hidT_size _ _), trivial, fun b z => (List.not_mem_nil z).elim, ok, .of_eq hg⟩
    refine codeAny_mono (Z _ kin (stays hns) [] s₁ H ⟨[.ref a], []⟩ [.ref a] [.ref a] _ _ e0 (hbind s₁ (.ref a)) (.cons rfl .nil) (hsp H only seq)) ?_
    intro r s' h
    cases r with
    | error e => exact h.elim
    | ok fl =>
      cases fl with
      | next => exact h.elim
      | brk => exact h.elim
      | cont => exact h.elim
      | ret u =>
        obtain ⟨v, H', os, bare, un, ok', r', q⟩ := h
        have q' : v = .bl true := q
        subst q'
        obtain rfl : u = Value.bool true := r'
        refine ⟨rfl, OldK.of_keep ?_, os, bare⟩
        intro b o e
        cases q : H b with
        | none => exact un.keep b o e q (fun z => (List.not_mem_nil z).elim) (fun z => (List.not_mem_nil z).elim)
        | some u =>
          rcases only b with z | ⟨ob, xs, z⟩
          · rw [q] at z; cases z
          · obtain ⟨e1, _⟩ := ok b _ z
            obtain ⟨e2, _⟩ := ok' b _ (un.frzs b ob _ z)
            exact (Option.some.inj (e1.symm.trans e)) ▸ e2
  cases hk : K.lookup a with
  | some o =>
    obtain rfl := Option.some.inj (ha.symm.trans (KX a o hk))
    refine main (fun _ => none) (fun _ => .inl rfl) (.inr ⟨_, vs.toArray, _, hk, rfl, rfl, rfl, ?_, by simpa using rv⟩) (fun b u z => nomatch z) (fun b z => (z rfl).elim) fun z => (z rfl).elim
    rw [List.size_toArray, lenV]
    exact hl
  | none =>
    refine main (fun b => if b = a then some (.frz { cls := .type "list", data := .seq vs.toArray } (.lst (ns.map V.int))) else none) (fun b => ?_) (.inl (.inr ⟨_, if_pos rfl⟩)) (fun b u z => ?_) (fun b z => ?_) fun _ => hk
    · by_cases hb : b = a
      · exact .inr ⟨_, _, if_pos hb⟩
      · exact .inl (if_neg hb)
    · by_cases hb : b = a
      · subst hb
        obtain rfl := Option.some.inj ((if_pos rfl).symm.trans z)
        exact ⟨ha, by rw [List.length_map]; exact hl, vs, _, rv, ha⟩
      · exact nomatch (if_neg hb).symm.trans z
    · by_cases hb : b = a
      · exact hb
      · exact absurd (if_neg hb) z
theorem walk_G {l : PySem.W.OpenLaw} {n k : Nat} {q : Program} {loose : List Str} {XP : (Str → Option Value) → Heap → Prop} {YP : World → Heap → Prop} {d : DefRec} {K : Params → PySem.W.Frag} {sp : PySem.W.Frag → Sp} {x : Str}
    (hn : l.most = some n) (hn2 : n ≤ sizeLine) (hdf : d.params.defaults = []) (hr : Room k callerA)
    (hY : ∀ (w : World) (h : Heap), YP w h → (K w.params).In h)
    (F : ∀ (w : World) (mg : Str → Option Value) (fa : Addr) (h : Heap), (K w.params).In h → h.Ns mainGlobals mg → mg d.name = some (.ref fa) →
      ∃ fd : FuncData, (∀ (s : Shared) (u : Value), BindsTo s fd ⟨[u], []⟩ [(x, u)]) ∧
        ∀ base : Heap, (K w.params).In base → base.Ns mainGlobals mg → FnG l.prog w (K w.params) mg base CX0 k fa fd [x] (sp (K w.params)))
    (hsp : ∀ (K : PySem.W.Frag) (H : Hp) (a : Addr) (ns : List Int), ns.length ≤ n → (∀ z ∈ ns, Builtin.Int.intBits z ≤ 1048576) → Only H → SqL K H a (ns.map V.int) → sp K [.ref a] H (fun v _ => v = .bl true) fun _ _ _ => False) :
    PySem.W.WalkO q loose XP YP l.row.toRowW d [] (fun f vs => PySem.call f vs) := by
  refine Att.attach_callB hn hdf ?_
  intro w s₀ s₁ mg mb fa o pm cd doc a vs ns G Y ho hd hcd hmg hobj hints hlen bits hg
  obtain ⟨fd, hb, hF⟩ := F w mg fa _ (hY w _ Y) G.T.g hmg
  exact law_G (hY w _ Y) G.T.g G.T.b G.T.builtins G.T.nolimit hg hobj hints (Nat.le_trans hlen hn2) hr hF hb fun H only seq => hsp _ H a ns hlen bits only seq
end U

/-! operators by the values that come: one rule an operator -/
namespace U
open PySem PySem.Spec PyProof.Rows L2
section
variable {X : Cx}

/-! ### names of the world -/
theorem bb_len : bootBuiltins "len" = some (.builtin "len") := by decide +kernel
theorem bb_abs : bootBuiltins "abs" = some (.builtin "abs") := by decide +kernel
theorem bb_max : bootBuiltins "max" = some (.builtin "max") := by decide +kernel
theorem bb_min : bootBuiltins "min" = some (.builtin "min") := by decide +kernel
theorem bb_sorted : bootBuiltins "sorted" = some (.builtin "sorted") := by decide +kernel
theorem bb_isinstance : bootBuiltins "isinstance" = some (.builtin "isinstance") := by decide +kernel
theorem bb_repr : bootBuiltins "repr" = some (.builtin "repr") := by decide +kernel
theorem bb_int : bootBuiltins "int" = some (.type "int") := by decide +kernel
theorem bb_list : bootBuiltins "list" = some (.type "list") := by decide +kernel
theorem bb_tuple : bootBuiltins "tuple" = some (.type "tuple") := by decide +kernel
theorem bb_dict : bootBuiltins "dict" = some (.type "dict") := by decide +kernel
theorem bb_str : bootBuiltins "str" = some (.type "str") := by decide +kernel
theorem bb_bool : bootBuiltins "bool" = some (.type "bool") := by decide +kernel
theorem pe_ty {x : Str} {T : String} {pos : Pos} (hg : Gl X x) (hm : X.mg x = none) (hv : bootBuiltins x = some (.type T)) (hn : x ≠ "__name__" := by decide) (hd : (x == ("__debug__" : Str)) = false := by decide) :
    PE X (.Name x pos) (tC (.ty T)) := pe_bltn hg hm hv rfl hn hd
theorem pe_gl {x : Str} {v : V} {pos : Pos} (hg : Gl X x) (h : ∃ u, X.mg x = some u ∧ RelV v u) (hd : (x == ("__debug__" : Str)) = false := by decide) : PE X (.Name x pos) (tC v) := by
  obtain ⟨u, hm, r⟩ := h
  exact pe_glob hg hm r hd

/-! ### + - * % // ** -/
/-- what is wanted where a new list, a new tuple comes -/
def nL (xs : List V) (H : Hp) (Q : VK) : Prop := ∀ p, H p = none → Q (.ref p) (upd H p (.lst xs))
def nT (xs : List V) (H : Hp) (Q : VK) : Prop := ∀ p, H p = none → Q (.ref p) (upd H p (.tup xs))
def rAddU (K : PySem.W.Frag) : R2 := fun x y H Q => match x, y with
  | .int i, .int j => Q (.int (i + j)) H
  | .str a, .str b => a.length + b.length ≤ sizeLine ∧ Q (.str (a ++ b)) H
  | .ref a, .ref b => (∃ xs ys, H a = some (.lst xs) ∧ H b = some (.lst ys) ∧ xs.length + ys.length ≤ sizeLine ∧ nL (xs ++ ys) H Q) ∨ rCatA K (.ref a) (.ref b) H Q
  | _, _ => False
theorem uAdd : OpR X (binaryOp .Add) (rAddU X.K) := by
  intro pins s σ H x y v u Q I rx ry h
  cases x <;> cases y <;> first | exact h.elim | skip
  · exact op_add pins s σ H _ _ v u Q I rx ry ⟨_, _, rfl, rfl, h⟩
  · exact op_add_str pins s σ H _ _ v u Q I rx ry ⟨_, _, rfl, rfl, h⟩
  · rcases h with ⟨xs, ys, h1, h2, h3, h4⟩ | h
    · exact op_cat pins s σ H _ _ v u Q I rx ry ⟨_, _, _, _, rfl, rfl, h1, h2, h3, h4⟩
    · exact op_catA pins s σ H _ _ v u Q I rx ry h
def rSubU : R2 := fun x y H Q => match x, y with
  | .int i, .int j => Q (.int (i - j)) H
  | _, _ => False
theorem uSub : OpR X (binaryOp .Sub) rSubU := by
  intro pins s σ H x y v u Q I rx ry h
  cases x <;> cases y <;> first | exact h.elim | exact op_sub pins s σ H _ _ v u Q I rx ry ⟨_, _, rfl, rfl, h⟩
/-- a text k times -/
def timesS (z : Str) (k : Int) : Str := ⟨((List.replicate k.toNat z.cps.toList).flatten).toArray⟩
theorem timesS_one (z : Str) : timesS z 1 = z := by
  unfold timesS
  simp
theorem timesS_neg {z : Str} {k : Int} (h : k < 1) : timesS z k = Str.empty := by
  unfold timesS
  have e : k.toNat = 0 := by omega
  rw [e]
  rfl
theorem fold_rep (a : Array Nat) : ∀ (n : Nat) (acc : Array Nat), (List.replicate n a).foldl (· ++ ·) acc = acc ++ ((List.replicate n a.toList).flatten).toArray
  | 0, acc => by simp
  | n + 1, acc => by
    rw [List.replicate_succ, List.foldl_cons, fold_rep a n, List.replicate_succ, List.flatten_cons]
    apply Array.ext'
    simp
theorem timesS_nil {z : Str} {k : Int} (h : z.length = 0) : timesS z k = z := by
  obtain ⟨a⟩ := z
  have e : a = #[] := Array.size_eq_zero_iff.mp h
  subst e
  unfold timesS
  have : (List.replicate k.toNat ([] : List Nat)).flatten = [] := by
    rw [List.flatten_eq_nil_iff]
    intro l hl
    exact List.eq_of_mem_replicate hl
  show (⟨((List.replicate k.toNat ([] : List Nat)).flatten).toArray⟩ : Str) = ⟨#[]⟩
  rw [this]
def rMulU : R2 := fun x y H Q => match x, y with
  | .int i, .int j => (CMul i j ∨ CMulW i j) ∧ Q (.int (i * j)) H
  | .str z, .int k => (0 ≤ k ∧ k ≤ 1000 ∧ z.length ≤ 1000) ∧ Q (.str (timesS z k)) H
  | .ref l, .int k => rRep (.ref l) (.int k) H Q
  | _, _ => False
theorem uMul : OpR X (binaryOp .Mult) rMulU := by
  intro pins s σ H x y v u Q I rx ry h
  cases x <;> cases y <;> first | exact h.elim | skip
  · obtain ⟨c | c, h⟩ := h
    · exact op_mul pins s σ H _ _ v u Q I rx ry ⟨_, _, rfl, rfl, c, h⟩
    · exact op_mulW pins s σ H _ _ v u Q I rx ry ⟨_, _, rfl, rfl, c, h⟩
  · rename_i z k
    obtain ⟨⟨h0, h1, hz⟩, q⟩ := h
    obtain ⟨t, rfl⟩ := rx
    obtain ⟨t', rfl⟩ := ry
    have hl : z.length * k.toNat ≤ 1000 * 1000 := Nat.mul_le_mul hz (by omega)
    refine P.mul_str ?_ ?_ ?_ ?_
    · have a : ¬ k < -(2 ^ 63) := by omega
      have b : ¬ k ≥ 2 ^ 63 := by omega
      rw [decide_eq_false a, decide_eq_false b]
      rfl
    · intro _ _ bad
      have : (z.length : Int) ≤ 1000 := by omega
      have e : (1000 : Int) ≤ (2 ^ 63 - 1) / k := by
        rw [Int.le_ediv_iff_mul_le (by omega)]
        have : (1000 : Int) * k ≤ 1000 * 1000 := Int.mul_le_mul_of_nonneg_left h1 (by decide)
        omega
      omega
    · intro _ _
      unfold Builtin.Str.tooLong
      have : z.length * k.toNat ≤ sizeLine := Nat.le_trans hl (by decide)
      simp
      exact this
    · split
      · rename_i hk
        rw [timesS_neg hk] at q
        exact ⟨by decide, ⟨.str Str.empty, H, I.tok _, ⟨_, rfl⟩, q⟩⟩
      · split
        · rename_i hk hc
          have e : timesS z k = z := by
            rcases (Bool.or_eq_true _ _).mp hc with c | c
            · have : k = 1 := by simpa using c
              rw [this, timesS_one]
            · exact timesS_nil (by simpa using c)
          rw [e] at q
          exact ⟨.str z, H, I.tok _, ⟨_, rfl⟩, q⟩
        · have e : (⟨(List.replicate k.toNat z.cps).foldl (· ++ ·) #[]⟩ : Str) = timesS z k := by
            rw [fold_rep]
            unfold timesS
            congr 1
            simp
          rw [e]
          refine ⟨?_, ⟨.str (timesS z k), H, I.tok _, ⟨_, rfl⟩, q⟩⟩
          have : (timesS z k).length = k.toNat * z.length := by
            unfold timesS Str.length
            simp
          rw [this, Nat.mul_comm]
          exact Nat.le_trans hl (by decide)
  · exact op_rep pins s σ H _ _ v u Q I rx ry h
def rModU : R2 := fun x y H Q => match x, y with
  | .int i, .int j => 0 < j ∧ Q (.int (i % j)) H
  | _, _ => False
theorem uMod : OpR X (binaryOp .Mod) rModU := by
  intro pins s σ H x y v u Q I rx ry h
  cases x <;> cases y <;> first | exact h.elim | exact op_mod pins s σ H _ _ v u Q I rx ry ⟨_, _, rfl, rfl, h.1, h.2⟩
def rDivU : R2 := fun x y H Q => match x, y with
  | .int i, .int j => (0 < j ∧ j < 1073741824) ∧ Q (.int (i / j)) H
  | _, _ => False
theorem uDiv : OpR X (binaryOp .FloorDiv) rDivU := by
  intro pins s σ H x y v u Q I rx ry h
  cases x <;> cases y <;> first | exact h.elim | exact op_fdiv pins s σ H _ _ v u Q I rx ry ⟨_, _, rfl, rfl, h.1, h.2⟩
def rPowU : R2 := fun x y H Q => match x, y with
  | .int i, .int j => CPow i j ∧ Q (.int (i ^ j.toNat)) H
  | _, _ => False
theorem uPow : OpR X (binaryOp .Pow) rPowU := by
  intro pins s σ H x y v u Q I rx ry h
  cases x <;> cases y <;> first | exact h.elim | exact op_pow pins s σ H _ _ v u Q I rx ry ⟨_, _, rfl, rfl, h.1, h.2⟩

/-! ### < <= > >= -/
def rLtU : R2 := fun x y H Q => match x, y with
  | .int i, .int j => Q (.bl (decide (i < j))) H
  | .str a, .str b => Q (.bl (decide (a.cps.toList < b.cps.toList))) H
  | _, _ => False
theorem uLt : OpR X (compareOp .Lt) rLtU := by
  intro pins s σ H x y v u Q I rx ry h
  cases x <;> cases y <;> first | exact h.elim | exact op_lt pins s σ H _ _ v u Q I rx ry ⟨_, _, rfl, rfl, h⟩ | exact op_lt_str pins s σ H _ _ v u Q I rx ry ⟨_, _, rfl, rfl, h⟩
def rLeU : R2 := fun x y H Q => match x, y with
  | .int i, .int j => Q (.bl (decide (i ≤ j))) H
  | _, _ => False
theorem uLe : OpR X (compareOp .LtE) rLeU := by
  intro pins s σ H x y v u Q I rx ry h
  cases x <;> cases y <;> first | exact h.elim | exact op_le pins s σ H _ _ v u Q I rx ry ⟨_, _, rfl, rfl, h⟩
def rGtU : R2 := fun x y H Q => match x, y with
  | .int i, .int j => Q (.bl (decide (j < i))) H
  | _, _ => False
theorem uGt : OpR X (compareOp .Gt) rGtU := by
  intro pins s σ H x y v u Q I rx ry h
  cases x <;> cases y <;> first | exact h.elim | exact op_gt pins s σ H _ _ v u Q I rx ry ⟨_, _, rfl, rfl, h⟩
def rGeU : R2 := fun x y H Q => match x, y with
  | .int i, .int j => Q (.bl (decide (j ≤ i))) H
  | _, _ => False
theorem uGe : OpR X (compareOp .GtE) rGeU := by
  intro pins s σ H x y v u Q I rx ry h
  cases x <;> cases y <;> first | exact h.elim | exact op_ge pins s σ H _ _ v u Q I rx ry ⟨_, _, rfl, rfl, h⟩

/-! ### == != is, is not -/
/-- == of any two: what is told of them is data -/
def eqB (x y : V) : Option Bool := match x, y with
  | .int i, .int j => some (decide (i = j))
  | .str a, .str b => some (decide (a = b))
  | .bl a, .bl b => some (decide (a = b))
  | .non, .non => some true
  | .int _, .str _ => some false
  | .str _, .int _ => some false
  | .non, .str _ => some false
  | .str _, .non => some false
  | .non, .int _ => some false
  | .int _, .non => some false
  | .bl _, .str _ => some false
  | .str _, .bl _ => some false
  | .bl _, .non => some false
  | .non, .bl _ => some false
  | _, _ => none
theorem eqB_scal {x y : V} {b : Bool} (h : eqB x y = some b) : scal x y = true ∧ decide (x = y) = b := by
  cases x <;> cases y <;> simp_all [eqB, scal]
def rEqU (K : PySem.W.Frag) : R2 := fun x y H Q => match eqB x y with
  | some b => Q (.bl b) H
  | none => rEqD K x y H Q
def rNeU (K : PySem.W.Frag) : R2 := fun x y H Q => match eqB x y with
  | some b => Q (.bl (!b)) H
  | none => rNeD K x y H Q
theorem uEq' (hu : X.A.units + 64 < cLine) : OpR X (compareOp .Eq) (rEqU X.K) := by
  intro pins s σ H x y v u Q I rx ry h
  unfold rEqU at h
  cases e : eqB x y with
  | some b =>
    rw [e] at h
    obtain ⟨z1, z2⟩ := eqB_scal e
    exact op_eq pins s σ H _ _ v u Q I rx ry ⟨z1, by rw [z2]; exact h⟩
  | none =>
    rw [e] at h
    exact op_eqD hu pins s σ H _ _ v u Q I rx ry h
theorem uNe' (hu : X.A.units + 64 < cLine) : OpR X (compareOp .NotEq) (rNeU X.K) := by
  intro pins s σ H x y v u Q I rx ry h
  unfold rNeU at h
  cases e : eqB x y with
  | some b =>
    rw [e] at h
    obtain ⟨z1, z2⟩ := eqB_scal e
    exact op_ne pins s σ H _ _ v u Q I rx ry ⟨z1, by rw [z2]; exact h⟩
  | none =>
    rw [e] at h
    exact op_neD hu pins s σ H _ _ v u Q I rx ry h
def rIsU : R2 := fun x y H Q => match y with
  | .non => Q (.bl (decide (x = .non))) H
  | .bl b => ∃ a, x = .bl a ∧ Q (.bl (decide (a = b))) H
  | _ => False
theorem uIs : OpR X (compareOp .Is) rIsU := by
  intro pins s σ H x y v u Q I rx ry h
  cases y <;> first | exact h.elim | exact op_isN pins s σ H _ _ v u Q I rx ry ⟨rfl, h⟩ | skip
  obtain ⟨a, rfl, h⟩ := h
  exact op_isBl pins s σ H _ _ v u Q I rx ry ⟨_, _, rfl, rfl, h⟩
def rIsNotU : R2 := fun x y H Q => match y with
  | .non => Q (.bl (!decide (x = .non))) H
  | .bl b => ∃ a, x = .bl a ∧ Q (.bl (!decide (a = b))) H
  | _ => False
/-! ### in, not in: lists and tuples -/
def rInU (K : PySem.W.Frag) : R2 := fun x y H Q => match y with
  | .ref p => ∃ xs, (SqL K H p xs ∨ SqT K H p xs) ∧ ((flatV x = true ∧ xs.all flatV = true ∧ Q (.bl (inV x xs)) H))
  | _ => False
theorem uIn : OpR X (compareOp .In) (rInU X.K) := by
  intro pins s σ H x y v u Q I rx ry h
  cases y <;> first | exact h.elim | skip
  obtain ⟨xs, h1, h2, h3, h4⟩ := h
  exact op_in_seq pins s σ H _ _ v u Q I rx ry ⟨_, xs, rfl, h1, h2, h3, h4⟩
def rNotInU (K : PySem.W.Frag) : R2 := fun x y H Q => match y with
  | .ref p => ∃ xs, (SqL K H p xs ∨ SqT K H p xs) ∧ ((flatV x = true ∧ xs.all flatV = true ∧ Q (.bl (!inV x xs)) H))
  | _ => False
theorem uNotIn : OpR X (compareOp .NotIn) (rNotInU X.K) := by
  intro pins s σ H x y v u Q I rx ry h
  cases y <;> first | exact h.elim | skip
  obtain ⟨xs, h1, h2, h3, h4⟩ := h
  exact op_notIn_seq pins s σ H _ _ v u Q I rx ry ⟨_, xs, rfl, h1, h2, h3, h4⟩

/-! ### o[i], o[a:b] -/
def rIxU (K : PySem.W.Frag) : R2 := fun x y H Q => match x, y with
  | .str z, .int i => z.length ≤ sizeLine ∧ ∃ c, atI z.cps.toList i = some c ∧ Q (.str ⟨#[c]⟩) H
  | .ref p, .int i => ∃ xs, (SqL K H p xs ∨ SqT K H p xs) ∧ ∃ v, atI xs i = some v ∧ Q v H
  | _, _ => False
theorem uIx : IxR X (rIxU X.K) := by
  intro a b pins s σ H x y v u Q I rx ry h hs
  cases x <;> cases y <;> first | exact h.elim | skip
  · obtain ⟨h1, c, h2, h3⟩ := h
    exact ix_str a b pins s σ H _ _ v u Q I rx ry ⟨_, _, c, rfl, rfl, h1, h2, h3⟩ hs
  · obtain ⟨xs, h1 | h1, w', h2, h3⟩ := h
    · exact ix_list a b pins s σ H _ _ v u Q I rx ry ⟨_, xs, _, w', rfl, rfl, h1, h2, h3⟩ hs
    · exact ix_tup a b pins s σ H _ _ v u Q I rx ry ⟨_, xs, _, w', rfl, rfl, h1, h2, h3⟩ hs
end
end U

/-! slices, built-in functions by the values that come -/
namespace U
open PySem PySem.Spec PyProof.Rows L2
section
variable {X : Cx}
/-! ### slices -/
def rSlU (K : PySem.W.Frag) : V → Option Int → Option Int → Hp → VK → Prop := fun x lo hi H Q => match x with
  | .str z => z.length ≤ sizeLine ∧ Q (.str (cutS z lo hi)) H
  | .ref a => (∃ xs, SqL K H a xs ∧ nL (cutV xs lo hi) H Q) ∨ rSlA K (.ref a) lo hi H Q
  | _ => False
theorem uSl : SlR X (rSlU X.K) := by
  intro pins s σ H x v vl vu lo hi sl Q I rx hs pl pu h
  cases x <;> first | exact h.elim | skip
  · exact sl_str pins s σ H _ v vl vu lo hi sl Q I rx hs pl pu ⟨_, rfl, h.1, h.2⟩
  · rcases h with ⟨xs, h1, h2⟩ | h
    · exact sl_list pins s σ H _ v vl vu lo hi sl Q I rx hs pl pu ⟨_, xs, rfl, h1, h2⟩
    · exact sl_tupA pins s σ H _ v vl vu lo hi sl Q I rx hs pl pu h

/-! ### len, abs, max, min, int, list, tuple -/
def rLenU (K : PySem.W.Frag) : List V → Hp → VK → Prop := fun xs H Q => match xs with
  | [.str z] => z.length ≤ sizeLine ∧ Q (.int z.length) H
  | [.ref p] => (∃ ys, (SqL K H p ys ∨ SqT K H p ys) ∧ Q (.int ys.length) H) ∨ ∃ kvs, H p = some (.dK kvs) ∧ Q (.int kvs.length) H
  | _ => False
theorem cLen : CallR X (.builtin "len") (rLenU X.K) := by
  intro pins s σ H xs us Q I r h
  match xs, h with
  | [.str z], h => exact call_len_str pins s σ H _ us Q I r ⟨z, rfl, h.1, h.2⟩
  | [.ref p], .inl ⟨ys, h1, h2⟩ => exact call_len_seq pins s σ H _ us Q I r ⟨p, ys, rfl, h1, h2⟩
  | [.ref p], .inr ⟨kvs, h1, h2⟩ => exact call_lenD pins s σ H _ us Q I r ⟨p, kvs, rfl, h1, h2⟩
def rAbsU : List V → Hp → VK → Prop := fun xs H Q => match xs with
  | [.int i] => Q (.int (i.natAbs : Int)) H
  | _ => False
theorem cAbs : CallR X (.builtin "abs") rAbsU := by
  intro pins s σ H xs us Q I r h
  match xs, h with
  | [.int i], h =>
    refine call_abs pins s σ H _ us Q I r ⟨i, rfl, ?_⟩
    have e : (if i < 0 then -i else i) = (i.natAbs : Int) := by split <;> omega
    rw [e]
    exact h
def rMaxU : List V → Hp → VK → Prop := fun xs H Q => match xs with
  | [.int i, .int j] => Q (.int (max i j)) H
  | _ => False
theorem cMax (hc : X.calm = true) : CallR X (.builtin "max") rMaxU := by
  intro pins s σ H xs us Q I r h
  match xs, h with
  | [.int i, .int j], h =>
    refine call_max2 hc pins s σ H _ us Q I r ⟨i, j, rfl, ?_⟩
    have e : (if j > i then j else i) = max i j := by split <;> omega
    rw [e]
    exact h
def rMinU : List V → Hp → VK → Prop := fun xs H Q => match xs with
  | [.int i, .int j] => Q (.int (min i j)) H
  | _ => False
theorem cMin (hc : X.calm = true) : CallR X (.builtin "min") rMinU := by
  intro pins s σ H xs us Q I r h
  match xs, h with
  | [.int i, .int j], h =>
    refine call_min2 hc pins s σ H _ us Q I r ⟨i, j, rfl, ?_⟩
    have e : (if j < i then j else i) = min i j := by split <;> omega
    rw [e]
    exact h
def bToI (k : Bool) : Int := if k then 1 else 0
def rIntU : List V → Hp → VK → Prop := fun xs H Q => match xs with
  | [.int i] => Q (.int i) H
  | [.bl k] => Q (.int (bToI k)) H
  | _ => False
theorem cInt : CallR X (.type "int") rIntU := by
  intro pins s σ H xs us Q I r h
  match xs, h with
  | [.int i], h => exact call_int1 pins s σ H _ us Q I r (.inl ⟨i, rfl, h⟩)
  | [.bl k], h => exact call_int1 pins s σ H _ us Q I r (.inr ⟨k, rfl, h⟩)
def rListU (K : PySem.W.Frag) : List V → Hp → VK → Prop := fun xs H Q => match xs with
  | [.ref p] => (∃ ys, (SqL K H p ys ∨ SqT K H p ys) ∧ nL ys H Q) ∨ ∃ kvs : List (Key × V), Rd H p (.dK kvs) ∧ nL (kvs.map fun kv => kV kv.1) H Q
  | _ => False
theorem cList (hc : X.calm = true) : CallR X (.type "list") (rListU X.K) := by
  intro pins s σ H xs us Q I r h
  match xs, h with
  | [.ref p], .inl ⟨ys, h1, h2⟩ => exact call_list_of pins s σ H _ us Q I r ⟨p, ys, rfl, h1, h2⟩
  | [.ref p], .inr ⟨kvs, h1, h2⟩ => exact call_listD hc pins s σ H _ us Q I r ⟨p, kvs, rfl, h1, h2⟩
def rTupleU (K : PySem.W.Frag) : List V → Hp → VK → Prop := fun xs H Q => match xs with
  | [.ref p] => (∃ ys, SqL K H p ys ∧ nT ys H Q) ∨ ((∃ ys, SqT K H p ys) ∧ Q (.ref p) H)
  | _ => False
theorem cTuple : CallR X (.type "tuple") (rTupleU X.K) := by
  intro pins s σ H xs us Q I r h
  match xs, h with
  | [.ref p], .inl ⟨ys, h1, h2⟩ => exact call_tuple_of pins s σ H _ us Q I r ⟨p, ys, rfl, .inl ⟨h1, h2⟩⟩
  | [.ref p], .inr ⟨⟨ys, h1⟩, h2⟩ => exact call_tuple_of pins s σ H _ us Q I r ⟨p, ys, rfl, .inr ⟨h1, h2⟩⟩
def rDictU : List V → Hp → VK → Prop := fun xs H Q => match xs with
  | [.ref p] => ∃ kvs : List (Key × V), Rd H p (.dK kvs) ∧ ∀ d, H d = none → Q (.ref d) (upd H d (.dK kvs))
  | _ => False
theorem cDict : CallR X (.type "dict") rDictU := by
  intro pins s σ H xs us Q I r h
  match xs, h with
  | [.ref p], ⟨kvs, h1, h2⟩ => exact call_dictD pins s σ H _ us Q I r ⟨p, kvs, rfl, h1, h2⟩

/-! ### sorted -/
/-- a < b, of data -/
abbrev dLt (a b : PyData) : Bool := PySem.W.dataLt a b
/-- a list of what may be sorted -/
structure Sorts (K : PySem.W.Frag) (H : Hp) (bs : List (V × PyData)) : Prop where
  dat : ∀ b ∈ bs, Dp K H b.1 b.2
  alk : PySem.W.AllAlike (bs.map (·.2))
  srt : PySem.W.Sortable (bs.map (·.2))
  dep : ∀ b ∈ bs, b.2.depth ≤ 50
  len : bs.length ≤ 100000
def rSortU (K : PySem.W.Frag) : List V → Hp → VK → Prop := fun xs H Q => match xs with
  | [.ref p] => ∃ bs : List (V × PyData), SqL K H p (bs.map (·.1)) ∧ Sorts K H bs ∧
      ∀ cs : List (V × PyData), cs.Perm bs → cs.Pairwise (fun a b => dLt b.2 a.2 = false) → nL (cs.map (·.1)) H Q
  | _ => False
theorem each_vals : ∀ {bs : List (V × PyData)} {us : List Value}, Vals (bs.map (·.1)) us → PySem.W.EachIs (fun u b => RelV b.1 u) us bs
  | [], _, r => by
    cases r
    exact .nil
  | b :: bs, _, r => by
    cases r with
    | cons r1 r2 => exact .cons r1 (each_vals r2)
theorem vals_each : ∀ {bs : List (V × PyData)} {us : List Value}, PySem.W.EachIs (fun u b => RelV b.1 u) us bs → Vals (bs.map (·.1)) us
  | [], _, r => by
    cases r
    exact .nil
  | b :: bs, _, r => by
    cases r with
    | cons r1 r2 => exact .cons r1 (vals_each r2)
theorem each_reads {pins : List (Addr × Obj)} {σ : L2.St} {H : Hp} {s : Shared} (I : Inv X pins σ H s) : ∀ {bs : List (V × PyData)} {us : List Value}, (∀ b ∈ bs, Dp X.K H b.1 b.2) → Vals (bs.map (·.1)) us → PySem.W.EachIs (fun u b => ∃ as, Reads s.heap u b.2 as) us bs
  | [], _, _, r => by
    cases r
    exact .nil
  | b :: bs, _, h, r => by
    cases r with
    | cons r1 r2 => exact .cons (Dp.reads I _ _ _ (h b List.mem_cons_self) r1) (each_reads I (fun c hc => h c (List.mem_cons_of_mem _ hc)) r2)
theorem cSorted (hu : X.A.units + 64 < cLine) : CallR X (.builtin "sorted") (rSortU X.K) := by
  intro pins s σ H xs us Q I r h
  match xs, h with
  | [.ref p], ⟨bs, hs, S, q⟩ =>
    cases r with
    | cons r rr =>
      cases rr
      cases r
      obtain ⟨its, rv, pl, hz⟩ := I.list hs
      have e1 := each_vals rv
      have hb : ∀ b, b ∈ bs → X.A.units + 2 + b.2.depth < cLine := fun b hb => by
        have := S.dep b hb
        omega
      refine PySem.W.sorted_data (vs := its) (bs := bs) (enc := fun b : V × PyData => b.2) (R := fun u b => RelV b.1 u) pl.isList e1 (each_reads I S.dat rv) S.alk S.srt ?_ hb ?_
      · rw [List.length_map] at hz
        exact hz
      · intro out ol oe
        have perm : (bs.mergeSort (PySem.W.dataLe false fun b : V × PyData => b.2)).Perm bs := List.mergeSort_perm _ _
        have srt : (bs.mergeSort (PySem.W.dataLe false fun b : V × PyData => b.2)).Pairwise (fun a b => dLt b.2 a.2 = false) :=
          (PySem.W.sort_pairwise (PySem.W.sortLe_total _ _ _) bs).imp fun {a b} z => by
            have z' : (!dLt b.2 a.2) = true := z
            simpa using z'
        generalize bs.mergeSort (PySem.W.dataLe false fun b : V × PyData => b.2) = cs at perm srt oe
        have rv2 := vals_each oe
        have hfr : s.heap.objs.size ≤ s.heap.objs.size + 1 := Nat.le_succ _
        obtain ⟨e, he⟩ := sortedAll_at s.heap its out.toArray
        have new : ObjOk X.prog X.w (upd H (s.heap.objs.size + 1) (.lst (cs.map (·.1)))) (sortedAll s.heap its out.toArray) (s.heap.objs.size + 1) (.lst (cs.map (·.1))) :=
          ⟨by rw [List.length_map, perm.length_eq]; rw [List.length_map] at hz; exact hz, out, e, rv2, he⟩
        exact ⟨.ref (s.heap.objs.size + 1), _, I.laid (t' := s.toks) (fun b u z => sortedAll_old z) hfr new, rfl, q cs perm srt _ (I.hok.fresh hfr)⟩

/-! ### isinstance of built-in classes -/
inductive Ty where
  | non | bl | int | str | lst | tup | dct
  deriving DecidableEq
def Ty.nm : Ty → String
  | .non => "NoneType"
  | .bl => "bool"
  | .int => "int"
  | .str => "str"
  | .lst => "list"
  | .tup => "tuple"
  | .dct => "dict"
def isT (a b : Ty) : Bool := decide (a = b) || (decide (a = .bl) && decide (b = .int))
theorem isT_ok (a b : Ty) (hb : b ≠ .non) : kitB a.nm b.nm = some (isT a b) := by
  cases a <;> cases b <;> first | exact absurd rfl hb | decide +kernel
/-- a value's class -/
def TyIs (K : PySem.W.Frag) (H : Hp) (x : V) (a : Ty) : Prop := TyX K H x (.type a.nm)
def tyOf : String → Option Ty
  | "bool" => some .bl
  | "int" => some .int
  | "str" => some .str
  | "list" => some .lst
  | "tuple" => some .tup
  | "dict" => some .dct
  | _ => none
theorem tyOf_ok {n : String} {t : Ty} (h : tyOf n = some t) : n = t.nm ∧ t ≠ .non := by
  unfold tyOf at h
  split at h <;> first | (cases h; exact ⟨rfl, by decide⟩) | cases h
def rIsiU (K : PySem.W.Frag) : List V → Hp → VK → Prop := fun xs H Q => match xs with
  | [x, .ty n] => ∃ a t, TyIs K H x a ∧ tyOf n = some t ∧ Q (.bl (isT a t)) H
  | _ => False
theorem cIsi : CallR X (.builtin "isinstance") (rIsiU X.K) := by
  intro pins s σ H xs us Q I r h
  match xs, h with
  | [x, .ty n], ⟨a, t, h1, h2, h3⟩ =>
    obtain ⟨e, hn⟩ := tyOf_ok h2
    exact call_isi pins s σ H _ us Q I r ⟨x, _, _, _, _, rfl, .ty n, h1, kit_ty (by rw [e]; exact isT_ok a t hn), h3⟩
theorem ty_str {K : PySem.W.Frag} {H : Hp} {x : Str} : TyIs K H (.str x) .str := .base (.str x)
theorem ty_int {K : PySem.W.Frag} {H : Hp} {x : Int} : TyIs K H (.int x) .int := .base (.int x)
theorem ty_bl {K : PySem.W.Frag} {H : Hp} {x : Bool} : TyIs K H (.bl x) .bl := .base (.bl x)
theorem ty_non {K : PySem.W.Frag} {H : Hp} : TyIs K H .non .non := .base .non
theorem ty_lst {K : PySem.W.Frag} {H : Hp} {a : Addr} {xs : List V} (h : H a = some (.lst xs)) : TyIs K H (.ref a) .lst := .base (.lst h)
theorem ty_tup {K : PySem.W.Frag} {H : Hp} {a : Addr} {xs : List V} (h : H a = some (.tup xs)) : TyIs K H (.ref a) .tup := .base (.tup h)
theorem ty_dK {K : PySem.W.Frag} {H : Hp} {a : Addr} {kvs : List (Key × V)} (h : H a = some (.dK kvs)) : TyIs K H (.ref a) .dct := .base (.dK h)
end
end U
namespace U
open PySem PySem.Spec PyProof.Rows L2
/-! the rules with the fragment told: they serve within a comprehension's block -/
section
variable {X : Cx} (K : PySem.W.Frag) (hK : X.K = K)
include hK
theorem kAdd : OpR X (binaryOp .Add) (rAddU K) := hK ▸ uAdd
theorem kEq (hu : X.A.units + 64 < cLine) : OpR X (compareOp .Eq) (rEqU K) := hK ▸ uEq' hu
theorem kNe (hu : X.A.units + 64 < cLine) : OpR X (compareOp .NotEq) (rNeU K) := hK ▸ uNe' hu
theorem kIn : OpR X (compareOp .In) (rInU K) := hK ▸ uIn
theorem kNotIn : OpR X (compareOp .NotIn) (rNotInU K) := hK ▸ uNotIn
theorem kIx : IxR X (rIxU K) := hK ▸ uIx
theorem kSl : SlR X (rSlU K) := hK ▸ uSl
theorem kLen : CallR X (.builtin "len") (rLenU K) := hK ▸ cLen
theorem kList (hc : X.calm = true) : CallR X (.type "list") (rListU K) := hK ▸ cList hc
theorem kTuple : CallR X (.type "tuple") (rTupleU K) := hK ▸ cTuple
theorem kSorted (hu : X.A.units + 64 < cLine) : CallR X (.builtin "sorted") (rSortU K) := hK ▸ cSorted hu
theorem kIsi : CallR X (.builtin "isinstance") (rIsiU K) := hK ▸ cIsi
theorem ki_list {tg l : Expr} {tl : TE} (hl : PE X l tl) : PI X tg l (iList K tl) := hK ▸ pi_list hl
theorem ki_tup {tg l : Expr} {tl : TE} (hl : PE X l tl) : PI X tg l (iTup K tl) := hK ▸ pi_tup hl
theorem kg_tup {pos : Pos} {es : List Expr} {k : Nat} {t : TGs} {n : Nat} (hc : X.calm = true) (h : PGs X es t)
    (hn : (assignEach es X.env).length = n := by rfl) (hst : (assignEach es X.env).findIdx? (·.1) = none := by rfl) : PG X (.Tuple es k pos) (gTup K n t) := hK ▸ pg_tup hc h hn hst
end
end U

/-! the readings, step by step: one lemma a form, one word for all that need no thought -/
namespace U
open PySem PySem.Spec PyProof.Rows L2
section
variable {σ : L2.St} {H : Hp} {Q : VK} {D : Ends} {v x y : V} {i j : Int} {a b : Str} {ta tb tc te : TE} {t u : TS} {K : PySem.W.Frag}
theorem rd_seq (h : t { D with nx := u D } σ H) : tSeq t u D σ H := h
theorem rd_var {n : Nat} (e : σ[n]? = some (some v)) (h : Q v H) : tVar n σ H Q := ⟨v, e, h⟩
theorem rd_c (h : Q v H) : tC v σ H Q := h
theorem rd_asg {g : TG} (h : te σ H fun x H1 => g x σ H1 D.nx) : tAsg te g D σ H := h
theorem rd_name {n : Nat} {Q : L2.St → Hp → Prop} (h : Q (σ.set n (some v)) H) : gName n v σ H Q := h
theorem rd_ret (h : te σ H D.rt) : tRet te D σ H := h
theorem rd_retN (h : D.rt .non H) : tRetN D σ H := h
theorem rd_drop (h : te σ H fun _ H1 => D.nx σ H1) : tDrop te D σ H := h
theorem rd_next (h : D.nx σ H) : tNext D σ H := h
theorem rd_if {c : TT} (h : c σ H fun b H1 => if b = true then t D σ H1 else u D σ H1) : tIfS c t u D σ H := h
theorem rd_break (h : D.bk σ H) : tBreak D σ H := h
theorem rd_cont (h : D.ct σ H) : tCont D σ H := h
theorem rd_op {r : R2} (h : ta σ H fun x H1 => tb σ H1 fun y H2 => r x y H2 Q) : tOp r ta tb σ H Q := h
theorem rd_test {Q : Bool → Hp → Prop} (h : te σ H fun x H1 => ∃ k, x = .bl k ∧ Q k H1) : tTest te σ H Q := h
theorem rd_B {Q : Bool → Hp → Prop} (h : te σ H fun x H1 => ∃ k, x = .bl k ∧ Q k H1) : tB te σ H Q := h
theorem rd_bl {Q : Bool → Prop} {k : Bool} (h : Q k) : ∃ c, V.bl k = .bl c ∧ Q c := ⟨k, rfl, h⟩
theorem rd_chain {r r' : R2} (h : ta σ H fun x H1 => tb σ H1 fun y H2 => r x y H2 fun z H3 => ∃ k, z = .bl k ∧ (if k = true then tc σ H3 fun w' H4 => r' y w' H4 Q else Q (.bl false) H3)) : tChain r r' ta tb tc σ H Q := h
theorem rd_nil {Q : List V → Hp → Prop} (h : Q [] H) : tNil σ H Q := h
theorem rd_cons {tr : TA} {Q : List V → Hp → Prop} (h : ta σ H fun x H1 => tr σ H1 fun xs H2 => Q (x :: xs) H2) : tCons ta tr σ H Q := h
theorem rd_cb {r : List V → Hp → VK → Prop} {tr : TA} (h : tr σ H fun vs H1 => r vs H1 Q) : tCB r tr σ H Q := h
theorem rd_c1 {sp : Sp} {E : XK} {tr : TA} (h : tr σ H fun vs H1 => sp vs H1 Q E) : tC1 sp E tr σ H Q := h
theorem rd_c2 {sp : Sp} {W : WX} {tr : TA} (h : tr σ H fun vs H1 => sp vs H1 Q fun cls d H' => W cls d σ H') : tC2 sp W tr σ H Q := h
theorem rd_lst {tr : TA} (h : tr σ H fun xs H1 => xs.length ≤ sizeLine ∧ nL xs H1 Q) : tLst tr σ H Q := h
theorem rd_tup {tr : TA} (h : tr σ H fun xs H1 => xs.length ≤ sizeLine ∧ nT xs H1 Q) : tTup tr σ H Q := h
theorem rd_sz {xs : List V} {P : Prop} (h : Nat.ble xs.length 1000 = true) (q : P) : xs.length ≤ sizeLine ∧ P :=
  ⟨Nat.le_trans (Nat.le_of_ble_eq_true h) (by decide), q⟩
theorem rd_addI (h : Q (.int (i + j)) H) : rAddU K (.int i) (.int j) H Q := h
theorem rd_subI (h : Q (.int (i - j)) H) : rSubU (.int i) (.int j) H Q := h
theorem rd_mulI (c : CMul i j ∨ CMulW i j) (h : Q (.int (i * j)) H) : rMulU (.int i) (.int j) H Q := ⟨c, h⟩
theorem rd_modI (c : 0 < j) (h : Q (.int (i % j)) H) : rModU (.int i) (.int j) H Q := ⟨c, h⟩
theorem rd_divI (c : 0 < j ∧ j < 1073741824) (h : Q (.int (i / j)) H) : rDivU (.int i) (.int j) H Q := ⟨c, h⟩
theorem rd_addS (c : a.length + b.length ≤ sizeLine) (h : Q (.str (a ++ b)) H) : rAddU K (.str a) (.str b) H Q := ⟨c, h⟩
theorem rd_ltI (h : Q (.bl (decide (i < j))) H) : rLtU (.int i) (.int j) H Q := h
theorem rd_ltS (h : Q (.bl (decide (a.cps.toList < b.cps.toList))) H) : rLtU (.str a) (.str b) H Q := h
theorem rd_leI (h : Q (.bl (decide (i ≤ j))) H) : rLeU (.int i) (.int j) H Q := h
theorem rd_gtI (h : Q (.bl (decide (j < i))) H) : rGtU (.int i) (.int j) H Q := h
theorem rd_geI (h : Q (.bl (decide (j ≤ i))) H) : rGeU (.int i) (.int j) H Q := h
theorem rd_eqI (h : Q (.bl (decide (i = j))) H) : rEqU K (.int i) (.int j) H Q := h
theorem rd_eqS (h : Q (.bl (decide (a = b))) H) : rEqU K (.str a) (.str b) H Q := h
theorem rd_neI (h : Q (.bl (!decide (i = j))) H) : rNeU K (.int i) (.int j) H Q := h
theorem rd_neS (h : Q (.bl (!decide (a = b))) H) : rNeU K (.str a) (.str b) H Q := h
theorem rd_is (h : Q (.bl (decide (x = .non))) H) : rIsU x .non H Q := h
theorem rd_isNot (h : Q (.bl (!decide (x = .non))) H) : rIsNotU x .non H Q := h
theorem rd_absI (h : Q (.int (i.natAbs : Int)) H) : rAbsU [.int i] H Q := h
theorem rd_maxI (h : Q (.int (max i j)) H) : rMaxU [.int i, .int j] H Q := h
theorem rd_minI (h : Q (.int (min i j)) H) : rMinU [.int i, .int j] H Q := h
theorem rd_intI (h : Q (.int i) H) : rIntU [.int i] H Q := h
theorem rd_intB {k : Bool} (h : Q (.int (bToI k)) H) : rIntU [.bl k] H Q := h
theorem rd_neg {g : Int → Int} (h : Q (.int (g i)) H) : rU (fun i => .int (g i)) (.int i) H Q := ⟨i, rfl, h⟩
theorem rd_sub {to ti : TE} {t : TSet} {Q : L2.St → Hp → Prop} (h : to σ H fun o H1 => ti σ H1 fun i H2 => t o i v H2 fun H3 => Q σ H3) : gSub to ti t v σ H Q := h
theorem rd_and {t u : TT} {Q : Bool → Hp → Prop} (h : t σ H fun c H1 => if c = true then u σ H1 Q else Q false H1) : tAnd t u σ H Q := h
theorem rd_or {t u : TT} {Q : Bool → Hp → Prop} (h : t σ H fun c H1 => if c = true then Q true H1 else u σ H1 Q) : tOr t u σ H Q := h
theorem rd_not {t : TT} {Q : Bool → Hp → Prop} (h : t σ H fun c H1 => Q (!c) H1) : tNot t σ H Q := h
theorem rd_andV (h : ta σ H fun x H1 => ∃ c, x = .bl c ∧ if c = true then tb σ H1 Q else Q (.bl false) H1) : tAndV ta tb σ H Q := h
theorem rd_orV (h : ta σ H fun x H1 => ∃ c, x = .bl c ∧ if c = true then Q (.bl true) H1 else tb σ H1 Q) : tOrV ta tb σ H Q := h
theorem rd_notV (h : ta σ H fun x H1 => ∃ c, x = .bl c ∧ Q (.bl (!c)) H1) : tNotV ta σ H Q := h
theorem rd_ifE {t : TT} (h : t σ H fun c H1 => if c = true then ta σ H1 Q else tb σ H1 Q) : tIf t ta tb σ H Q := h
theorem rd_T {A B : Prop} (h : A) : if true = true then A else B := by
  rw [if_pos rfl]
  exact h
theorem rd_F {A B : Prop} (h : B) : if false = true then A else B := by
  rw [if_neg Bool.false_ne_true]
  exact h
/-- a test that is known -/
theorem rd_yes {c : Prop} {_ : Decidable c} {A B : Prop} (hc : c) (h : A) : if decide c = true then A else B := by
  rw [if_pos (decide_eq_true hc)]
  exact h
theorem rd_no {c : Prop} {_ : Decidable c} {A B : Prop} (hc : ¬ c) (h : B) : if decide c = true then A else B := by
  rw [if_neg (by rw [decide_eq_false hc]; exact Bool.false_ne_true)]
  exact h
theorem rd_nyes {c : Prop} {_ : Decidable c} {A B : Prop} (hc : ¬ c) (h : A) : if (!decide c) = true then A else B := by
  rw [if_pos (by rw [decide_eq_false hc]; rfl)]
  exact h
theorem rd_nno {c : Prop} {_ : Decidable c} {A B : Prop} (hc : c) (h : B) : if (!decide c) = true then A else B := by
  rw [if_neg (by rw [decide_eq_true hc]; exact Bool.false_ne_true)]
  exact h
theorem rd_split {c : Prop} {_ : Decidable c} {A B : Prop} (h1 : c → A) (h2 : ¬ c → B) : if decide c = true then A else B := by
  by_cases h : c
  · exact rd_yes h (h1 h)
  · exact rd_no h (h2 h)
theorem rd_nsplit {c : Prop} {_ : Decidable c} {A B : Prop} (h1 : ¬ c → A) (h2 : c → B) : if (!decide c) = true then A else B := by
  by_cases h : c
  · exact rd_nno h (h2 h)
  · exact rd_nyes h (h1 h)
theorem rd_b {c : Bool} {A B : Prop} (h1 : c = true → A) (h2 : c = false → B) : if c = true then A else B := by
  cases c with
  | true => exact rd_T (h1 rfl)
  | false => exact rd_F (h2 rfl)
/-- an item of a list, a tuple -/
theorem rd_ixL {p : Addr} {xs : List V} (hs : SqL K H p xs) (hv : atI xs i = some v) (h : Q v H) : rIxU K (.ref p) (.int i) H Q := ⟨xs, .inl hs, v, hv, h⟩
theorem rd_ixT {p : Addr} {xs : List V} (hs : SqT K H p xs) (hv : atI xs i = some v) (h : Q v H) : rIxU K (.ref p) (.int i) H Q := ⟨xs, .inr hs, v, hv, h⟩
theorem rd_ixS {c : Nat} (hz : a.length ≤ 100000) (hv : atI a.cps.toList i = some c) (h : Q (.str ⟨#[c]⟩) H) : rIxU K (.str a) (.int i) H Q := ⟨Nat.le_trans hz (by decide), c, hv, h⟩
theorem rd_lenL {p : Addr} {xs : List V} (hs : SqL K H p xs) (h : Q (.int xs.length) H) : rLenU K [.ref p] H Q := .inl ⟨xs, .inl hs, h⟩
theorem rd_lenT {p : Addr} {xs : List V} (hs : SqT K H p xs) (h : Q (.int xs.length) H) : rLenU K [.ref p] H Q := .inl ⟨xs, .inr hs, h⟩
theorem rd_lenS (hz : a.length ≤ 100000) (h : Q (.int a.length) H) : rLenU K [.str a] H Q := ⟨Nat.le_trans hz (by decide), h⟩
theorem rd_setL {p : Addr} {xs : List V} {n : Nat} {Q : Hp → Prop} (hs : H p = some (.lst xs)) (hi : ixN xs.length i = some n) (h : Q (upd H p (.lst (xs.set n v)))) : rSetL (.ref p) (.int i) v H Q := ⟨p, xs, i, n, rfl, rfl, hs, hi, h⟩
theorem rd_listL {p : Addr} {xs : List V} (hs : SqL K H p xs) (h : nL xs H Q) : rListU K [.ref p] H Q := .inl ⟨xs, .inl hs, h⟩
theorem rd_tupleL {p : Addr} {xs : List V} (hs : SqL K H p xs) (h : nT xs H Q) : rTupleU K [.ref p] H Q := .inl ⟨xs, hs, h⟩
theorem rd_slS {lo hi : Option Int} (hz : a.length ≤ 100000) (h : Q (.str (cutS a lo hi)) H) : rSlU K (.str a) lo hi H Q := ⟨Nat.le_trans hz (by decide), h⟩
theorem rd_slL {lo hi : Option Int} {p : Addr} {xs : List V} (hs : SqL K H p xs) (h : nL (cutV xs lo hi) H Q) : rSlU K (.ref p) lo hi H Q := .inl ⟨xs, hs, h⟩
theorem rd_sl {tl th : TO} {r : V → Option Int → Option Int → Hp → VK → Prop} (h : te σ H fun x H1 => tl σ H1 fun lo H2 => th σ H2 fun hi H3 => r x lo hi H3 Q) : tSl r te tl th σ H Q := h
theorem rd_noPart {Q : Option Int → Hp → Prop} (h : Q none H) : tNoPart σ H Q := h
theorem rd_part {Q : Option Int → Hp → Prop} (h : te σ H fun x H1 => ∃ i, x = .int i ∧ Q (some i) H1) : tPart te σ H Q := h
theorem rd_exI {Q : Int → Prop} (h : Q i) : ∃ k, V.int i = .int k ∧ Q k := ⟨i, rfl, h⟩
theorem rd_bm {T : String} {r : V → List V → Hp → VK → Prop} {tr : TA} (h : te σ H fun x H1 => tyV K T x H1 ∧ tr σ H1 fun xs H2 => r x xs H2 Q) : tBM K T r te tr σ H Q := h
theorem rd_bm0 {T : String} {r : V → List V → Hp → VK → Prop} (h : te σ H fun x H1 => tyV K T x H1 ∧ r x [] H1 Q) : tBM0 K T r te σ H Q := h
theorem rd_tyL {p : Addr} {xs : List V} {P : Prop} (hs : H p = some (.lst xs)) (h : P) : tyV K "list" (.ref p) H ∧ P := ⟨.inl ⟨rfl, xs, .inl (.inl hs)⟩, h⟩
theorem rd_append {p : Addr} {xs : List V} (hs : H p = some (.lst xs)) (hz : xs.length < 100000) (h : Q .non (upd H p (.lst (xs ++ [v])))) : rAppend (.ref p) [v] H Q :=
  ⟨p, xs, v, rfl, rfl, hs, Nat.lt_of_lt_of_le hz (by decide), h⟩
theorem mul_bI {i : Int} {b : Bool} : CMul i (bToI b) ∨ CMulW i (bToI b) := .inl (.inr (by cases b <;> decide))
theorem rd_powI (c : CPow i j) (h : Q (.int (i ^ j.toNat)) H) : rPowU (.int i) (.int j) H Q := ⟨c, h⟩
/-! heaps -/
theorem new_ne {p q : Addr} {o : HO} (h : upd H p o q = none) : q ≠ p := fun e => by
  rw [e, upd_same] at h
  cases h
theorem new_old {p q : Addr} {o : HO} (h : upd H p o q = none) : H q = none := by
  rw [upd_ne (new_ne h)] at h
  exact h
theorem at_upd {p q : Addr} {o u : HO} (n : q ≠ p) (h : H q = some u) : upd H p o q = some u := (upd_ne n).trans h
theorem no_upd {p q : Addr} {o : HO} (n : q ≠ p) (h : H q = none) : upd H p o q = none := (upd_ne n).trans h
/-- all that is tracked stays, but the object at p -/
def But (p : Addr) (H H' : Hp) : Prop := ∀ b o, b ≠ p → H b = some o → H' b = some o
theorem But.refl {p : Addr} : But p H H := fun _ _ _ h => h
theorem But.trans {p : Addr} {H1 H2 : Hp} (a : But p H H1) (b : But p H1 H2) : But p H H2 := fun c o n h => b c o n (a c o n h)
theorem But.of_same {p : Addr} {H1 : Hp} (a : Same H H1) : But p H H1 := fun c o _ h => a c o h
theorem But.upd {p : Addr} {o : HO} : But p H (upd H p o) := fun _ _ n h => at_upd n h
theorem But.new {p q : Addr} {o : HO} (h : H q = none) : But p H (L2.upd H q o) := fun _ _ _ e => at_upd (ne_of_none e h) e
theorem Same.new {q : Addr} {o : HO} (h : H q = none) : Same H (L2.upd H q o) := fun _ _ e => at_upd (ne_of_none e h) e
theorem But.free {p q : Addr} {H1 : Hp} (a : But p H H1) (n : q ≠ p) (h : H1 q = none) : H q = none := by
  cases e : H q with
  | none => rfl
  | some o =>
    rw [a q o n e] at h
    cases h
theorem new_of_same {q : Addr} {H1 : Hp} (a : Same H H1) (h : H1 q = none) : H q = none := a.free h
theorem Same.seqT {H' : Hp} {a : Addr} {xs : List V} (e : Same H H') (h : SqT K H a xs) : SqT K H' a xs := by
  rcases h with (h | ⟨o, h⟩) | h
  · exact .inl (.inl (e _ _ h))
  · exact .inl (.inr ⟨o, e _ _ h⟩)
  · exact .inr h
theorem But.seqT {p : Addr} {H' : Hp} {a : Addr} {xs : List V} (e : But p H H') (n : ∃ ys, H p = some (.lst ys)) (h : SqT K H a xs) : SqT K H' a xs := by
  obtain ⟨ys, hy⟩ := n
  rcases h with (h | ⟨o, h⟩) | h
  · exact .inl (.inl (e _ _ (ne_of h hy (by intro z; cases z)) h))
  · exact .inl (.inr ⟨o, e _ _ (ne_of h hy (by intro z; cases z)) h⟩)
  · exact .inr h
theorem rd_un {r : V → Hp → VK → Prop} (h : ta σ H fun x H1 => r x H1 Q) : tUn r ta σ H Q := h
end
local macro_rules | `(tactic| wtm_at "rd1") => `(tactic| first
  | with_reducible refine rd_seq ?_
  | ((with_reducible refine rd_var (v := ?vv) ?hv ?_); (case hv => exact rfl))
  | with_reducible refine rd_c ?_
  | with_reducible refine rd_cons ?_
  | with_reducible refine rd_nil ?_
  | with_reducible refine rd_op ?_
  | with_reducible refine rd_asg ?_
  | with_reducible refine rd_name ?_
  | with_reducible refine rd_c1 ?_
  | with_reducible refine rd_cb ?_
  | with_reducible refine rd_test ?_
  | with_reducible refine rd_B ?_
  | with_reducible refine rd_bl ?_
  | with_reducible refine rd_if ?_
  | with_reducible refine rd_ret ?_
  | with_reducible refine rd_drop ?_
  | with_reducible refine rd_next ?_
  | with_reducible refine rd_addI ?_
  | with_reducible refine rd_ltI ?_
  | with_reducible refine rd_eqI ?_
  | with_reducible refine rd_neI ?_
  | with_reducible refine rd_eqS ?_
  | with_reducible refine rd_neS ?_
  | with_reducible refine rd_gtI ?_
  | with_reducible refine rd_geI ?_
  | with_reducible refine rd_leI ?_
  | with_reducible refine rd_ltS ?_
  | with_reducible refine rd_subI ?_
  | ((with_reducible refine rd_modI ?hc ?_); (case hc => first | decide | omega))
  | ((with_reducible refine rd_mulI ?hc ?_); (case hc => first | exact mul_bI | exact .inl (.inr (by decide)) | exact .inl (.inl (by decide)) | exact .inl (.inr (by omega)) | exact .inl (.inl (by omega))))
  | ((with_reducible refine rd_divI ?hc ?_); (case hc => first | decide | omega))
  | ((with_reducible refine rd_powI ?hc ?_); (case hc => exact ⟨by decide, by decide, by decide⟩))
  | with_reducible refine rd_lst ?_
  | with_reducible refine rd_tup ?_
  | ((with_reducible refine rd_sz ?hv ?_); (case hv => exact rfl))
  | with_reducible refine rd_and ?_
  | with_reducible refine rd_or ?_
  | with_reducible refine rd_not ?_
  | with_reducible refine rd_andV ?_
  | with_reducible refine rd_orV ?_
  | with_reducible refine rd_notV ?_
  | with_reducible refine rd_ifE ?_
  | with_reducible refine rd_T ?_
  | with_reducible refine rd_F ?_
  | with_reducible refine rd_chain ?_
  | with_reducible refine rd_is ?_
  | with_reducible refine rd_isNot ?_
  | with_reducible refine rd_absI ?_
  | with_reducible refine rd_maxI ?_
  | with_reducible refine rd_minI ?_
  | with_reducible refine rd_intI ?_
  | with_reducible refine rd_intB ?_
  | with_reducible refine rd_sub ?_
  | with_reducible refine rd_sl ?_
  | with_reducible refine rd_noPart ?_
  | with_reducible refine rd_part ?_
  | with_reducible refine rd_exI ?_
  | with_reducible refine rd_bm ?_
  | with_reducible refine rd_bm0 ?_
  | with_reducible refine rd_un ?_
  | with_reducible refine rd_neg ?_
  | with_reducible refine rd_c2 ?_
  | with_reducible refine rd_retN ?_
  | with_reducible refine rd_break ?_
  | with_reducible refine rd_cont ?_)
local macro_rules | `(tactic| wtm_at "rd") => `(tactic| repeat wtm_at "rd1")
end U

/-! texts in order, names -/
namespace U
open PySem PySem.Spec PyProof.Rows L2
/-- the order of texts -/
def sLt (a b : Str) : Prop := a.cps.toList < b.cps.toList
instance (a b : Str) : Decidable (sLt a b) := inferInstanceAs (Decidable (a.cps.toList < b.cps.toList))
theorem str_ext {a b : Str} (h : a.cps.toList = b.cps.toList) : a = b := by
  obtain ⟨x⟩ := a
  obtain ⟨y⟩ := b
  have e : x = y := Array.toList_inj.mp h
  rw [e]
theorem sLt_irrefl (a : Str) : ¬ sLt a a := List.lt_irrefl _
theorem sLt_total {a b : Str} (h : ¬ sLt b a) (n : a ≠ b) : sLt a b := by
  have h1 : a.cps.toList ≤ b.cps.toList := List.not_lt.mp h
  rcases List.le_iff_lt_or_eq.mp h1 with z | z
  · exact z
  · exact absurd (str_ext z) n
theorem sLt_tri (a b : Str) : sLt a b ∨ a = b ∨ sLt b a := by
  by_cases h : sLt b a
  · exact .inr (.inr h)
  · by_cases e : a = b
    · exact .inr (.inl e)
    · exact .inl (sLt_total h e)
/-- strictly upwards -/
abbrev Asc (xs : List Str) : Prop := xs.Pairwise sLt
theorem asc_nodup {xs : List Str} (h : Asc xs) : xs.Nodup := by
  refine List.Pairwise.imp ?_ h
  intro a b z e
  subst e
  exact sLt_irrefl _ z
theorem asc_of_sorted {xs : List Str} (h : xs.Pairwise fun a b => ¬ sLt b a) (n : xs.Nodup) : Asc xs := by
  have z : xs.Pairwise fun a b => ¬ sLt b a ∧ a ≠ b := List.Pairwise.and h n
  exact z.imp fun {a b} q => sLt_total q.1 q.2
/-- an edge's order -/
def eLt (a b : Str × Str) : Prop := sLt a.1 b.1 ∨ (a.1 = b.1 ∧ sLt a.2 b.2)
instance (a b : Str × Str) : Decidable (eLt a b) := inferInstanceAs (Decidable (_ ∨ _))
theorem eLt_total {a b : Str × Str} (h : ¬ eLt b a) (n : a ≠ b) : eLt a b := by
  rcases sLt_tri a.1 b.1 with z | z | z
  · exact .inl z
  · rcases sLt_tri a.2 b.2 with y | y | y
    · exact .inr ⟨z, y⟩
    · exact absurd (Prod.ext z y) n
    · exact absurd (.inr ⟨z.symm, y⟩) h
  · exact absurd (.inl z) h
abbrev AscE (xs : List (Str × Str)) : Prop := xs.Pairwise eLt
theorem ascE_of_sorted {xs : List (Str × Str)} (h : xs.Pairwise fun a b => ¬ eLt b a) (n : xs.Nodup) : AscE xs := by
  have z : xs.Pairwise fun a b => ¬ eLt b a ∧ a ≠ b := List.Pairwise.and h n
  exact z.imp fun {a b} q => eLt_total q.1 q.2

section
variable {K : PySem.W.Frag} {H : Hp} {Q : VK} {p : Addr}
theorem perm_of_map {α β : Type} {f : α → β} : ∀ {l : List β} {xs : List α}, l.Perm (xs.map f) → ∃ ys : List α, ys.Perm xs ∧ l = ys.map f := by
  intro l xs h
  generalize hm : xs.map f = m at h
  induction h generalizing xs with
  | nil =>
    cases xs with
    | nil => exact ⟨[], .nil, rfl⟩
    | cons _ _ => cases hm
  | cons x hp ih =>
    cases xs with
    | nil => cases hm
    | cons a as =>
      injection hm with h1 h2
      obtain ⟨ys, py, e⟩ := ih h2
      exact ⟨a :: ys, py.cons a, by rw [e, List.map_cons, h1]⟩
  | swap x y l =>
    cases xs with
    | nil => cases hm
    | cons a as =>
      cases as with
      | nil => cases hm
      | cons b bs =>
        injection hm with h1 h2
        injection h2 with h2 h3
        exact ⟨b :: a :: bs, .swap a b bs, by rw [List.map_cons, List.map_cons, h1, h2, h3]⟩
  | trans _ _ ih1 ih2 =>
    obtain ⟨ys, py, e⟩ := ih2 hm
    obtain ⟨zs, pz, e'⟩ := ih1 e.symm
    exact ⟨zs, pz.trans py, e'⟩
/-- sorted(a list of texts) -/
theorem rd_sortS {xs : List Str} (hs : SqL K H p (xs.map V.str)) (hl : xs.length ≤ 100000) (k : ∀ ys : List Str, ys.Perm xs → ys.Pairwise (fun a b => ¬ sLt b a) → nL (ys.map V.str) H Q) : rSortU K [.ref p] H Q := by
  refine ⟨xs.map fun x => (V.str x, PyData.str x), ?_, ⟨?_, ?_, ?_, ?_, ?_⟩, ?_⟩
  · rw [List.map_map]
    exact hs
  · intro b hb
    obtain ⟨x, _, rfl⟩ := List.mem_map.mp hb
    exact .str x
  · rw [List.map_map]
    exact PySem.W.AllAlike.of (enc := PyData.str) fun a b => by simp [PySem.W.alike]
  · rw [List.map_map]
    exact PySem.W.Sortable.others (enc := PyData.str) fun b => ⟨by simp, by simp⟩
  · intro b hb
    obtain ⟨x, _, rfl⟩ := List.mem_map.mp hb
    simp [PyData.depth]
  · rw [List.length_map]
    omega
  · intro cs pc sc
    obtain ⟨ys, py, rfl⟩ := perm_of_map pc
    rw [List.map_map]
    refine k ys py ?_
    rw [List.pairwise_map] at sc
    refine sc.imp fun {a b} z h => ?_
    have z' : PySem.W.dataLt (PyData.str b) (PyData.str a) = false := z
    rw [PySem.W.dataLt_str] at z'
    exact of_decide_eq_false z' h
/-- sorted(a list of pairs of texts): e is the pair's place, then the two -/
theorem rd_sortE {xs : List (Addr × Str × Str)} (hs : SqL K H p (xs.map fun e => V.ref e.1)) (ht : ∀ e ∈ xs, SqT K H e.1 [.str e.2.1, .str e.2.2]) (hl : xs.length ≤ 100000)
    (k : ∀ ys : List (Addr × Str × Str), ys.Perm xs → ys.Pairwise (fun a b => ¬ eLt b.2 a.2) → nL (ys.map fun e => V.ref e.1) H Q) : rSortU K [.ref p] H Q := by
  refine ⟨xs.map fun e => (V.ref e.1, PyData.tuple [.str e.2.1, .str e.2.2]), ?_, ⟨?_, ?_, ?_, ?_, ?_⟩, ?_⟩
  · rw [List.map_map]
    exact hs
  · intro b hb
    obtain ⟨x, hx, rfl⟩ := List.mem_map.mp hb
    exact .tup (ht x hx) (.cons (.str _) (.cons (.str _) .nil))
  · rw [List.map_map]
    exact PySem.W.AllAlike.of (enc := fun e : Addr × Str × Str => PyData.tuple [.str e.2.1, .str e.2.2]) fun a b => by simp [PySem.W.alike, PySem.W.alikeAll]
  · rw [List.map_map]
    exact PySem.W.Sortable.tuples (enc := fun e : Addr × Str × Str => PyData.tuple [.str e.2.1, .str e.2.2]) fun b => ⟨_, _, rfl⟩
  · intro b hb
    obtain ⟨x, _, rfl⟩ := List.mem_map.mp hb
    simp [PyData.depth, PyData.depthAll]
  · rw [List.length_map]
    omega
  · intro cs pc sc
    obtain ⟨ys, py, rfl⟩ := perm_of_map pc
    rw [List.map_map]
    refine k ys py ?_
    rw [List.pairwise_map] at sc
    refine sc.imp fun {a b} z h => ?_
    have z' : PySem.W.dataLt (PyData.tuple [.str b.2.1, .str b.2.2]) (PyData.tuple [.str a.2.1, .str a.2.2]) = false := z
    rw [PySem.W.dataLt_pair (by simp [PySem.W.alike]) (by simp [PySem.W.alike]), PySem.W.dataLt_str, PySem.W.dataLt_str] at z'
    simp only [PyData.eqv, beq_iff_eq] at z'
    rcases h with h | ⟨e, h⟩
    · have n : ¬ b.2.1 = a.2.1 := fun e => sLt_irrefl _ (by rw [e] at h; exact h)
      rw [if_neg n] at z'
      exact of_decide_eq_false z' h
    · rw [if_pos e] at z'
      have n : ¬ b.2.2 = a.2.2 := fun e => sLt_irrefl _ (by rw [e] at h; exact h)
      rw [if_neg n] at z'
      exact of_decide_eq_false z' h
end
end U

/-! names as the laws draw them -/
namespace U
open PySem PySem.Spec PyProof.Rows L2
/-- 1 to 8 small letters -/
structure IsName (z : Str) : Prop where
  lo : 1 ≤ z.length
  hi : z.length ≤ 8
  ch : ∀ c ∈ z.cps.toList, 97 ≤ c ∧ c ≤ 122
theorem letters_at {i : Int} (h0 : 0 ≤ i) (h1 : i < 26) : atI (Str.ofString "abcdefghijklmnopqrstuvwxyz").cps.toList i = some (97 + i.toNat) := by
  obtain ⟨n, rfl⟩ : ∃ n : Nat, i = (n : Int) := ⟨i.toNat, by omega⟩
  have all : ∀ n : Fin 26, (Str.ofString "abcdefghijklmnopqrstuvwxyz").cps.toList[(n : Nat)]? = some (97 + (n : Nat)) := by decide +kernel
  have hn : n < 26 := by omega
  rw [Int.toNat_natCast]
  exact atI_nat (all ⟨n, hn⟩)
theorem letters_len : (Str.ofString "abcdefghijklmnopqrstuvwxyz").length ≤ 100000 := by decide +kernel
theorem pick4 {a b c d r : Int} (h0 : 0 ≤ r) (h1 : r < 4) : ∃ v, atI [V.int a, .int b, .int c, .int d] r = some (.int v) ∧ (v = a ∨ v = b ∨ v = c ∨ v = d) := by
  have : r = 0 ∨ r = 1 ∨ r = 2 ∨ r = 3 := by omega
  rcases this with rfl | rfl | rfl | rfl
  · exact ⟨a, rfl, .inl rfl⟩
  · exact ⟨b, rfl, .inr (.inl rfl)⟩
  · exact ⟨c, rfl, .inr (.inr (.inl rfl))⟩
  · exact ⟨d, rfl, .inr (.inr (.inr rfl))⟩
theorem bToI_pick {x y : V} (b : Bool) : atI [x, y] (bToI b) = some (if b = true then y else x) := by cases b <;> rfl
/-- the letter c put into the text t at place a -/
def putIn (t : List Nat) (a c : Nat) : List Nat := t.take a ++ [c] ++ t.drop a
theorem putIn_len (t : List Nat) (a c : Nat) (h : a ≤ t.length) : (putIn t a c).length = t.length + 1 := by
  unfold putIn
  simp
  omega
theorem putIn_inj {t : List Nat} {a c d : Nat} (h : a ≤ t.length) (e : putIn t a c = putIn t a d) : c = d := by
  unfold putIn at e
  rw [List.append_assoc, List.append_assoc] at e
  have e2 := List.append_cancel_left e
  injection e2
theorem mem_putIn {t : List Nat} {a c x : Nat} (h : x ∈ putIn t a c) : x = c ∨ x ∈ t := by
  unfold putIn at h
  rw [List.mem_append, List.mem_append, List.mem_singleton] at h
  rcases h with (h | h) | h
  · exact .inr (List.mem_of_mem_take h)
  · exact .inl h
  · exact .inr (List.mem_of_mem_drop h)
/-- the k-th name: begin b, step s, the tail's letter and times, its place, whether mixed -/
def nameK (b s : Int) (t : List Nat) (a : Nat) (m : Bool) (k : Nat) : Str :=
  if m = true ∧ k % 2 = 1 then ⟨#[97 + ((b + s * (k : Int)) % 26).toNat]⟩ else ⟨(putIn t a (97 + ((b + s * (k : Int)) % 26).toNat)).toArray⟩
theorem nameK_ok {b s : Int} {n d a : Nat} {m : Bool} {k : Nat} (hn : n ≤ 7) (ha : a ≤ n) (hd : 97 ≤ d ∧ d ≤ 122) : IsName (nameK b s (List.replicate n d) a m k) := by
  have hc : 97 ≤ 97 + ((b + s * (k : Int)) % 26).toNat ∧ 97 + ((b + s * (k : Int)) % 26).toNat ≤ 122 := by omega
  unfold nameK
  generalize 97 + ((b + s * (k : Int)) % 26).toNat = c at hc
  split
  · exact ⟨by simp [Str.length], by simp [Str.length], fun x hx => by
      have : x = c := by simpa using hx
      rw [this]
      exact hc⟩
  · have hl : (putIn (List.replicate n d) a c).length = n + 1 := by rw [putIn_len _ _ _ (by rw [List.length_replicate]; exact ha), List.length_replicate]
    refine ⟨by simp [Str.length, hl], by simp [Str.length, hl]; omega, fun x hx => ?_⟩
    have hx' : x ∈ putIn (List.replicate n d) a c := by simpa using hx
    rcases mem_putIn hx' with e | e
    · rw [e]; exact hc
    · rw [List.eq_of_mem_replicate e]; exact hd
theorem nameK_inj {b s : Int} {n d a : Nat} {m : Bool} {j k : Nat} (ha : a ≤ n) (hs : s = 1 ∨ s = 3 ∨ s = 5 ∨ s = 7) (hj : j < 26) (hk : k < 26)
    (e : nameK b s (List.replicate n d) a m j = nameK b s (List.replicate n d) a m k) : j = k := by
  have core : ∀ {x y : Nat}, x = 97 + ((b + s * (j : Int)) % 26).toNat → y = 97 + ((b + s * (k : Int)) % 26).toNat → x = y → j = k := by
    intro x y hx hy q
    rcases hs with rfl | rfl | rfl | rfl <;> omega
  have hl : ∀ c, (putIn (List.replicate n d) a c).length = n + 1 := fun c => by rw [putIn_len _ _ _ (by rw [List.length_replicate]; exact ha), List.length_replicate]
  unfold nameK at e
  split at e <;> split at e
  · injection e with e
    have e2 := congrArg Array.toList e
    simp only [List.cons.injEq, and_true] at e2
    exact core rfl rfl e2
  · rename_i h1 h2
    exfalso
    injection e with e
    have e2 := congrArg Array.size e
    simp only [List.size_toArray, hl] at e2
    have hn : n = 0 := by simpa using e2.symm
    subst hn
    obtain rfl : a = 0 := by omega
    have e3 := congrArg Array.toList e
    simp only [putIn, List.replicate_zero, List.take_nil, List.nil_append, List.drop_nil, List.append_nil, List.cons.injEq, and_true] at e3
    have := core rfl rfl e3
    subst this
    exact h2 h1
  · rename_i h1 h2
    exfalso
    injection e with e
    have e2 := congrArg Array.size e
    simp only [List.size_toArray, hl] at e2
    have hn : n = 0 := by simpa using e2
    subst hn
    obtain rfl : a = 0 := by omega
    have e3 := congrArg Array.toList e
    simp only [putIn, List.replicate_zero, List.take_nil, List.nil_append, List.drop_nil, List.append_nil, List.cons.injEq, and_true] at e3
    have := core rfl rfl e3
    subst this
    exact h1 h2
  · injection e with e
    have e2 := congrArg Array.toList e
    exact core rfl rfl (putIn_inj (by rw [List.length_replicate]; exact ha) e2)
theorem names_nodup {b s : Int} {n d a : Nat} {m : Bool} (ha : a ≤ n) (hs : s = 1 ∨ s = 3 ∨ s = 5 ∨ s = 7) {many : Nat} (hm : many ≤ 26) : ((List.range many).map (nameK b s (List.replicate n d) a m)).Nodup := by
  rw [List.nodup_iff_pairwise_ne, List.pairwise_map]
  have h : (List.range many).Pairwise fun x y => x ≠ y := List.nodup_range
  refine (List.Pairwise.and_mem.mp h).imp ?_
  intro x y ⟨hx, hy, n⟩ e
  exact n (nameK_inj ha hs (by have := List.mem_range.mp hx; omega) (by have := List.mem_range.mp hy; omega) e)
/-- names, strictly upwards -/
structure Names (ys : List Str) : Prop where
  asc : Asc ys
  ok : ∀ y ∈ ys, IsName y
/-- names, each once, in any order -/
structure NamesU (ys : List Str) : Prop where
  nd : ys.Nodup
  ok : ∀ y ∈ ys, IsName y
theorem Names.u {ys : List Str} (h : Names ys) : NamesU ys := ⟨asc_nodup h.asc, h.ok⟩
theorem NamesU.perm {xs ys : List Str} (h : NamesU xs) (p : ys.Perm xs) : NamesU ys := ⟨p.nodup_iff.mpr h.nd, fun y hy => h.ok y (p.mem_iff.mp hy)⟩
/-! slices of a text -/
theorem cutS_to {z : Str} {i : Int} (h0 : 0 ≤ i) : cutS z none (some i) = ⟨(z.cps.toList.take i.toNat).toArray⟩ := by
  unfold cutS HT.sIx
  simp only [Nat.sub_zero, List.drop_zero]
  rw [if_neg (by omega)]
  congr 2
  have : z.cps.toList.length = z.length := by simp [Str.length]
  by_cases h : i.toNat ≤ z.length
  · rw [Nat.min_eq_left h]
  · rw [Nat.min_eq_right (by omega), List.take_of_length_le (by omega), List.take_of_length_le (by omega)]
theorem cutS_from {z : Str} {i : Int} (h0 : 0 ≤ i) : cutS z (some i) none = ⟨(z.cps.toList.drop i.toNat).toArray⟩ := by
  unfold cutS HT.sIx
  simp only
  rw [if_neg (by omega)]
  congr 1
  have hl : z.cps.toList.length = z.length := by simp [Str.length]
  by_cases h : i.toNat ≤ z.length
  · rw [Nat.min_eq_left h, List.take_of_length_le (by rw [List.length_drop]; omega)]
  · rw [Nat.min_eq_right (by omega), List.drop_of_length_le (by omega), List.drop_of_length_le (by omega), List.take_nil]
theorem str_app {a b : List Nat} : (⟨a.toArray⟩ : Str) ++ ⟨b.toArray⟩ = ⟨(a ++ b).toArray⟩ := str_ext (TL.tl_append _ _)
end U

/-! loops, dictionaries, unpacking: their readings by steps -/
namespace U
open PySem PySem.Spec PyProof.Rows L2
/-- what a loop over J asks -/
def ForB (J : It) (g : TG) (tb : TS) (D : Ends) (σ : L2.St) (H : Hp) : Prop := ∃ W : Nat → Nat → L2.St → Hp → Prop, (∃ m, W 0 m σ H) ∧ ∀ i m σ H, W i m σ H →
  (J.stop i H ∧ D.nx σ H) ∨ (J.go i H ∧ ∃ N : L2.St → Hp → Prop, (∀ σ' H', N σ' H' → ∃ m', m' < m ∧ W (i + 1) m' σ' H') ∧ ∀ x H', J.yld i H x H' → g x σ H' fun σ2 H2 => tb { D with nx := N, ct := N, bk := D.nx } σ2 H2)
def LcB (J : It) (g : TG) (tt : TT) (te : TE) (vs : List Nat) (σ : L2.St) (H1 : Hp) (D : Addr) (Qd : Hp → Prop) : Prop := ∃ W : Nat → Nat → Hp → Prop, (∃ m, W 0 m (upd H1 D (.lst []))) ∧ ∀ i m H, W i m H →
  (J.stop i H ∧ Qd H) ∨ (J.go i H ∧ ∃ Nx : Hp → Prop, (∀ H', Nx H' → ∃ m', m' < m ∧ W (i + 1) m' H') ∧ ∀ x H', J.yld i H x H' → g x (wipe σ vs) H' fun σ2 H2 => wipe σ2 vs = wipe σ vs ∧ tt σ2 H2 fun b H3 =>
    if b = true then te σ2 H3 fun y H4 => ∃ acc, H4 D = some (.lst acc) ∧ acc.length < sizeLine ∧ Nx (upd H4 D (.lst (acc ++ [y]))) else Nx H3)
section
variable {σ : L2.St} {H : Hp} {Q : VK} {D : Ends} {v x y : V} {i j : Int} {ta tb tc te td ty tv : TE} {t u : TS} {K : PySem.W.Frag} {g : TG} {wi : TI} {R : It → Hp → Prop} {tr : TA}
theorem rd_for (h : wi σ H fun J H1 => ForB J g t D σ H1) : tFor wi g t D σ H := h
theorem rd_rng1 (h : tr σ H fun vs H1 => ∃ j : Int, vs = [.int j] ∧ -(2 ^ 62) ≤ j ∧ j < 2 ^ 62 ∧ R (Itr 0 j.toNat) H1) : iRng1 tr σ H R := h
theorem rd_rng2 (h : tr σ H fun vs H1 => ∃ i j : Int, vs = [.int i, .int j] ∧ (-(2 ^ 62) ≤ i ∧ i < 2 ^ 62 ∧ -(2 ^ 62) ≤ j ∧ j < 2 ^ 62) ∧ R (Itr i (j - i).toNat) H1) : iRng2 tr σ H R := h
theorem rd_iList (h : te σ H fun x H1 => ∃ a, x = .ref a ∧ (∃ xs, SqL K H1 a xs) ∧ R (Itl K a) H1) : iList K te σ H R := h
theorem rd_iTup (h : te σ H fun x H1 => ∃ a, x = .ref a ∧ (∃ xs, SqT K H1 a xs) ∧ R (Itt K a) H1) : iTup K te σ H R := h
theorem rd_iEnum (h : tr σ H fun vs H1 => ∃ a xs, vs = [.ref a] ∧ SqL K H1 a xs ∧ R (Ite K a) H1) : iEnum K tr σ H R := h
theorem rd_forL {p : Addr} {xs : List V} {R : Addr → Prop} (hs : SqL K H p xs) (h : R p) : ∃ a, V.ref p = .ref a ∧ (∃ xs, SqL K H a xs) ∧ R a := ⟨p, rfl, ⟨xs, hs⟩, h⟩
theorem rd_forT {p : Addr} {xs : List V} {R : Addr → Prop} (hs : SqT K H p xs) (h : R p) : ∃ a, V.ref p = .ref a ∧ (∃ xs, SqT K H a xs) ∧ R a := ⟨p, rfl, ⟨xs, hs⟩, h⟩
theorem rd_forR {R : Int → Prop} (h0 : -(2 ^ 62) ≤ j) (h1 : j < 2 ^ 62) (h : R j) : ∃ k : Int, [V.int j] = [.int k] ∧ -(2 ^ 62) ≤ k ∧ k < 2 ^ 62 ∧ R k := ⟨j, rfl, h0, h1, h⟩
theorem rd_forE {p : Addr} {xs : List V} {R : Addr → Prop} (hs : SqL K H p xs) (h : R p) : ∃ a xs, [V.ref p] = [.ref a] ∧ SqL K H a xs ∧ R a := ⟨p, xs, rfl, hs, h⟩
theorem turnsR {lo : Int} {n : Nat} (Pv : Nat → L2.St → Hp → Prop) (h0 : Pv 0 σ H) (hs : ∀ i σ H, i < n → Pv i σ H → g (.int (lo + i)) σ H fun σ2 H2 => t { D with nx := Pv (i + 1), ct := Pv (i + 1), bk := D.nx } σ2 H2)
    (hd : ∀ σ H, Pv n σ H → D.nx σ H) : ForB (Itr lo n) g t D σ H := for_range Pv h0 hs hd
theorem turnsL {a : Addr} {xs : List V} (Pv : Nat → L2.St → Hp → Prop) (h0 : Pv 0 σ H) (hl : ∀ i σ H, i ≤ xs.length → Pv i σ H → SqL K H a xs)
    (hs : ∀ i x σ H, xs[i]? = some x → Pv i σ H → g x σ H fun σ2 H2 => t { D with nx := Pv (i + 1), ct := Pv (i + 1), bk := D.nx } σ2 H2) (hd : ∀ σ H, Pv xs.length σ H → D.nx σ H) : ForB (Itl K a) g t D σ H := for_list Pv h0 hl hs hd
theorem turnsT {a : Addr} {xs : List V} (Pv : Nat → L2.St → Hp → Prop) (h0 : Pv 0 σ H) (hl : ∀ i σ H, i ≤ xs.length → Pv i σ H → SqT K H a xs)
    (hs : ∀ i x σ H, xs[i]? = some x → Pv i σ H → g x σ H fun σ2 H2 => t { D with nx := Pv (i + 1), ct := Pv (i + 1), bk := D.nx } σ2 H2) (hd : ∀ σ H, Pv xs.length σ H → D.nx σ H) : ForB (Itt K a) g t D σ H := for_tup Pv h0 hl hs hd
theorem turnsW {J : It} {n : Nat} {G : Hp → Prop} {Y : Nat → Hp → V → Hp → Prop} (w : Walk J n G Y) (Pv : Nat → L2.St → Hp → Prop) (h0 : Pv 0 σ H) (hG : ∀ i σ H, i ≤ n → Pv i σ H → G H)
    (hs : ∀ i x σ H H', i < n → Pv i σ H → Y i H x H' → g x σ H' fun σ2 H2 => t { D with nx := Pv (i + 1), ct := Pv (i + 1), bk := D.nx } σ2 H2) (hd : ∀ σ H, Pv n σ H → D.nx σ H) : ForB J g t D σ H := for_it w Pv h0 hG hs hd
theorem rd_lc {tt : TT} {vs : List Nat} (h : wi σ H fun J H1 => ∀ D, H1 D = none → LcB J g tt te vs σ H1 D fun H2 => Q (.ref D) H2) : tLc wi g tt te vs σ H Q := h
theorem lcT {a : Addr} {xs : List V} {tt : TT} {vs : List Nat} {D : Addr} {Qd : Hp → Prop} (Pv : Nat → Hp → Prop) (h0 : Pv 0 (upd H D (.lst []))) (hl : ∀ i H, i ≤ xs.length → Pv i H → SqT K H a xs)
    (hs : ∀ i x H, xs[i]? = some x → Pv i H → g x (wipe σ vs) H fun σ2 H2 => wipe σ2 vs = wipe σ vs ∧ tt σ2 H2 fun b H3 =>
      if b = true then te σ2 H3 fun y H4 => ∃ acc, H4 D = some (.lst acc) ∧ acc.length < sizeLine ∧ Pv (i + 1) (upd H4 D (.lst (acc ++ [y]))) else Pv (i + 1) H3) (hd : ∀ H, Pv xs.length H → Qd H) : LcB (Itt K a) g tt te vs σ H D Qd := lc_tup Pv h0 hl hs hd
theorem lcL {a : Addr} {xs : List V} {tt : TT} {vs : List Nat} {D : Addr} {Qd : Hp → Prop} (Pv : Nat → Hp → Prop) (h0 : Pv 0 (upd H D (.lst []))) (hl : ∀ i H, i ≤ xs.length → Pv i H → SqL K H a xs)
    (hs : ∀ i x H, xs[i]? = some x → Pv i H → g x (wipe σ vs) H fun σ2 H2 => wipe σ2 vs = wipe σ vs ∧ tt σ2 H2 fun b H3 =>
      if b = true then te σ2 H3 fun y H4 => ∃ acc, H4 D = some (.lst acc) ∧ acc.length < sizeLine ∧ Pv (i + 1) (upd H4 D (.lst (acc ++ [y]))) else Pv (i + 1) H3) (hd : ∀ H, Pv xs.length H → Qd H) : LcB (Itl K a) g tt te vs σ H D Qd := lc_list Pv h0 hl hs hd
theorem lcR {lo : Int} {n : Nat} {tt : TT} {vs : List Nat} {D : Addr} {Qd : Hp → Prop} (Pv : Nat → Hp → Prop) (h0 : Pv 0 (upd H D (.lst [])))
    (hs : ∀ i H, i < n → Pv i H → g (.int (lo + i)) (wipe σ vs) H fun σ2 H2 => wipe σ2 vs = wipe σ vs ∧ tt σ2 H2 fun b H3 =>
      if b = true then te σ2 H3 fun y H4 => ∃ acc, H4 D = some (.lst acc) ∧ acc.length < sizeLine ∧ Pv (i + 1) (upd H4 D (.lst (acc ++ [y]))) else Pv (i + 1) H3) (hd : ∀ H, Pv n H → Qd H) : LcB (Itr lo n) g tt te vs σ H D Qd := lc_range Pv h0 hs hd
/-- unpacking -/
theorem rd_unp {n : Nat} {ts : TGs} {p : Addr} {xs : List V} {Q : L2.St → Hp → Prop} (hs : SqT K H p xs) (hl : xs.length = n) (h : ts xs σ H Q) : gTup K n ts (.ref p) σ H Q := ⟨p, xs, rfl, hs, hl, h⟩
theorem rd_gcons {tg : TG} {u : TGs} {vr : List V} {Q : L2.St → Hp → Prop} (h : tg v σ H fun σ1 H1 => u vr σ1 H1 Q) : gCons tg u (v :: vr) σ H Q := ⟨v, vr, rfl, h⟩
theorem rd_gnil {Q : L2.St → Hp → Prop} (h : Q σ H) : gNil [] σ H Q := ⟨rfl, h⟩
/-- dictionaries -/
theorem rd_dget (h : td σ H fun x H1 => ty σ H1 fun y H2 => ∃ a v, x = .ref a ∧ DGet H2 a y (some v) ∧ Q v H2) : tDGet td ty σ H Q := h
theorem rd_dat {p : Addr} {kvs : List (Key × V)} {k : Key} (hs : Rd H p (.dK kvs)) (hv : valV kvs k = some v) {R : V → Prop} (hy : y = kV k) (h : R v) : ∃ a v, V.ref p = .ref a ∧ DGet H a y (some v) ∧ R v := ⟨p, v, rfl, .inl ⟨kvs, k, hs, hy, hv.symm⟩, h⟩
theorem rd_dput (h : tv σ H fun v H1 => td σ H1 fun x H2 => ty σ H2 fun y H3 => ∃ a H4, x = .ref a ∧ DPut H3 a y v H4 ∧ D.nx σ H4) : sDPut td ty tv D σ H := h
end
end U

/-! lists of texts as data -/
namespace U
open PySem PySem.Spec PyProof.Rows L2
theorem IsName.sok {z : Str} (h : IsName z) : PyData.strOk z = true := by
  unfold PyData.strOk
  rw [Array.all_eq_true_iff_forall_mem]
  intro x hx
  have := h.ch x (by simpa using hx)
  rw [decide_eq_true_eq]
  omega
theorem erase_map {α β : Type} {f : α → β} : ∀ {xs : List α} {i : Nat}, (xs.map f).eraseIdx i = (xs.eraseIdx i).map f
  | [], _ => by simp
  | _ :: _, 0 => rfl
  | x :: xs, i + 1 => by
    show f x :: (xs.map f).eraseIdx i = f x :: (xs.eraseIdx i).map f
    rw [erase_map]
theorem erase_perm {α : Type} : ∀ {xs : List α} {i : Nat} (h : i < xs.length), (xs[i] :: xs.eraseIdx i).Perm xs
  | _ :: _, 0, _ => .refl _
  | x :: xs, i + 1, h => by
    have h' : i < xs.length := Nat.lt_of_succ_lt_succ h
    show (xs[i] :: x :: xs.eraseIdx i).Perm (x :: xs)
    exact (List.Perm.swap x xs[i] _).trans ((erase_perm h').cons x)
section
variable {K : PySem.W.Frag} {H : Hp} {Q : VK} {p q : Addr}
theorem dp_strs : ∀ (xs : List Str), DpAll K H (xs.map V.str) (xs.map PyData.str)
  | [] => .nil
  | x :: xs => .cons (.str x) (dp_strs xs)
theorem can_strs : ∀ {xs : List Str}, (∀ x ∈ xs, PyData.strOk x = true) → PyData.canLayAll0 (xs.map PyData.str) = true
  | [], _ => by simp [PyData.canLayAll0]
  | x :: xs, h => by
    rw [List.map_cons, PyData.canLayAll0, PyData.canLay0, h x List.mem_cons_self, can_strs fun y hy => h y (List.mem_cons_of_mem _ hy)]
    rfl
theorem dep_strs : ∀ {xs : List Str}, PyData.depthAll (xs.map PyData.str) = 0
  | [] => by simp [PyData.depthAll]
  | x :: xs => by
    rw [List.map_cons, PyData.depthAll, dep_strs, PyData.depth]
    rfl
theorem shp_strs {xs : List Str} (h : ∀ x ∈ xs, PyData.strOk x = true) : SeqAt.shaped (.list (xs.map PyData.str)) = true := by
  unfold SeqAt.shaped
  rw [PyData.canLay0, can_strs h, PyData.depth, dep_strs]
  rfl
theorem eqv_nil {xs : List Str} : PyData.eqv (.list (xs.map PyData.str)) (.list []) = xs.isEmpty := by
  cases xs with
  | nil => simp [PyData.eqv, PyData.eqvAll]
  | cons _ _ => simp [PyData.eqv, PyData.eqvAll]
/-- xs != [] -/
theorem rd_neNil {xs : List Str} (hp : SqL K H p (xs.map V.str)) (hq : SqL K H q []) (ok : ∀ x ∈ xs, PyData.strOk x = true) (h : Q (.bl (!xs.isEmpty)) H) : rNeU K (.ref p) (.ref q) H Q := by
  refine ⟨_, _, .lst hp (dp_strs xs), .lst hq .nil, shp_strs ok, by decide, ?_⟩
  rw [eqv_nil]
  exact h
theorem rd_popAt {xs : List V} {i : Int} {v : V} {k : Nat} (hs : H p = some (.lst xs)) (h0 : 0 ≤ i) (hk : i.toNat = k) (hl : xs.length < 100000) (hv : xs[k]? = some v) (h : Q v (upd H p (.lst (xs.eraseIdx k)))) : rPopAt (.ref p) [.int i] H Q := by
  obtain ⟨hlt, _⟩ := List.getElem?_eq_some_iff.mp hv
  refine ⟨p, xs, i, k, v, rfl, rfl, hs, by omega, by omega, ?_, hv, h⟩
  rw [seqIndex_of h0 (by omega), hk]
end
end U

/-! graphs and states as the laws draw them -/
namespace U
open PySem PySem.Spec PyProof.Rows L2
/-- the two names, the lower first -/
def eOf (a b : Str) : Str × Str := if sLt a b then (a, b) else (b, a)
theorem eOf_cases (a b : Str) : eOf a b = (a, b) ∨ eOf a b = (b, a) := by
  unfold eOf
  split
  · exact .inl rfl
  · exact .inr rfl
theorem eOf_lt {a b : Str} (n : a ≠ b) : sLt (eOf a b).1 (eOf a b).2 := by
  unfold eOf
  split
  · assumption
  · rename_i h
    exact sLt_total h (Ne.symm n)
theorem eOf_inj {a b c d : Str} (h : eOf a b = eOf c d) : (a = c ∧ b = d) ∨ (a = d ∧ b = c) := by
  rcases eOf_cases a b with e | e <;> rcases eOf_cases c d with e' | e' <;> rw [e, e'] at h <;> injection h with h1 h2
  · exact .inl ⟨h1, h2⟩
  · exact .inr ⟨h1, h2⟩
  · exact .inr ⟨h2, h1⟩
  · exact .inl ⟨h2, h1⟩
/-- the state's pairs -/
abbrev kvsOf (ws : List (Str × Int)) : List (Key × V) := ws.map fun p => (Sum.inr p.1, V.int p.2)
/-- the number of the node n -/
def numOf (ws : List (Str × Int)) (n : Str) : Int := (ws.lookup n).getD 0
theorem val_kvs : ∀ {ws : List (Str × Int)} {n : Str}, n ∈ ws.map (·.1) → valV (kvsOf ws) (.inr n) = some (.int (numOf ws n))
  | p :: ws, n, h => by
    by_cases e : n = p.1
    · subst e
      rw [kvsOf, List.map_cons, valV_pos rfl]
      unfold numOf
      rw [List.lookup_cons_self]
      rfl
    · have e' : ¬ (Sum.inr p.1 : Key) = Sum.inr n := fun z => e (Sum.inr.inj z).symm
      rw [kvsOf, List.map_cons, valV_neg e']
      have : n ∈ ws.map (·.1) := by
        rcases List.mem_cons.mp h with z | z
        · exact absurd z e
        · exact z
      have r := val_kvs this
      rw [kvsOf] at r
      rw [r]
      unfold numOf
      rw [List.lookup_cons, show (n == p.1) = false from beq_eq_false_iff_ne.mpr e]
theorem val_none : ∀ {ws : List (Str × Int)} {n : Str}, n ∉ ws.map (·.1) → valV (kvsOf ws) (.inr n) = none
  | [], _, _ => rfl
  | p :: ws, n, h => by
    have e' : ¬ (Sum.inr p.1 : Key) = Sum.inr n := fun z => h (by rw [← Sum.inr.inj z]; exact List.mem_cons_self)
    rw [kvsOf, List.map_cons, valV_neg e']
    exact val_none fun z => h (List.mem_cons_of_mem _ z)
theorem put_kvs {ws : List (Str × Int)} {n : Str} {v : Int} (h : n ∉ ws.map (·.1)) : putK (kvsOf ws) (.inr n) (.int v) = kvsOf (ws ++ [(n, v)]) := by
  rw [putK_new _ (val_none h), kvsOf, kvsOf, List.map_append]
  rfl
theorem num_mem : ∀ {ws : List (Str × Int)} {n : Str}, n ∈ ws.map (·.1) → (n, numOf ws n) ∈ ws
  | p :: ws, n, h => by
    unfold numOf
    rw [List.lookup_cons]
    by_cases e : n = p.1
    · rw [show (n == p.1) = true from beq_iff_eq.mpr e]
      subst e
      exact List.mem_cons_self
    · rw [show (n == p.1) = false from beq_eq_false_iff_ne.mpr e]
      have : n ∈ ws.map (·.1) := by
        rcases List.mem_cons.mp h with z | z
        · exact absurd z e
        · exact z
      exact List.mem_cons_of_mem _ (num_mem this)
/-- a state: each name once, in the order ord, a number of 0, 1, 2 -/
structure StOk (ord : List Str) (ws : List (Str × Int)) : Prop where
  key : ws.map (·.1) = ord
  num : ∀ p ∈ ws, 0 ≤ p.2 ∧ p.2 < 3
theorem StOk.at {ord : List Str} {ws : List (Str × Int)} (h : StOk ord ws) {n : Str} (hn : n ∈ ord) : 0 ≤ numOf ws n ∧ numOf ws n < 3 := h.num _ (num_mem (by rw [h.key]; exact hn))
theorem StOk.val {ord : List Str} {ws : List (Str × Int)} (h : StOk ord ws) {n : Str} (hn : n ∈ ord) : valV (kvsOf ws) (.inr n) = some (.int (numOf ws n)) := val_kvs (by rw [h.key]; exact hn)
/-- the edges as they are found: at turn i, j -/
structure EdgesIn (ord : List Str) (f : Str → Int) (i j : Nat) (es : List (Addr × Str × Str)) : Prop where
  nd : (es.map (·.2)).Nodup
  of : ∀ e ∈ es, ∃ i' j', ∃ (hi : i' < ord.length) (hj : j' < ord.length), j' < i' ∧ (i' < i ∨ (i' = i ∧ j' < j)) ∧ e.2 = eOf ord[i'] ord[j'] ∧ f ord[i'] ≠ f ord[j']
theorem EdgesIn.step {ord : List Str} {f : Str → Int} {i j i2 j2 : Nat} {es : List (Addr × Str × Str)} (h : EdgesIn ord f i j es) (c : i < i2 ∨ (i = i2 ∧ j ≤ j2)) : EdgesIn ord f i2 j2 es :=
  ⟨h.nd, fun e he => by
    obtain ⟨i', j', hi, hj, h1, h2, h3⟩ := h.of e he
    exact ⟨i', j', hi, hj, h1, by omega, h3⟩⟩
theorem EdgesIn.add {ord : List Str} {f : Str → Int} {i j : Nat} {es : List (Addr × Str × Str)} {t : Addr} (h : EdgesIn ord f i j es) (nd : ord.Nodup) (hij : j < i) (hi : i < ord.length) (hj : j < ord.length) (hf : f ord[i] ≠ f ord[j]) :
    EdgesIn ord f i (j + 1) (es ++ [(t, eOf ord[i] ord[j])]) := by
  have inj : ∀ {a b : Nat} (ha : a < ord.length) (hb : b < ord.length), ord[a] = ord[b] → a = b := by
    intro a b ha hb e
    have z := List.pairwise_iff_getElem.mp (List.nodup_iff_pairwise_ne.mp nd)
    rcases Nat.lt_trichotomy a b with h | h | h
    · exact absurd e (z a b ha hb h)
    · exact h
    · exact absurd e.symm (z b a hb ha h)
  refine ⟨?_, ?_⟩
  · rw [List.map_append, List.nodup_append]
    refine ⟨h.nd, by simp, ?_⟩
    intro x hx y hy e
    obtain ⟨z, hz, rfl⟩ := List.mem_map.mp hx
    have : y = eOf ord[i] ord[j] := by simpa using hy
    subst this
    obtain ⟨i', j', hi', hj', h1, h2, h3, _⟩ := h.of z hz
    rw [h3] at e
    rcases eOf_inj e with ⟨e1, e2⟩ | ⟨e1, e2⟩
    · have := inj _ _ e1
      have := inj _ _ e2
      omega
    · have := inj _ _ e1
      have := inj _ _ e2
      omega
  · intro e he
    rcases List.mem_append.mp he with he | he
    · obtain ⟨i', j', hi', hj', h1, h2, h3⟩ := h.of e he
      exact ⟨i', j', hi', hj', h1, by omega, h3⟩
    · have : e = (t, eOf ord[i] ord[j]) := by simpa using he
      subst this
      exact ⟨i, j, hi, hj, hij, by omega, rfl, hf⟩
/-- a graph: names upwards, edges upwards, each with its lower name first -/
structure GrOk (ns : List Str) (es : List (Str × Str)) : Prop where
  names : Names ns
  asc : AscE es
  lt : ∀ e ∈ es, sLt e.1 e.2
  mem : ∀ e ∈ es, e.1 ∈ ns ∧ e.2 ∈ ns
/-- the graph stands at g -/
structure GrAt (H : Hp) (g n e : Addr) (ns : List Str) (es : List (Addr × Str × Str)) : Prop where
  top : H g = some (.tup [.ref n, .ref e])
  nodes : H n = some (.tup (ns.map V.str))
  edges : H e = some (.tup (es.map fun x => V.ref x.1))
  pairs : ∀ x ∈ es, H x.1 = some (.tup [.str x.2.1, .str x.2.2])
theorem cutV_to {xs : List V} {i : Nat} (h : i ≤ xs.length) : cutV xs none (some (i : Int)) = xs.take i := by
  unfold cutV HT.sIx
  simp only [Nat.sub_zero, List.drop_zero]
  rw [if_neg (by omega), Int.toNat_natCast, Nat.min_eq_left h]
theorem map_at {α : Type} {f : α → V} {xs : List α} {i : Nat} {x : V} (h : (xs.map f)[i]? = some x) : ∃ hi : i < xs.length, x = f xs[i] := by
  rw [List.getElem?_map] at h
  by_cases hi : i < xs.length
  · rw [List.getElem?_eq_getElem hi] at h
    exact ⟨hi, (Option.some.inj h).symm⟩
  · rw [List.getElem?_eq_none (by omega)] at h
    cases h
theorem StOk.nil : StOk [] [] := ⟨rfl, fun _ h => nomatch h⟩
theorem StOk.add {ord : List Str} {ws : List (Str × Int)} {i : Nat} {v : Int} (h : StOk (ord.take i) ws) (hi : i < ord.length) (h0 : 0 ≤ v) (h1 : v < 3) : StOk (ord.take (i + 1)) (ws ++ [(ord[i], v)]) := by
  refine ⟨?_, ?_⟩
  · rw [List.map_append, h.key, List.take_succ, List.getElem?_eq_getElem hi]
    rfl
  · intro p hp
    rcases List.mem_append.mp hp with hp | hp
    · exact h.num p hp
    · have : p = (ord[i], v) := by simpa using hp
      subst this
      exact ⟨h0, h1⟩
theorem StOk.not {ord : List Str} {ws : List (Str × Int)} {i : Nat} (h : StOk (ord.take i) ws) (nd : ord.Nodup) (hi : i < ord.length) : ord[i] ∉ ws.map (·.1) := by
  rw [h.key]
  intro hm
  obtain ⟨j, hj, e⟩ := List.mem_iff_getElem.mp hm
  rw [List.length_take] at hj
  have e' : ord[j] = ord[i] := by rw [← e, List.getElem_take]
  have z := List.pairwise_iff_getElem.mp (List.nodup_iff_pairwise_ne.mp nd)
  exact z j i (by omega) hi (by omega) e'
theorem eOf_pair {a b : Str} : (if sLt a b then [V.str a, V.str b] else [V.str b, V.str a]) = [V.str (eOf a b).1, V.str (eOf a b).2] := by
  unfold eOf
  split <;> rfl
section
variable {K : PySem.W.Frag} {H : Hp} {Q : VK} {p q : Addr} {σ : L2.St}
theorem rd_dnew (h : ∀ d, H d = none → Q (.ref d) (upd H d (.dK []))) : tDNewK σ H Q := h
theorem rd_dset {kvs : List (Key × V)} {k : Key} {y v : V} {R : Hp → Prop} (hs : H p = some (.dK kvs)) (hy : y = kV k) (hl : kvs.length < 100000) (h : R (upd H p (.dK (putK kvs k v)))) :
    ∃ a H4, V.ref p = .ref a ∧ DPut H a y v H4 ∧ R H4 := ⟨p, _, rfl, .inl ⟨kvs, k, hs, hy, Nat.lt_of_lt_of_le hl (by decide), rfl⟩, h⟩
end
end U

/-! lifts: the plain laws -/
namespace U
open PySem PySem.Spec PyProof.Rows L2
/-- the dict of numbers over ns, in that order -/
abbrev kvF (ns : List Str) (f : Str → Int) : List (Key × V) := ns.map fun n => (Sum.inr n, V.int (f n))
def updf (f : Str → Int) (n : Str) (v : Int) : Str → Int := fun m => if m = n then v else f m
theorem kvF_val : ∀ {ns : List Str} {f : Str → Int} {n : Str}, n ∈ ns → valV (kvF ns f) (.inr n) = some (.int (f n))
  | m :: ns, f, n, h => by
    by_cases e : n = m
    · subst e
      rw [kvF, List.map_cons, valV_pos rfl]
    · have e' : ¬ (Sum.inr m : Key) = Sum.inr n := fun z => e (Sum.inr.inj z).symm
      rw [kvF, List.map_cons, valV_neg e']
      refine kvF_val ?_
      rcases List.mem_cons.mp h with z | z
      · exact absurd z e
      · exact z
theorem kvF_put {ns : List Str} {f : Str → Int} {n : Str} {v : Int} (h : n ∈ ns) : putK (kvF ns f) (.inr n) (.int v) = kvF ns (updf f n v) := by
  unfold putK
  rw [if_pos]
  · rw [kvF, kvF, List.map_map]
    refine List.map_congr_left fun m _ => ?_
    show (if (Sum.inr m : Key) = Sum.inr n then ((Sum.inr m : Key), V.int v) else (Sum.inr m, V.int (f m))) = (Sum.inr m, V.int (updf f n v m))
    unfold updf
    by_cases e : m = n
    · rw [if_pos (by rw [e]), if_pos e]
    · rw [if_neg (fun z => e (Sum.inr.inj z)), if_neg e]
  · rw [valV_any, kvF_val h]
    rfl
theorem kvs_F {ord : List Str} {ws : List (Str × Int)} (h : StOk ord ws) (nd : ord.Nodup) : kvsOf ws = kvF ord (numOf ws) := by
  obtain ⟨hk, _⟩ := h
  subst hk
  rw [kvF, List.map_map]
  refine List.map_congr_left fun p hp => ?_
  show ((Sum.inr p.1 : Key), V.int p.2) = (Sum.inr p.1, V.int (numOf ws p.1))
  have : (p.1, numOf ws p.1) ∈ ws := num_mem (List.mem_map_of_mem hp)
  congr 2
  -- one number a name
  have uniq : ∀ {ws : List (Str × Int)}, (ws.map (·.1)).Nodup → ∀ {x : Str} {a b : Int}, (x, a) ∈ ws → (x, b) ∈ ws → a = b := by
    intro ws
    induction ws with
    | nil => intro _ _ _ _ h; cases h
    | cons q ws ih =>
      intro nd x a b ha hb
      rw [List.map_cons, List.nodup_cons] at nd
      rcases List.mem_cons.mp ha with ea | ha <;> rcases List.mem_cons.mp hb with eb | hb
      · rw [← ea] at eb
        exact (Prod.mk.inj eb).2.symm
      · exact absurd (List.mem_map_of_mem (f := (·.1)) hb) (by rw [← ea] at nd; exact nd.1)
      · exact absurd (List.mem_map_of_mem (f := (·.1)) ha) (by rw [← eb] at nd; exact nd.1)
      · exact ih nd.2 ha hb
  exact uniq nd hp this

/-! ### neighbours, moves -/
def nbrF (es : List (Str × Str)) (x : Str) : List Str := es.flatMap fun e => (if e.1 = x then [e.2] else []) ++ (if e.2 = x then [e.1] else [])
theorem mem_nbrF {es : List (Str × Str)} {x z : Str} : z ∈ nbrF es x ↔ (x, z) ∈ es ∨ (z, x) ∈ es := by
  unfold nbrF
  rw [List.mem_flatMap]
  constructor
  · rintro ⟨e, he, h⟩
    rcases List.mem_append.mp h with h | h
    · split at h
      · rename_i c
        have : z = e.2 := by simpa using h
        subst this
        subst c
        exact .inl he
      · cases h
    · split at h
      · rename_i c
        have : z = e.1 := by simpa using h
        subst this
        subst c
        exact .inr he
      · cases h
  · rintro (h | h)
    · exact ⟨_, h, by simp⟩
    · exact ⟨_, h, by simp⟩
def freeB (es : List (Str × Str)) (f : Str → Int) (n : Str) (v : Int) : Bool := !decide (v ∈ (nbrF es n).map f ++ [f n])
def movesOf (es : List (Str × Str)) (f : Str → Int) (n : Str) : List (Str × Int) := (([0, 1, 2] : List Int).filter (freeB es f n)).map fun v => (n, v)
def movesF (ns : List Str) (es : List (Str × Str)) (f : Str → Int) (ps : List Str) : List (Str × Int) := ns.flatMap fun n => if n ∈ ps then [] else movesOf es f n
structure Legal (ns : List Str) (es : List (Str × Str)) (f : Str → Int) (ps : List Str) (m : Str × Int) : Prop where
  mem : m.1 ∈ ns
  pin : m.1 ∉ ps
  val : 0 ≤ m.2 ∧ m.2 < 3
  own : m.2 ≠ f m.1
  nbr : ∀ z, (m.1, z) ∈ es ∨ (z, m.1) ∈ es → m.2 ≠ f z
theorem legal_of {ns : List Str} {es : List (Str × Str)} {f : Str → Int} {ps : List Str} {m : Str × Int} (h : m ∈ movesF ns es f ps) : Legal ns es f ps m := by
  unfold movesF at h
  obtain ⟨n, hn, h⟩ := List.mem_flatMap.mp h
  split at h
  · cases h
  · rename_i hp
    unfold movesOf at h
    obtain ⟨v, hv, rfl⟩ := List.mem_map.mp h
    obtain ⟨h1, h2⟩ := List.mem_filter.mp hv
    unfold freeB at h2
    have h2 : v ∉ (nbrF es n).map f ++ [f n] := by simpa using h2
    have h3 : v = 0 ∨ v = 1 ∨ v = 2 := by simpa using h1
    refine ⟨hn, hp, by show 0 ≤ v ∧ v < 3; omega, fun e => h2 (List.mem_append_right _ (by rw [show v = f n from e]; exact List.mem_singleton_self _)), fun z hz e => h2 (List.mem_append_left _ ?_)⟩
    rw [show v = f z from e]
    exact List.mem_map_of_mem (mem_nbrF.mpr hz)
/-- one move after another -/
inductive Plays (ns : List Str) (es : List (Str × Str)) (ps : List Str) (f : Str → Int) : List (Str × Int) → (Str → Int) → Prop
  | nil : Plays ns es ps f [] f
  | snoc {ms : List (Str × Int)} {f' : Str → Int} {m : Str × Int} : Plays ns es ps f ms f' → Legal ns es f' ps m → Plays ns es ps f (ms ++ [m]) (updf f' m.1 m.2)
/-! ### counting -/
def dlt (d : Int) : Int := if d % 3 = 0 then 0 else if d % 3 = 1 then 1 else -1
def slp (f : Str → Int) (a b : Str) : Int := if (f b - f a) % 3 = 1 then 1 else -1
structure EsOk (ns : List Str) (es : List (Str × Str)) (f : Str → Int) : Prop where
  ne : ∀ e ∈ es, e.1 ≠ e.2
  mem : ∀ e ∈ es, e.1 ∈ ns ∧ e.2 ∈ ns
  tri : ∀ n ∈ ns, 0 ≤ f n ∧ f n < 3
  pro : ∀ e ∈ es, f e.1 ≠ f e.2
theorem move_keeps {ns : List Str} {es : List (Str × Str)} {ps : List Str} {f0 f h : Str → Int} {m : Str × Int} (ok : EsOk ns es f) (l : Legal ns es f ps m) (t : ∀ e ∈ es, slp f0 e.1 e.2 - slp f e.1 e.2 = 2 * (h e.1 - h e.2)) :
    EsOk ns es (updf f m.1 m.2) ∧ ∀ e ∈ es, slp f0 e.1 e.2 - slp (updf f m.1 m.2) e.1 e.2 = 2 * (updf h m.1 (h m.1 + dlt (f m.1 - m.2)) e.1 - updf h m.1 (h m.1 + dlt (f m.1 - m.2)) e.2) := by
  obtain ⟨n, v⟩ := m
  have hv := l.val
  have ho := l.own
  have hm := l.mem
  simp only at hv ho hm
  refine ⟨⟨ok.ne, ok.mem, fun x hx => ?_, fun e he => ?_⟩, fun e he => ?_⟩
  · show 0 ≤ updf f n v x ∧ updf f n v x < 3
    unfold updf
    split
    · exact hv
    · exact ok.tri x hx
  · show updf f n v e.1 ≠ updf f n v e.2
    have hne := ok.ne e he
    have hp := ok.pro e he
    unfold updf
    by_cases h1 : e.1 = n
    · rw [if_pos h1, if_neg (fun z => hne (h1.trans z.symm))]
      exact l.nbr e.2 (.inl (by show (n, e.2) ∈ es; rw [← h1]; exact he))
    · by_cases h2 : e.2 = n
      · rw [if_neg h1, if_pos h2]
        exact Ne.symm (l.nbr e.1 (.inr (by show (e.1, n) ∈ es; rw [← h2]; exact he)))
      · rw [if_neg h1, if_neg h2]
        exact hp
  · show slp f0 e.1 e.2 - slp (updf f n v) e.1 e.2 = 2 * (updf h n (h n + dlt (f n - v)) e.1 - updf h n (h n + dlt (f n - v)) e.2)
    have hne := ok.ne e he
    have hp := ok.pro e he
    have t1 := ok.tri e.1 (ok.mem e he).1
    have t2 := ok.tri e.2 (ok.mem e he).2
    have te := t e he
    by_cases h1 : e.1 = n
    · have h2 : ¬ e.2 = n := fun z => hne (h1.trans z.symm)
      have nb := l.nbr e.2 (.inl (by show (n, e.2) ∈ es; rw [← h1]; exact he))
      simp only at nb
      have e1 : updf f n v e.1 = v := if_pos h1
      have e2 : updf f n v e.2 = f e.2 := if_neg h2
      have e3 : updf h n (h n + dlt (f n - v)) e.1 = h e.1 + dlt (f e.1 - v) := by rw [h1]; exact if_pos rfl
      have e4 : updf h n (h n + dlt (f n - v)) e.2 = h e.2 := if_neg h2
      rw [e3, e4]
      rw [← h1] at ho
      unfold slp dlt at *
      rw [e1, e2]
      generalize f e.1 = x at *
      generalize f e.2 = y at *
      generalize h e.1 = hx at *
      generalize h e.2 = hy at *
      generalize (if (f0 e.2 - f0 e.1) % 3 = 1 then (1 : Int) else -1) = s0 at *
      have : hx - hy + hx - hy = 2 * (hx - hy) := by omega
      split at te <;> split <;> split <;> try split
      all_goals omega
    · by_cases h2 : e.2 = n
      · have nb := l.nbr e.1 (.inr (by show (e.1, n) ∈ es; rw [← h2]; exact he))
        simp only at nb
        have e1 : updf f n v e.1 = f e.1 := if_neg h1
        have e2 : updf f n v e.2 = v := if_pos h2
        have e3 : updf h n (h n + dlt (f n - v)) e.1 = h e.1 := if_neg h1
        have e4 : updf h n (h n + dlt (f n - v)) e.2 = h e.2 + dlt (f e.2 - v) := by rw [h2]; exact if_pos rfl
        rw [e3, e4]
        rw [← h2] at ho
        unfold slp dlt at *
        rw [e1, e2]
        generalize f e.1 = x at *
        generalize f e.2 = y at *
        generalize h e.1 = hx at *
        generalize h e.2 = hy at *
        generalize (if (f0 e.2 - f0 e.1) % 3 = 1 then (1 : Int) else -1) = s0 at *
        split at te <;> split <;> split <;> try split
        all_goals omega
      · have e1 : updf f n v e.1 = f e.1 := if_neg h1
        have e2 : updf f n v e.2 = f e.2 := if_neg h2
        have e3 : updf h n (h n + dlt (f n - v)) e.1 = h e.1 := if_neg h1
        have e4 : updf h n (h n + dlt (f n - v)) e.2 = h e.2 := if_neg h2
        rw [e3, e4, ← te]
        unfold slp
        rw [e1, e2]
/-! ### fitting -/
end U

/-! medians, distances -/
namespace U
open PySem PySem.Spec PyProof.Rows L2
/-! ### distances -/
def ab (x y : Int) : Int := ((x - y).natAbs : Int)
end U

/-! comprehensions, locks, statements that are never reached: their readings -/
namespace U
open PySem PySem.Spec PyProof.Rows L2
/-- f(e, .., k = v, ..): the keywords in the parameters' order, behind the rest -/
structure CalK (P : Program) (w : World) (K : PySem.W.Frag) (mg : Str → Option Value) (base : Heap) (CX : CXT) (k : Nat) (x : Str) (np : Nat) (ks : List Str) (sp : Sp) : Prop where
  ex : ∃ (f : Addr) (fd : FuncData) (ps : List Str), FnG P w K mg base CX k f fd ps sp ∧ mg x = some (.ref f) ∧ PySem.W.keepIn K (.ref f) = true ∧
    ∀ us ws : List Value, us.length = np → ws.length = ks.length → bindArgs fd ⟨us, ks.zip ws⟩ = pure (ps.zip (us ++ ws))
def tCK (sp : Sp) (np nk : Nat) (E : XK) (t tk : TA) : TE := fun σ H Q => t σ H fun vs H1 => vs.length = np ∧ tk σ H1 fun zs H2 => zs.length = nk ∧ sp (vs ++ zs) H2 Q E
theorem vals_app {vs zs : List V} {us ws : List Value} (a : Vals vs us) (b : Vals zs ws) : Vals (vs ++ zs) (us ++ ws) := a.append b
def DcB (J : It) (g : TG) (tt : TT) (tk tv : TE) (vs : List Nat) (σ : L2.St) (H1 : Hp) (D : Addr) (Qd : Hp → Prop) : Prop := ∃ W : Nat → Nat → Hp → Prop, (∃ m, W 0 m (upd H1 D (.dK []))) ∧ ∀ i m H, W i m H →
  (J.stop i H ∧ Qd H) ∨ (J.go i H ∧ ∃ Nx : Hp → Prop, (∀ H', Nx H' → ∃ m', m' < m ∧ W (i + 1) m' H') ∧ ∀ x H', J.yld i H x H' → g x (wipe σ vs) H' fun σ2 H2 => wipe σ2 vs = wipe σ vs ∧ tt σ2 H2 fun b H3 =>
    if b = true then tk σ2 H3 fun y H4 => tv σ2 H4 fun z H5 => ∃ kvs k, y = kV k ∧ H5 D = some (.dK kvs) ∧ kvs.length < sizeLine ∧ Nx (upd H5 D (.dK (putK kvs k z))) else Nx H3)
section
variable {σ : L2.St} {H : Hp} {Q : VK} {D : Ends} {te td ty tv : TE} {t : TS} {g : TG} {wi : TI} {R : It → Hp → Prop} {tt : TT} {vs : List Nat} {L : Addr} {Qd : Hp → Prop} {J : It} {n : Nat} {G : Hp → Prop} {Y : Nat → Hp → V → Hp → Prop} {K : PySem.W.Frag}
theorem dcW {tk : TE} (w : Walk J n G Y) (Pv : Nat → Hp → Prop) (h0 : Pv 0 (upd H L (.dK []))) (hG : ∀ i H, i ≤ n → Pv i H → G H)
    (hs : ∀ i x H H', i < n → Pv i H → Y i H x H' → g x (wipe σ vs) H' fun σ2 H2 => wipe σ2 vs = wipe σ vs ∧ tt σ2 H2 fun b H3 =>
      if b = true then tk σ2 H3 fun y H4 => tv σ2 H4 fun z H5 => ∃ kvs k, y = kV k ∧ H5 L = some (.dK kvs) ∧ kvs.length < sizeLine ∧ Pv (i + 1) (upd H5 L (.dK (putK kvs k z))) else Pv (i + 1) H3) (hd : ∀ H, Pv n H → Qd H) : DcB J g tt tk tv vs σ H L Qd := by
  refine ⟨fun i m H => m = n - i ∧ i ≤ n ∧ Pv i H, ⟨n, by simp, Nat.zero_le _, h0⟩, ?_⟩
  rintro i m H ⟨rfl, hi, p⟩
  have q := hG i H hi p
  by_cases hlt : i < n
  · refine .inr ⟨w.goes i H hlt q, Pv (i + 1), fun H' p' => ⟨n - (i + 1), by omega, rfl, hlt, p'⟩, fun x H' y => hs i x H H' hlt p (w.yields i H x H' hlt q y)⟩
  · have e : i = n := by omega
    subst e
    exact .inl ⟨w.stops H q, hd H p⟩
theorem rd_dc {tk : TE} (h : wi σ H fun J H1 => ∀ D, H1 D = none → DcB J g tt tk tv vs σ H1 D fun H2 => Q (.ref D) H2) : tDc wi g tt tk tv vs σ H Q := h
/-- under a lock: what the block leaves at the lock's place is the locked thing -/
theorem rd_lockE {d : Addr} {kvs : List (Key × V)} (hd : H d = some (.dK kvs)) (h : ∀ od, te σ (upd H d (.frz od (.dK kvs))) fun v H' => H' d = some (.frz od (.dK kvs)) ∧ Q v (upd H' d (.dK kvs))) : tLockE te σ H Q := ⟨d, _, hd, trivial, h⟩
theorem rd_iItems (h : td σ H fun x H1 => ∃ d o kvs, x = .ref d ∧ H1 d = some (.frz o (.dK kvs)) ∧ R (Iti d o kvs) H1) : iItems td σ H R := h
theorem rd_iKeys (h : td σ H fun x H1 => ∃ d o, x = .ref d ∧ ((∃ kvs, H1 d = some (.frz o (.dK kvs)) ∧ R (Itk d o kvs) H1) ∨ ∃ kvs, H1 d = some (.frz o (.dT kvs)) ∧ R (Itkt d o kvs) H1)) : iKeys td σ H R := h
theorem rd_forI {d : Addr} {o : Obj} {kvs : List (Key × V)} {R : Addr → Obj → List (Key × V) → Prop} (hd : H d = some (.frz o (.dK kvs))) (h : R d o kvs) : ∃ d' o kvs, V.ref d = .ref d' ∧ H d' = some (.frz o (.dK kvs)) ∧ R d' o kvs := ⟨d, o, kvs, rfl, hd, h⟩
theorem rd_wp {vs : List Nat} {σ1 σ2 : L2.St} {P : Prop} (e : wipe σ1 vs = wipe σ2 vs) (h : P) : wipe σ1 vs = wipe σ2 vs ∧ P := ⟨e, h⟩
theorem rd_yesT {Q : Bool → Hp → Prop} (h : Q true H) : tYes σ H Q := h
theorem rd_acc {L : Addr} {acc : List V} {R : List V → Prop} (hL : H L = some (.lst acc)) (hz : acc.length < 100000) (h : R acc) : ∃ acc, H L = some (.lst acc) ∧ acc.length < sizeLine ∧ R acc := ⟨acc, hL, Nat.lt_of_lt_of_le hz (by decide), h⟩
theorem rd_accD {L : Addr} {y : V} {kvs : List (Key × V)} {k : Key} {R : List (Key × V) → Key → Prop} (hy : y = kV k) (hL : H L = some (.dK kvs)) (hz : kvs.length < 100000) (h : R kvs k) : ∃ kvs k, y = kV k ∧ H L = some (.dK kvs) ∧ kvs.length < sizeLine ∧ R kvs k := ⟨kvs, k, hy, hL, Nat.lt_of_lt_of_le hz (by decide), h⟩
theorem inV_int {v : Int} {xs : List Int} : inV (.int v) (xs.map V.int) = decide (v ∈ xs) := by
  induction xs with
  | nil => rfl
  | cons x xs ih =>
    unfold inV at ih ⊢
    rw [List.map_cons, List.any_cons, ih]
    simp only [eqV, List.mem_cons, Bool.decide_or]
    congr 1
    exact decide_eq_decide.mpr ⟨Eq.symm, Eq.symm⟩
theorem inV_str {v : Str} {xs : List Str} : inV (.str v) (xs.map V.str) = decide (v ∈ xs) := by
  induction xs with
  | nil => rfl
  | cons x xs ih =>
    unfold inV at ih ⊢
    rw [List.map_cons, List.any_cons, ih]
    simp only [eqV, List.mem_cons, Bool.decide_or]
    congr 1
    exact decide_eq_decide.mpr ⟨Eq.symm, Eq.symm⟩
theorem flat_int {xs : List Int} : (xs.map V.int).all flatV = true := by
  rw [List.all_eq_true]
  intro x hx
  obtain ⟨i, _, rfl⟩ := List.mem_map.mp hx
  rfl
theorem flat_str {xs : List Str} : (xs.map V.str).all flatV = true := by
  rw [List.all_eq_true]
  intro x hx
  obtain ⟨i, _, rfl⟩ := List.mem_map.mp hx
  rfl
theorem rd_inIL {p : Addr} {v : Int} {xs : List Int} (hs : SqL K H p (xs.map V.int)) (h : Q (.bl (decide (v ∈ xs))) H) : rInU K (.int v) (.ref p) H Q := ⟨_, .inl hs, rfl, flat_int, by rw [inV_int]; exact h⟩
theorem rd_ninIL {p : Addr} {v : Int} {xs : List Int} (hs : SqL K H p (xs.map V.int)) (h : Q (.bl (!decide (v ∈ xs))) H) : rNotInU K (.int v) (.ref p) H Q := ⟨_, .inl hs, rfl, flat_int, by rw [inV_int]; exact h⟩
theorem rd_ninSL {p : Addr} {v : Str} {xs : List Str} (hs : SqL K H p (xs.map V.str)) (h : Q (.bl (!decide (v ∈ xs))) H) : rNotInU K (.str v) (.ref p) H Q := ⟨_, .inl hs, rfl, flat_str, by rw [inV_str]; exact h⟩
theorem rd_inST {p : Addr} {v : Str} {xs : List Str} (hs : SqT K H p (xs.map V.str)) (h : Q (.bl (decide (v ∈ xs))) H) : rInU K (.str v) (.ref p) H Q := ⟨_, .inr hs, rfl, flat_str, by rw [inV_str]; exact h⟩
theorem rd_ninST {p : Addr} {v : Str} {xs : List Str} (hs : SqT K H p (xs.map V.str)) (h : Q (.bl (!decide (v ∈ xs))) H) : rNotInU K (.str v) (.ref p) H Q := ⟨_, .inr hs, rfl, flat_str, by rw [inV_str]; exact h⟩
theorem rd_catL {p q : Addr} {xs ys : List V} (h1 : H p = some (.lst xs)) (h2 : H q = some (.lst ys)) (hz : xs.length + ys.length ≤ 100000) (h : nL (xs ++ ys) H Q) : rAddU K (.ref p) (.ref q) H Q := .inl ⟨xs, ys, h1, h2, Nat.le_trans hz (by decide), h⟩
theorem GrAt.same {H' : Hp} {g n e : Addr} {ns : List Str} {es : List (Addr × Str × Str)} (h : GrAt H g n e ns es) (s : Same H H') : GrAt H' g n e ns es :=
  ⟨s _ _ h.top, s _ _ h.nodes, s _ _ h.edges, fun x hx => s _ _ (h.pairs x hx)⟩
theorem GrAt.but {H' : Hp} {p g n e : Addr} {ys : List V} {ns : List Str} {es : List (Addr × Str × Str)} (h : GrAt H g n e ns es) (hp : H p = some (.lst ys)) (b : But p H H') : GrAt H' g n e ns es := by
  have k : ∀ {a : Addr} {xs : List V}, H a = some (.tup xs) → H' a = some (.tup xs) := fun {a xs} ha => b _ _ (ne_of ha hp (by intro z; cases z)) ha
  exact ⟨k h.top, k h.nodes, k h.edges, fun x hx => k (h.pairs x hx)⟩
theorem But.dK {H' : Hp} {p d : Addr} {ys : List V} {kvs : List (Key × V)} (b : But p H H') (hp : H p = some (.lst ys)) (h : H d = some (.dK kvs)) : H' d = some (.dK kvs) := b _ _ (ne_of h hp (by intro z; cases z)) h
theorem But.tup {H' : Hp} {p d : Addr} {ys xs : List V} (b : But p H H') (hp : H p = some (.lst ys)) (h : H d = some (.tup xs)) : H' d = some (.tup xs) := b _ _ (ne_of h hp (by intro z; cases z)) h
theorem same_put {H1 : Hp} {a : Addr} {o : HO} (s : Same H H1) (n : H a = none) : Same H (upd H1 a o) := fun c u h => at_upd (ne_of_none h n) (s c u h)
theorem same_add {H1 : Hp} {a : Addr} {o : HO} (s : Same H H1) (n : H1 a = none) : Same H (upd H1 a o) := fun c u h => at_upd (ne_of_none (s c u h) n) (s c u h)
/-- xs != [], whatever data -/
theorem rd_neNilD {p q : Addr} {xs : List V} {ds : List PyData} (hp : SqL K H p xs) (hd : DpAll K H xs ds) (hq : SqL K H q []) (ok : PyData.canLayAll0 ds = true) (dep : PyData.depthAll ds ≤ 60) (h : Q (.bl (!xs.isEmpty)) H) : rNeU K (.ref p) (.ref q) H Q := by
  refine ⟨_, _, .lst hp hd, .lst hq .nil, ?_, by decide, ?_⟩
  · unfold SeqAt.shaped
    rw [PyData.canLay0, ok, PyData.depth, decide_eq_true (by omega)]
    rfl
  · have : PyData.eqv (.list ds) (.list []) = xs.isEmpty := by
      cases hd with
      | nil => simp [PyData.eqv, PyData.eqvAll]
      | cons _ _ => simp [PyData.eqv, PyData.eqvAll]
    rw [this]
    exact h
theorem rd_isi {x : V} {n : String} {a t : Ty} (h1 : TyIs K H x a) (h2 : tyOf n = some t) (h : Q (.bl (isT a t)) H) : rIsiU K [x, .ty n] H Q := ⟨a, t, h1, h2, h⟩
theorem rd_din (h : ty σ H fun y H1 => td σ H1 fun x H2 => ∃ a o, x = .ref a ∧ DGet H2 a y o ∧ Q (.bl o.isSome) H2) : tDIn ty td σ H Q := h
theorem rd_dnin (h : ty σ H fun y H1 => td σ H1 fun x H2 => ∃ a o, x = .ref a ∧ DGet H2 a y o ∧ Q (.bl (!o.isSome)) H2) : tDNotIn ty td σ H Q := h
theorem rd_nT {A B : Prop} (h : B) : if (!true) = true then A else B := h
theorem rd_nF {A B : Prop} (h : A) : if (!false) = true then A else B := h
/-- repr of a truth value -/
def shB (b : Bool) : Str := if b then "True" else "False"
def rReprU : List V → Hp → VK → Prop := fun xs H Q => match xs with
  | [.bl b] => Q (.str (shB b)) H
  | _ => False
theorem rd_reprB {b : Bool} (h : Q (.str (shB b)) H) : rReprU [.bl b] H Q := h
theorem rd_ck {sp : Sp} {E : XK} {np nk : Nat} {t tk : TA} (h : t σ H fun vs H1 => vs.length = np ∧ tk σ H1 fun zs H2 => zs.length = nk ∧ sp (vs ++ zs) H2 Q E) : tCK sp np nk E t tk σ H Q := h
theorem rd_len {vs : List V} {k : Nat} {P : Prop} (e : vs.length = k) (h : P) : vs.length = k ∧ P := ⟨e, h⟩
theorem rd_par {i j : Nat} {ta : TA} (h : ta σ H fun vs H1 => ∃ v w, vs = [v, w] ∧ D.nx ((σ.set i (some v)).set j (some w)) H1) : tPar i j ta D σ H := h
theorem rd_two {v w' : V} {R : V → V → Prop} (h : R v w') : ∃ x y, [v, w'] = [x, y] ∧ R x y := ⟨v, w', rfl, h⟩
theorem rd_isB {a b : Bool} (h : Q (.bl (decide (a = b))) H) : rIsU (.bl a) (.bl b) H Q := ⟨a, rfl, h⟩
theorem rd_isNotB {a b : Bool} (h : Q (.bl (!decide (a = b))) H) : rIsNotU (.bl a) (.bl b) H Q := ⟨a, rfl, h⟩
theorem rd_daug {rd : V → V → Hp → VK → Prop} (h : td σ H fun x H1 => ty σ H1 fun y H2 => ∃ a v, x = .ref a ∧ DGet H2 a y (some v) ∧
  tv σ H2 fun y2 H3 => rd v y2 H3 fun z H4 => ∃ H5, DPut H4 a y z H5 ∧ D.nx σ H5) : sDAug td ty tv rd D σ H := h
end
end U

/-! dicts of references, double comprehensions, defaults, repr -/
namespace U
open PySem PySem.Spec PyProof.Rows L2
abbrev kvG (ns : List Str) (F : Str → V) : List (Key × V) := ns.map fun n => (Sum.inr n, F n)
def updV {α : Type} (f : Str → α) (n : Str) (v : α) : Str → α := fun m => if m = n then v else f m
theorem kvG_val : ∀ {ns : List Str} {F : Str → V} {n : Str}, n ∈ ns → valV (kvG ns F) (.inr n) = some (F n)
  | m :: ns, F, n, h => by
    by_cases e : n = m
    · subst e
      rw [kvG, List.map_cons, valV_pos rfl]
    · have e' : ¬ (Sum.inr m : Key) = Sum.inr n := fun z => e (Sum.inr.inj z).symm
      rw [kvG, List.map_cons, valV_neg e']
      refine kvG_val ?_
      rcases List.mem_cons.mp h with z | z
      · exact absurd z e
      · exact z
theorem kvG_none : ∀ {ns : List Str} {F : Str → V} {n : Str}, n ∉ ns → valV (kvG ns F) (.inr n) = none
  | [], _, _, _ => rfl
  | m :: ns, F, n, h => by
    have e' : ¬ (Sum.inr m : Key) = Sum.inr n := fun z => h (by rw [← Sum.inr.inj z]; exact List.mem_cons_self)
    rw [kvG, List.map_cons, valV_neg e']
    exact kvG_none fun z => h (List.mem_cons_of_mem _ z)
theorem kvG_new {ns : List Str} {F : Str → V} {n : Str} {v : V} (h : n ∉ ns) : putK (kvG ns F) (.inr n) v = kvG (ns ++ [n]) (updV F n v) := by
  rw [putK_new _ (kvG_none h), kvG, kvG, List.map_append]
  congr 1
  · refine List.map_congr_left fun m hm => ?_
    unfold updV
    rw [if_neg (fun e => h (by rw [← e]; exact hm))]
  · show [((Sum.inr n : Key), v)] = [(Sum.inr n, updV F n v n)]
    unfold updV
    rw [if_pos rfl]
theorem kvG_at {ns : List Str} {F : Str → V} {i : Nat} {x y : V} (hx : ((kvG ns F)[i]?.map fun kv => kV kv.1) = some x) (hy : (kvG ns F)[i]?.map Prod.snd = some y) : ∃ hi : i < ns.length, x = .str ns[i] ∧ y = F ns[i] := by
  rw [kvG, List.getElem?_map] at hx hy
  by_cases hi : i < ns.length
  · rw [List.getElem?_eq_getElem hi] at hx hy
    exact ⟨hi, (Option.some.inj hx).symm, (Option.some.inj hy).symm⟩
  · rw [List.getElem?_eq_none (by omega)] at hx
    cases hx
/-! f(e, ..) where defaults fill the rest -/
structure CalD (P : Program) (w : World) (K : PySem.W.Frag) (mg : Str → Option Value) (base : Heap) (CX : CXT) (k : Nat) (x : Str) (dvs : List V) (sp : Sp) : Prop where
  ex : ∃ (f : Addr) (fd : FuncData) (ps : List Str) (ds : List Value), FnG P w K mg base CX k f fd ps sp ∧ mg x = some (.ref f) ∧ PySem.W.keepIn K (.ref f) = true ∧ Vals dvs ds ∧ Binds K fd ps ds
def tCD (sp : Sp) (dvs : List V) (E : XK) (t : TA) : TE := fun σ H Q => t σ H fun vs H1 => sp (vs ++ dvs) H1 Q E
/-! two fors in a comprehension -/
def In1 (J1 : It) (g1 : TG) (tt1 : TT) (te : TE) (vs1 : List Nat) (σ2 : L2.St) (D : Addr) (H4 : Hp) (R : Hp → Prop) : Prop := ∃ W1 : Nat → Nat → Hp → Prop, (∃ m, W1 0 m H4) ∧ ∀ j k H, W1 j k H →
  (J1.stop j H ∧ R H) ∨ (J1.go j H ∧ ∃ Nx1 : Hp → Prop, (∀ H', Nx1 H' → ∃ k', k' < k ∧ W1 (j + 1) k' H') ∧ ∀ x H', J1.yld j H x H' → g1 x (wipe σ2 vs1) H' fun σ3 H5 => wipe σ3 vs1 = wipe σ2 vs1 ∧ tt1 σ3 H5 fun b H6 =>
    if b = true then te σ3 H6 fun y H7 => ∃ acc, H7 D = some (.lst acc) ∧ acc.length < sizeLine ∧ Nx1 (upd H7 D (.lst (acc ++ [y]))) else Nx1 H6)
def Lc2B (J : It) (g : TG) (tt : TT) (wi1 : TI) (g1 : TG) (tt1 : TT) (te : TE) (vs vs1 : List Nat) (σ : L2.St) (H1 : Hp) (D : Addr) (Qd : Hp → Prop) : Prop := ∃ W : Nat → Nat → Hp → Prop, (∃ m, W 0 m (upd H1 D (.lst []))) ∧ ∀ i m H, W i m H →
  (J.stop i H ∧ Qd H) ∨ (J.go i H ∧ ∃ Nx : Hp → Prop, (∀ H', Nx H' → ∃ m', m' < m ∧ W (i + 1) m' H') ∧ ∀ x H', J.yld i H x H' → g x (wipe σ vs) H' fun σ2 H2 => wipe σ2 vs = wipe σ vs ∧ tt σ2 H2 fun b H3 =>
    if b = true then wi1 σ2 H3 fun J1 H4 => In1 J1 g1 tt1 te vs1 σ2 D H4 Nx else Nx H3)
section
variable {σ : L2.St} {H : Hp} {Q : VK} {te : TE} {g g1 : TG} {wi wi1 : TI} {tt tt1 : TT} {vs vs1 : List Nat} {L : Addr} {Qd R : Hp → Prop} {J J1 : It} {n : Nat} {G : Hp → Prop} {Y : Nat → Hp → V → Hp → Prop} {K : PySem.W.Frag}
theorem rd_lc2 (h : wi σ H fun J H1 => ∀ D, H1 D = none → Lc2B J g tt wi1 g1 tt1 te vs vs1 σ H1 D fun H2 => Q (.ref D) H2) : tLc2 wi g tt wi1 g1 tt1 te vs vs1 σ H Q := h
theorem rd_cd {sp : Sp} {dvs : List V} {E : XK} {t : TA} (h : t σ H fun vs H1 => sp (vs ++ dvs) H1 Q E) : tCD sp dvs E t σ H Q := h
end
/-! repr -/
section
variable {X : Cx} {pins : List (Addr × Obj)} {σ : L2.St} {H : Hp} {s : Shared}
def encK : Key → PyData
  | .inl i => .int i
  | .inr x => .str x
theorem kv_pairs {h : Heap} {f : Str → Int} : ∀ {ns : List Str} {vs : List (Key × Value)}, KV (kvF ns f) vs → PyProof.V.PairsRead h encK vs (ns.map fun n => (.str n, .int (f n))) []
  | [], vs, r => by
    cases r
    exact .nil
  | n :: ns, vs, r => by
    cases r with
    | @cons p q ps qs hpq t =>
      obtain ⟨h1, h2⟩ := hpq
      obtain ⟨k, v⟩ := q
      have h1' : (Sum.inr n : Key) = k := h1
      subst h1'
      obtain ⟨tk, rfl⟩ : ∃ t, v = Value.int (f n) t := h2
      exact .cons (k := .inr n) (as := []) (bs := []) (Reads.int _ _) (kv_pairs t)
theorem key_reads {h : Heap} {P : Program} {w : World} : ∀ (k : Key) (key : Value), (mixKind P w).is k key = true → Reads h key (encK k) [] := by
  intro k key hk
  rcases keyIs_shape hk with ⟨i, t, rfl, rfl⟩ | ⟨x, t, rfl, rfl⟩
  · exact Reads.int _ _
  · exact Reads.str _ _
end
end U
namespace U
open PySem PySem.Spec PyProof.Rows L2
/-! name = {k: v for ..}, the name a local -/
abbrev InBlk (X : Cx) (scope : Scope) (Φ : Cx → Prop) : Prop :=
  ∀ (s : Shared) (H : Hp) (C : Addr) (cl : List (Str × Addr)) (fp : List Addr), Φ (X.blk s H scope (compEnvC scope cl C X.env) fp)
section
variable {X : Cx}
theorem sw_dict {kx vx : Expr} {gs : List Comprehension} {scope : Scope} {pos py : Pos} {y : Str} {l : Nat} {env : Env}
    (hk : env.scope.kind = .function) (hy : env.scope.names.lookup y = some .local) (hl : (py.line == pos.line) = true)
    (ha : (scope.names.any fun (n, k) => n == y && (k == .local || k == .cell)) = false) :
    swapsWith (.DictComp kx vx gs scope pos) (some (.Name y py)) l env = pure true := by
  have q1 : env.kindOf y = some .local := hy
  have q2 : env.blockKind = .function := by
    unfold Env.blockKind
    rw [hk]
    rfl
  unfold swapsWith
  simp only [q1, q2, ha, hl, Expr.pos]
  rfl
theorem ps_setDc {i : Nat} {y : Str} {py : Pos} {kx vx tg iter : Expr} {ifs : List Expr} {scope : Scope} {own : List (Str × Nat)} {pos spos : Pos} {wi : TI} {g : TG} {tt : TT} {tk tv : TE}
    (hc : X.calm = true) (hN : X.N.Nodup) (hy : X.N[i]? = some y) (hyl : X.env.scope.names.lookup y = some .local)
    (hsw : swapsWith (.DictComp kx vx [⟨tg, iter, ifs, 0⟩] scope pos) (some (.Name y py)) spos.line X.env = pure true) (hi : PI X tg iter wi) (ok : BlkOk X.N X.env.scope scope own)
    (hg : InBlk X scope fun Y => PG Y tg g) (ht : InBlk X scope fun Y => PTs Y ifs tt) (hk : InBlk X scope fun Y => PE Y kx tk) (he : InBlk X scope fun Y => PE Y vx tv)
    (hs : ∀ x, foldedSetIterable iter X.env x = pure x := by intro _; rfl) :
    PS X (.Assign [.Name y py] (.DictComp kx vx [⟨tg, iter, ifs, 0⟩] scope pos) spos) (tAsg (tDc wi g tt tk tv (own.map (·.2))) (gName i)) := by
  refine ⟨fun pins s σ H D I want => ?_⟩
  rw [exec_Assign_Name_used _ _ _ _ hsw]
  refine wpAny_bind (wpAny_standAt (wpAny_bind ?_))
  have want : tDc wi g tt tk tv (own.map (·.2)) σ H fun x H1 => gName i x σ H1 D.nx := want
  show wpAny _ X.A (do
    let _ ← comprehension (.DictComp kx vx [⟨tg, iter, ifs, 0⟩] scope pos) scope X.env (firstIterPos [⟨tg, iter, ifs, 0⟩] pos) newDict false (eval iter X.env) (some (assign (.Name y py) X.env))) _ _ s
  refine wpAny_bind (thn (dc_core (Qf := fun _ s' => SP X pins D .next s') hc hN I hi ok hg ht hk he hs want fun L C s' m H' J q hn fpo => ?_) fun _ s' done => wpAny_pure (wpAny_pure done))
  show wpAny _ _ (assign (.Name y py) X.env (.ref L)) _ _ _
  refine wpAny_assign_Name (store_ok2 (v := V.ref L) J hN hy (.inl hyl) rfl (fun s2 J2 ⟨a, sb, ha⟩ => ?_) (.inr hyl))
  obtain ⟨p0, p1, p2, p3, p4, p5⟩ := fpo
  have apart : C ≠ a := by
    cases ha with
    | inl z => rw [z]; exact p1
    | inr z => exact fun e => p4 y a z e.symm
  refine ⟨m, hn.sameBut sb apart, fun h3 sb3 => ⟨_, H', J2.turned (t' := s2.toks) (fun b o hb e => (sb3.2 b hb).trans e) p0 p1 p3 p4 p5, q⟩⟩
end
end U

/-! repr of a list of data, dicts among it -/
namespace U
open PySem PySem.Spec PyProof.Rows L2
mutual
def tupOnly : PyData → Bool
  | .none | .bool _ | .int _ | .str _ => true
  | .tuple xs => tupOnlyAll xs
  | .list _ | .dict _ => false
def tupOnlyAll : List PyData → Bool
  | [] => true
  | x :: xs => tupOnly x && tupOnlyAll xs
end
mutual
theorem reads_nil {h : Heap} : ∀ (d : PyData) (v : Value) (as : List Addr), Reads h v d as → tupOnly d = true → as = []
  | .none, _, _, r, _ => by cases r; rfl
  | .bool _, _, _, r, _ => by cases r; rfl
  | .int _, _, _, r, _ => by cases r; rfl
  | .str _, _, _, r, _ => by cases r; rfl
  | .tuple xs, _, _, r, t => by
    cases r with
    | tuple h1 h2 h3 h4 => exact readsAll_nil xs _ _ h4 (by simpa [tupOnly] using t)
  | .list _, _, _, _, t => by simp [tupOnly] at t
  | .dict _, _, _, _, t => by simp [tupOnly] at t
theorem readsAll_nil {h : Heap} : ∀ (ds : List PyData) (vs : List Value) (as : List Addr), ReadsAll h vs ds as → tupOnlyAll ds = true → as = []
  | [], _, _, r, _ => by cases r; rfl
  | d :: ds, _, _, r, t => by
    rw [tupOnlyAll, Bool.and_eq_true] at t
    cases r with
    | cons r1 r2 => rw [reads_nil d _ _ r1 t.1, readsAll_nil ds _ _ r2 t.2]; rfl
end
/-- an item of the list: data of tuples, or a dict of numbers -/
inductive Di (K : PySem.W.Frag) (H : Hp) : V → PyData → Prop
  | of {v : V} {d : PyData} : Dp K H v d → tupOnly d = true → Di K H v d
  | dct {a : Addr} {ns : List Str} {f : Str → Int} : H a = some (.dK (kvF ns f)) → Di K H (.ref a) (.dict (ns.map fun n => (.str n, .int (f n))))
inductive DiAll (K : PySem.W.Frag) (H : Hp) : List V → List PyData → Prop
  | nil : DiAll K H [] []
  | cons {v : V} {vs : List V} {d : PyData} {ds : List PyData} : Di K H v d → DiAll K H vs ds → DiAll K H (v :: vs) (d :: ds)
structure Shows (d : PyData) : Prop where
  sh : d.showable = true
  lv : d.leavesShort 13 = true
  bk : d.bulk ≤ 2 ^ 20
  dp : d.depth ≤ 50
def rReprL (K : PySem.W.Frag) : List V → Hp → VK → Prop := fun xs H Q => match xs with
  | [.ref a] => (∃ xs ds, H a = some (.lst xs) ∧ (a == sysModules) = false ∧ DiAll K H xs ds ∧ Shows (.list ds) ∧ Q (.str (PyData.list ds).shown) H) ∨
      ∃ d, Dp K H (.ref a) d ∧ d.hasDict = false ∧ Shows d ∧ Q (.str d.shown) H
  | _ => False
section
variable {X : Cx} {pins : List (Addr × Obj)} {σ : L2.St} {H : Hp} {s : Shared}
theorem Di.reads (I : Inv X pins σ H s) {v : V} {d : PyData} {u : Value} (h : Di X.K H v d) (r : RelV v u) : ∃ as, Reads s.heap u d as ∧ sysModules ∉ as := by
  cases h with
  | of h t =>
    obtain ⟨as, q⟩ := Dp.reads I _ _ _ h r
    have := reads_nil _ _ _ q t
    subst this
    exact ⟨_, q, List.not_mem_nil⟩
  | dct h =>
    cases r
    obtain ⟨_, hd, vs, rel, dd⟩ := dk_of I.hok h
    refine ⟨_, PyProof.V.reads_dictOf key_reads dd (kv_pairs rel), ?_⟩
    intro z
    rw [List.mem_singleton] at z
    rw [z] at hd
    simp at hd
theorem DiAll.reads (I : Inv X pins σ H s) : ∀ {vs : List V} {ds : List PyData} {us : List Value}, DiAll X.K H vs ds → Vals vs us → ∃ as, ReadsAll s.heap us ds as ∧ sysModules ∉ as
  | [], _, _, h, r => by
    cases h
    cases r
    exact ⟨_, .nil, List.not_mem_nil⟩
  | v :: vs, _, _, h, r => by
    cases h with
    | cons h1 h2 =>
      cases r with
      | cons r1 r2 =>
        obtain ⟨as, q1, n1⟩ := h1.reads I r1
        obtain ⟨bs, q2, n2⟩ := DiAll.reads I h2 r2
        exact ⟨_, .cons q1 q2, fun z => (List.mem_append.mp z).elim n1 n2⟩
theorem kReprL (K : PySem.W.Frag) (hK : X.K = K) (hg : X.A.guards = some []) (hu : X.A.units + 64 < cLine) : CallR X (.builtin "repr") (rReprL K) := by
  subst hK
  intro pins s σ H xs us Q I r h
  match xs, h with
  | [.ref a], h =>
    cases r with
    | cons r rr =>
      cases rr
      cases r
      have fin : ∀ (d : PyData) (as : List Addr), Reads s.heap (.ref a) d as → (d.hasDict = true → sysModules ∉ as) → Shows d → Q (.str d.shown) H → wpAny (model X.prog X.w) X.A (call (.builtin "repr") [.ref a]) (EP X pins σ Q) X.xe s := by
        intro d as rd hsm S q
        have hdp := S.dp
        refine PySem.repr_of_reads' rd S.sh hsm hg (by omega) (fun b o e => e) (fun h' u tk hk => ⟨.str d.shown, H, I.kept (t' := tk) hk, ⟨_, rfl⟩, q⟩) (PyData.shown_fits_bulk (by decide) (by decide) S.lv S.bk)
      rcases h with ⟨xs, ds, ha, hn, hd, S, q⟩ | ⟨d, hd, hx, S, q⟩
      · obtain ⟨its, rv, ⟨o, n, ho, hc, _, hdat⟩, _⟩ := I.list (SqL.of ha)
        obtain ⟨as, ra, na⟩ := hd.reads I rv
        refine fin _ _ (Reads.list ho hc hdat (by simpa using ra)) (fun _ z => ?_) S q
        rcases List.mem_cons.mp z with z | z
        · rw [← z] at hn
          simp at hn
        · exact na z
      · obtain ⟨as, ra⟩ := Dp.reads I d _ _ hd rfl
        exact fin d as ra (fun z => by rw [hx] at z; cases z) S q
/-- a list display: its place is not that of the modules' table -/
def tLstS (t : TA) : TE := fun σ H Q => t σ H fun xs H1 => xs.length ≤ sizeLine ∧ ∀ p, H1 p = none → (p == sysModules) = false → Q (.ref p) (upd H1 p (.lst xs))
theorem pe_lstS {es : List Expr} {t : TA} {pos : Pos} (h : PA X es t) : PE X (.List es pos) (tLstS t) := by
  refine ⟨fun pins s σ H Q I hq => ?_⟩
  refine wpAny_List_spliced (thn (h.run pos pins s σ H _ I hq) fun us s1 ⟨xs, H1, I1, r, z, q⟩ => ⟨by rw [← r.length]; exact z, ?_⟩)
  have hf : H1 s1.heap.objs.size = none := I1.hok.fresh (Nat.le_refl _)
  have hb := I1.big
  refine ⟨.ref s1.heap.objs.size, upd H1 s1.heap.objs.size (.lst xs), I1.laid (t' := s1.toks) (fun b u e => Heap.get?_push_of_some _ e) (Nat.le_refl _) ?_, rfl, q _ hf (beq_eq_false_iff_ne.mpr (Ne.symm (Nat.ne_of_lt hb)))⟩
  exact ⟨z, us, 0, r, Heap.get?_push_size _ rfl⟩
end
/-! the shapes -/
abbrev dStrs (ns : List Str) : PyData := .tuple (ns.map PyData.str)
abbrev dGr (ns : List Str) (es : List (Str × Str)) : PyData := .tuple [dStrs ns, .tuple (es.map fun e => .tuple [.str e.1, .str e.2])]
abbrev dSt (ord : List Str) (f : Str → Int) : PyData := .dict (ord.map fun n => (.str n, .int (f n)))
theorem IsName.lv {z : Str} (h : IsName z) : (PyData.str z).leavesShort 13 = true := by
  rw [PyData.leavesShort, List.all_eq_true]
  intro x hx
  have := h.ch x hx
  rw [decide_eq_true_eq]
  omega
theorem IsName.bk {z : Str} (h : IsName z) : (PyData.str z).bulk ≤ 8 := by
  rw [PyData.bulk]
  exact h.hi
theorem lvs_strs : ∀ {ns : List Str}, (∀ n ∈ ns, IsName n) → PyData.leavesShortAll 13 (ns.map PyData.str) = true ∧ PyData.showableAll (ns.map PyData.str) = true ∧ PyData.bulkAll (ns.map PyData.str) ≤ 9 * ns.length ∧ PyData.depthAll (ns.map PyData.str) = 0
  | [], _ => by simp [PyData.leavesShortAll, PyData.showableAll, PyData.bulkAll, PyData.depthAll]
  | n :: ns, h => by
    obtain ⟨a, b, c, d⟩ := lvs_strs (ns := ns) fun x hx => h x (List.mem_cons_of_mem _ hx)
    have hn := h n List.mem_cons_self
    have := hn.bk
    simp only [List.map_cons, PyData.leavesShortAll, PyData.showableAll, PyData.bulkAll, PyData.depthAll, List.length_cons, hn.lv, a, b, d, PyData.showable, Bool.and_self, PyData.depth, true_and]
    exact ⟨by omega, rfl⟩
theorem lvs_edges : ∀ {es : List (Str × Str)}, (∀ e ∈ es, IsName e.1 ∧ IsName e.2) → PyData.leavesShortAll 13 (es.map fun e => .tuple [.str e.1, .str e.2]) = true ∧ PyData.showableAll (es.map fun e => .tuple [.str e.1, .str e.2]) = true ∧
    PyData.bulkAll (es.map fun e => .tuple [.str e.1, .str e.2]) ≤ 19 * es.length ∧ PyData.depthAll (es.map fun e => .tuple [.str e.1, .str e.2]) ≤ 1
  | [], _ => by simp [PyData.leavesShortAll, PyData.showableAll, PyData.bulkAll, PyData.depthAll]
  | e :: es, h => by
    obtain ⟨a, b, c, d⟩ := lvs_edges (es := es) fun x hx => h x (List.mem_cons_of_mem _ hx)
    obtain ⟨h1, h2⟩ := h e List.mem_cons_self
    have := h1.bk
    have := h2.bk
    simp only [List.map_cons, PyData.leavesShortAll, PyData.showableAll, PyData.bulkAll, PyData.depthAll, List.length_cons, PyData.leavesShort, PyData.showable, PyData.bulk, PyData.depth, a, b] at *
    have l1 := h1.lv
    have l2 := h2.lv
    simp only [PyData.leavesShort] at l1 l2
    rw [l1, l2]
    refine ⟨rfl, rfl, ?_, ?_⟩
    · omega
    · omega
theorem int3_lv {i : Int} (h0 : 0 ≤ i) (h1 : i < 3) : (PyData.int i).leavesShort 13 = true ∧ (PyData.int i).showable = true := by
  have : i = 0 ∨ i = 1 ∨ i = 2 := by omega
  rcases this with rfl | rfl | rfl <;> exact ⟨by decide +kernel, by decide +kernel⟩
theorem lvs_st {f : Str → Int} : ∀ {ns : List Str}, (∀ n ∈ ns, IsName n ∧ 0 ≤ f n ∧ f n < 3) → PyData.leavesShortKv 13 (ns.map fun n => (.str n, .int (f n))) = true ∧ PyData.showableKv (ns.map fun n => (.str n, .int (f n))) = true ∧
    PyData.bulkKv (ns.map fun n => (.str n, .int (f n))) ≤ 10 * ns.length ∧ PyData.depthKv (ns.map fun n => (.str n, .int (f n))) = 0
  | [], _ => by simp [PyData.leavesShortKv, PyData.showableKv, PyData.bulkKv, PyData.depthKv]
  | n :: ns, h => by
    obtain ⟨a, b, c, d⟩ := lvs_st (ns := ns) fun x hx => h x (List.mem_cons_of_mem _ hx)
    obtain ⟨h1, h2, h3⟩ := h n List.mem_cons_self
    have := h1.bk
    obtain ⟨i1, i2⟩ := int3_lv h2 h3
    have l1 := h1.lv
    simp only [List.map_cons, PyData.leavesShortKv, PyData.showableKv, PyData.bulkKv, PyData.depthKv, List.length_cons, a, b, d, i1, i2, l1, PyData.depth, Bool.and_self, PyData.bulk, true_and]
    rw [PyData.showable]
    simp only [PyData.bulk] at *
    exact ⟨rfl, by omega, rfl⟩
theorem shows_all {ns ord pn : List Str} {es : List (Str × Str)} {f : Str → Int} (h1 : ∀ n ∈ ns, IsName n) (h2 : ∀ e ∈ es, IsName e.1 ∧ IsName e.2) (h3 : ∀ n ∈ ord, IsName n ∧ 0 ≤ f n ∧ f n < 3) (h4 : ∀ n ∈ pn, IsName n)
    (l1 : ns.length ≤ 100) (l2 : es.length ≤ 1000) (l3 : ord.length ≤ 100) (l4 : pn.length ≤ 100) : Shows (.list [dGr ns es, dSt ord f, dStrs pn]) := by
  obtain ⟨a1, b1, c1, d1⟩ := lvs_strs h1
  obtain ⟨a2, b2, c2, d2⟩ := lvs_edges h2
  obtain ⟨a3, b3, c3, d3⟩ := lvs_st h3
  obtain ⟨a4, b4, c4, d4⟩ := lvs_strs h4
  refine ⟨?_, ?_, ?_, ?_⟩
  · simp [PyData.showable, PyData.showableAll, b1, b2, b3, b4]
  · simp [PyData.leavesShort, PyData.leavesShortAll, a1, a2, a3, a4]
  · simp only [PyData.bulk, PyData.bulkAll]
    omega
  · simp only [PyData.depth, PyData.depthAll]
    omega
end U

/-! repr of whatever data -/
namespace U
open PySem PySem.Spec PyProof.Rows L2
section
variable {K : PySem.W.Frag} {H H' : Hp}
mutual
theorem dp_ext (l : ∀ a xs, SqL K H a xs → SqL K H' a xs) (t : ∀ a xs, SqT K H a xs → SqT K H' a xs) : ∀ (d : PyData) (v : V), Dp K H v d → Dp K H' v d
  | .none, _, h => by cases h; exact .non
  | .bool _, _, h => by cases h; exact .bl _
  | .int _, _, h => by cases h; exact .int _
  | .str _, _, h => by cases h; exact .str _
  | .list ds, _, h => by
    cases h with
    | lst h1 h2 => exact .lst (l _ _ h1) (dp_extA l t ds _ h2)
  | .tuple ds, _, h => by
    cases h with
    | tup h1 h2 => exact .tup (t _ _ h1) (dp_extA l t ds _ h2)
  | .dict _, _, h => by cases h
theorem dp_extA (l : ∀ a xs, SqL K H a xs → SqL K H' a xs) (t : ∀ a xs, SqT K H a xs → SqT K H' a xs) : ∀ (ds : List PyData) (vs : List V), DpAll K H vs ds → DpAll K H' vs ds
  | [], _, h => by cases h; exact .nil
  | d :: ds, _, h => by
    cases h with
    | cons h1 h2 => exact .cons (dp_ext l t d _ h1) (dp_extA l t ds _ h2)
end
end
/-- a value that repr may be asked of, and what repr says -/
inductive Rp (K : PySem.W.Frag) (H : Hp) : V → Str → Prop
  | non : Rp K H .non "None"
  | bl (b : Bool) : Rp K H (.bl b) (if b then "True" else "False")
  | int (i : Int) (h : i.natAbs.log2 < 1920) : Rp K H (.int i) (toString i)
  | str (x : Str) (h : (reprText x).length ≤ sizeLine) : Rp K H (.str x) (reprText x)
  | of {a : Addr} {d : PyData} : Dp K H (.ref a) d → d.hasDict = false → Shows d → Rp K H (.ref a) d.shown
  | dct {a : Addr} {ns : List Str} {f : Str → Int} : H a = some (.dK (kvF ns f)) → Shows (.dict (ns.map fun n => (.str n, .int (f n)))) → Rp K H (.ref a) (PyData.dict (ns.map fun n => (.str n, .int (f n)))).shown
theorem Rp.ext {K : PySem.W.Frag} {H H' : Hp} {v : V} {d : Str} (h : Rp K H v d) (l : ∀ a xs, SqL K H a xs → SqL K H' a xs) (t : ∀ a xs, SqT K H a xs → SqT K H' a xs) (k : ∀ a kvs, H a = some (.dK kvs) → H' a = some (.dK kvs)) : Rp K H' v d := by
  cases h with
  | non => exact .non
  | bl b => exact .bl b
  | int i h => exact .int i h
  | str x h => exact .str x h
  | of h1 h2 h3 => exact .of (dp_ext l t _ _ h1) h2 h3
  | dct h1 h2 => exact .dct (k _ _ h1) h2
theorem Rp.same {K : PySem.W.Frag} {H H' : Hp} {v : V} {d : Str} (h : Rp K H v d) (s : Same H H') : Rp K H' v d := h.ext
  (fun a xs q => by
    rcases q with (q | ⟨o, q⟩) | q
    · exact .inl (.inl (s _ _ q))
    · exact .inl (.inr ⟨o, s _ _ q⟩)
    · exact .inr q) (fun a xs q => Same.seqT s q) fun a kvs q => s _ _ q
def rReprV (K : PySem.W.Frag) : List V → Hp → VK → Prop := fun xs H Q => ∃ x S, xs = [x] ∧ Rp K H x S ∧ Q (.str S) H
theorem kReprV {X : Cx} (K : PySem.W.Frag) (hK : X.K = K) (hg : X.A.guards = some []) (hu : X.A.units + 64 < cLine) : CallR X (.builtin "repr") (rReprV K) := by
  subst hK
  intro pins s σ H xs us Q I r h
  obtain ⟨x, S, rfl, hr, q⟩ := h
  obtain ⟨u, eu, rx⟩ := vals1 r
  subst eu
  have fin : ∀ (a : Addr) (d : PyData) (as : List Addr), Reads s.heap (.ref a) d as → (d.hasDict = true → sysModules ∉ as) → Shows d → Q (.str d.shown) H → wpAny (model X.prog X.w) X.A (call (.builtin "repr") [.ref a]) (EP X pins σ Q) X.xe s := fun a d as rd hsm S q => by
    have hdp := S.dp
    exact PySem.repr_of_reads' rd S.sh hsm hg (by omega) (fun b o e => e) (fun h' v tk hk => ⟨.str d.shown, H, I.kept (t' := tk) hk, ⟨_, rfl⟩, q⟩) (PyData.shown_fits_bulk (by decide) (by decide) S.lv S.bk)
  cases hr with
  | non =>
    cases rx
    exact PySem.P.repr_of_none ⟨.str _, H, I.tok _, ⟨_, rfl⟩, q⟩
  | bl b =>
    cases rx
    exact PySem.P.repr_of_bool ⟨.str _, H, I.tok _, ⟨_, rfl⟩, q⟩
  | int i h =>
    obtain ⟨tk, rfl⟩ := rx
    exact PySem.P.repr_of_int h ⟨.str _, H, I.tok _, ⟨_, rfl⟩, q⟩
  | str x h =>
    obtain ⟨tk, rfl⟩ := rx
    exact PySem.P.repr_of_str ⟨.str _, H, I.tok _, ⟨_, rfl⟩, q⟩ h
  | of h1 h2 h3 =>
    cases rx
    obtain ⟨as, ra⟩ := Dp.reads I _ _ _ h1 rfl
    exact fin _ _ as ra (fun z => by rw [h2] at z; cases z) h3 q
  | dct h1 h2 =>
    cases rx
    obtain ⟨as, ra, na⟩ := (Di.dct (K := X.K) h1).reads I rfl
    exact fin _ _ as ra (fun _ => na) h2 q
theorem rd_reprV {K : PySem.W.Frag} {H : Hp} {Q : VK} {x : V} {d : Str} (h : Rp K H x d) (q : Q (.str d) H) : rReprV K [x] H Q := ⟨x, d, rfl, h, q⟩
end U

/-! texts of moves, told apart -/
namespace U
open PySem PySem.Spec PyProof.Rows L2
def Lett (x : List Nat) : Prop := ∀ c ∈ x, c = 65 ∨ (97 ≤ c ∧ c ≤ 122)
theorem Lett.no {x : List Nat} (h : Lett x) : 39 ∉ x := fun z => by
  have := h 39 z
  omega
theorem rc_let : ∀ c, c < 123 → (c = 65 ∨ 97 ≤ c) → PySem.Builtin.Str.reprChar 39 c = [c] := by decide +kernel
theorem fold_let : ∀ (l : List Nat) (acc : Array Nat), Lett l → (l.foldl (fun out c => out ++ (PySem.Builtin.Str.reprChar 39 c).toArray) acc).toList = acc.toList ++ l
  | [], acc, _ => (List.append_nil _).symm
  | c :: l, acc, h => by
    have hc := h c List.mem_cons_self
    rw [List.foldl_cons, fold_let l _ fun d hd => h d (List.mem_cons_of_mem _ hd), rc_let c (by omega) (by omega), Array.toList_append]
    simp
theorem rep_let {x : Str} (h : Lett x.cps.toList) : (reprText x).cps.toList = 39 :: (x.cps.toList ++ [39]) := by
  have q : reprQuote x = 39 := by
    unfold reprQuote
    have : x.cps.contains 39 = false := by
      cases e : x.cps.contains 39 with
      | false => rfl
      | true =>
        have := Array.contains_iff.mp e
        exact absurd (Array.mem_toList_iff.mpr this) h.no
    rw [this]
    rfl
  unfold reprText
  rw [q]
  show ((x.cps.foldl _ #[39]).push 39).toList = _
  rw [Array.toList_push, ← Array.foldl_toList, fold_let _ _ h]
  rfl
theorem str_extT {a b : Str} (h : a.cps.toList = b.cps.toList) : a = b := by
  cases a with
  | mk a =>
    cases b with
    | mk b =>
      have : a = b := Array.toList_inj.mp h
      rw [this]
theorem app_toL {a b : Str} : (a ++ b).cps.toList = a.cps.toList ++ b.cps.toList := by
  show (a.cps ++ b.cps).toList = _
  rw [Array.toList_append]
/-- the text of a pair -/
theorem tup2_toL {a b : Str} : (tupleText [a, b]).cps.toList = 40 :: (a.cps.toList ++ (44 :: 32 :: (b.cps.toList ++ [41]))) := by
  have e : tupleText [a, b] = ("(" : Str) ++ (a ++ (", " : Str) ++ b) ++ (")" : Str) := rfl
  rw [e]
  simp only [app_toL]
  have e1 : (("(" : Str)).cps.toList = [40] := by decide +kernel
  have e2 : ((", " : Str)).cps.toList = [44, 32] := by decide +kernel
  have e3 : ((")" : Str)).cps.toList = [41] := by decide +kernel
  rw [e1, e2, e3]
  simp
theorem tup1_toL {a : Str} : (tupleText [a]).cps.toList = 40 :: (a.cps.toList ++ [44, 41]) := by
  have e : tupleText [a] = ("(" : Str) ++ a ++ (",)" : Str) := rfl
  rw [e]
  simp only [app_toL]
  have e1 : (("(" : Str)).cps.toList = [40] := by decide +kernel
  have e3 : ((",)" : Str)).cps.toList = [44, 41] := by decide +kernel
  rw [e1, e3]
  rfl
theorem tup3_toL {a b c : Str} : (tupleText [a, b, c]).cps.toList = 40 :: (a.cps.toList ++ (44 :: 32 :: (b.cps.toList ++ (44 :: 32 :: (c.cps.toList ++ [41]))))) := by
  have e : tupleText [a, b, c] = ("(" : Str) ++ (a ++ (", " : Str) ++ (b ++ (", " : Str) ++ c)) ++ (")" : Str) := rfl
  rw [e]
  simp only [app_toL]
  have e1 : (("(" : Str)).cps.toList = [40] := by decide +kernel
  have e2 : ((", " : Str)).cps.toList = [44, 32] := by decide +kernel
  have e3 : ((")" : Str)).cps.toList = [41] := by decide +kernel
  rw [e1, e2, e3]
  simp
theorem split39 : ∀ {x n r s : List Nat}, 39 ∉ x → 39 ∉ n → x ++ 39 :: r = n ++ 39 :: s → x = n ∧ r = s
  | [], [], _, _, _, _, h => ⟨rfl, (List.cons.inj h).2⟩
  | [], b :: n, _, _, _, h2, h => by
    have := (List.cons.inj h).1
    exact absurd (by rw [this]; exact List.mem_cons_self) h2
  | a :: x, [], _, _, h1, _, h => by
    have := (List.cons.inj h).1
    exact absurd (by rw [← this]; exact List.mem_cons_self) h1
  | a :: x, b :: n, r, s, h1, h2, h => by
    obtain ⟨e1, e2⟩ := List.cons.inj h
    obtain ⟨e3, e4⟩ := split39 (fun z => h1 (List.mem_cons_of_mem _ z)) (fun z => h2 (List.mem_cons_of_mem _ z)) e2
    exact ⟨by rw [e1, e3], e4⟩
/-- the text of a move -/
def mvT (m : Str × Int) : Str := (PyData.tuple [.str m.1, .int m.2]).shown
def digT (k : Int) : List Nat := (PyData.int k).shown.cps.toList
theorem shown_two {a b : PyData} : (PyData.tuple [a, b]).shown = tupleText [a.shown, b.shown] := by simp only [PyData.shown, PyData.shownAll]
theorem shown_one {a : PyData} : (PyData.tuple [a]).shown = tupleText [a.shown] := by simp only [PyData.shown, PyData.shownAll]
theorem shown_thr {a b c : PyData} : (PyData.tuple [a, b, c]).shown = tupleText [a.shown, b.shown, c.shown] := by simp only [PyData.shown, PyData.shownAll]
theorem shown_str {x : Str} : (PyData.str x).shown = reprText x := by simp only [PyData.shown]
/-- the text of a pair that begins with a name -/
theorem two_toL {x : Str} {b : PyData} (h : Lett x.cps.toList) : (PyData.tuple [.str x, b]).shown.cps.toList = 40 :: 39 :: (x.cps.toList ++ 39 :: 44 :: 32 :: (b.shown.cps.toList ++ [41])) := by
  rw [shown_two, tup2_toL, shown_str, rep_let h]
  simp
theorem mvT_toL {x : Str} {k : Int} (h : Lett x.cps.toList) : (mvT (x, k)).cps.toList = 40 :: 39 :: (x.cps.toList ++ 39 :: 44 :: 32 :: (digT k ++ [41])) := two_toL h
theorem name_let {x : Str} (h : IsName x) : Lett x.cps.toList := fun c hc => .inr (h.ch c hc)
/-- the text S belongs to the move o, or to none -/
def Fit (S : Str) (o : Option (Str × Int)) : Prop := ∀ n k, IsName n → 0 ≤ k → k ≤ 2 → (S = mvT (n, k) ↔ o = some (n, k))
theorem small3 {k : Int} (h0 : 0 ≤ k) (h2 : k ≤ 2) : k = 0 ∨ k = 1 ∨ k = 2 := by omega
theorem dig_inj {j k : Int} (hj : -1 ≤ j ∧ j ≤ 3) (h0 : 0 ≤ k) (h2 : k ≤ 2) (h : digT j ++ [41] = digT k ++ [41]) : j = k := by
  have hj : j = -1 ∨ j = 0 ∨ j = 1 ∨ j = 2 ∨ j = 3 := by omega
  rcases hj with rfl | rfl | rfl | rfl | rfl <;> rcases small3 h0 h2 with rfl | rfl | rfl <;> first | rfl | exact absurd h (by decide +kernel)
theorem fit_mv {x : Str} {j : Int} (h : Lett x.cps.toList) (hj : -1 ≤ j ∧ j ≤ 3) : Fit (mvT (x, j)) (some (x, j)) := fun n k hn h0 h2 => by
  constructor
  · intro e
    have := congrArg (fun s : Str => s.cps.toList) e
    rw [mvT_toL h, mvT_toL (name_let hn)] at this
    injection this with _ this
    injection this with _ this
    obtain ⟨e1, e2⟩ := split39 h.no (name_let hn).no this
    injection e2 with _ e2
    injection e2 with _ e2
    rw [str_extT e1, dig_inj hj h0 h2 e2]
  · intro e
    rw [Option.some.inj e]
theorem fit_head {S : Str} (h : S.cps.toList.head? ≠ some 40) : Fit S none := fun n k hn h0 h2 => by
  refine ⟨fun e => ?_, fun e => nomatch e⟩
  rw [e, mvT_toL (name_let hn)] at h
  exact absurd rfl h
theorem fit_second {S : Str} {c : Nat} {r : List Nat} (h : S.cps.toList = 40 :: c :: r) (hc : c ≠ 39) : Fit S none := fun n k hn h0 h2 => by
  refine ⟨fun e => ?_, fun e => nomatch e⟩
  rw [e, mvT_toL (name_let hn)] at h
  injection h with _ h
  injection h with h _
  exact absurd h.symm hc
theorem fit_rest {S x : Str} {r : List Nat} (hx : Lett x.cps.toList) (h : S.cps.toList = 40 :: 39 :: (x.cps.toList ++ 39 :: r)) (hr : ∀ k : Int, 0 ≤ k → k ≤ 2 → r ≠ 44 :: 32 :: (digT k ++ [41])) : Fit S none := fun n k hn h0 h2 => by
  refine ⟨fun e => ?_, fun e => nomatch e⟩
  rw [e, mvT_toL (name_let hn)] at h
  injection h with _ h
  injection h with _ h
  obtain ⟨_, e2⟩ := split39 (name_let hn).no hx.no h
  exact absurd e2.symm (hr k h0 h2)
/-- a pair with a second part that is no small number -/
theorem fit_pair {x : Str} {b : PyData} (hx : Lett x.cps.toList) (hb : ∀ k : Int, 0 ≤ k → k ≤ 2 → b.shown.cps.toList ++ [41] ≠ digT k ++ [41]) : Fit (PyData.tuple [.str x, b]).shown none :=
  fit_rest hx (two_toL hx) fun k h0 h2 e => by
    injection e with _ e
    injection e with _ e
    exact hb k h0 h2 e
end U

/-! sizes of shown data, put together from the parts -/
namespace U
open PySem PySem.Spec PyProof.Rows L2
/-- data that repr may be asked of: at most n of them, m deep -/
structure SmD (n m : Nat) (d : PyData) : Prop where
  lv : d.leavesShort 13 = true
  sh : d.showable = true
  bk : d.bulk ≤ n
  dp : d.depth ≤ m
  nd : d.hasDict = false
structure SmDs (n m : Nat) (ds : List PyData) : Prop where
  lv : PyData.leavesShortAll 13 ds = true
  sh : PyData.showableAll ds = true
  bk : PyData.bulkAll ds ≤ n
  dp : PyData.depthAll ds ≤ m
  nd : PyData.hasDictAll ds = false
theorem SmDs.nil : SmDs 0 0 [] := ⟨by simp [PyData.leavesShortAll], by simp [PyData.showableAll], by simp [PyData.bulkAll], by simp [PyData.depthAll], by simp [PyData.hasDictAll]⟩
theorem SmDs.cons {n m n2 m2 : Nat} {d : PyData} {ds : List PyData} (h : SmD n m d) (h2 : SmDs n2 m2 ds) : SmDs (n + 1 + n2) (m + m2) (d :: ds) := by
  obtain ⟨a1, a2, a3, a4, a5⟩ := h
  obtain ⟨b1, b2, b3, b4, b5⟩ := h2
  refine ⟨by rw [PyData.leavesShortAll, a1, b1]; rfl, by rw [PyData.showableAll, a2, b2]; rfl, ?_, ?_, by rw [PyData.hasDictAll, a5, b5]; rfl⟩
  · rw [PyData.bulkAll]
    omega
  · rw [PyData.depthAll]
    omega
theorem SmD.tup {n m : Nat} {ds : List PyData} (h : SmDs n m ds) : SmD n (m + 1) (.tuple ds) := by
  obtain ⟨b1, b2, b3, b4, b5⟩ := h
  exact ⟨by rw [PyData.leavesShort]; exact b1, by rw [PyData.showable]; exact b2, by rw [PyData.bulk]; exact b3, by rw [PyData.depth]; omega, by rw [PyData.hasDict]; exact b5⟩
theorem SmD.lst {n m : Nat} {ds : List PyData} (h : SmDs n m ds) : SmD n (m + 1) (.list ds) := by
  obtain ⟨b1, b2, b3, b4, b5⟩ := h
  exact ⟨by rw [PyData.leavesShort]; exact b1, by rw [PyData.showable]; exact b2, by rw [PyData.bulk]; exact b3, by rw [PyData.depth]; omega, by rw [PyData.hasDict]; exact b5⟩
theorem SmD.mono {n m n2 m2 : Nat} {d : PyData} (h : SmD n m d) (a : n ≤ n2) (b : m ≤ m2) : SmD n2 m2 d := ⟨h.lv, h.sh, Nat.le_trans h.bk a, Nat.le_trans h.dp b, h.nd⟩
theorem SmD.name {x : Str} (h : IsName x) : SmD 8 0 (.str x) := ⟨h.lv, by simp [PyData.showable], h.bk, by simp [PyData.depth], by simp [PyData.hasDict]⟩
theorem SmDs.names : ∀ {xs : List Str}, (∀ x ∈ xs, IsName x) → SmDs (9 * xs.length) 0 (xs.map PyData.str)
  | [], _ => SmDs.nil
  | x :: r, h => by
    have a := SmDs.cons (SmD.name (h x List.mem_cons_self)) (SmDs.names fun y hy => h y (List.mem_cons_of_mem _ hy))
    rw [List.map_cons, List.length_cons]
    exact ⟨a.lv, a.sh, by have := a.bk; omega, a.dp, a.nd⟩
theorem SmDs.of {n m : Nat} : ∀ {ds : List PyData}, (∀ d ∈ ds, SmD n m d) → SmDs ((n + 1) * ds.length) m ds
  | [], _ => ⟨SmDs.nil.lv, SmDs.nil.sh, by simp [PyData.bulkAll], by simp [PyData.depthAll], SmDs.nil.nd⟩
  | d :: ds, h => by
    obtain ⟨a1, a2, a3, a4, a5⟩ := h d List.mem_cons_self
    obtain ⟨b1, b2, b3, b4, b5⟩ := SmDs.of (n := n) (m := m) fun y hy => h y (List.mem_cons_of_mem _ hy)
    refine ⟨by rw [PyData.leavesShortAll, a1, b1]; rfl, by rw [PyData.showableAll, a2, b2]; rfl, ?_, ?_, by rw [PyData.hasDictAll, a5, b5]; rfl⟩
    · rw [PyData.bulkAll, List.length_cons, Nat.mul_succ]
      omega
    · rw [PyData.depthAll]
      omega
theorem SmD.shows {n m : Nat} {d : PyData} (h : SmD n m d) (a : n ≤ 2 ^ 20) (b : m ≤ 50) : Shows d := ⟨h.sh, h.lv, Nat.le_trans h.bk a, Nat.le_trans h.dp b⟩
theorem Dp.same {K : PySem.W.Frag} {H H' : Hp} {v : V} {d : PyData} (h : Dp K H v d) (s : Same H H') : Dp K H' v d := dp_ext
  (fun a xs q => by
    rcases q with (q | ⟨o, q⟩) | q
    · exact .inl (.inl (s _ _ q))
    · exact .inl (.inr ⟨o, s _ _ q⟩)
    · exact .inr q) (fun a xs q => Same.seqT s q) _ _ h
end U

namespace Law
open PySem PySem.Spec PyProof.Rows L2 U
def top (i : Nat) : Stmt := PySem.Challenge.pw_threeturned_k08_impossible_moves.main.body.getD i (.Pass ⟨0, 0, 0, 0⟩)
abbrev s_InvalidMove_init : Stmt := inClass (top 2) 0
theorem sc_InvalidMove_init : FnScope ["self", "position"] ["self", "position"] (defScope s_InvalidMove_init) := ⟨rfl, rfl, rfl, by decide +kernel, rfl, by decide +kernel, by decide +kernel⟩
abbrev s_has_node : Stmt := top 4
theorem sc_has_node : FnScope ["graph", "candidate"] ["graph", "candidate"] (defScope s_has_node) := ⟨rfl, rfl, rfl, by decide +kernel, rfl, by decide +kernel, by decide +kernel⟩
abbrev s_adjacency : Stmt := top 5
abbrev nN_adjacency : List Str := ["graph", "nodes", "edges", "found", "node", "one", "other", "some"]
theorem sc_adjacency : FnScope ["graph", "nodes", "edges", "found", "node", "one", "other", "some"] ["graph"] (defScope s_adjacency) := ⟨rfl, rfl, rfl, by decide +kernel, rfl, by decide +kernel, by decide +kernel⟩
abbrev s_is_integer : Stmt := top 8
theorem sc_is_integer : FnScope ["candidate"] ["candidate"] (defScope s_is_integer) := ⟨rfl, rfl, rfl, by decide +kernel, rfl, by decide +kernel, by decide +kernel⟩
abbrev s_is_value : Stmt := top 9
theorem sc_is_value : FnScope ["candidate"] ["candidate"] (defScope s_is_value) := ⟨rfl, rfl, rfl, by decide +kernel, rfl, by decide +kernel, by decide +kernel⟩
abbrev s_values_for : Stmt := top 10
abbrev nN_values_for : List Str := ["state", "node", "adjacent", "pinned", "excluded", "other", "value"]
theorem sc_values_for : FnScope ["state", "node", "adjacent", "pinned", "excluded", "other", "value"] ["state", "node", "adjacent", "pinned"] (defScope s_values_for) := ⟨rfl, rfl, rfl, by decide +kernel, rfl, by decide +kernel, by decide +kernel⟩
abbrev s_is_move : Stmt := top 11
theorem sc_is_move : FnScope ["graph", "state", "adjacent", "candidate", "pinned"] ["graph", "state", "adjacent", "candidate", "pinned"] (defScope s_is_move) := ⟨rfl, rfl, rfl, by decide +kernel, rfl, by decide +kernel, by decide +kernel⟩
abbrev s_apply_moves : Stmt := top 12
theorem sc_apply_moves : FnScope ["graph", "state", "moves", "pinned", "adjacent", "result", "position", "move"] ["graph", "state", "moves", "pinned"] (defScope s_apply_moves) := ⟨rfl, rfl, rfl, by decide +kernel, rfl, by decide +kernel, by decide +kernel⟩
abbrev s__law_pool : Stmt := top 14
theorem sc__law_pool : FnScope ["_law_script", "_law_k", "_law_cell", "_law_size", "_law_seed"] ["_law_script", "_law_k"] (defScope s__law_pool) := ⟨rfl, rfl, rfl, by decide +kernel, rfl, by decide +kernel, by decide +kernel⟩
abbrev s__law_draw : Stmt := top 15
theorem sc__law_draw : FnScope ["_law_pool_here", "_law_many", "_law_found"] ["_law_pool_here", "_law_many"] (defScope s__law_draw) := ⟨rfl, rfl, rfl, by decide +kernel, rfl, by decide +kernel, by decide +kernel⟩
abbrev s__law_draw_names : Stmt := top 16
theorem sc__law_draw_names : FnScope ["_law_pool_here", "_law_many", "_law_letters", "_law_begin", "_law_spread", "_law_tail", "_law_at", "_law_is_mixed", "_law_found", "_law_k", "_law_letter"] ["_law_pool_here", "_law_many"] (defScope s__law_draw_names) := ⟨rfl, rfl, rfl, by decide +kernel, rfl, by decide +kernel, by decide +kernel⟩
abbrev s__law_shuffle : Stmt := top 17
theorem sc__law_shuffle : FnScope ["_law_pool_here", "_law_some", "_law_left", "_law_found"] ["_law_pool_here", "_law_some"] (defScope s__law_shuffle) := ⟨rfl, rfl, rfl, by decide +kernel, rfl, by decide +kernel, by decide +kernel⟩
abbrev s__law_edge_of : Stmt := top 18
theorem sc__law_edge_of : FnScope ["_law_one", "_law_other"] ["_law_one", "_law_other"] (defScope s__law_edge_of) := ⟨rfl, rfl, rfl, by decide +kernel, rfl, by decide +kernel, by decide +kernel⟩
abbrev s__law_wants_edge : Stmt := top 19
theorem sc__law_wants_edge : FnScope ["_law_pool_here", "_law_kind", "_law_at", "_law_position", "_law_many"] ["_law_pool_here", "_law_kind", "_law_at", "_law_position", "_law_many"] (defScope s__law_wants_edge) := ⟨rfl, rfl, rfl, by decide +kernel, rfl, by decide +kernel, by decide +kernel⟩
abbrev s__law_draw_graph : Stmt := top 20
theorem sc__law_draw_graph : FnScope ["_law_pool_here", "_law_most", "_law_order", "_law_kind", "_law_state", "_law_value", "_law_node", "_law_edges", "_law_at", "_law_one", "_law_position", "_law_other"] ["_law_pool_here", "_law_most"] (defScope s__law_draw_graph) := ⟨rfl, rfl, rfl, by decide +kernel, rfl, by decide +kernel, by decide +kernel⟩
abbrev s__law_draw_pins : Stmt := top 21
abbrev nN__law_draw_pins : List Str := ["_law_pool_here", "_law_graph", "_law_node"]
theorem sc__law_draw_pins : FnScope ["_law_pool_here", "_law_graph", "_law_node"] ["_law_pool_here", "_law_graph"] (defScope s__law_draw_pins) := ⟨rfl, rfl, rfl, by decide +kernel, rfl, by decide +kernel, by decide +kernel⟩
abbrev s__law_neighbors_of : Stmt := top 22
theorem sc__law_neighbors_of : FnScope ["_law_graph", "_law_node", "_law_found", "_law_one", "_law_other"] ["_law_graph", "_law_node"] (defScope s__law_neighbors_of) := ⟨rfl, rfl, rfl, by decide +kernel, rfl, by decide +kernel, by decide +kernel⟩
abbrev s__law_moves_of : Stmt := top 23
abbrev nN__law_moves_of : List Str := ["_law_graph", "_law_state", "_law_pins", "_law_found", "_law_node", "_law_shown", "_law_other", "_law_value"]
theorem sc__law_moves_of : FnScope ["_law_graph", "_law_state", "_law_pins", "_law_found", "_law_node", "_law_shown", "_law_other", "_law_value"] ["_law_graph", "_law_state", "_law_pins"] (defScope s__law_moves_of) := ⟨rfl, rfl, rfl, by decide +kernel, rfl, by decide +kernel, by decide +kernel⟩
abbrev s__law_draw_moves : Stmt := top 24
theorem sc__law_draw_moves : FnScope ["_law_pool_here", "_law_graph", "_law_state", "_law_pins", "_law_most", "_law_current", "_law_found", "_law_turn", "_law_some", "_law_move"] ["_law_pool_here", "_law_graph", "_law_state", "_law_pins", "_law_most"] (defScope s__law_draw_moves) := ⟨rfl, rfl, rfl, by decide +kernel, rfl, by decide +kernel, by decide +kernel⟩
abbrev s__law_compute_expected : Stmt := top 25
abbrev nN__law_compute_expected : List Str := ["_law_graph", "_law_state", "_law_pins", "_law_candidate", "_law_current", "_law_number", "_law_move", "_law_one"]
theorem sc__law_compute_expected : FnScope ["_law_graph", "_law_state", "_law_pins", "_law_candidate", "_law_current", "_law_number", "_law_move", "_law_one"] ["_law_graph", "_law_state", "_law_pins", "_law_candidate"] (defScope s__law_compute_expected) := ⟨rfl, rfl, rfl, by decide +kernel, rfl, by decide +kernel, by decide +kernel⟩
abbrev s__law_call : Stmt := top 26
theorem sc__law_call : FnScope ["_law_graph", "_law_state", "_law_pins", "_law_candidate", "_law_error", "_law_found", "e"] ["_law_graph", "_law_state", "_law_pins", "_law_candidate"] (defScope s__law_call) := ⟨rfl, rfl, rfl, by decide +kernel, rfl, by decide +kernel, by decide +kernel⟩
abbrev s__law_invalid : Stmt := top 27
theorem sc__law_invalid : FnScope ["_law_pool_here", "_law_graph", "_law_node", "_law_value", "_law_some"] ["_law_pool_here", "_law_graph"] (defScope s__law_invalid) := ⟨rfl, rfl, rfl, by decide +kernel, rfl, by decide +kernel, by decide +kernel⟩
abbrev s_law : Stmt := top 28
theorem sc_law : FnScope ["_law_script", "_law_k", "_law_pool_here", "_law_graph", "_law_state", "_law_pins", "_law_saved", "_law_moves", "_law_last", "_law_turn", "_law_at", "_law_candidate", "_law_commands", "_law_node", "_law_value"] ["_law_script"] (defScope s_law) := ⟨rfl, rfl, rfl, by decide +kernel, rfl, by decide +kernel, by decide +kernel⟩
end Law

namespace Law
open PySem PySem.Spec PyProof.Rows L2 U
local macro_rules | `(tactic| wtm_at "rd1") => `(tactic| first
  | with_reducible refine rd_seq ?_
  | ((with_reducible refine rd_var (v := ?vv) ?hv ?_); (case hv => exact rfl))
  | with_reducible refine rd_c ?_
  | with_reducible refine rd_cons ?_
  | with_reducible refine rd_nil ?_
  | with_reducible refine rd_op ?_
  | with_reducible refine rd_asg ?_
  | with_reducible refine rd_name ?_
  | with_reducible refine rd_c1 ?_
  | with_reducible refine rd_cb ?_
  | with_reducible refine rd_test ?_
  | with_reducible refine rd_B ?_
  | with_reducible refine rd_bl ?_
  | with_reducible refine rd_if ?_
  | with_reducible refine rd_ret ?_
  | with_reducible refine rd_drop ?_
  | with_reducible refine rd_next ?_
  | with_reducible refine rd_addI ?_
  | with_reducible refine rd_ltI ?_
  | with_reducible refine rd_eqI ?_
  | with_reducible refine rd_neI ?_
  | with_reducible refine rd_eqS ?_
  | with_reducible refine rd_neS ?_
  | with_reducible refine rd_gtI ?_
  | with_reducible refine rd_geI ?_
  | with_reducible refine rd_leI ?_
  | with_reducible refine rd_ltS ?_
  | with_reducible refine rd_subI ?_
  | ((with_reducible refine rd_modI ?hc ?_); (case hc => first | decide | omega))
  | ((with_reducible refine rd_mulI ?hc ?_); (case hc => first | exact mul_bI | exact .inl (.inr (by decide)) | exact .inl (.inl (by decide)) | exact .inl (.inr (by omega)) | exact .inl (.inl (by omega))))
  | ((with_reducible refine rd_divI ?hc ?_); (case hc => first | decide | omega))
  | ((with_reducible refine rd_powI ?hc ?_); (case hc => exact ⟨by decide, by decide, by decide⟩))
  | with_reducible refine rd_lst ?_
  | with_reducible refine rd_tup ?_
  | ((with_reducible refine rd_sz ?hv ?_); (case hv => exact rfl))
  | with_reducible refine rd_and ?_
  | with_reducible refine rd_or ?_
  | with_reducible refine rd_not ?_
  | with_reducible refine rd_andV ?_
  | with_reducible refine rd_orV ?_
  | with_reducible refine rd_notV ?_
  | with_reducible refine rd_ifE ?_
  | with_reducible refine rd_T ?_
  | with_reducible refine rd_F ?_
  | with_reducible refine rd_chain ?_
  | with_reducible refine rd_is ?_
  | with_reducible refine rd_isNot ?_
  | with_reducible refine rd_absI ?_
  | with_reducible refine rd_maxI ?_
  | with_reducible refine rd_minI ?_
  | with_reducible refine rd_intI ?_
  | with_reducible refine rd_intB ?_
  | with_reducible refine rd_sub ?_
  | with_reducible refine rd_sl ?_
  | with_reducible refine rd_noPart ?_
  | with_reducible refine rd_part ?_
  | with_reducible refine rd_exI ?_
  | with_reducible refine rd_bm ?_
  | with_reducible refine rd_bm0 ?_
  | with_reducible refine rd_un ?_
  | with_reducible refine rd_neg ?_
  | with_reducible refine rd_c2 ?_
  | with_reducible refine rd_retN ?_
  | with_reducible refine rd_break ?_
  | with_reducible refine rd_cont ?_
  | with_reducible refine rd_for ?_
  | with_reducible refine rd_rng1 ?_
  | with_reducible refine rd_rng2 ?_
  | with_reducible refine rd_iList ?_
  | with_reducible refine rd_iTup ?_
  | with_reducible refine rd_iEnum ?_
  | ((with_reducible refine rd_forR ?h0 ?h1 ?_); (case h0 => omega); (case h1 => omega))
  | with_reducible refine rd_lc ?_
  | with_reducible refine rd_gcons ?_
  | with_reducible refine rd_gnil ?_
  | with_reducible refine rd_dget ?_
  | with_reducible refine rd_dput ?_
  | with_reducible refine rd_dnew ?_
  | with_reducible refine rd_dc ?_
  | with_reducible refine rd_iItems ?_
  | with_reducible refine rd_iKeys ?_
  | with_reducible refine rd_din ?_
  | with_reducible refine rd_par ?_
  | with_reducible refine rd_two ?_
  | with_reducible refine rd_reprB ?_
  | with_reducible refine rd_ck ?_
  | ((with_reducible refine rd_len ?hl ?_); (case hl => exact rfl))
  | with_reducible refine rd_nT ?_
  | with_reducible refine rd_nF ?_
  | with_reducible refine rd_dnin ?_
  | with_reducible refine rd_isB ?_
  | with_reducible refine rd_isNotB ?_
  | with_reducible refine rd_daug ?_
  | with_reducible refine rd_yesT ?_
  | ((with_reducible refine rd_wp ?hw ?_); (case hw => exact rfl)))
local macro_rules | `(tactic| wtm_at "rd") => `(tactic| repeat wtm_at "rd1")
/-- the names of the world are the world's -/
structure Bt (mg : Str → Option Value) : Prop where
  len : mg "len" = none
  abs : mg "abs" = none
  max : mg "max" = none
  min : mg "min" = none
  sorted : mg "sorted" = none
  isinstance : mg "isinstance" = none
  int : mg "int" = none
  list : mg "list" = none
  tuple : mg "tuple" = none
  str : mg "str" = none
  range : mg "range" = none
  enumerate : mg "enumerate" = none
  dict : mg "dict" = none
  sum : mg "sum" = none
  all : mg "all" = none
  any : mg "any" = none
  repr : mg "repr" = none
  set : mg "set" = none
  zip : mg "zip" = none
  reversed : mg "reversed" = none
/-- a source of draws -/
def PoolOk (big seed : Int) : Prop := 0 ≤ big ∧ 0 ≤ seed ∧ seed < 2147483647
abbrev poolO (big seed : Int) : HO := .lst [.int big, .int seed]
def spPool (K : PySem.W.Frag) : Sp := fun vs H Q _ => ∃ (a : Addr) (ns : List Int) (k : Nat), vs = [.ref a, .int (k : Int)] ∧ SqL K H a (ns.map V.int) ∧ k ≤ 100 ∧
  ∀ p big seed, H p = none → PoolOk big seed → Q (.ref p) (upd H p (poolO big seed))
def spDraw : Sp := fun vs H Q _ => ∃ (p : Addr) (many big seed : Int), vs = [.ref p, .int many] ∧ 0 < many ∧ many < 1000000 ∧ H p = some (poolO big seed) ∧ PoolOk big seed ∧
  ∀ r big' seed', 0 ≤ r → r < many → PoolOk big' seed' → Q (.int r) (upd H p (poolO big' seed'))
section
variable {P : Program} {w : World} {K : PySem.W.Frag} {mg : Str → Option Value} {base : Heap}
theorem ok_pool {f : Addr} {fd : FuncData} (F : Fun K "_law_pool" "_law_pool" s__law_pool f fd) (B : Bt mg) : FnG P w K mg base CX0 1 f fd ["_law_script", "_law_k"] (spPool K) := by
  refine fnG0 F sc__law_pool (fun vs H Q E h => ?_) (fun cdv A outer s H vs Q E hr h => ?_)
  · obtain ⟨a, ns, k, rfl, _⟩ := h
    rfl
  · obtain ⟨a, ns, k, rfl, hs, hk, q⟩ := h
    have nd := sc__law_pool.nd
    refine ⟨_, (pss_cons (ps_set (i := 2) nd rfl (by first | exact Or.inl rfl | exact Or.inr rfl) pe_int)
  (pss_cons (ps_if (pt_cmpR uLt (pv 1) (pe_callB (kLen K rfl) (by rfl) B.len bb_len (pa_cons (pv 0) pa_nil)) (nomark _)) (pss_one (ps_set (i := 2) nd rfl (by first | exact Or.inl rfl | exact Or.inr rfl) (pe_ix (kIx K rfl) (pv 0) (pv 1) (fun _ _ => rfl)))) pss_nil)
  (pss_cons (ps_set (i := 3) nd rfl (by first | exact Or.inl rfl | exact Or.inr rfl) (pe_callB cAbs (by rfl) B.abs bb_abs (pa_cons (pv 2) pa_nil)))
  (pss_cons (ps_set (i := 4) nd rfl (by first | exact Or.inl rfl | exact Or.inr rfl) (pe_op uMod (pe_op uMul (pe_op (kAdd K rfl) (pe_op (kAdd K rfl) (pe_op uMod (pv 3) pe_int) (pe_op uMul pe_int (pv 1))) pe_int) pe_int) pe_int))
  (pss_one (ps_ret (pe_lst (pa_cons (pe_op uMul (pv 3) (pe_callTy cInt (by rfl) B.int bb_int (pa_cons (pe_cmpR uGe (pv 3) (pe_op uPow pe_int pe_int) (nomark _)) pa_nil))) (pa_cons (pv 4) pa_nil))))))))), ?_⟩
    have fin : ∀ z : Int, PoolOk ((z.natAbs : Int) * bToI (decide (10 ^ (18 : Int).toNat ≤ (z.natAbs : Int)))) (((z.natAbs : Int) % 2147483629 + 7919 * (k : Int) + 31) * 48271 % 2147483647) := by
      intro z
      refine ⟨?_, by omega, by omega⟩
      unfold bToI
      split <;> omega
    wtm_at "rd"
    refine rd_lenL hs ?_
    wtm_at "rd"
    refine rd_split (fun c => ?_) (fun c => ?_)
    · have hk2 : k < ns.length := by
        rw [List.length_map] at c
        omega
      wtm_at "rd"
      refine rd_ixL hs (atI_nat (v := .int ns[k]) (by rw [List.getElem?_map, List.getElem?_eq_getElem hk2]; rfl)) ?_
      wtm_at "rd"
      exact fun p np => q p _ _ np (fin _)
    · wtm_at "rd"
      exact fun p np => q p _ _ np (fin _)
theorem ok_draw {f : Addr} {fd : FuncData} (F : Fun K "_law_draw" "_law_draw" s__law_draw f fd) (B : Bt mg) : FnG P w K mg base CX0 1 f fd ["_law_pool_here", "_law_many"] spDraw := by
  refine fnG0 F sc__law_draw (fun vs H Q E h => ?_) (fun cdv A outer s H vs Q E hr h => ?_)
  · obtain ⟨p, many, big, seed, rfl, _⟩ := h
    rfl
  · obtain ⟨p, many, big, seed, rfl, m0, m1, hp, ⟨k0, k1, k2⟩, q⟩ := h
    have nd := sc__law_draw.nd
    refine ⟨_, (pss_cons (ps_if (pt_cmpR uGt (pe_ix (kIx K rfl) (pv 0) pe_int (fun _ _ => rfl)) pe_int (nomark _)) (pss_cons (ps_set (i := 2) nd rfl (by first | exact Or.inl rfl | exact Or.inr rfl) (pe_op uMod (pe_ix (kIx K rfl) (pv 0) pe_int (fun _ _ => rfl)) (pv 1)))
  (pss_cons (ps_asg (pe_op uDiv (pe_ix (kIx K rfl) (pv 0) pe_int (fun _ _ => rfl)) (pv 1)) (pg_sub (pv 0) pe_int set_list))
  (pss_one (ps_ret (pv 2))))) pss_nil)
  (pss_cons (ps_asg (pe_op uMod (pe_op (kAdd K rfl) (pe_op uMul (pe_ix (kIx K rfl) (pv 0) pe_int (fun _ _ => rfl)) pe_int) pe_int) pe_int) (pg_sub (pv 0) pe_int set_list))
  (pss_one (ps_ret (pe_op uMod (pe_op uDiv (pe_op uMod (pe_op uMul (pe_ix (kIx K rfl) (pv 0) pe_int (fun _ _ => rfl)) (pe_ix (kIx K rfl) (pv 0) pe_int (fun _ _ => rfl))) pe_int) pe_int) (pv 1)))))), ?_⟩
    wtm_at "rd"
    refine rd_ixL (SqL.of hp) rfl ?_
    wtm_at "rd"
    refine rd_split (fun c => ?_) (fun c => ?_)
    · wtm_at "rd"
      refine rd_ixL (SqL.of hp) rfl ?_
      wtm_at "rd"
      refine rd_ixL (SqL.of hp) rfl ?_
      wtm_at "rd"
      refine rd_setL hp rfl ?_
      wtm_at "rd"
      exact q _ _ _ (Int.emod_nonneg _ (by omega)) (Int.emod_lt_of_pos _ m0) ⟨Int.ediv_nonneg k0 (by omega), k1, k2⟩
    · wtm_at "rd"
      refine rd_ixL (SqL.of hp) rfl ?_
      wtm_at "rd"
      refine rd_setL hp rfl ?_
      wtm_at "rd"
      refine rd_ixL (SqL.of upd_same) rfl ?_
      wtm_at "rd"
      refine rd_ixL (SqL.of upd_same) rfl ?_
      wtm_at "rd"
      exact q _ _ _ (Int.emod_nonneg _ (by omega)) (Int.emod_lt_of_pos _ m0) ⟨k0, by omega, by omega⟩
end
end Law

namespace Law
open PySem PySem.Spec PyProof.Rows L2 U
local macro_rules | `(tactic| wtm_at "rd1") => `(tactic| first
  | with_reducible refine rd_seq ?_
  | ((with_reducible refine rd_var (v := ?vv) ?hv ?_); (case hv => exact rfl))
  | with_reducible refine rd_c ?_
  | with_reducible refine rd_cons ?_
  | with_reducible refine rd_nil ?_
  | with_reducible refine rd_op ?_
  | with_reducible refine rd_asg ?_
  | with_reducible refine rd_name ?_
  | with_reducible refine rd_c1 ?_
  | with_reducible refine rd_cb ?_
  | with_reducible refine rd_test ?_
  | with_reducible refine rd_B ?_
  | with_reducible refine rd_bl ?_
  | with_reducible refine rd_if ?_
  | with_reducible refine rd_ret ?_
  | with_reducible refine rd_drop ?_
  | with_reducible refine rd_next ?_
  | with_reducible refine rd_addI ?_
  | with_reducible refine rd_ltI ?_
  | with_reducible refine rd_eqI ?_
  | with_reducible refine rd_neI ?_
  | with_reducible refine rd_eqS ?_
  | with_reducible refine rd_neS ?_
  | with_reducible refine rd_gtI ?_
  | with_reducible refine rd_geI ?_
  | with_reducible refine rd_leI ?_
  | with_reducible refine rd_ltS ?_
  | with_reducible refine rd_subI ?_
  | ((with_reducible refine rd_modI ?hc ?_); (case hc => first | decide | omega))
  | ((with_reducible refine rd_mulI ?hc ?_); (case hc => first | exact mul_bI | exact .inl (.inr (by decide)) | exact .inl (.inl (by decide)) | exact .inl (.inr (by omega)) | exact .inl (.inl (by omega))))
  | ((with_reducible refine rd_divI ?hc ?_); (case hc => first | decide | omega))
  | ((with_reducible refine rd_powI ?hc ?_); (case hc => exact ⟨by decide, by decide, by decide⟩))
  | with_reducible refine rd_lst ?_
  | with_reducible refine rd_tup ?_
  | ((with_reducible refine rd_sz ?hv ?_); (case hv => exact rfl))
  | with_reducible refine rd_and ?_
  | with_reducible refine rd_or ?_
  | with_reducible refine rd_not ?_
  | with_reducible refine rd_andV ?_
  | with_reducible refine rd_orV ?_
  | with_reducible refine rd_notV ?_
  | with_reducible refine rd_ifE ?_
  | with_reducible refine rd_T ?_
  | with_reducible refine rd_F ?_
  | with_reducible refine rd_chain ?_
  | with_reducible refine rd_is ?_
  | with_reducible refine rd_isNot ?_
  | with_reducible refine rd_absI ?_
  | with_reducible refine rd_maxI ?_
  | with_reducible refine rd_minI ?_
  | with_reducible refine rd_intI ?_
  | with_reducible refine rd_intB ?_
  | with_reducible refine rd_sub ?_
  | with_reducible refine rd_sl ?_
  | with_reducible refine rd_noPart ?_
  | with_reducible refine rd_part ?_
  | with_reducible refine rd_exI ?_
  | with_reducible refine rd_bm ?_
  | with_reducible refine rd_bm0 ?_
  | with_reducible refine rd_un ?_
  | with_reducible refine rd_neg ?_
  | with_reducible refine rd_c2 ?_
  | with_reducible refine rd_retN ?_
  | with_reducible refine rd_break ?_
  | with_reducible refine rd_cont ?_
  | with_reducible refine rd_for ?_
  | with_reducible refine rd_rng1 ?_
  | with_reducible refine rd_rng2 ?_
  | with_reducible refine rd_iList ?_
  | with_reducible refine rd_iTup ?_
  | with_reducible refine rd_iEnum ?_
  | ((with_reducible refine rd_forR ?h0 ?h1 ?_); (case h0 => omega); (case h1 => omega))
  | with_reducible refine rd_lc ?_
  | with_reducible refine rd_gcons ?_
  | with_reducible refine rd_gnil ?_
  | with_reducible refine rd_dget ?_
  | with_reducible refine rd_dput ?_
  | with_reducible refine rd_dnew ?_
  | with_reducible refine rd_dc ?_
  | with_reducible refine rd_iItems ?_
  | with_reducible refine rd_iKeys ?_
  | with_reducible refine rd_din ?_
  | with_reducible refine rd_par ?_
  | with_reducible refine rd_two ?_
  | with_reducible refine rd_reprB ?_
  | with_reducible refine rd_ck ?_
  | ((with_reducible refine rd_len ?hl ?_); (case hl => exact rfl))
  | with_reducible refine rd_nT ?_
  | with_reducible refine rd_nF ?_
  | with_reducible refine rd_dnin ?_
  | with_reducible refine rd_isB ?_
  | with_reducible refine rd_isNotB ?_
  | with_reducible refine rd_daug ?_
  | with_reducible refine rd_yesT ?_
  | ((with_reducible refine rd_wp ?hw ?_); (case hw => exact rfl)))
local macro_rules | `(tactic| wtm_at "rd") => `(tactic| repeat wtm_at "rd1")

/-- a source of draws stands at p -/
def PoolAt (H : Hp) (p : Addr) : Prop := ∃ big seed, H p = some (poolO big seed) ∧ PoolOk big seed
theorem PoolAt.ne {H : Hp} {p q : Addr} (h : PoolAt H p) (n : H q = none) : p ≠ q := by
  obtain ⟨b, s, h, _⟩ := h
  exact ne_of_none h n
theorem PoolAt.upd {H : Hp} {p q : Addr} {o : HO} (h : PoolAt H p) (n : p ≠ q) : PoolAt (L2.upd H q o) p := by
  obtain ⟨b, s, h, ok⟩ := h
  exact ⟨b, s, at_upd n h, ok⟩
theorem PoolAt.isL {H : Hp} {p : Addr} (h : PoolAt H p) : ∃ ys, H p = some (.lst ys) := by
  obtain ⟨b, s, h, _⟩ := h
  exact ⟨_, h⟩
theorem PoolAt.off {H : Hp} {p q : Addr} {xs : List Str} (h : PoolAt H p) (hq : H q = some (.lst (xs.map V.str))) : q ≠ p := by
  rintro rfl
  obtain ⟨b, s, h, _⟩ := h
  rw [hq] at h
  have e := HO.lst.inj (Option.some.inj h)
  match xs, e with
  | _ :: _, e => cases e
/-- from H to H' all stays but the draws' source at p, which is one still; new things may have come -/
structure Go (p : Addr) (H H' : Hp) : Prop where
  but : But p H H'
  free : ∀ b, H' b = none → H b = none
  pool : PoolAt H' p
theorem Go.refl {p : Addr} {H : Hp} (h : PoolAt H p) : Go p H H := ⟨But.refl, fun _ n => n, h⟩
theorem Go.trans {p : Addr} {H H1 H2 : Hp} (a : Go p H H1) (b : Go p H1 H2) : Go p H H2 := ⟨a.but.trans b.but, fun c n => a.free c (b.free c n), b.pool⟩
theorem Go.new {p q : Addr} {H H1 : Hp} {o : HO} (a : Go p H H1) (n : H1 q = none) : Go p H (L2.upd H1 q o) :=
  ⟨a.but.trans (But.new n), fun c z => a.free c (new_old z), a.pool.upd (a.pool.ne n)⟩
/-- an object that was not there at H is written -/
theorem Go.put {p q : Addr} {H H1 : Hp} {o : HO} (a : Go p H H1) (n : H q = none) (ne : p ≠ q) : Go p H (L2.upd H1 q o) :=
  ⟨fun b u h e => at_upd (ne_of_none e n) (a.but b u h e), fun c z => a.free c (new_old z), a.pool.upd ne⟩
theorem Go.at {p q : Addr} {H H1 : Hp} {o : HO} (a : Go p H H1) (h : H q = some o) (n : q ≠ p) : H1 q = some o := a.but q o n h
theorem Go.seqT {p a : Addr} {H H1 : Hp} {xs : List V} {K : PySem.W.Frag} (g : Go p H H1) (hp : PoolAt H p) (h : SqT K H a xs) : SqT K H1 a xs := g.but.seqT hp.isL h
theorem Go.of_same {p : Addr} {H H' : Hp} (hp : PoolAt H p) (s : Same H H') : Go p H H' := ⟨But.of_same s, fun b n => new_of_same s n, by
  obtain ⟨b, s', h, ok⟩ := hp
  exact ⟨b, s', s _ _ h, ok⟩⟩
theorem PoolAt.keep {p : Addr} {H H' : Hp} (h : PoolAt H p) (k : ∀ a xs, H a = some (.lst xs) → H' a = some (.lst xs)) : PoolAt H' p := by
  obtain ⟨b, s, h, ok⟩ := h
  exact ⟨b, s, k _ _ h, ok⟩
/-- _law_draw, as it is used -/
theorem use_draw {H : Hp} {p : Addr} {many : Int} {Q : VK} {E : XK} (h : PoolAt H p) (m0 : 0 < many) (m1 : many < 1000000)
    (k : ∀ (r : Int) (H' : Hp), 0 ≤ r → r < many → Go p H H' → Q (.int r) H') : spDraw [.ref p, .int many] H Q E := by
  obtain ⟨b, s, h, ok⟩ := h
  exact ⟨p, many, b, s, rfl, m0, m1, h, ok, fun r b' s' r0 r1 ok' => k r _ r0 r1 ⟨But.upd, fun c n => new_old n, b', s', upd_same, ok'⟩⟩
/-- a new list of names -/
def spNames : Sp := fun vs H Q _ => ∃ (p : Addr) (many : Int), vs = [.ref p, .int many] ∧ 0 ≤ many ∧ many ≤ 26 ∧ PoolAt H p ∧
  ∀ (l : Addr) (ys : List Str) (H' : Hp), Go p H H' → H l = none → H' l = some (.lst (ys.map V.str)) → Names ys → ys.length = many.toNat → Q (.ref l) H'
section
variable {P : Program} {w : World} {K : PySem.W.Frag} {mg : Str → Option Value} {base : Heap}
structure C1 (P : Program) (w : World) (K : PySem.W.Frag) (mg : Str → Option Value) (base : Heap) : Prop where
  _law_draw : Cal P w K mg base CX0 1 "_law_draw" spDraw
theorem ok_names {f : Addr} {fd : FuncData} (F : Fun K "_law_draw_names" "_law_draw_names" s__law_draw_names f fd) (B : Bt mg) (C : C1 P w K mg base) : FnG P w K mg base CX0 2 f fd ["_law_pool_here", "_law_many"] spNames := by
  refine fnG0 F sc__law_draw_names (fun vs H Q E h => ?_) (fun cdv A outer s H vs Q E hr h => ?_)
  · obtain ⟨p, many, rfl, _⟩ := h
    rfl
  · obtain ⟨p, many, rfl, m0, m1, hp, q⟩ := h
    have nd := sc__law_draw_names.nd
    refine ⟨_, (pss_cons (ps_set (i := 2) nd rfl (by first | exact Or.inl rfl | exact Or.inr rfl) pe_str)
  (pss_cons (ps_set (i := 3) nd rfl (by first | exact Or.inl rfl | exact Or.inr rfl) (pe_c C._law_draw hr (by decide) rfl (pa_cons (pv 0) (pa_cons pe_int pa_nil))))
  (pss_cons (ps_set (i := 4) nd rfl (by first | exact Or.inl rfl | exact Or.inr rfl) (pe_ix (kIx K rfl) (pe_lst (pa_cons pe_int (pa_cons pe_int (pa_cons pe_int (pa_cons pe_int pa_nil))))) (pe_c C._law_draw hr (by decide) rfl (pa_cons (pv 0) (pa_cons pe_int pa_nil))) (fun _ _ => rfl)))
  (pss_cons (ps_set (i := 5) nd rfl (by first | exact Or.inl rfl | exact Or.inr rfl) (pe_op uMul (pe_ix (kIx K rfl) (pv 2) (pe_c C._law_draw hr (by decide) rfl (pa_cons (pv 0) (pa_cons pe_int pa_nil))) (fun _ _ => rfl)) (pe_ix (kIx K rfl) (pe_lst (pa_cons pe_int (pa_cons pe_int (pa_cons pe_int (pa_cons pe_int pa_nil))))) (pe_c C._law_draw hr (by decide) rfl (pa_cons (pv 0) (pa_cons pe_int pa_nil))) (fun _ _ => rfl))))
  (pss_cons (ps_set (i := 6) nd rfl (by first | exact Or.inl rfl | exact Or.inr rfl) (pe_c C._law_draw hr (by decide) rfl (pa_cons (pv 0) (pa_cons (pe_op (kAdd K rfl) (pe_callB (kLen K rfl) (by rfl) B.len bb_len (pa_cons (pv 5) pa_nil)) pe_int) pa_nil))))
  (pss_cons (ps_set (i := 7) nd rfl (by first | exact Or.inl rfl | exact Or.inr rfl) (pe_cmpR (kEq K rfl hr.u64) (pe_c C._law_draw hr (by decide) rfl (pa_cons (pv 0) (pa_cons pe_int pa_nil))) pe_int (nomark _)))
  (pss_cons (ps_set (i := 8) nd rfl (by first | exact Or.inl rfl | exact Or.inr rfl) (pe_lst pa_nil))
  (pss_cons (ps_for PassesOwn.never rfl (pi_range1 rfl B.range (pa_cons (pv 1) pa_nil)) (pg_name (i := 9) nd rfl (by first | exact Or.inl rfl | exact Or.inr rfl)) (pss_cons (ps_set (i := 10) nd rfl (by first | exact Or.inl rfl | exact Or.inr rfl) (pe_ix (kIx K rfl) (pv 2) (pe_op uMod (pe_op (kAdd K rfl) (pv 3) (pe_op uMul (pv 4) (pv 9))) pe_int) (fun _ _ => rfl)))
  (pss_one (ps_expr (pe_bm PySem.F.plainAttrs_list PySem.F.slot_list_append PySem.F.type_list_append mt_append (pv 8) (pa_cons (pe_ix (kIx K rfl) (pe_lst (pa_cons (pe_op (kAdd K rfl) (pe_op (kAdd K rfl) (pe_slice (kSl K rfl) (pv 5) po_none (po_some (pv 6))) (pv 10)) (pe_slice (kSl K rfl) (pv 5) (po_some (pv 6)) po_none)) (pa_cons (pv 10) pa_nil))) (pe_callTy cInt (by rfl) B.int bb_int (pa_cons (pe_and (pv 7) (pe_one (pe_cmpR (kEq K rfl hr.u64) (pe_op uMod (pv 9) pe_int) pe_int (nomark _)))) pa_nil)) (fun _ _ => rfl)) pa_nil))))))
  (pss_one (ps_ret (pe_callB (kSorted K rfl hr.u64) (by rfl) B.sorted bb_sorted (pa_cons (pv 8) pa_nil)))))))))))), ?_⟩
    wtm_at "rd"
    refine use_draw hp (by decide) (by decide) fun b H1 b0 b1 g1 => ?_
    wtm_at "rd"
    intro t2 f2
    have g2 := g1.new (o := .lst [.int 1, .int 3, .int 5, .int 7]) f2
    wtm_at "rd"
    refine use_draw g2.pool (by decide) (by decide) fun r H3 r0 r1 g => ?_
    have h3 := g.at upd_same (g1.pool.ne f2).symm
    have g3 := g2.trans g
    clear g
    obtain ⟨sp, hsp, isp⟩ := pick4 (a := 1) (b := 3) (c := 5) (d := 7) r0 r1
    refine rd_ixL (SqL.of h3) hsp ?_
    wtm_at "rd"
    refine use_draw g3.pool (by decide) (by decide) fun d H4 d0 d1 g => ?_
    have g4 := g3.trans g
    clear g
    refine rd_ixS letters_len (letters_at d0 d1) ?_
    wtm_at "rd"
    intro t5 f5
    have g5 := g4.new (o := .lst [.int 0, .int 1, .int 3, .int 7]) f5
    wtm_at "rd"
    refine use_draw g5.pool (by decide) (by decide) fun r6 H6 r60 r61 g => ?_
    have h6 := g.at upd_same (g4.pool.ne f5).symm
    have g6 := g5.trans g
    clear g
    obtain ⟨n, hn, isn⟩ := pick4 (a := 0) (b := 1) (c := 3) (d := 7) r60 r61
    refine rd_ixL (SqL.of h6) hn ?_
    -- the tail
    have n0 : 0 ≤ n ∧ n ≤ 7 := by omega
    have et : timesS ⟨#[97 + d.toNat]⟩ n = ⟨(List.replicate n.toNat (97 + d.toNat)).toArray⟩ := by
      unfold timesS
      congr 2
      generalize n.toNat = m
      induction m with
      | zero => rfl
      | succ m ih =>
        rw [List.replicate_succ, List.flatten_cons, ih]
        rfl
    refine ⟨⟨n0.1, by omega, by show 1 ≤ 1000; decide⟩, ?_⟩
    rw [et]
    have tl : (⟨(List.replicate n.toNat (97 + d.toNat)).toArray⟩ : Str).length = n.toNat := by simp [Str.length]
    wtm_at "rd"
    refine rd_lenS (by rw [tl]; omega) ?_
    rw [tl]
    wtm_at "rd"
    refine use_draw g6.pool (by omega) (by omega) fun a H7 a0 a1 g => ?_
    have g7 := g6.trans g
    clear g
    wtm_at "rd"
    refine use_draw g7.pool (by decide) (by decide) fun m H8 m0' m1' g => ?_
    have g8 := g7.trans g
    clear g
    wtm_at "rd"
    intro l fl
    have nl := g8.pool.ne fl
    have fl0 := g8.free _ fl
    have g9 := g8.new (o := .lst []) fl
    wtm_at "rd"
    generalize hmb : decide (m = 1) = mb
    generalize hT : (⟨(List.replicate n.toNat (97 + d.toNat)).toArray⟩ : Str) = T at *
    have nm : ∀ k : Nat, nameK b sp (List.replicate n.toNat (97 + d.toNat)) a.toNat mb k =
        if mb = true ∧ k % 2 = 1 then ⟨#[97 + ((b + sp * (k : Int)) % 26).toNat]⟩ else cutS T none (some a) ++ ⟨#[97 + ((b + sp * (k : Int)) % 26).toNat]⟩ ++ cutS T (some a) none := by
      intro k
      unfold nameK
      rw [← hT, cutS_to a0, cutS_from a0]
      split
      · rfl
      · show _ = (⟨(List.take a.toNat (List.replicate n.toNat (97 + d.toNat))).toArray⟩ : Str) ++ ⟨[97 + ((b + sp * (k : Int)) % 26).toNat].toArray⟩ ++ ⟨(List.drop a.toNat (List.replicate n.toNat (97 + d.toNat))).toArray⟩
        rw [str_app, str_app]
        rfl
    have hTl : T.length ≤ 7 := by rw [tl]; omega
    generalize hN : nameK b sp (List.replicate n.toNat (97 + d.toNat)) a.toNat mb = nk at *
    refine turnsR (fun i σ H1 => ∃ u1 u2, σ = [some (.ref p), some (.int many), some (.str (Str.ofString "abcdefghijklmnopqrstuvwxyz")), some (.int b), some (.int sp), some (.str T), some (.int a), some (.bl mb), some (.ref l), u1, u2] ∧
      Go p H H1 ∧ H1 l = some (.lst ((List.range i).map fun k => V.str (nk k)))) ⟨_, _, rfl, g9, upd_same⟩ ?_ ?_
    · rintro i σ H1 hi ⟨u1, u2, rfl, g, hl⟩
      wtm_at "rd"
      have ir : 0 ≤ (b + sp * (0 + (i : Int))) % 26 ∧ (b + sp * (0 + (i : Int))) % 26 < 26 := by omega
      refine rd_ixS letters_len (letters_at ir.1 ir.2) ?_
      wtm_at "rd"
      refine rd_tyL hl ?_
      wtm_at "rd"
      refine rd_slS (by omega) ?_
      wtm_at "rd"
      have e0 : (0 + (i : Int)) = (i : Int) := Int.zero_add _
      rw [e0]
      have cut1 : (cutS T none (some a)).length ≤ 7 := by
        have := congrArg List.length (congrArg (fun z : Str => z.cps.toList) (cutS_to (z := T) a0))
        simp only [List.length_take] at this
        simp only [Str.length] at hTl ⊢
        simp only [Array.length_toList] at this
        omega
      have cut2 : (cutS T (some a) none).length ≤ 7 := by
        have := congrArg List.length (congrArg (fun z : Str => z.cps.toList) (cutS_from (z := T) a0))
        simp only [List.length_drop] at this
        simp only [Str.length] at hTl ⊢
        simp only [Array.length_toList] at this
        omega
      generalize hc : (⟨#[97 + ((b + sp * (i : Int)) % 26).toNat]⟩ : Str) = ch
      have chl : ch.length = 1 := by rw [← hc]; rfl
      refine rd_addS (Nat.le_trans (Nat.add_le_add cut1 (Nat.le_of_eq chl)) (by decide)) ?_
      wtm_at "rd"
      refine rd_slS (by omega) ?_
      wtm_at "rd"
      have cut3 : (cutS T none (some a) ++ ch).length ≤ 8 := by
        have : (cutS T none (some a) ++ ch).length = (cutS T none (some a)).length + ch.length := by
          show ((cutS T none (some a)).cps ++ ch.cps).size = _
          rw [Array.size_append]
          rfl
        omega
      refine rd_addS (Nat.le_trans (Nat.add_le_add cut3 cut2) (by decide)) ?_
      wtm_at "rd"
      intro t ft
      have nt : l ≠ t := ne_of_none hl ft
      wtm_at "rd"
      have hl2 := at_upd (o := .lst [.str (cutS T none (some a) ++ ch ++ cutS T (some a) none), .str ch]) nt hl
      have g' := g.new (o := .lst [.str (cutS T none (some a) ++ ch ++ cutS T (some a) none), .str ch]) ft
      have len : ((List.range i).map fun k => V.str (nk k)).length < 100000 := by
        rw [List.length_map, List.length_range]
        omega
      have fin : ∀ z : Str, z = nk i → Go p H (upd (upd H1 t (.lst [.str (cutS T none (some a) ++ ch ++ cutS T (some a) none), .str ch])) l (.lst (((List.range i).map fun k => V.str (nk k)) ++ [.str z]))) ∧
          (upd (upd H1 t (.lst [.str (cutS T none (some a) ++ ch ++ cutS T (some a) none), .str ch])) l (.lst (((List.range i).map fun k => V.str (nk k)) ++ [.str z]))) l = some (.lst ((List.range (i + 1)).map fun k => V.str (nk k))) := by
        rintro z rfl
        refine ⟨g'.put fl0 nl, ?_⟩
        rw [upd_same, List.range_succ, List.map_append]
        rfl
      have ne := nm i
      rw [hc] at ne
      refine rd_b (fun c => ?_) (fun c => ?_)
      · wtm_at "rd"
        refine rd_ixL (SqL.of upd_same) (bToI_pick _) ?_
        wtm_at "rd"
        have z : (if decide ((i : Int) % 2 = 1) = true then V.str ch else V.str (cutS T none (some a) ++ ch ++ cutS T (some a) none)) = V.str (nk i) := by
          rw [ne]
          by_cases h : i % 2 = 1
          · rw [if_pos (decide_eq_true (by omega)), if_pos ⟨c, h⟩]
          · rw [if_neg (by rw [decide_eq_true_eq]; omega), if_neg (fun z => h z.2)]
        rw [z]
        refine rd_append hl2 len ?_
        exact ⟨_, _, rfl, (fin _ rfl).1, (fin _ rfl).2⟩
      · wtm_at "rd"
        refine rd_ixL (SqL.of upd_same) (bToI_pick _) ?_
        wtm_at "rd"
        have z : (if false = true then V.str ch else V.str (cutS T none (some a) ++ ch ++ cutS T (some a) none)) = V.str (nk i) := by
          rw [ne, if_neg Bool.false_ne_true, if_neg (fun z => by rw [c] at z; exact Bool.false_ne_true z.1)]
        rw [z]
        refine rd_append hl2 len ?_
        exact ⟨_, _, rfl, (fin _ rfl).1, (fin _ rfl).2⟩
    · rintro σ H1 ⟨u1, u2, rfl, g, hl⟩
      wtm_at "rd"
      refine rd_sortS (xs := (List.range many.toNat).map nk) (SqL.of (by rw [List.map_map]; exact hl)) (by rw [List.length_map, List.length_range]; omega) ?_
      intro ys py sy l2 fl2
      have nd2 : ((List.range many.toNat).map nk).Nodup := by
        rw [← hN]
        exact names_nodup (by omega) isp (by omega)
      have nu : NamesU ((List.range many.toNat).map nk) := ⟨nd2, fun y hy => by
        obtain ⟨k, _, rfl⟩ := List.mem_map.mp hy
        rw [← hN]
        exact nameK_ok (by omega) (by omega) (by omega)⟩
      have nu2 := nu.perm py
      exact q l2 ys _ (g.new fl2) (g.free _ fl2) upd_same ⟨asc_of_sorted sy nu2.nd, nu2.ok⟩ (by rw [py.length_eq, List.length_map, List.length_range])
end
end Law

namespace Law
open PySem PySem.Spec PyProof.Rows L2 U
local macro_rules | `(tactic| wtm_at "rd1") => `(tactic| first
  | with_reducible refine rd_seq ?_
  | ((with_reducible refine rd_var (v := ?vv) ?hv ?_); (case hv => exact rfl))
  | with_reducible refine rd_c ?_
  | with_reducible refine rd_cons ?_
  | with_reducible refine rd_nil ?_
  | with_reducible refine rd_op ?_
  | with_reducible refine rd_asg ?_
  | with_reducible refine rd_name ?_
  | with_reducible refine rd_c1 ?_
  | with_reducible refine rd_cb ?_
  | with_reducible refine rd_test ?_
  | with_reducible refine rd_B ?_
  | with_reducible refine rd_bl ?_
  | with_reducible refine rd_if ?_
  | with_reducible refine rd_ret ?_
  | with_reducible refine rd_drop ?_
  | with_reducible refine rd_next ?_
  | with_reducible refine rd_addI ?_
  | with_reducible refine rd_ltI ?_
  | with_reducible refine rd_eqI ?_
  | with_reducible refine rd_neI ?_
  | with_reducible refine rd_eqS ?_
  | with_reducible refine rd_neS ?_
  | with_reducible refine rd_gtI ?_
  | with_reducible refine rd_geI ?_
  | with_reducible refine rd_leI ?_
  | with_reducible refine rd_ltS ?_
  | with_reducible refine rd_subI ?_
  | ((with_reducible refine rd_modI ?hc ?_); (case hc => first | decide | omega))
  | ((with_reducible refine rd_mulI ?hc ?_); (case hc => first | exact mul_bI | exact .inl (.inr (by decide)) | exact .inl (.inl (by decide)) | exact .inl (.inr (by omega)) | exact .inl (.inl (by omega))))
  | ((with_reducible refine rd_divI ?hc ?_); (case hc => first | decide | omega))
  | ((with_reducible refine rd_powI ?hc ?_); (case hc => exact ⟨by decide, by decide, by decide⟩))
  | with_reducible refine rd_lst ?_
  | with_reducible refine rd_tup ?_
  | ((with_reducible refine rd_sz ?hv ?_); (case hv => exact rfl))
  | with_reducible refine rd_and ?_
  | with_reducible refine rd_or ?_
  | with_reducible refine rd_not ?_
  | with_reducible refine rd_andV ?_
  | with_reducible refine rd_orV ?_
  | with_reducible refine rd_notV ?_
  | with_reducible refine rd_ifE ?_
  | with_reducible refine rd_T ?_
  | with_reducible refine rd_F ?_
  | with_reducible refine rd_chain ?_
  | with_reducible refine rd_is ?_
  | with_reducible refine rd_isNot ?_
  | with_reducible refine rd_absI ?_
  | with_reducible refine rd_maxI ?_
  | with_reducible refine rd_minI ?_
  | with_reducible refine rd_intI ?_
  | with_reducible refine rd_intB ?_
  | with_reducible refine rd_sub ?_
  | with_reducible refine rd_sl ?_
  | with_reducible refine rd_noPart ?_
  | with_reducible refine rd_part ?_
  | with_reducible refine rd_exI ?_
  | with_reducible refine rd_bm ?_
  | with_reducible refine rd_bm0 ?_
  | with_reducible refine rd_un ?_
  | with_reducible refine rd_neg ?_
  | with_reducible refine rd_c2 ?_
  | with_reducible refine rd_retN ?_
  | with_reducible refine rd_break ?_
  | with_reducible refine rd_cont ?_
  | with_reducible refine rd_for ?_
  | with_reducible refine rd_rng1 ?_
  | with_reducible refine rd_rng2 ?_
  | with_reducible refine rd_iList ?_
  | with_reducible refine rd_iTup ?_
  | with_reducible refine rd_iEnum ?_
  | ((with_reducible refine rd_forR ?h0 ?h1 ?_); (case h0 => omega); (case h1 => omega))
  | with_reducible refine rd_lc ?_
  | with_reducible refine rd_gcons ?_
  | with_reducible refine rd_gnil ?_
  | with_reducible refine rd_dget ?_
  | with_reducible refine rd_dput ?_
  | with_reducible refine rd_dnew ?_
  | with_reducible refine rd_dc ?_
  | with_reducible refine rd_iItems ?_
  | with_reducible refine rd_iKeys ?_
  | with_reducible refine rd_din ?_
  | with_reducible refine rd_par ?_
  | with_reducible refine rd_two ?_
  | with_reducible refine rd_reprB ?_
  | with_reducible refine rd_ck ?_
  | ((with_reducible refine rd_len ?hl ?_); (case hl => exact rfl))
  | with_reducible refine rd_nT ?_
  | with_reducible refine rd_nF ?_
  | with_reducible refine rd_dnin ?_
  | with_reducible refine rd_isB ?_
  | with_reducible refine rd_isNotB ?_
  | with_reducible refine rd_daug ?_
  | with_reducible refine rd_yesT ?_
  | ((with_reducible refine rd_wp ?hw ?_); (case hw => exact rfl)))
local macro_rules | `(tactic| wtm_at "rd") => `(tactic| repeat wtm_at "rd1")

/-- the same names in another order -/
def spShuf (K : PySem.W.Frag) : Sp := fun vs H Q _ => ∃ (p src : Addr) (xs : List Str), vs = [.ref p, .ref src] ∧ PoolAt H p ∧ H src = some (.lst (xs.map V.str)) ∧ (∀ x ∈ xs, PyData.strOk x = true) ∧ xs.length ≤ 1000 ∧
  ∀ (l : Addr) (ys : List Str) (H' : Hp), Go p H H' → H l = none → H' l = some (.lst (ys.map V.str)) → ys.Perm xs → Q (.ref l) H'
def spEdgeOf : Sp := fun vs H Q _ => ∃ x y : Str, vs = [.str x, .str y] ∧ ∀ t, H t = none → Q (.ref t) (upd H t (.tup (if sLt x y then [.str x, .str y] else [.str y, .str x])))
def spWants : Sp := fun vs H Q _ => ∃ (p : Addr) (kind a b m : Int), vs = [.ref p, .int kind, .int a, .int b, .int m] ∧ PoolAt H p ∧ 0 ≤ kind ∧ kind ≤ 10 ∧ ∀ (r : Bool) (H' : Hp), Go p H H' → Q (.bl r) H'
section
variable {P : Program} {w : World} {K : PySem.W.Frag} {mg : Str → Option Value} {base : Heap}
theorem ok_shuffle {f : Addr} {fd : FuncData} (F : Fun K "_law_shuffle" "_law_shuffle" s__law_shuffle f fd) (B : Bt mg) (C : C1 P w K mg base) : FnG P w K mg base CX0 2 f fd ["_law_pool_here", "_law_some"] (spShuf K) := by
  refine fnG0 F sc__law_shuffle (fun vs H Q E h => ?_) (fun cdv A outer s H vs Q E hr h => ?_)
  · obtain ⟨p, src, xs, rfl, _⟩ := h
    rfl
  · obtain ⟨p, src, xs, rfl, hp, hs, ok, hz, q⟩ := h
    have nd := sc__law_shuffle.nd
    refine ⟨_, (pss_cons (ps_set (i := 2) nd rfl (by first | exact Or.inl rfl | exact Or.inr rfl) (pe_callTy (kList K rfl rfl) (by rfl) B.list bb_list (pa_cons (pv 1) pa_nil)))
  (pss_cons (ps_set (i := 3) nd rfl (by first | exact Or.inl rfl | exact Or.inr rfl) (pe_lst pa_nil))
  (pss_cons (ps_while PassesOwn.never (pt_cmpR (kNe K rfl hr.u64) (pv 2) (pe_lst pa_nil) (nomark _)) (pss_one (ps_expr (pe_bm PySem.F.plainAttrs_list PySem.F.slot_list_append PySem.F.type_list_append mt_append (pv 3) (pa_cons (pe_bm PySem.F.plainAttrs_list PySem.F.slot_list_pop PySem.F.type_list_pop mt_popAt (pv 2) (pa_cons (pe_c C._law_draw hr (by decide) rfl (pa_cons (pv 0) (pa_cons (pe_callB (kLen K rfl) (by rfl) B.len bb_len (pa_cons (pv 2) pa_nil)) pa_nil))) pa_nil)) pa_nil)))))
  (pss_one (ps_ret (pv 3)))))), ?_⟩
    wtm_at "rd"
    refine rd_listL (SqL.of hs) ?_
    intro a fa
    have g1 := (Go.refl hp).new (o := .lst (xs.map V.str)) fa
    have na := hp.ne fa
    wtm_at "rd"
    intro l fl
    have g2 := g1.new (o := .lst []) fl
    have fl0 := g1.free _ fl
    have nl := g1.pool.ne fl
    have nla := new_ne fl
    wtm_at "rd"
    refine ⟨fun m σ H1 => ∃ zs ys : List Str, m = zs.length ∧ σ = [some (.ref p), some (.ref src), some (.ref a), some (.ref l)] ∧ Go p H H1 ∧ H1 a = some (.lst (zs.map V.str)) ∧ H1 l = some (.lst (ys.map V.str)) ∧ (ys ++ zs).Perm xs,
      ⟨_, xs, [], rfl, rfl, g2, at_upd (Ne.symm nla) upd_same, upd_same, .refl _⟩, ?_⟩
    rintro m σ H1 ⟨zs, ys, rfl, rfl, g, ha, hl, pm⟩
    have lz := pm.length_eq
    rw [List.length_append] at lz
    wtm_at "rd"
    intro t ft
    have g3 := g.new (o := .lst []) ft
    refine rd_neNil (SqL.of (at_upd (ne_of_none ha ft) ha)) (SqL.of upd_same) (fun x hx => ok x (pm.mem_iff.mp (List.mem_append_right _ hx))) ?_
    wtm_at "rd"
    refine rd_b (fun c => ?_) (fun c => ?_)
    · have hz0 : 0 < zs.length := by
        cases zs with
        | nil => cases c
        | cons _ _ => simp
      refine ⟨fun σ' H' => ∃ zs' ys' : List Str, zs'.length < zs.length ∧ σ' = [some (.ref p), some (.ref src), some (.ref a), some (.ref l)] ∧ Go p H H' ∧ H' a = some (.lst (zs'.map V.str)) ∧ H' l = some (.lst (ys'.map V.str)) ∧ (ys' ++ zs').Perm xs,
        fun σ' H' ⟨zs', ys', h1, h2⟩ => ⟨_, h1, zs', ys', rfl, h2⟩, ?_⟩
      wtm_at "rd"
      refine rd_tyL (at_upd (ne_of_none hl ft) hl) ?_
      wtm_at "rd"
      refine rd_tyL (at_upd (ne_of_none ha ft) ha) ?_
      wtm_at "rd"
      refine rd_lenL (SqL.of (at_upd (ne_of_none ha ft) ha)) ?_
      rw [List.length_map]
      wtm_at "rd"
      refine use_draw g3.pool (by omega) (by omega) fun r H2 r0 r1 g => ?_
      have ha2 := g.at (at_upd (ne_of_none ha ft) ha) (Ne.symm na)
      have hl2 := g.at (at_upd (ne_of_none hl ft) hl) (Ne.symm nl)
      have g4 := g3.trans g
      clear g
      wtm_at "rd"
      have hr2 : r.toNat < zs.length := by omega
      refine rd_popAt ha2 r0 rfl (by rw [List.length_map]; omega) (v := .str zs[r.toNat]) (by rw [List.getElem?_map, List.getElem?_eq_getElem hr2]; rfl) ?_
      have hl3 := at_upd (o := .lst ((zs.map V.str).eraseIdx r.toNat)) (nla) hl2
      have g5 := g4.put (o := .lst ((zs.map V.str).eraseIdx r.toNat)) fa na
      wtm_at "rd"
      refine rd_append hl3 (by rw [List.length_map]; omega) ?_
      have g6 := g5.put (o := .lst (ys.map V.str ++ [.str zs[r.toNat]])) fl0 nl
      refine ⟨zs.eraseIdx r.toNat, ys ++ [zs[r.toNat]], ?_, rfl, g6, ?_, ?_, ?_⟩
      · rw [List.length_eraseIdx_of_lt hr2]
        omega
      · rw [upd_ne (Ne.symm nla), upd_same, erase_map]
      · rw [upd_same, List.map_append]
        rfl
      · refine List.Perm.trans ?_ pm
        rw [List.append_assoc]
        refine List.Perm.append_left _ ?_
        exact erase_perm hr2
    · have e : zs = [] := by
        cases zs with
        | nil => rfl
        | cons _ _ => cases c
      subst e
      rw [List.append_nil] at pm
      wtm_at "rd"
      exact q l ys _ g3 fl0 (at_upd (ne_of_none hl ft) hl) pm
theorem ok_edge_of {f : Addr} {fd : FuncData} (F : Fun K "_law_edge_of" "_law_edge_of" s__law_edge_of f fd) (B : Bt mg) : FnG P w K mg base CX0 1 f fd ["_law_one", "_law_other"] spEdgeOf := by
  refine fnG0 F sc__law_edge_of (fun vs H Q E h => ?_) (fun cdv A outer s H vs Q E hr h => ?_)
  · obtain ⟨x, y, rfl, _⟩ := h
    rfl
  · obtain ⟨x, y, rfl, q⟩ := h
    have nd := sc__law_edge_of.nd
    refine ⟨_, (pss_cons (ps_if (pt_cmpR uLt (pv 0) (pv 1) (nomark _)) (pss_one (ps_ret (pe_tup (pa_cons (pv 0) (pa_cons (pv 1) pa_nil))))) pss_nil)
  (pss_one (ps_ret (pe_tup (pa_cons (pv 1) (pa_cons (pv 0) pa_nil)))))), ?_⟩
    wtm_at "rd"
    refine rd_split (fun c => ?_) (fun c => ?_)
    · have c : sLt x y := c
      rw [if_pos c] at q
      wtm_at "rd"
      exact fun t ft => q t ft
    · have c : ¬ sLt x y := c
      rw [if_neg c] at q
      wtm_at "rd"
      exact fun t ft => q t ft
theorem ok_wants {f : Addr} {fd : FuncData} (F : Fun K "_law_wants_edge" "_law_wants_edge" s__law_wants_edge f fd) (B : Bt mg) (C : C1 P w K mg base) : FnG P w K mg base CX0 2 f fd ["_law_pool_here", "_law_kind", "_law_at", "_law_position", "_law_many"] spWants := by
  refine fnG0 F sc__law_wants_edge (fun vs H Q E h => ?_) (fun cdv A outer s H vs Q E hr h => ?_)
  · obtain ⟨p, k, a, b, m, rfl, _⟩ := h
    rfl
  · obtain ⟨p, k, a, b, m, rfl, hp, k0, k1, q⟩ := h
    have nd := sc__law_wants_edge.nd
    refine ⟨_, (pss_cons (ps_if (pt_cmpR uLt (pv 1) pe_int (nomark _)) (pss_one (ps_ret (pe_cmpR (kEq K rfl hr.u64) (pe_c C._law_draw hr (by decide) rfl (pa_cons (pv 0) (pa_cons (pe_op (kAdd K rfl) pe_int (pe_op uMul pe_int (pv 1))) pa_nil))) pe_int (nomark _)))) pss_nil)
  (pss_cons (ps_if (PW.pt (pw_or (pt_cmpR (kEq K rfl hr.u64) (pe_op uSub (pv 2) (pv 3)) pe_int (nomark _)) (pw_or1 (PW.pt (pw_and (pt_cmpR (kEq K rfl hr.u64) (pv 3) pe_int (nomark _)) (pw_and1 (pt_cmpR (kEq K rfl hr.u64) (pv 2) (pe_op uSub (pv 4) pe_int) (nomark _)))))))) (pss_one (ps_ret pe_bl)) pss_nil)
  (pss_one (ps_ret (pe_and (pe_cmpR uLt (pv 1) pe_int (nomark _)) (pe_one (pe_cmpR (kEq K rfl hr.u64) (pe_c C._law_draw hr (by decide) rfl (pa_cons (pv 0) (pa_cons pe_int pa_nil))) pe_int (nomark _)))))))), ?_⟩
    wtm_at "rd"
    refine rd_split (fun c => ?_) (fun c => ?_)
    · wtm_at "rd"
      refine use_draw hp (by omega) (by omega) fun r H2 r0 r1 g => ?_
      wtm_at "rd"
      exact q _ _ g
    · wtm_at "rd"
      refine rd_split (fun c => ?_) (fun c => ?_)
      · wtm_at "rd"
        exact q _ _ (Go.refl hp)
      · wtm_at "rd"
        refine rd_split (fun c => ?_) (fun c => ?_)
        · wtm_at "rd"
          refine rd_split (fun c => ?_) (fun c => ?_)
          · wtm_at "rd"
            exact q _ _ (Go.refl hp)
          · wtm_at "rd"
            refine rd_split (fun c => ?_) (fun c => ?_)
            · wtm_at "rd"
              refine use_draw hp (by decide) (by decide) fun r H2 r0 r1 g => ?_
              wtm_at "rd"
              exact q _ _ g
            · wtm_at "rd"
              exact q _ _ (Go.refl hp)
        · wtm_at "rd"
          refine rd_split (fun c => ?_) (fun c => ?_)
          · wtm_at "rd"
            refine use_draw hp (by decide) (by decide) fun r H2 r0 r1 g => ?_
            wtm_at "rd"
            exact q _ _ g
          · wtm_at "rd"
            exact q _ _ (Go.refl hp)
end
end Law

namespace Law
open PySem PySem.Spec PyProof.Rows L2 U
local macro_rules | `(tactic| wtm_at "rd1") => `(tactic| first
  | with_reducible refine rd_seq ?_
  | ((with_reducible refine rd_var (v := ?vv) ?hv ?_); (case hv => exact rfl))
  | with_reducible refine rd_c ?_
  | with_reducible refine rd_cons ?_
  | with_reducible refine rd_nil ?_
  | with_reducible refine rd_op ?_
  | with_reducible refine rd_asg ?_
  | with_reducible refine rd_name ?_
  | with_reducible refine rd_c1 ?_
  | with_reducible refine rd_cb ?_
  | with_reducible refine rd_test ?_
  | with_reducible refine rd_B ?_
  | with_reducible refine rd_bl ?_
  | with_reducible refine rd_if ?_
  | with_reducible refine rd_ret ?_
  | with_reducible refine rd_drop ?_
  | with_reducible refine rd_next ?_
  | with_reducible refine rd_addI ?_
  | with_reducible refine rd_ltI ?_
  | with_reducible refine rd_eqI ?_
  | with_reducible refine rd_neI ?_
  | with_reducible refine rd_eqS ?_
  | with_reducible refine rd_neS ?_
  | with_reducible refine rd_gtI ?_
  | with_reducible refine rd_geI ?_
  | with_reducible refine rd_leI ?_
  | with_reducible refine rd_ltS ?_
  | with_reducible refine rd_subI ?_
  | ((with_reducible refine rd_modI ?hc ?_); (case hc => first | decide | omega))
  | ((with_reducible refine rd_mulI ?hc ?_); (case hc => first | exact mul_bI | exact .inl (.inr (by decide)) | exact .inl (.inl (by decide)) | exact .inl (.inr (by omega)) | exact .inl (.inl (by omega))))
  | ((with_reducible refine rd_divI ?hc ?_); (case hc => first | decide | omega))
  | ((with_reducible refine rd_powI ?hc ?_); (case hc => exact ⟨by decide, by decide, by decide⟩))
  | with_reducible refine rd_lst ?_
  | with_reducible refine rd_tup ?_
  | ((with_reducible refine rd_sz ?hv ?_); (case hv => exact rfl))
  | with_reducible refine rd_and ?_
  | with_reducible refine rd_or ?_
  | with_reducible refine rd_not ?_
  | with_reducible refine rd_andV ?_
  | with_reducible refine rd_orV ?_
  | with_reducible refine rd_notV ?_
  | with_reducible refine rd_ifE ?_
  | with_reducible refine rd_T ?_
  | with_reducible refine rd_F ?_
  | with_reducible refine rd_chain ?_
  | with_reducible refine rd_is ?_
  | with_reducible refine rd_isNot ?_
  | with_reducible refine rd_absI ?_
  | with_reducible refine rd_maxI ?_
  | with_reducible refine rd_minI ?_
  | with_reducible refine rd_intI ?_
  | with_reducible refine rd_intB ?_
  | with_reducible refine rd_sub ?_
  | with_reducible refine rd_sl ?_
  | with_reducible refine rd_noPart ?_
  | with_reducible refine rd_part ?_
  | with_reducible refine rd_exI ?_
  | with_reducible refine rd_bm ?_
  | with_reducible refine rd_bm0 ?_
  | with_reducible refine rd_un ?_
  | with_reducible refine rd_neg ?_
  | with_reducible refine rd_c2 ?_
  | with_reducible refine rd_retN ?_
  | with_reducible refine rd_break ?_
  | with_reducible refine rd_cont ?_
  | with_reducible refine rd_for ?_
  | with_reducible refine rd_rng1 ?_
  | with_reducible refine rd_rng2 ?_
  | with_reducible refine rd_iList ?_
  | with_reducible refine rd_iTup ?_
  | with_reducible refine rd_iEnum ?_
  | ((with_reducible refine rd_forR ?h0 ?h1 ?_); (case h0 => omega); (case h1 => omega))
  | with_reducible refine rd_lc ?_
  | with_reducible refine rd_gcons ?_
  | with_reducible refine rd_gnil ?_
  | with_reducible refine rd_dget ?_
  | with_reducible refine rd_dput ?_
  | with_reducible refine rd_dnew ?_
  | with_reducible refine rd_dc ?_
  | with_reducible refine rd_iItems ?_
  | with_reducible refine rd_iKeys ?_
  | with_reducible refine rd_din ?_
  | with_reducible refine rd_par ?_
  | with_reducible refine rd_two ?_
  | with_reducible refine rd_reprB ?_
  | with_reducible refine rd_ck ?_
  | ((with_reducible refine rd_len ?hl ?_); (case hl => exact rfl))
  | with_reducible refine rd_nT ?_
  | with_reducible refine rd_nF ?_
  | with_reducible refine rd_dnin ?_
  | with_reducible refine rd_isB ?_
  | with_reducible refine rd_isNotB ?_
  | with_reducible refine rd_daug ?_
  | with_reducible refine rd_yesT ?_
  | ((with_reducible refine rd_wp ?hw ?_); (case hw => exact rfl)))
local macro_rules | `(tactic| wtm_at "rd") => `(tactic| repeat wtm_at "rd1")

/-- a new graph and a state of it -/
def spGraph : Sp := fun vs H Q _ => ∃ (p : Addr) (most : Int), vs = [.ref p, .int most] ∧ PoolAt H p ∧ 1 ≤ most ∧ most ≤ 25 ∧
  ∀ (t g n e st : Addr) (ns ord : List Str) (es : List (Addr × Str × Str)) (ws : List (Str × Int)) (H' : Hp), Go p H H' → H' t = some (.tup [.ref g, .ref st]) → GrAt H' g n e ns es → H' st = some (.dK (kvsOf ws)) →
    H g = none → H st = none → 1 ≤ ns.length → ns.length ≤ most.toNat → GrOk ns (es.map (·.2)) → ord.Perm ns → StOk ord ws → (∀ x ∈ es, numOf ws x.2.1 ≠ numOf ws x.2.2) → es.length ≤ 1000 → H t = none → Q (.ref t) H'
theorem PoolAt.offT {H : Hp} {p q : Addr} {xs : List V} (h : PoolAt H p) (hq : H q = some (.tup xs)) : q ≠ p := by
  rintro rfl
  obtain ⟨ys, h⟩ := h.isL
  rw [hq] at h
  cases h
theorem PoolAt.offD {H : Hp} {p q : Addr} {xs : List (Key × V)} (h : PoolAt H p) (hq : H q = some (.dK xs)) : q ≠ p := by
  rintro rfl
  obtain ⟨ys, h⟩ := h.isL
  rw [hq] at h
  cases h
/-- what stays while edges are found -/
structure GK (H : Hp) (p or st ed : Addr) (ord : List Str) (ws : List (Str × Int)) (es : List (Addr × Str × Str)) (H' : Hp) : Prop where
  go : Go p H H'
  ho : H' or = some (.lst (ord.map V.str))
  hs : H' st = some (.dK (kvsOf ws))
  he : H' ed = some (.lst (es.map fun x => V.ref x.1))
  pr : ∀ x ∈ es, H' x.1 = some (.tup [.str x.2.1, .str x.2.2])
theorem GK.new {H H' : Hp} {p or st ed t : Addr} {ord : List Str} {ws : List (Str × Int)} {es : List (Addr × Str × Str)} {o : HO} (h : GK H p or st ed ord ws es H') (n : H' t = none) : GK H p or st ed ord ws es (upd H' t o) :=
  ⟨h.go.new n, at_upd (ne_of_none h.ho n) h.ho, at_upd (ne_of_none h.hs n) h.hs, at_upd (ne_of_none h.he n) h.he, fun x hx => at_upd (ne_of_none (h.pr x hx) n) (h.pr x hx)⟩
theorem GK.step {H H' H2 : Hp} {p or st ed : Addr} {ord : List Str} {ws : List (Str × Int)} {es : List (Addr × Str × Str)} (h : GK H p or st ed ord ws es H') (no : or ≠ p) (ne : ed ≠ p) (g : Go p H' H2) : GK H p or st ed ord ws es H2 :=
  ⟨h.go.trans g, g.at h.ho no, g.at h.hs (h.go.pool.offD h.hs), g.at h.he ne, fun x hx => g.at (h.pr x hx) (h.go.pool.offT (h.pr x hx))⟩
theorem GK.add {H H' : Hp} {p or st ed t : Addr} {ord : List Str} {ws : List (Str × Int)} {es : List (Addr × Str × Str)} {e : Str × Str} (h : GK H p or st ed ord ws es H') (hf : H ed = none) (ne : ed ≠ p) (noe : or ≠ ed)
    (ht : H' t = some (.tup [.str e.1, .str e.2])) : GK H p or st ed ord ws (es ++ [(t, e)]) (upd H' ed (.lst ((es.map fun x => V.ref x.1) ++ [.ref t]))) := by
  have nt : ∀ {b : Addr} {xs : List V}, H' b = some (.tup xs) → b ≠ ed := fun {b xs} hb => ne_of hb h.he (by intro z; cases z)
  refine ⟨h.go.put hf (Ne.symm ne), at_upd noe h.ho, at_upd (ne_of h.hs h.he (by intro z; cases z)) h.hs, ?_, ?_⟩
  · rw [upd_same, List.map_append]
    rfl
  · intro x hx
    rcases List.mem_append.mp hx with hx | hx
    · exact at_upd (nt (h.pr x hx)) (h.pr x hx)
    · have : x = (t, e) := by simpa using hx
      subst this
      exact at_upd (nt ht) ht
section
variable {P : Program} {w : World} {K : PySem.W.Frag} {mg : Str → Option Value} {base : Heap}
structure C2 (P : Program) (w : World) (K : PySem.W.Frag) (mg : Str → Option Value) (base : Heap) : Prop where
  _law_draw : Cal P w K mg base CX0 1 "_law_draw" spDraw
  _law_draw_names : Cal P w K mg base CX0 2 "_law_draw_names" spNames
  _law_shuffle : Cal P w K mg base CX0 2 "_law_shuffle" (spShuf K)
  _law_edge_of : Cal P w K mg base CX0 1 "_law_edge_of" spEdgeOf
  _law_wants_edge : Cal P w K mg base CX0 2 "_law_wants_edge" spWants
theorem ok_draw_graph {f : Addr} {fd : FuncData} (F : Fun K "_law_draw_graph" "_law_draw_graph" s__law_draw_graph f fd) (B : Bt mg) (C : C2 P w K mg base) : FnG P w K mg base CX0 3 f fd ["_law_pool_here", "_law_most"] spGraph := by
  refine fnG0 F sc__law_draw_graph (fun vs H Q E h => ?_) (fun cdv A outer s H vs Q E hr h => ?_)
  · obtain ⟨p, most, rfl, _⟩ := h
    rfl
  · obtain ⟨p, most, rfl, hp, m0, m1, q⟩ := h
    have nd := sc__law_draw_graph.nd
    have hu := hr.u1
    refine ⟨_, (pss_cons (ps_set (i := 2) nd rfl (by first | exact Or.inl rfl | exact Or.inr rfl) (pe_c C._law_shuffle hr (by decide) rfl (pa_cons (pv 0) (pa_cons (pe_c C._law_draw_names hr (by decide) rfl (pa_cons (pv 0) (pa_cons (pe_op (kAdd K rfl) pe_int (pe_c C._law_draw hr (by decide) rfl (pa_cons (pv 0) (pa_cons (pv 1) pa_nil)))) pa_nil))) pa_nil))))
  (pss_cons (ps_set (i := 3) nd rfl (by first | exact Or.inl rfl | exact Or.inr rfl) (pe_c C._law_draw hr (by decide) rfl (pa_cons (pv 0) (pa_cons pe_int pa_nil))))
  (pss_cons (ps_set (i := 4) nd rfl (by first | exact Or.inl rfl | exact Or.inr rfl) pe_dnewK)
  (pss_cons (ps_set (i := 5) nd rfl (by first | exact Or.inl rfl | exact Or.inr rfl) pe_int)
  (pss_cons (ps_for PassesOwn.never rfl (ki_list K rfl (pv 2)) (pg_name (i := 6) nd rfl (by first | exact Or.inl rfl | exact Or.inr rfl)) (pss_cons (ps_set (i := 5) nd rfl (by first | exact Or.inl rfl | exact Or.inr rfl) (pe_op uMod (pe_op (kAdd K rfl) (pv 5) (pe_ix (kIx K rfl) (pe_lst (pa_cons (pe_c C._law_draw hr (by decide) rfl (pa_cons (pv 0) (pa_cons pe_int pa_nil))) (pa_cons (pe_op (kAdd K rfl) pe_int (pe_op uDiv (pe_c C._law_draw hr (by decide) rfl (pa_cons (pv 0) (pa_cons pe_int pa_nil))) pe_int)) pa_nil))) (pe_callTy cInt (by rfl) B.int bb_int (pa_cons (pe_cmpR uGt (pv 3) pe_int (nomark _)) pa_nil)) (fun _ _ => rfl))) pe_int))
  (pss_one (ps_dput hu (pv 4) (pv 6) (pv 5) rfl))))
  (pss_cons (ps_set (i := 7) nd rfl (by first | exact Or.inl rfl | exact Or.inr rfl) (pe_lst pa_nil))
  (pss_cons (ps_for PassesOwn.never rfl (pi_enum (by rfl) B.enumerate (pa_cons (pv 2) pa_nil)) (kg_tup (n := 2) K rfl rfl (pgs_cons (pg_name (i := 8) nd rfl (by first | exact Or.inl rfl | exact Or.inr rfl)) (pgs_cons (pg_name (i := 9) nd rfl (by first | exact Or.inl rfl | exact Or.inr rfl)) pgs_nil))) (pss_one (ps_for PassesOwn.never rfl (pi_enum (by rfl) B.enumerate (pa_cons (pe_slice (kSl K rfl) (pv 2) po_none (po_some (pv 8))) pa_nil)) (kg_tup (n := 2) K rfl rfl (pgs_cons (pg_name (i := 10) nd rfl (by first | exact Or.inl rfl | exact Or.inr rfl)) (pgs_cons (pg_name (i := 11) nd rfl (by first | exact Or.inl rfl | exact Or.inr rfl)) pgs_nil))) (pss_one (ps_if (PW.pt (pw_and (pt_cmpR (kNe K rfl hr.u64) (pe_dget hu (pv 4) (pv 9) (fun _ _ => rfl)) (pe_dget hu (pv 4) (pv 11) (fun _ _ => rfl)) (nomark _)) (pw_and1 (pt_val (pe_c C._law_wants_edge hr (by decide) rfl (pa_cons (pv 0) (pa_cons (pv 3) (pa_cons (pv 8) (pa_cons (pv 10) (pa_cons (pe_callB (kLen K rfl) (by rfl) B.len bb_len (pa_cons (pv 2) pa_nil)) pa_nil)))))))))) (pss_one (ps_expr (pe_bm PySem.F.plainAttrs_list PySem.F.slot_list_append PySem.F.type_list_append mt_append (pv 7) (pa_cons (pe_c C._law_edge_of hr (by decide) rfl (pa_cons (pv 9) (pa_cons (pv 11) pa_nil))) pa_nil)))) pss_nil)))))
  (pss_one (ps_ret (pe_tup (pa_cons (pe_tup (pa_cons (pe_callTy (kTuple K rfl) (by rfl) B.tuple bb_tuple (pa_cons (pe_callB (kSorted K rfl hr.u64) (by rfl) B.sorted bb_sorted (pa_cons (pv 2) pa_nil)) pa_nil)) (pa_cons (pe_callTy (kTuple K rfl) (by rfl) B.tuple bb_tuple (pa_cons (pe_callB (kSorted K rfl hr.u64) (by rfl) B.sorted bb_sorted (pa_cons (pv 7) pa_nil)) pa_nil)) pa_nil))) (pa_cons (pv 4) pa_nil)))))))))))), ?_⟩
    wtm_at "rd"
    refine use_draw hp (by omega) (by omega) fun r H1 r0 r1 g1 => ?_
    wtm_at "rd"
    refine ⟨p, 1 + r, rfl, by omega, by omega, g1.pool, fun l0 nm0 H2 g fl0 hl0 nm ln => ?_⟩
    have g2 := g1.trans g
    clear g
    wtm_at "rd"
    refine ⟨p, l0, nm0, rfl, g2.pool, hl0, (fun x hx => (nm.ok x hx).sok), by omega, fun or ord H3 g fo ho po => ?_⟩
    have no := g.pool.off ho
    have g3 := g2.trans g
    clear g
    have lno : ord.length = (1 + r).toNat := by rw [po.length_eq, ln]
    have nu : NamesU ord := nm.u.perm po
    wtm_at "rd"
    refine use_draw g3.pool (by decide) (by decide) fun kind H4 k0 k1 g => ?_
    have ho4 := g.at ho no
    have g4 := g3.trans g
    clear g
    wtm_at "rd"
    intro st fst
    have nos : or ≠ st := ne_of_none ho4 fst
    have ho5 := at_upd (o := .dK []) nos ho4
    have g5 := g4.new (o := .dK []) fst
    have nst := g4.pool.ne fst
    have fst0 := g4.free _ fst
    wtm_at "rd"
    refine rd_forL (SqL.of ho5) ?_
    refine turnsL (K := K) (xs := ord.map V.str) (fun i σ H' => ∃ (vl : Int) (ws : List (Str × Int)) (u : Option V), σ = [some (.ref p), some (.int most), some (.ref or), some (.int kind), some (.ref st), some (.int vl), u, none, none, none, none, none] ∧
      Go p H H' ∧ H' or = some (.lst (ord.map V.str)) ∧ H' st = some (.dK (kvsOf ws)) ∧ StOk (ord.take i) ws ∧ 0 ≤ vl ∧ vl < 3) ⟨0, [], none, rfl, g5, ho5, upd_same, StOk.nil, by decide, by decide⟩ ?_ ?_ ?_
    · rintro i σ H' hi ⟨vl, ws, u, rfl, g, h1, h2, h3⟩
      exact SqL.of h1
    · rintro i x σ H' hx ⟨vl, ws, u, rfl, g, h1, h2, h3, v0, v1⟩
      obtain ⟨hi, rfl⟩ := map_at hx
      wtm_at "rd"
      refine use_draw g.pool (by decide) (by decide) fun q1 Ha q10 q11 ga => ?_
      have h1a := ga.at h1 no
      have h2a := ga.at h2 (Ne.symm nst)
      have g := g.trans ga
      wtm_at "rd"
      refine use_draw g.pool (by decide) (by decide) fun q2 Hb q20 q21 gb => ?_
      have h1b := gb.at h1a no
      have h2b := gb.at h2a (Ne.symm nst)
      have g := g.trans gb
      wtm_at "rd"
      intro t ft
      have g := g.new (o := .lst [.int q1, .int (1 + q2 / 3)]) ft
      have h1c := at_upd (o := .lst [.int q1, .int (1 + q2 / 3)]) (ne_of_none h1b ft) h1b
      have h2c := at_upd (o := .lst [.int q1, .int (1 + q2 / 3)]) (ne_of_none h2b ft) h2b
      wtm_at "rd"
      refine rd_ixL (SqL.of upd_same) (bToI_pick _) ?_
      obtain ⟨z, hz⟩ : ∃ z, (if decide (1 < kind) = true then V.int (1 + q2 / 3) else V.int q1) = .int z := by split <;> exact ⟨_, rfl⟩
      rw [hz]
      wtm_at "rd"
      have lw : (kvsOf ws).length < 100000 := by
        have := congrArg List.length h3.key
        rw [List.length_map, List.length_take] at this
        rw [List.length_map]
        omega
      refine rd_dset h2c (k := .inr ord[i]) rfl lw ?_
      rw [put_kvs (h3.not nu.nd hi)]
      refine ⟨_, _, _, rfl, g.put fst0 nst, at_upd nos h1c, upd_same, h3.add hi (Int.emod_nonneg _ (by decide)) (Int.emod_lt_of_pos _ (by decide)), Int.emod_nonneg _ (by decide), Int.emod_lt_of_pos _ (by decide)⟩
    rintro σ H5 ⟨vl, ws, u, rfl, g, h1, h2, h3, v0, v1⟩
    rw [List.length_map, List.take_length] at h3
    clear g5 ho5 v0 v1
    wtm_at "rd"
    intro ed fed
    have noe : or ≠ ed := ne_of_none h1 fed
    have nse : st ≠ ed := ne_of_none h2 fed
    have npe := g.pool.ne fed
    have fed0 := g.free _ fed
    have g := g.new (o := .lst []) fed
    have h1 := at_upd (o := .lst []) noe h1
    have h2 := at_upd (o := .lst []) nse h2
    wtm_at "rd"
    refine rd_forE (SqL.of h1) ?_
    have gk : GK H p or st ed ord ws [] (upd H5 ed (.lst [])) := ⟨g, h1, h2, upd_same, fun x hx => nomatch hx⟩
    have nep : ed ≠ p := Ne.symm npe
    have EI0 : EdgesIn ord (numOf ws) 0 0 [] := ⟨by simp, fun x hx => nomatch hx⟩
    refine turnsW (walk_enum (K := K) (a := or) (xs := ord.map V.str)) (fun i σ H' => ∃ (es : List (Addr × Str × Str)) (u8 u9 u10 u11 : Option V), σ = [some (.ref p), some (.int most), some (.ref or), some (.int kind), some (.ref st), some (.int vl), u, some (.ref ed), u8, u9, u10, u11] ∧
      GK H p or st ed ord ws es H' ∧ EdgesIn ord (numOf ws) i 0 es ∧ es.length ≤ 30 * i) ⟨[], _, _, _, _, rfl, gk, EI0, by decide⟩ ?_ ?_ ?_
    · rintro i σ H' hi ⟨es, u8, u9, u10, u11, rfl, k, _⟩
      exact SqL.of k.ho
    · rintro i x σ H6 H7 hi ⟨es, u8, u9, u10, u11, rfl, k, ei, el⟩ ⟨T, x1, y1, rfl, fT, rfl, e1, e2⟩
      have hx := Option.some.inj e1
      subst hx
      obtain ⟨hio, rfl⟩ := map_at e2
      have k := k.new (o := .tup [.int (i : Nat), .str ord[i]]) fT
      refine rd_unp (SqT.of upd_same) rfl ?_
      wtm_at "rd"
      refine rd_slL (SqL.of k.ho) ?_
      rw [cutV_to (by rw [List.length_map]; omega), ← List.map_take]
      intro t2 ft2
      have n2e : t2 ≠ ed := Ne.symm (ne_of_none k.he ft2)
      have n2p : t2 ≠ p := Ne.symm (k.go.pool.ne ft2)
      have k := k.new (o := .lst ((ord.take i).map V.str)) ft2
      wtm_at "rd"
      refine rd_forE (SqL.of upd_same) ?_
      have lti : (ord.take i).length = i := by rw [List.length_take]; omega
      refine turnsW (walk_enum (K := K) (a := t2) (xs := (ord.take i).map V.str)) (fun j σ H' => ∃ (es : List (Addr × Str × Str)) (u10 u11 : Option V), σ = [some (.ref p), some (.int most), some (.ref or), some (.int kind), some (.ref st), some (.int vl), u, some (.ref ed), some (.int (i : Nat)), some (.str ord[i]), u10, u11] ∧
        GK H p or st ed ord ws es H' ∧ H' t2 = some (.lst ((ord.take i).map V.str)) ∧ EdgesIn ord (numOf ws) i j es ∧ es.length ≤ 30 * i + j) ⟨es, u10, u11, rfl, k, upd_same, ei, by omega⟩ ?_ ?_ ?_
      · rintro j σ H' hj ⟨es, u10, u11, rfl, k, h2, _⟩
        exact SqL.of h2
      · rintro j x σ H8 H9 hj ⟨es, u10, u11, rfl, k, ht2, ei, el⟩ ⟨T', x1, y1, rfl, fT', rfl, e1, e2⟩
        have hx := Option.some.inj e1
        subst hx
        obtain ⟨hjo, rfl⟩ := map_at e2
        have hji : j < i := by rw [lti] at hjo; exact hjo
        have hjo' : j < ord.length := by omega
        rw [List.getElem_take]
        have ht2 := at_upd (o := .tup [.int (j : Nat), .str ord[j]]) (ne_of_none ht2 fT') ht2
        have k := k.new (o := .tup [.int (j : Nat), .str ord[j]]) fT'
        refine rd_unp (SqT.of upd_same) rfl ?_
        wtm_at "rd"
        refine rd_dat (.inl k.hs) (h3.val (List.getElem_mem hio)) rfl ?_
        wtm_at "rd"
        refine rd_dat (.inl k.hs) (h3.val (List.getElem_mem hjo')) rfl ?_
        wtm_at "rd"
        refine rd_nsplit (fun c => ?_) (fun c => ?_)
        · wtm_at "rd"
          refine rd_lenL (SqL.of k.ho) ?_
          wtm_at "rd"
          refine ⟨p, kind, _, _, _, rfl, k.go.pool, k0, by omega, fun b H10 g => ?_⟩
          have k := k.step no nep g
          have ht2 := g.at ht2 n2p
          wtm_at "rd"
          refine rd_b (fun c2 => ?_) (fun c2 => ?_)
          · wtm_at "rd"
            refine rd_tyL k.he ?_
            wtm_at "rd"
            refine ⟨_, _, rfl, fun t ft => ?_⟩
            rw [eOf_pair]
            have k := k.new (o := .tup [.str (eOf ord[i] ord[j]).1, .str (eOf ord[i] ord[j]).2]) ft
            have ht2 := at_upd (o := .tup [.str (eOf ord[i] ord[j]).1, .str (eOf ord[i] ord[j]).2]) (ne_of_none ht2 ft) ht2
            wtm_at "rd"
            refine rd_append k.he (by rw [List.length_map]; omega) ?_
            refine ⟨_, _, _, rfl, k.add (e := eOf ord[i] ord[j]) fed0 nep noe upd_same, at_upd n2e ht2, ei.add nu.nd hji hio hjo' c, by rw [List.length_append]; simp only [List.length_singleton]; omega⟩
          · wtm_at "rd"
            exact ⟨_, _, _, rfl, k, ht2, ei.step (by omega), by omega⟩
        · wtm_at "rd"
          exact ⟨_, _, _, rfl, k, ht2, ei.step (by omega), by omega⟩
      · rintro σ H8 ⟨es, u10, u11, rfl, k, ht2, ei, el⟩
        rw [List.length_map, lti] at ei el
        exact ⟨_, _, _, _, _, rfl, k, ei.step (by omega), by omega⟩
    · rintro σ H6 ⟨es, u8, u9, u10, u11, rfl, k, ei, el⟩
      rw [List.length_map] at ei el
      wtm_at "rd"
      refine rd_sortS (SqL.of k.ho) (by omega) ?_
      intro ns pn sn l1 fl1
      have k := k.new (o := .lst (ns.map V.str)) fl1
      wtm_at "rd"
      refine rd_tupleL (SqL.of upd_same) ?_
      intro n fn
      have hn : upd (upd H6 l1 (.lst (ns.map V.str))) n (.tup (ns.map V.str)) n = some (.tup (ns.map V.str)) := upd_same
      have k := k.new (o := .tup (ns.map V.str)) fn
      wtm_at "rd"
      refine rd_sortE (SqL.of k.he) (fun x hx => SqT.of (k.pr x hx)) (by omega) ?_
      intro es2 pe se l2 fl2
      have hn := at_upd (o := .lst (es2.map fun x => V.ref x.1)) (ne_of_none hn fl2) hn
      have k := k.new (o := .lst (es2.map fun x => V.ref x.1)) fl2
      wtm_at "rd"
      refine rd_tupleL (SqL.of upd_same) ?_
      intro e fe
      have hn := at_upd (o := .tup (es2.map fun x => V.ref x.1)) (ne_of_none hn fe) hn
      have he := @upd_same (upd (upd (upd H6 l1 (.lst (ns.map V.str))) n (.tup (ns.map V.str))) l2 (.lst (es2.map fun x => V.ref x.1))) e (.tup (es2.map fun x => V.ref x.1))
      have k := k.new (o := .tup (es2.map fun x => V.ref x.1)) fe
      wtm_at "rd"
      intro g fg
      have fg0 := k.go.free _ fg
      have hn := at_upd (o := .tup [.ref n, .ref e]) (ne_of_none hn fg) hn
      have he := at_upd (o := .tup [.ref n, .ref e]) (ne_of_none he fg) he
      have hg := @upd_same (upd (upd (upd (upd H6 l1 (.lst (ns.map V.str))) n (.tup (ns.map V.str))) l2 (.lst (es2.map fun x => V.ref x.1))) e (.tup (es2.map fun x => V.ref x.1))) g (.tup [.ref n, .ref e])
      have k := k.new (o := .tup [.ref n, .ref e]) fg
      wtm_at "rd"
      intro t ft
      have hn := at_upd (o := .tup [.ref g, .ref st]) (ne_of_none hn ft) hn
      have he := at_upd (o := .tup [.ref g, .ref st]) (ne_of_none he ft) he
      have hg := at_upd (o := .tup [.ref g, .ref st]) (ne_of_none hg ft) hg
      have k0 := k
      have k := k.new (o := .tup [.ref g, .ref st]) ft
      have nn := nu.perm pn
      have pe2 : (es2.map (·.2)).Perm (es.map (·.2)) := pe.map _
      have inE : ∀ x ∈ es2, ∃ i' j', ∃ (hi : i' < ord.length) (hj : j' < ord.length), j' < i' ∧ x.2 = eOf ord[i'] ord[j'] ∧ numOf ws ord[i'] ≠ numOf ws ord[j'] := fun x hx => by
        obtain ⟨i', j', hi, hj, h1, _, h2, h3⟩ := ei.of x (pe.mem_iff.mp hx)
        exact ⟨i', j', hi, hj, h1, h2, h3⟩
      refine q t g n e st ns ord es2 ws _ k.go upd_same ⟨hg, hn, he, fun x hx => k.pr x (pe.mem_iff.mp hx)⟩ k.hs fg0 fst0 (by rw [pn.length_eq]; omega) (by rw [pn.length_eq]; omega) ⟨⟨asc_of_sorted sn nn.nd, nn.ok⟩, ?_, ?_, ?_⟩ pn.symm h3 ?_ (by rw [pe.length_eq]; omega) (k0.go.free _ ft)
      · refine ascE_of_sorted ?_ (pe2.nodup_iff.mpr ei.nd)
        rw [List.pairwise_map]
        exact se
      · intro y hy
        obtain ⟨x, hx, rfl⟩ := List.mem_map.mp hy
        obtain ⟨i', j', hi, hj, h1, h2, h3⟩ := inE x hx
        rw [h2]
        refine eOf_lt fun z => h3 (by rw [z])
      · intro y hy
        obtain ⟨x, hx, rfl⟩ := List.mem_map.mp hy
        obtain ⟨i', j', hi, hj, h1, h2, h3⟩ := inE x hx
        rw [h2]
        have m1 := pn.mem_iff.mpr (List.getElem_mem hi)
        have m2 := pn.mem_iff.mpr (List.getElem_mem hj)
        rcases eOf_cases ord[i'] ord[j'] with z | z <;> rw [z]
        · exact ⟨m1, m2⟩
        · exact ⟨m2, m1⟩
      · intro x hx
        obtain ⟨i', j', hi, hj, h1, h2, h3⟩ := inE x hx
        rw [h2]
        rcases eOf_cases ord[i'] ord[j'] with z | z <;> rw [z]
        · exact h3
        · exact Ne.symm h3
end
end Law

namespace Law
open PySem PySem.Spec PyProof.Rows L2 U
/-- a graph and a state of it stand -/
structure GSt (H : Hp) (g n e st : Addr) (ns ord : List Str) (es : List (Addr × Str × Str)) (f : Str → Int) : Prop where
  gr : GrAt H g n e ns es
  ok : GrOk ns (es.map (·.2))
  pm : ord.Perm ns
  l2 : ns.length ≤ 100
  l3 : es.length ≤ 1000
  st : H st = some (.dK (kvF ord f))
  tri : ∀ x ∈ ns, 0 ≤ f x ∧ f x < 3
  pro : ∀ x ∈ es, f x.2.1 ≠ f x.2.2
section
variable {H H' : Hp} {g n e st p : Addr} {ns ord : List Str} {es : List (Addr × Str × Str)} {f : Str → Int}
theorem GSt.same (h : GSt H g n e st ns ord es f) (s : Same H H') : GSt H' g n e st ns ord es f := ⟨h.gr.same s, h.ok, h.pm, h.l2, h.l3, s _ _ h.st, h.tri, h.pro⟩
theorem GSt.go (h : GSt H g n e st ns ord es f) (hp : PoolAt H p) (b : Go p H H') : GSt H' g n e st ns ord es f := by
  obtain ⟨ys, hy⟩ := hp.isL
  exact ⟨h.gr.but hy b.but, h.ok, h.pm, h.l2, h.l3, b.but.dK hy h.st, h.tri, h.pro⟩
theorem GSt.nd (h : GSt H g n e st ns ord es f) : ns.Nodup := asc_nodup h.ok.names.asc
theorem GSt.ndo (h : GSt H g n e st ns ord es f) : ord.Nodup := h.pm.nodup_iff.mpr h.nd
theorem GSt.inO (h : GSt H g n e st ns ord es f) : ∀ x ∈ ns, x ∈ ord := fun x hx => h.pm.mem_iff.mpr hx
theorem GSt.inE (h : GSt H g n e st ns ord es f) : ∀ x ∈ es, x.2.1 ∈ ns ∧ x.2.2 ∈ ns := fun x hx => h.ok.mem _ (List.mem_map_of_mem hx)
theorem GSt.sok (h : GSt H g n e st ns ord es f) : ∀ x ∈ ns, PyData.strOk x = true := fun x hx => (h.ok.names.ok x hx).sok
theorem GSt.eok (h : GSt H g n e st ns ord es f) : EsOk ns (es.map (·.2)) f := by
  refine ⟨fun x hx z => ?_, h.ok.mem, h.tri, fun x hx => ?_⟩
  · have := h.ok.lt x hx
    rw [z] at this
    exact sLt_irrefl _ this
  · obtain ⟨y, hy, rfl⟩ := List.mem_map.mp hx
    exact h.pro y hy
end
theorem use_graph {H : Hp} {p : Addr} {most : Int} {Q : VK} {E : XK} (h : PoolAt H p) (m0 : 1 ≤ most) (m1 : most ≤ 25)
    (k : ∀ (t g n e st : Addr) (ns ord : List Str) (es : List (Addr × Str × Str)) (f : Str → Int) (H' : Hp), Go p H H' → H' t = some (.tup [.ref g, .ref st]) → GSt H' g n e st ns ord es f → 1 ≤ ns.length → H t = none → H g = none → H st = none → Q (.ref t) H') : spGraph [.ref p, .int most] H Q E := by
  refine ⟨p, most, rfl, h, m0, m1, fun t g n e st ns ord es ws H' go ht hg hs ng nst l1 l2 ok pm so pro el nt => ?_⟩
  have ndo : ord.Nodup := pm.nodup_iff.mpr (asc_nodup ok.names.asc)
  refine k t g n e st ns ord es (numOf ws) H' go ht ⟨hg, ok, pm, by omega, el, ?_, fun x hx => so.at (pm.mem_iff.mpr hx), pro⟩ l1 nt ng nst
  rw [← kvs_F so ndo]
  exact hs
end Law

namespace Law
open PySem PySem.Spec PyProof.Rows L2 U
local macro_rules | `(tactic| wtm_at "rd1") => `(tactic| first
  | with_reducible refine rd_seq ?_
  | ((with_reducible refine rd_var (v := ?vv) ?hv ?_); (case hv => exact rfl))
  | with_reducible refine rd_c ?_
  | with_reducible refine rd_cons ?_
  | with_reducible refine rd_nil ?_
  | with_reducible refine rd_op ?_
  | with_reducible refine rd_asg ?_
  | with_reducible refine rd_name ?_
  | with_reducible refine rd_c1 ?_
  | with_reducible refine rd_cb ?_
  | with_reducible refine rd_test ?_
  | with_reducible refine rd_B ?_
  | with_reducible refine rd_bl ?_
  | with_reducible refine rd_if ?_
  | with_reducible refine rd_ret ?_
  | with_reducible refine rd_drop ?_
  | with_reducible refine rd_next ?_
  | with_reducible refine rd_addI ?_
  | with_reducible refine rd_ltI ?_
  | with_reducible refine rd_eqI ?_
  | with_reducible refine rd_neI ?_
  | with_reducible refine rd_eqS ?_
  | with_reducible refine rd_neS ?_
  | with_reducible refine rd_gtI ?_
  | with_reducible refine rd_geI ?_
  | with_reducible refine rd_leI ?_
  | with_reducible refine rd_ltS ?_
  | with_reducible refine rd_subI ?_
  | ((with_reducible refine rd_modI ?hc ?_); (case hc => first | decide | omega))
  | ((with_reducible refine rd_mulI ?hc ?_); (case hc => first | exact mul_bI | exact .inl (.inr (by decide)) | exact .inl (.inl (by decide)) | exact .inl (.inr (by omega)) | exact .inl (.inl (by omega))))
  | ((with_reducible refine rd_divI ?hc ?_); (case hc => first | decide | omega))
  | ((with_reducible refine rd_powI ?hc ?_); (case hc => exact ⟨by decide, by decide, by decide⟩))
  | with_reducible refine rd_lst ?_
  | with_reducible refine rd_tup ?_
  | ((with_reducible refine rd_sz ?hv ?_); (case hv => exact rfl))
  | with_reducible refine rd_and ?_
  | with_reducible refine rd_or ?_
  | with_reducible refine rd_not ?_
  | with_reducible refine rd_andV ?_
  | with_reducible refine rd_orV ?_
  | with_reducible refine rd_notV ?_
  | with_reducible refine rd_ifE ?_
  | with_reducible refine rd_T ?_
  | with_reducible refine rd_F ?_
  | with_reducible refine rd_chain ?_
  | with_reducible refine rd_is ?_
  | with_reducible refine rd_isNot ?_
  | with_reducible refine rd_absI ?_
  | with_reducible refine rd_maxI ?_
  | with_reducible refine rd_minI ?_
  | with_reducible refine rd_intI ?_
  | with_reducible refine rd_intB ?_
  | with_reducible refine rd_sub ?_
  | with_reducible refine rd_sl ?_
  | with_reducible refine rd_noPart ?_
  | with_reducible refine rd_part ?_
  | with_reducible refine rd_exI ?_
  | with_reducible refine rd_bm ?_
  | with_reducible refine rd_bm0 ?_
  | with_reducible refine rd_un ?_
  | with_reducible refine rd_neg ?_
  | with_reducible refine rd_c2 ?_
  | with_reducible refine rd_retN ?_
  | with_reducible refine rd_break ?_
  | with_reducible refine rd_cont ?_
  | with_reducible refine rd_for ?_
  | with_reducible refine rd_rng1 ?_
  | with_reducible refine rd_rng2 ?_
  | with_reducible refine rd_iList ?_
  | with_reducible refine rd_iTup ?_
  | with_reducible refine rd_iEnum ?_
  | ((with_reducible refine rd_forR ?h0 ?h1 ?_); (case h0 => omega); (case h1 => omega))
  | with_reducible refine rd_lc ?_
  | with_reducible refine rd_gcons ?_
  | with_reducible refine rd_gnil ?_
  | with_reducible refine rd_dget ?_
  | with_reducible refine rd_dput ?_
  | with_reducible refine rd_dnew ?_
  | with_reducible refine rd_dc ?_
  | with_reducible refine rd_iItems ?_
  | with_reducible refine rd_iKeys ?_
  | with_reducible refine rd_din ?_
  | with_reducible refine rd_par ?_
  | with_reducible refine rd_two ?_
  | with_reducible refine rd_reprB ?_
  | with_reducible refine rd_ck ?_
  | ((with_reducible refine rd_len ?hl ?_); (case hl => exact rfl))
  | with_reducible refine rd_nT ?_
  | with_reducible refine rd_nF ?_
  | with_reducible refine rd_dnin ?_
  | with_reducible refine rd_isB ?_
  | with_reducible refine rd_isNotB ?_
  | with_reducible refine rd_daug ?_
  | with_reducible refine rd_yesT ?_
  | ((with_reducible refine rd_wp ?hw ?_); (case hw => exact rfl)))
local macro_rules | `(tactic| wtm_at "rd") => `(tactic| repeat wtm_at "rd1")

/-- the ends of the node's edges, sorted -/
def spNbr : Sp := fun vs H Q _ => ∃ (g n e : Addr) (x : Str) (ns : List Str) (es : List (Addr × Str × Str)), vs = [.ref g, .str x] ∧ GrAt H g n e ns es ∧ es.length ≤ 10000 ∧
  ∀ (l : Addr) (ys : List Str) (H' : Hp), Same H H' → H l = none → H' l = some (.lst (ys.map V.str)) → ys.Perm (nbrF (es.map (·.2)) x) → ys.Pairwise (fun a b => ¬ sLt b a) → Q (.ref l) H'
section
variable {P : Program} {w : World} {K : PySem.W.Frag} {mg : Str → Option Value} {base : Heap}
theorem nbrF_take {es : List (Str × Str)} {x : Str} {i : Nat} (h : i < es.length) : nbrF (es.take (i + 1)) x = nbrF (es.take i) x ++ ((if es[i].1 = x then [es[i].2] else []) ++ (if es[i].2 = x then [es[i].1] else [])) := by
  unfold nbrF
  rw [List.take_succ, List.getElem?_eq_getElem h, List.flatMap_append]
  simp
theorem nbrF_len {x : Str} : ∀ {es : List (Str × Str)}, (nbrF es x).length ≤ 2 * es.length
  | [] => by simp [nbrF]
  | e :: es => by
    have := nbrF_len (x := x) (es := es)
    unfold nbrF at *
    rw [List.flatMap_cons, List.length_append, List.length_append, List.length_cons]
    split <;> split <;> simp only [List.length_cons, List.length_nil] <;> omega
theorem ok_nbr {f : Addr} {fd : FuncData} (F : Fun K "_law_neighbors_of" "_law_neighbors_of" s__law_neighbors_of f fd) (B : Bt mg) : FnG P w K mg base CX0 1 f fd ["_law_graph", "_law_node"] spNbr := by
  refine fnG0 F sc__law_neighbors_of (fun vs H Q E h => ?_) (fun cdv A outer s H vs Q E hr h => ?_)
  · obtain ⟨g, n, e, x, ns, es, rfl, _⟩ := h
    rfl
  · obtain ⟨g, n, e, x, ns, es, rfl, hg, hl, q⟩ := h
    have nd := sc__law_neighbors_of.nd
    refine ⟨_, (pss_cons (ps_set (i := 2) nd rfl (by first | exact Or.inl rfl | exact Or.inr rfl) (pe_lst pa_nil))
  (pss_cons (ps_for PassesOwn.never rfl (ki_tup K rfl (pe_ix (kIx K rfl) (pv 0) pe_int (fun _ _ => rfl))) (kg_tup (n := 2) K rfl rfl (pgs_cons (pg_name (i := 3) nd rfl (by first | exact Or.inl rfl | exact Or.inr rfl)) (pgs_cons (pg_name (i := 4) nd rfl (by first | exact Or.inl rfl | exact Or.inr rfl)) pgs_nil))) (pss_cons (ps_if (pt_cmpR (kEq K rfl hr.u64) (pv 3) (pv 1) (nomark _)) (pss_one (ps_expr (pe_bm PySem.F.plainAttrs_list PySem.F.slot_list_append PySem.F.type_list_append mt_append (pv 2) (pa_cons (pv 4) pa_nil)))) pss_nil)
  (pss_one (ps_if (pt_cmpR (kEq K rfl hr.u64) (pv 4) (pv 1) (nomark _)) (pss_one (ps_expr (pe_bm PySem.F.plainAttrs_list PySem.F.slot_list_append PySem.F.type_list_append mt_append (pv 2) (pa_cons (pv 3) pa_nil)))) pss_nil))))
  (pss_one (ps_ret (pe_callB (kSorted K rfl hr.u64) (by rfl) B.sorted bb_sorted (pa_cons (pv 2) pa_nil)))))), ?_⟩
    wtm_at "rd"
    intro l fl
    have s1 : Same H (upd H l (.lst [])) := Same.new fl
    have hg1 := hg.same s1
    wtm_at "rd"
    refine rd_ixT (SqT.of hg1.top) (v := .ref e) rfl ?_
    refine rd_forT (SqT.of hg1.edges) ?_
    refine turnsT (K := K) (xs := es.map fun x => V.ref x.1) (fun i σ H' => ∃ u1 u2 : Option V, σ = [some (.ref g), some (.str x), some (.ref l), u1, u2] ∧ Same H H' ∧ H' l = some (.lst ((nbrF ((es.map (·.2)).take i) x).map V.str))) ⟨_, _, rfl, s1, upd_same⟩ ?_ ?_ ?_
    · rintro i σ H' hi ⟨u1, u2, rfl, s, h⟩
      exact SqT.of (hg.same s).edges
    · rintro i y σ H' hy ⟨u1, u2, rfl, s, h⟩
      obtain ⟨hi, rfl⟩ := map_at hy
      have hi2 : i < (es.map (·.2)).length := by rw [List.length_map]; exact hi
      have st := nbrF_take (x := x) hi2
      rw [List.getElem_map] at st
      have len : (nbrF ((es.map (·.2)).take i) x).length ≤ 2 * i := by
        have := nbrF_len (x := x) (es := (es.map (·.2)).take i)
        rw [List.length_take] at this
        omega
      refine rd_unp (SqT.of ((hg.same s).pairs es[i] (List.getElem_mem hi))) rfl ?_
      wtm_at "rd"
      refine rd_split (fun c => ?_) (fun c => ?_)
      · rw [if_pos c] at st
        wtm_at "rd"
        refine rd_tyL h ?_
        wtm_at "rd"
        refine rd_append h (by rw [List.length_map]; omega) ?_
        wtm_at "rd"
        refine rd_split (fun c2 => ?_) (fun c2 => ?_)
        · rw [if_pos c2] at st
          wtm_at "rd"
          refine rd_tyL upd_same ?_
          wtm_at "rd"
          refine rd_append upd_same (by rw [List.length_append, List.length_map]; simp only [List.length_singleton]; omega) ?_
          refine ⟨_, _, rfl, same_put (same_put s fl) fl, ?_⟩
          rw [upd_same, st]
          simp [List.map_append]
        · rw [if_neg c2] at st
          wtm_at "rd"
          refine ⟨_, _, rfl, same_put s fl, ?_⟩
          rw [upd_same, st]
          simp [List.map_append]
      · rw [if_neg c] at st
        wtm_at "rd"
        refine rd_split (fun c2 => ?_) (fun c2 => ?_)
        · rw [if_pos c2] at st
          wtm_at "rd"
          refine rd_tyL h ?_
          wtm_at "rd"
          refine rd_append h (by rw [List.length_map]; omega) ?_
          refine ⟨_, _, rfl, same_put s fl, ?_⟩
          rw [upd_same, st]
          simp [List.map_append]
        · rw [if_neg c2] at st
          wtm_at "rd"
          refine ⟨_, _, rfl, s, ?_⟩
          rw [h, st]
          simp
    · rintro σ H' ⟨u1, u2, rfl, s, h⟩
      rw [List.length_map, List.take_of_length_le (by rw [List.length_map]; exact Nat.le_refl _)] at h
      wtm_at "rd"
      refine rd_sortS (SqL.of h) ?_ ?_
      · have := nbrF_len (x := x) (es := es.map (·.2))
        rw [List.length_map] at this
        omega
      · intro ys py sy l2 fl2
        exact q l2 ys _ (same_add s fl2) (new_of_same s fl2) upd_same py sy
end
end Law

namespace Law
open PySem PySem.Spec PyProof.Rows L2 U
local macro_rules | `(tactic| wtm_at "rd1") => `(tactic| first
  | with_reducible refine rd_seq ?_
  | ((with_reducible refine rd_var (v := ?vv) ?hv ?_); (case hv => exact rfl))
  | with_reducible refine rd_c ?_
  | with_reducible refine rd_cons ?_
  | with_reducible refine rd_nil ?_
  | with_reducible refine rd_op ?_
  | with_reducible refine rd_asg ?_
  | with_reducible refine rd_name ?_
  | with_reducible refine rd_c1 ?_
  | with_reducible refine rd_cb ?_
  | with_reducible refine rd_test ?_
  | with_reducible refine rd_B ?_
  | with_reducible refine rd_bl ?_
  | with_reducible refine rd_if ?_
  | with_reducible refine rd_ret ?_
  | with_reducible refine rd_drop ?_
  | with_reducible refine rd_next ?_
  | with_reducible refine rd_addI ?_
  | with_reducible refine rd_ltI ?_
  | with_reducible refine rd_eqI ?_
  | with_reducible refine rd_neI ?_
  | with_reducible refine rd_eqS ?_
  | with_reducible refine rd_neS ?_
  | with_reducible refine rd_gtI ?_
  | with_reducible refine rd_geI ?_
  | with_reducible refine rd_leI ?_
  | with_reducible refine rd_ltS ?_
  | with_reducible refine rd_subI ?_
  | ((with_reducible refine rd_modI ?hc ?_); (case hc => first | decide | omega))
  | ((with_reducible refine rd_mulI ?hc ?_); (case hc => first | exact mul_bI | exact .inl (.inr (by decide)) | exact .inl (.inl (by decide)) | exact .inl (.inr (by omega)) | exact .inl (.inl (by omega))))
  | ((with_reducible refine rd_divI ?hc ?_); (case hc => first | decide | omega))
  | ((with_reducible refine rd_powI ?hc ?_); (case hc => exact ⟨by decide, by decide, by decide⟩))
  | with_reducible refine rd_lst ?_
  | with_reducible refine rd_tup ?_
  | ((with_reducible refine rd_sz ?hv ?_); (case hv => exact rfl))
  | with_reducible refine rd_and ?_
  | with_reducible refine rd_or ?_
  | with_reducible refine rd_not ?_
  | with_reducible refine rd_andV ?_
  | with_reducible refine rd_orV ?_
  | with_reducible refine rd_notV ?_
  | with_reducible refine rd_ifE ?_
  | with_reducible refine rd_T ?_
  | with_reducible refine rd_F ?_
  | with_reducible refine rd_chain ?_
  | with_reducible refine rd_is ?_
  | with_reducible refine rd_isNot ?_
  | with_reducible refine rd_absI ?_
  | with_reducible refine rd_maxI ?_
  | with_reducible refine rd_minI ?_
  | with_reducible refine rd_intI ?_
  | with_reducible refine rd_intB ?_
  | with_reducible refine rd_sub ?_
  | with_reducible refine rd_sl ?_
  | with_reducible refine rd_noPart ?_
  | with_reducible refine rd_part ?_
  | with_reducible refine rd_exI ?_
  | with_reducible refine rd_bm ?_
  | with_reducible refine rd_bm0 ?_
  | with_reducible refine rd_un ?_
  | with_reducible refine rd_neg ?_
  | with_reducible refine rd_c2 ?_
  | with_reducible refine rd_retN ?_
  | with_reducible refine rd_break ?_
  | with_reducible refine rd_cont ?_
  | with_reducible refine rd_for ?_
  | with_reducible refine rd_rng1 ?_
  | with_reducible refine rd_rng2 ?_
  | with_reducible refine rd_iList ?_
  | with_reducible refine rd_iTup ?_
  | with_reducible refine rd_iEnum ?_
  | ((with_reducible refine rd_forR ?h0 ?h1 ?_); (case h0 => omega); (case h1 => omega))
  | with_reducible refine rd_lc ?_
  | with_reducible refine rd_gcons ?_
  | with_reducible refine rd_gnil ?_
  | with_reducible refine rd_dget ?_
  | with_reducible refine rd_dput ?_
  | with_reducible refine rd_dnew ?_
  | with_reducible refine rd_dc ?_
  | with_reducible refine rd_iItems ?_
  | with_reducible refine rd_iKeys ?_
  | with_reducible refine rd_din ?_
  | with_reducible refine rd_par ?_
  | with_reducible refine rd_two ?_
  | with_reducible refine rd_reprB ?_
  | with_reducible refine rd_ck ?_
  | ((with_reducible refine rd_len ?hl ?_); (case hl => exact rfl))
  | with_reducible refine rd_nT ?_
  | with_reducible refine rd_nF ?_
  | with_reducible refine rd_dnin ?_
  | with_reducible refine rd_isB ?_
  | with_reducible refine rd_isNotB ?_
  | with_reducible refine rd_daug ?_
  | with_reducible refine rd_yesT ?_
  | ((with_reducible refine rd_wp ?hw ?_); (case hw => exact rfl)))
local macro_rules | `(tactic| wtm_at "rd") => `(tactic| repeat wtm_at "rd1")

/-- the moves' pairs stand -/
def TupsAt (H : Hp) (ms : List (Addr × Str × Int)) : Prop := ∀ m ∈ ms, H m.1 = some (.tup [.str m.2.1, .int m.2.2])
theorem TupsAt.nil {H : Hp} : TupsAt H [] := fun m hm => nomatch hm
theorem TupsAt.same {H H' : Hp} {ms : List (Addr × Str × Int)} (h : TupsAt H ms) (s : Same H H') : TupsAt H' ms := fun m hm => s _ _ (h m hm)
theorem TupsAt.app {H : Hp} {ms ms2 : List (Addr × Str × Int)} (h : TupsAt H ms) (h2 : TupsAt H ms2) : TupsAt H (ms ++ ms2) := fun m hm => (List.mem_append.mp hm).elim (h m) (h2 m)
theorem TupsAt.put {H : Hp} {ms : List (Addr × Str × Int)} {a : Addr} {xs ys : List V} (h : TupsAt H ms) (ha : H a = some (.lst xs)) : TupsAt (upd H a (.lst ys)) ms := fun m hm => at_upd (ne_of (h m hm) ha (by intro z; cases z)) (h m hm)
theorem TupsAt.new {H : Hp} {ms : List (Addr × Str × Int)} {a : Addr} {o : HO} (h : TupsAt H ms) (ha : H a = none) : TupsAt (upd H a o) ms := fun m hm => at_upd (ne_of_none (h m hm) ha) (h m hm)
def spMoves (K : PySem.W.Frag) : Sp := fun vs H Q _ => ∃ (g n e st ps : Addr) (ns ord pn : List Str) (es : List (Addr × Str × Str)) (f : Str → Int), vs = [.ref g, .ref st, .ref ps] ∧ GrAt H g n e ns es ∧ es.length ≤ 10000 ∧ ns.length ≤ 1000 ∧
  H st = some (.dK (kvF ord f)) ∧ (∀ x ∈ ns, x ∈ ord) ∧ (∀ x ∈ es, x.2.1 ∈ ns ∧ x.2.2 ∈ ns) ∧ SqT K H ps (pn.map V.str) ∧
  ∀ (l : Addr) (ms : List (Addr × Str × Int)) (H' : Hp), Same H H' → H l = none → H' l = some (.lst (ms.map fun m => V.ref m.1)) → TupsAt H' ms → ms.map (·.2) = movesF ns (es.map (·.2)) f pn → Q (.ref l) H'
theorem movesOf_len {es : List (Str × Str)} {f : Str → Int} {n : Str} : (movesOf es f n).length ≤ 3 := by
  unfold movesOf
  rw [List.length_map]
  exact List.length_filter_le _ _
theorem movesF_len {es : List (Str × Str)} {f : Str → Int} {ps : List Str} : ∀ {ns : List Str}, (movesF ns es f ps).length ≤ 3 * ns.length
  | [] => by simp [movesF]
  | n :: ns => by
    have := movesF_len (es := es) (f := f) (ps := ps) (ns := ns)
    have := movesOf_len (es := es) (f := f) (n := n)
    unfold movesF at *
    rw [List.flatMap_cons, List.length_append, List.length_cons]
    split
    · simp only [List.length_nil]
      omega
    · omega
theorem movesF_take {ns : List Str} {es : List (Str × Str)} {f : Str → Int} {ps : List Str} {i : Nat} (h : i < ns.length) : movesF (ns.take (i + 1)) es f ps = movesF (ns.take i) es f ps ++ (if ns[i] ∈ ps then [] else movesOf es f ns[i]) := by
  unfold movesF
  rw [List.take_succ, List.getElem?_eq_getElem h, List.flatMap_append]
  simp
section
variable {P : Program} {w : World} {K : PySem.W.Frag} {mg : Str → Option Value} {base : Heap}
structure C3 (P : Program) (w : World) (K : PySem.W.Frag) (mg : Str → Option Value) (base : Heap) : Prop where
  _law_neighbors_of : Cal P w K mg base CX0 1 "_law_neighbors_of" spNbr
theorem ok_moves {f : Addr} {fd : FuncData} (F : Fun K "_law_moves_of" "_law_moves_of" s__law_moves_of f fd) (B : Bt mg) (C : C3 P w K mg base) : FnG P w K mg base CX0 2 f fd ["_law_graph", "_law_state", "_law_pins"] (spMoves K) := by
  refine fnG0 F sc__law_moves_of (fun vs H Q E h => ?_) (fun cdv A outer s H vs Q E hr h => ?_)
  · obtain ⟨g, n, e, st, ps, ns, ord, pn, es, f, rfl, _⟩ := h
    rfl
  · obtain ⟨g, n, e, st, ps, ns, ord, pn, es, f, rfl, hg, hel, hnl, hst, hin, hes, hps, q⟩ := h
    have nd := sc__law_moves_of.nd
    have hu := hr.u1
    refine ⟨_, (pss_cons (ps_set (i := 3) nd rfl (by first | exact Or.inl rfl | exact Or.inr rfl) (pe_lst pa_nil))
  (pss_cons (ps_for PassesOwn.never rfl (ki_tup K rfl (pe_ix (kIx K rfl) (pv 0) pe_int (fun _ _ => rfl))) (pg_name (i := 4) nd rfl (by first | exact Or.inl rfl | exact Or.inr rfl)) (pss_cons (ps_set (i := 5) nd rfl (by first | exact Or.inl rfl | exact Or.inr rfl) (pe_op (kAdd K rfl) (pe_lc (own := [("_law_other", 6)]) rfl nd (ki_list K rfl (pe_c C._law_neighbors_of hr (by decide) rfl (pa_cons (pv 0) (pa_cons (pv 4) pa_nil)))) (blkOk_by (own := [("_law_other", 6)]) (N := nN__law_moves_of) (sc := defScope s__law_moves_of) (by decide +kernel)) (fun _ _ _ _ _ => (pg_name (i := 6) nd rfl (by first | exact Or.inl rfl | exact Or.inr rfl))) (fun _ _ _ _ _ => pts_nil) (fun _ _ _ _ _ => (pe_dget hu (pv 1) (pv 6) (fun _ _ => rfl)))) (pe_lst (pa_cons (pe_dget hu (pv 1) (pv 4) (fun _ _ => rfl)) pa_nil))))
  (pss_one (ps_if (pt_cmpR (kNotIn K rfl) (pv 4) (pv 2) rfl) (pss_one (ps_set (i := 3) nd rfl (by first | exact Or.inl rfl | exact Or.inr rfl) (pe_op (kAdd K rfl) (pv 3) (pe_lc (own := [("_law_value", 7)]) rfl nd (pi_range1 rfl B.range (pa_cons pe_int pa_nil)) (blkOk_by (own := [("_law_value", 7)]) (N := nN__law_moves_of) (sc := defScope s__law_moves_of) (by decide +kernel)) (fun _ _ _ _ _ => (pg_name (i := 7) nd rfl (by first | exact Or.inl rfl | exact Or.inr rfl))) (fun _ _ _ _ _ => (pts_one (pt_cmpR (kNotIn K rfl) (pv 7) (pv 5) rfl))) (fun _ _ _ _ _ => (pe_tup (pa_cons (pv 4) (pa_cons (pv 7) pa_nil)))))))) pss_nil))))
  (pss_one (ps_ret (pv 3))))), ?_⟩
    wtm_at "rd"
    intro l fl
    have s1 : Same H (upd H l (.lst [])) := Same.new fl
    wtm_at "rd"
    refine rd_ixT (SqT.of (hg.same s1).top) (v := .ref n) rfl ?_
    refine rd_forT (SqT.of (hg.same s1).nodes) ?_
    refine turnsT (K := K) (xs := ns.map V.str) (fun i σ H' => ∃ (l : Addr) (ms : List (Addr × Str × Int)) (u4 u5 u6 u7 : Option V), σ = [some (.ref g), some (.ref st), some (.ref ps), some (.ref l), u4, u5, u6, u7] ∧ Same H H' ∧ H l = none ∧
      H' l = some (.lst (ms.map fun m => V.ref m.1)) ∧ TupsAt H' ms ∧ ms.map (·.2) = movesF (ns.take i) (es.map (·.2)) f pn) ⟨l, [], _, _, _, _, rfl, s1, fl, upd_same, TupsAt.nil, by simp [movesF]⟩ ?_ ?_ ?_
    · rintro i σ H' hi ⟨l, ms, u4, u5, u6, u7, rfl, s, _⟩
      exact SqT.of (hg.same s).nodes
    · rintro i y σ H0 hy ⟨l, ms, u4, u5, u6, u7, rfl, s, fl, hl, tm, em⟩
      obtain ⟨hi, rfl⟩ := map_at hy
      have hni := List.getElem_mem hi
      have mlen : ms.length ≤ 3000 := by
        have h1 := congrArg List.length em
        have h2 := movesF_len (es := es.map (·.2)) (f := f) (ps := pn) (ns := ns.take i)
        rw [List.length_map] at h1
        rw [List.length_take] at h2
        omega
      wtm_at "rd"
      refine ⟨g, n, e, ns[i], ns, es, rfl, hg.same s, hel, fun l1 ys H1 sa fl1 hl1 py _ => ?_⟩
      have s1 := s.trans sa
      have lys : ys.length ≤ 20000 := by
        have h1 := nbrF_len (x := ns[i]) (es := es.map (·.2))
        rw [List.length_map] at h1
        rw [py.length_eq]
        omega
      have ysin : ∀ y ∈ ys, y ∈ ord := fun y hy => by
        rcases mem_nbrF.mp (py.mem_iff.mp hy) with h | h
        · obtain ⟨x, hx, e⟩ := List.mem_map.mp h
          have := (hes x hx).2
          rw [e] at this
          exact hin _ this
        · obtain ⟨x, hx, e⟩ := List.mem_map.mp h
          have := (hes x hx).1
          rw [e] at this
          exact hin _ this
      refine rd_forL (SqL.of hl1) ?_
      intro D fD
      refine lcL (K := K) (xs := ys.map V.str) (fun j H' => Same H1 H' ∧ H' D = some (.lst (((ys.take j).map f).map V.int))) ⟨Same.new fD, upd_same⟩ ?_ ?_ ?_
      · rintro j H' hj ⟨sb, _⟩
        exact SqL.of (sb _ _ hl1)
      · rintro j y H' hy ⟨sb, hD⟩
        obtain ⟨hj, rfl⟩ := map_at hy
        wtm_at "rd"
        refine rd_dat (.inl (sb _ _ (s1 _ _ hst))) (kvF_val (ysin _ (List.getElem_mem hj))) rfl ?_
        refine rd_acc hD (by rw [List.length_map, List.length_map, List.length_take]; omega) ?_
        refine ⟨same_put sb fD, ?_⟩
        rw [upd_same, List.take_succ, List.getElem?_eq_getElem hj, List.map_append, List.map_append]
        rfl
      · rintro H2 ⟨sb, hD⟩
        rw [List.length_map, List.take_length] at hD
        have s2 := s1.trans sb
        wtm_at "rd"
        refine rd_dat (.inl (s2 _ _ hst)) (kvF_val (hin _ hni)) rfl ?_
        wtm_at "rd"
        intro t ft
        refine rd_catL (at_upd (ne_of_none hD ft) hD) upd_same (by rw [List.length_map, List.length_map]; simp only [List.length_singleton]; omega) ?_
        intro sh fsh
        have s3 := same_add (o := .lst ((ys.map f).map V.int ++ [.int (f ns[i])])) (same_add (o := .lst [.int (f ns[i])]) s2 ft) fsh
        have hsh : upd (upd H2 t (.lst [.int (f ns[i])])) sh (.lst ((ys.map f).map V.int ++ [.int (f ns[i])])) sh = some (.lst ((ys.map f ++ [f ns[i]]).map V.int)) := by
          rw [upd_same, List.map_append]
          rfl
        have sx : Same H0 (upd (upd H2 t (.lst [.int (f ns[i])])) sh (.lst ((ys.map f).map V.int ++ [.int (f ns[i])]))) := same_add (same_add (sa.trans sb) ft) fsh
        generalize upd (upd H2 t (.lst [.int (f ns[i])])) sh (.lst ((ys.map f).map V.int ++ [.int (f ns[i])])) = H3 at s3 hsh sx
        have et := movesF_take (es := es.map (·.2)) (f := f) (ps := pn) hi
        wtm_at "rd"
        refine rd_ninST (Same.seqT s3 hps) ?_
        wtm_at "rd"
        refine rd_nsplit (fun c => ?_) (fun c => ?_)
        · rw [if_neg c] at et
          wtm_at "rd"
          intro D2 fD2
          refine lcR (fun j H' => ∃ m2 : List (Addr × Str × Int), Same H3 H' ∧ H' D2 = some (.lst (m2.map fun m => V.ref m.1)) ∧ TupsAt H' m2 ∧ m2.map (·.2) = ((([0, 1, 2] : List Int).take j).filter (freeB (es.map (·.2)) f ns[i])).map fun v => (ns[i], v)) ⟨[], Same.new fD2, upd_same, TupsAt.nil, rfl⟩ ?_ ?_
          · rintro j H' hj ⟨m2, sc, hD2, t2, e2⟩
            have hj : j < 3 := hj
            have m2l : m2.length ≤ 3 := by
              have h1 := congrArg List.length e2
              rw [List.length_map, List.length_map] at h1
              have h2 := List.length_filter_le (freeB (es.map (·.2)) f ns[i]) (([0, 1, 2] : List Int).take j)
              rw [List.length_take] at h2
              simp only [List.length_cons, List.length_nil] at h2
              omega
            have tj : ([0, 1, 2] : List Int).take (j + 1) = ([0, 1, 2] : List Int).take j ++ [(0 + (j : Int))] := by
              have : j = 0 ∨ j = 1 ∨ j = 2 := by omega
              rcases this with rfl | rfl | rfl <;> rfl
            have fb : freeB (es.map (·.2)) f ns[i] (0 + (j : Int)) = !decide ((0 + (j : Int)) ∈ ys.map f ++ [f ns[i]]) := by
              unfold freeB
              congr 1
              refine decide_eq_decide.mpr ?_
              rw [List.mem_append, List.mem_append, (py.map f).mem_iff]
            wtm_at "rd"
            refine rd_ninIL (SqL.of (sc _ _ hsh)) ?_
            wtm_at "rd"
            rw [← fb]
            cases c2 : freeB (es.map (·.2)) f ns[i] (0 + (j : Int)) with
            | true =>
              rw [if_pos rfl]
              wtm_at "rd"
              intro t2' ft2
              refine rd_acc (at_upd (ne_of_none hD2 ft2) hD2) (by rw [List.length_map]; omega) ?_
              refine ⟨m2 ++ [(t2', ns[i], 0 + (j : Int))], same_put (same_add sc ft2) fD2, ?_, ?_, ?_⟩
              · rw [upd_same, List.map_append]
                rfl
              · refine TupsAt.put (TupsAt.app (t2.new ft2) ?_) (at_upd (ne_of_none hD2 ft2) hD2)
                intro m hm
                rw [List.mem_singleton] at hm
                subst hm
                exact upd_same
              · rw [List.map_append, e2, tj, List.filter_append, List.map_append, List.filter_cons_of_pos c2, List.filter_nil]
                rfl
            | false =>
              rw [if_neg Bool.false_ne_true]
              refine ⟨m2, sc, hD2, t2, ?_⟩
              rw [e2, tj, List.filter_append, List.map_append, List.filter_cons_of_neg (by rw [c2]; exact Bool.false_ne_true), List.filter_nil]
              exact (List.append_nil _).symm
          · rintro H4 ⟨m2, sc, hD2, t2, e2⟩
            have m2l : m2.length ≤ 3 := by
              have h1 := congrArg List.length e2
              rw [List.length_map, List.length_map] at h1
              have h2 := List.length_filter_le (freeB (es.map (·.2)) f ns[i]) (([0, 1, 2] : List Int).take (Int.toNat 3))
              rw [List.length_take] at h2
              simp only [List.length_cons, List.length_nil] at h2
              omega
            wtm_at "rd"
            refine rd_catL (sc _ _ (sx _ _ hl)) hD2 (by rw [List.length_map, List.length_map]; omega) ?_
            intro l2 fl2
            have s4 := s3.trans sc
            refine ⟨l2, ms ++ m2, _, _, _, _, rfl, same_add s4 fl2, new_of_same s4 fl2, ?_, ((tm.same (sx.trans sc)).app t2).new fl2, ?_⟩
            · rw [upd_same, List.map_append]
            · rw [List.map_append, em, et, e2]
              rfl
        · rw [if_pos c] at et
          wtm_at "rd"
          refine ⟨l, ms, _, _, _, _, rfl, s3, fl, sx _ _ hl, tm.same sx, ?_⟩
          rw [em, et, List.append_nil]
    · rintro σ H' ⟨l, ms, u4, u5, u6, u7, rfl, s, fl, hl, tm, em⟩
      rw [List.length_map, List.take_length] at em
      wtm_at "rd"
      exact q l ms H' s fl hl tm em
end
end Law

namespace Law
open PySem PySem.Spec PyProof.Rows L2 U
local macro_rules | `(tactic| wtm_at "rd1") => `(tactic| first
  | with_reducible refine rd_seq ?_
  | ((with_reducible refine rd_var (v := ?vv) ?hv ?_); (case hv => exact rfl))
  | with_reducible refine rd_c ?_
  | with_reducible refine rd_cons ?_
  | with_reducible refine rd_nil ?_
  | with_reducible refine rd_op ?_
  | with_reducible refine rd_asg ?_
  | with_reducible refine rd_name ?_
  | with_reducible refine rd_c1 ?_
  | with_reducible refine rd_cb ?_
  | with_reducible refine rd_test ?_
  | with_reducible refine rd_B ?_
  | with_reducible refine rd_bl ?_
  | with_reducible refine rd_if ?_
  | with_reducible refine rd_ret ?_
  | with_reducible refine rd_drop ?_
  | with_reducible refine rd_next ?_
  | with_reducible refine rd_addI ?_
  | with_reducible refine rd_ltI ?_
  | with_reducible refine rd_eqI ?_
  | with_reducible refine rd_neI ?_
  | with_reducible refine rd_eqS ?_
  | with_reducible refine rd_neS ?_
  | with_reducible refine rd_gtI ?_
  | with_reducible refine rd_geI ?_
  | with_reducible refine rd_leI ?_
  | with_reducible refine rd_ltS ?_
  | with_reducible refine rd_subI ?_
  | ((with_reducible refine rd_modI ?hc ?_); (case hc => first | decide | omega))
  | ((with_reducible refine rd_mulI ?hc ?_); (case hc => first | exact mul_bI | exact .inl (.inr (by decide)) | exact .inl (.inl (by decide)) | exact .inl (.inr (by omega)) | exact .inl (.inl (by omega))))
  | ((with_reducible refine rd_divI ?hc ?_); (case hc => first | decide | omega))
  | ((with_reducible refine rd_powI ?hc ?_); (case hc => exact ⟨by decide, by decide, by decide⟩))
  | with_reducible refine rd_lst ?_
  | with_reducible refine rd_tup ?_
  | ((with_reducible refine rd_sz ?hv ?_); (case hv => exact rfl))
  | with_reducible refine rd_and ?_
  | with_reducible refine rd_or ?_
  | with_reducible refine rd_not ?_
  | with_reducible refine rd_andV ?_
  | with_reducible refine rd_orV ?_
  | with_reducible refine rd_notV ?_
  | with_reducible refine rd_ifE ?_
  | with_reducible refine rd_T ?_
  | with_reducible refine rd_F ?_
  | with_reducible refine rd_chain ?_
  | with_reducible refine rd_is ?_
  | with_reducible refine rd_isNot ?_
  | with_reducible refine rd_absI ?_
  | with_reducible refine rd_maxI ?_
  | with_reducible refine rd_minI ?_
  | with_reducible refine rd_intI ?_
  | with_reducible refine rd_intB ?_
  | with_reducible refine rd_sub ?_
  | with_reducible refine rd_sl ?_
  | with_reducible refine rd_noPart ?_
  | with_reducible refine rd_part ?_
  | with_reducible refine rd_exI ?_
  | with_reducible refine rd_bm ?_
  | with_reducible refine rd_bm0 ?_
  | with_reducible refine rd_un ?_
  | with_reducible refine rd_neg ?_
  | with_reducible refine rd_c2 ?_
  | with_reducible refine rd_retN ?_
  | with_reducible refine rd_break ?_
  | with_reducible refine rd_cont ?_
  | with_reducible refine rd_for ?_
  | with_reducible refine rd_rng1 ?_
  | with_reducible refine rd_rng2 ?_
  | with_reducible refine rd_iList ?_
  | with_reducible refine rd_iTup ?_
  | with_reducible refine rd_iEnum ?_
  | ((with_reducible refine rd_forR ?h0 ?h1 ?_); (case h0 => omega); (case h1 => omega))
  | with_reducible refine rd_lc ?_
  | with_reducible refine rd_gcons ?_
  | with_reducible refine rd_gnil ?_
  | with_reducible refine rd_dget ?_
  | with_reducible refine rd_dput ?_
  | with_reducible refine rd_dnew ?_
  | with_reducible refine rd_dc ?_
  | with_reducible refine rd_iItems ?_
  | with_reducible refine rd_iKeys ?_
  | with_reducible refine rd_din ?_
  | with_reducible refine rd_par ?_
  | with_reducible refine rd_two ?_
  | with_reducible refine rd_reprB ?_
  | with_reducible refine rd_ck ?_
  | ((with_reducible refine rd_len ?hl ?_); (case hl => exact rfl))
  | with_reducible refine rd_nT ?_
  | with_reducible refine rd_nF ?_
  | with_reducible refine rd_dnin ?_
  | with_reducible refine rd_isB ?_
  | with_reducible refine rd_isNotB ?_
  | with_reducible refine rd_daug ?_
  | with_reducible refine rd_yesT ?_
  | ((with_reducible refine rd_wp ?hw ?_); (case hw => exact rfl)))
local macro_rules | `(tactic| wtm_at "rd") => `(tactic| repeat wtm_at "rd1")

theorem moves_dp {K : PySem.W.Frag} {H : Hp} : ∀ {ms : List (Addr × Str × Int)}, TupsAt H ms → DpAll K H (ms.map fun m => V.ref m.1) (ms.map fun m => PyData.tuple [.str m.2.1, .int m.2.2])
  | [], _ => .nil
  | m :: ms, h => .cons (.tup (SqT.of (h m List.mem_cons_self)) (.cons (.str _) (.cons (.int _) .nil))) (moves_dp fun x hx => h x (List.mem_cons_of_mem _ hx))
theorem moves_can : ∀ {ms : List (Addr × Str × Int)}, (∀ m ∈ ms, PyData.strOk m.2.1 = true) → PyData.canLayAll0 (ms.map fun m => PyData.tuple [.str m.2.1, .int m.2.2]) = true
  | [], _ => by simp [PyData.canLayAll0]
  | m :: ms, h => by
    rw [List.map_cons, PyData.canLayAll0, moves_can fun x hx => h x (List.mem_cons_of_mem _ hx), PyData.canLay0, PyData.canLayAll0, PyData.canLayAll0, PyData.canLayAll0, PyData.canLay0, PyData.canLay0, h m List.mem_cons_self]
    rfl
theorem moves_dep : ∀ {ms : List (Addr × Str × Int)}, PyData.depthAll (ms.map fun m => PyData.tuple [.str m.2.1, .int m.2.2]) ≤ 60
  | [] => by simp [PyData.depthAll]
  | m :: ms => by
    have := moves_dep (ms := ms)
    rw [List.map_cons, PyData.depthAll, PyData.depth, PyData.depthAll, PyData.depthAll, PyData.depthAll, PyData.depth, PyData.depth]
    omega
/-- [..] != [], of moves -/
theorem rd_neMoves {K : PySem.W.Frag} {H : Hp} {Q : VK} {p q : Addr} {ms : List (Addr × Str × Int)} (hp : H p = some (.lst (ms.map fun m => V.ref m.1))) (tm : TupsAt H ms) (ok : ∀ m ∈ ms, PyData.strOk m.2.1 = true) (hq : H q = some (.lst [])) (h : Q (.bl (!ms.isEmpty)) H) : rNeU K (.ref p) (.ref q) H Q := by
  refine rd_neNilD (SqL.of hp) (moves_dp tm) (SqL.of hq) (moves_can ok) moves_dep ?_
  cases ms <;> exact h
def spDrawMoves (K : PySem.W.Frag) : Sp := fun vs H Q _ => ∃ (p g n e st ps : Addr) (most : Int) (ns ord pn : List Str) (es : List (Addr × Str × Str)) (f : Str → Int), vs = [.ref p, .ref g, .ref st, .ref ps, .int most] ∧ PoolAt H p ∧ GSt H g n e st ns ord es f ∧ 0 ≤ most ∧ most ≤ 1000 ∧ SqT K H ps (pn.map V.str) ∧
  ∀ (t l c : Addr) (ms : List (Addr × Str × Int)) (f' : Str → Int) (H' : Hp), Go p H H' → H t = none → H l = none → H c = none → H' t = some (.tup [.ref l, .ref c]) → H' l = some (.lst (ms.map fun m => V.ref m.1)) → TupsAt H' ms → H' c = some (.dK (kvF ord f')) → ms.length ≤ 1000 → (ms.length : Int) ≤ most →
    Plays ns (es.map (·.2)) pn f (ms.map (·.2)) f' → Q (.ref t) H'
theorem TupsAt.go {p : Addr} {H H' : Hp} {ms : List (Addr × Str × Int)} (h : TupsAt H ms) (hp : PoolAt H p) (g : Go p H H') : TupsAt H' ms := fun m hm => by
  obtain ⟨ys, hy⟩ := hp.isL
  exact g.but.tup hy (h m hm)
theorem Go.dK {p d : Addr} {H H' : Hp} {kvs : List (Key × V)} (g : Go p H H') (hp : PoolAt H p) (h : H d = some (.dK kvs)) : H' d = some (.dK kvs) := by
  obtain ⟨ys, hy⟩ := hp.isL
  exact g.but.dK hy h
theorem Go.tup {p d : Addr} {H H' : Hp} {xs : List V} (g : Go p H H') (hp : PoolAt H p) (h : H d = some (.tup xs)) : H' d = some (.tup xs) := by
  obtain ⟨ys, hy⟩ := hp.isL
  exact g.but.tup hy h
section
variable {P : Program} {w : World} {K : PySem.W.Frag} {mg : Str → Option Value} {base : Heap}
structure C4 (P : Program) (w : World) (K : PySem.W.Frag) (mg : Str → Option Value) (base : Heap) : Prop where
  _law_draw : Cal P w K mg base CX0 1 "_law_draw" spDraw
  _law_moves_of : Cal P w K mg base CX0 2 "_law_moves_of" (spMoves K)
theorem ok_draw_moves {f : Addr} {fd : FuncData} (F : Fun K "_law_draw_moves" "_law_draw_moves" s__law_draw_moves f fd) (B : Bt mg) (C : C4 P w K mg base) : FnG P w K mg base CX0 3 f fd ["_law_pool_here", "_law_graph", "_law_state", "_law_pins", "_law_most"] (spDrawMoves K) := by
  refine fnG0 F sc__law_draw_moves (fun vs H Q E h => ?_) (fun cdv A outer s H vs Q E hr h => ?_)
  · obtain ⟨p, g, n, e, st, ps, most, ns, ord, pn, es, f, rfl, _⟩ := h
    rfl
  · obtain ⟨p, g, n, e, st, ps, most, ns, ord, pn, es, f, rfl, hp, gs, m0, m1, hps, q⟩ := h
    have nd := sc__law_draw_moves.nd
    have hu := hr.u1
    refine ⟨_, (pss_cons (ps_set (i := 5) nd rfl (by first | exact Or.inl rfl | exact Or.inr rfl) (pe_callTy cDict (by rfl) B.dict bb_dict (pa_cons (pv 2) pa_nil)))
  (pss_cons (ps_set (i := 6) nd rfl (by first | exact Or.inl rfl | exact Or.inr rfl) (pe_lst pa_nil))
  (pss_cons (ps_for PassesOwn.never rfl (pi_range1 rfl B.range (pa_cons (pe_c C._law_draw hr (by decide) rfl (pa_cons (pv 0) (pa_cons (pe_op (kAdd K rfl) (pv 4) pe_int) pa_nil))) pa_nil)) (pg_name (i := 7) nd rfl (by first | exact Or.inl rfl | exact Or.inr rfl)) (pss_cons (ps_set (i := 8) nd rfl (by first | exact Or.inl rfl | exact Or.inr rfl) (pe_c C._law_moves_of hr (by decide) rfl (pa_cons (pv 1) (pa_cons (pv 5) (pa_cons (pv 3) pa_nil)))))
  (pss_one (ps_if (pt_cmpR (kNe K rfl hr.u64) (pv 8) (pe_lst pa_nil) (nomark _)) (pss_cons (ps_set (i := 9) nd rfl (by first | exact Or.inl rfl | exact Or.inr rfl) (pe_ix (kIx K rfl) (pv 8) (pe_c C._law_draw hr (by decide) rfl (pa_cons (pv 0) (pa_cons (pe_callB (kLen K rfl) (by rfl) B.len bb_len (pa_cons (pv 8) pa_nil)) pa_nil))) (fun _ _ => rfl)))
  (pss_cons (ps_dput hu (pv 5) (pe_ix (kIx K rfl) (pv 9) pe_int (fun _ _ => rfl)) (pe_ix (kIx K rfl) (pv 9) pe_int (fun _ _ => rfl)) rfl)
  (pss_one (ps_expr (pe_bm PySem.F.plainAttrs_list PySem.F.slot_list_append PySem.F.type_list_append mt_append (pv 6) (pa_cons (pv 9) pa_nil)))))) pss_nil))))
  (pss_one (ps_ret (pe_tup (pa_cons (pv 6) (pa_cons (pv 5) pa_nil)))))))), ?_⟩
    wtm_at "rd"
    refine ⟨_, .inl gs.st, fun c fc => ?_⟩
    have g1 := (Go.refl hp).new (o := .dK (kvF ord f)) fc
    have npc := hp.ne fc
    wtm_at "rd"
    intro l fl
    have g2 := g1.new (o := .lst []) fl
    have npl := g1.pool.ne fl
    have fl0 := g1.free _ fl
    have nlc := new_ne fl
    have hc2 := at_upd (o := .lst []) (Ne.symm nlc) (@upd_same H c (.dK (kvF ord f)))
    have hl2 := @upd_same (upd H c (.dK (kvF ord f))) l (.lst [])
    wtm_at "rd"
    refine use_draw g2.pool (by omega) (by omega) fun many H3 k0 k1 ga => ?_
    have hc3 := ga.dK g2.pool hc2
    have hl3 := ga.at hl2 (Ne.symm npl)
    have g3 := g2.trans ga
    wtm_at "rd"
    refine turnsR (fun i σ H' => ∃ (ms : List (Addr × Str × Int)) (f' : Str → Int) (u7 u8 u9 : Option V), σ = [some (.ref p), some (.ref g), some (.ref st), some (.ref ps), some (.int most), some (.ref c), some (.ref l), u7, u8, u9] ∧ Go p H H' ∧
      H' l = some (.lst (ms.map fun m => V.ref m.1)) ∧ TupsAt H' ms ∧ H' c = some (.dK (kvF ord f')) ∧ ms.length ≤ i ∧ Plays ns (es.map (·.2)) pn f (ms.map (·.2)) f') ⟨[], f, _, _, _, rfl, g3, hl3, TupsAt.nil, hc3, by simp, .nil⟩ ?_ ?_
    · rintro i σ H4 hi ⟨ms, f', u7, u8, u9, rfl, go, hl, tm, hc, len, pl⟩
      have gs4 := gs.go hp go
      wtm_at "rd"
      refine ⟨g, n, e, c, ps, ns, ord, pn, es, f', rfl, gs4.gr, by have := gs4.l3; omega, by have := gs4.l2; omega, hc, gs4.inO, gs4.inE, go.seqT hp hps, fun sm m2 H5 s5 fsm hsm t2 em => ?_⟩
      have leg : ∀ m ∈ m2, Legal ns (es.map (·.2)) f' pn m.2 := fun m hm => legal_of (by rw [← em]; exact List.mem_map_of_mem hm)
      wtm_at "rd"
      intro tn ftn
      refine rd_neMoves (at_upd (ne_of_none hsm ftn) hsm) (t2.new ftn) (fun m hm => gs4.sok _ (leg m hm).mem) upd_same ?_
      wtm_at "rd"
      have s6 := same_add (o := .lst []) s5 ftn
      have hsm6 := at_upd (o := .lst []) (ne_of_none hsm ftn) hsm
      have t26 := t2.new (o := .lst []) ftn
      generalize upd H5 tn (.lst []) = H6 at s6 hsm6 t26
      have go6 := go.trans (Go.of_same go.pool s6)
      have hl6 := s6 _ _ hl
      have hc6 := s6 _ _ hc
      have tm6 := tm.same s6
      refine rd_b (fun b => ?_) (fun b => ?_)
      · have z : 0 < m2.length := by
          cases m2 with
          | nil => cases b
          | cons _ _ => simp
        wtm_at "rd"
        refine rd_lenL (SqL.of hsm6) ?_
        rw [List.length_map]
        have lm2 : m2.length ≤ 300 := by
          have h1 := congrArg List.length em
          have h2 := movesF_len (es := es.map (·.2)) (f := f') (ps := pn) (ns := ns)
          have := gs4.l2
          rw [List.length_map] at h1
          omega
        wtm_at "rd"
        refine use_draw go6.pool (by omega) (by omega) fun r H7 r0 r1 gb => ?_
        have nsp : sm ≠ p := fun z => by
          rw [z] at hsm6
          obtain ⟨b, sd, hh, _⟩ := go6.pool
          rw [hsm6] at hh
          have e := HO.lst.inj (Option.some.inj hh)
          match m2, e with
          | _ :: _, e => cases e
        have hsm7 := gb.at hsm6 nsp
        have hl7 := gb.at hl6 (Ne.symm npl)
        have hc7 := gb.dK go6.pool hc6
        have tm7 := tm6.go go6.pool gb
        have t27 := t26.go go6.pool gb
        have go7 := go6.trans gb
        wtm_at "rd"
        have hr7 : r.toNat < m2.length := by omega
        obtain ⟨rn, rfl⟩ : ∃ k : Nat, r = (k : Int) := ⟨r.toNat, by omega⟩
        rw [Int.toNat_natCast] at hr7
        have mm := List.getElem_mem hr7
        have ht := t27 _ mm
        have lg := leg _ mm
        refine rd_ixL (SqL.of hsm7) (atI_nat (v := .ref m2[rn].1) (by rw [List.getElem?_map, List.getElem?_eq_getElem hr7]; rfl)) ?_
        generalize m2[rn] = mv at *
        wtm_at "rd"
        refine rd_ixT (SqT.of ht) (v := .int mv.2.2) rfl ?_
        wtm_at "rd"
        refine rd_ixT (SqT.of ht) (v := .str mv.2.1) rfl ?_
        refine rd_dset hc7 (k := .inr mv.2.1) rfl (by rw [List.length_map]; have := gs4.pm.length_eq; have := gs4.l2; omega) ?_
        rw [kvF_put (gs4.inO _ lg.mem)]
        have nlc7 : l ≠ c := ne_of hl7 hc7 (by intro z; cases z)
        have hl8 := at_upd (o := .dK (kvF ord (updf f' mv.2.1 mv.2.2))) nlc7 hl7
        have tm8 : TupsAt (upd H7 c (.dK (kvF ord (updf f' mv.2.1 mv.2.2)))) ms := fun m hm => at_upd (ne_of (tm7 m hm) hc7 (by intro z; cases z)) (tm7 m hm)
        have ht8 := at_upd (o := .dK (kvF ord (updf f' mv.2.1 mv.2.2))) (ne_of ht hc7 (by intro z; cases z)) ht
        have go8 := go7.put (o := .dK (kvF ord (updf f' mv.2.1 mv.2.2))) fc npc
        have hc8 := @upd_same H7 c (.dK (kvF ord (updf f' mv.2.1 mv.2.2)))
        generalize upd H7 c (.dK (kvF ord (updf f' mv.2.1 mv.2.2))) = H8 at hl8 tm8 ht8 go8 hc8
        wtm_at "rd"
        refine rd_tyL hl8 ?_
        wtm_at "rd"
        refine rd_append hl8 (by rw [List.length_map]; omega) ?_
        refine ⟨ms ++ [mv], updf f' mv.2.1 mv.2.2, _, _, _, rfl, go8.put fl0 npl, ?_, ?_, at_upd (Ne.symm nlc7) hc8, by rw [List.length_append]; simp only [List.length_singleton]; omega, ?_⟩
        · rw [upd_same, List.map_append]
          rfl
        · refine TupsAt.put (tm8.app ?_) hl8
          intro m hm
          rw [List.mem_singleton] at hm
          subst hm
          exact ht8
        · rw [List.map_append]
          exact .snoc pl lg
      · wtm_at "rd"
        exact ⟨ms, f', _, _, _, rfl, go6, hl6, tm6, hc6, by omega, pl⟩
    · rintro σ H4 ⟨ms, f', u7, u8, u9, rfl, go, hl, tm, hc, len, pl⟩
      wtm_at "rd"
      intro t ft
      exact q t l c ms f' _ (go.new ft) (go.free _ ft) fl0 fc upd_same (at_upd (ne_of_none hl ft) hl) (tm.new ft) (at_upd (ne_of_none hc ft) hc) (by omega) (by omega) pl
end
end Law

namespace Law
open PySem PySem.Spec PyProof.Rows L2 U
local macro_rules | `(tactic| wtm_at "rd1") => `(tactic| first
  | with_reducible refine rd_seq ?_
  | ((with_reducible refine rd_var (v := ?vv) ?hv ?_); (case hv => exact rfl))
  | with_reducible refine rd_c ?_
  | with_reducible refine rd_cons ?_
  | with_reducible refine rd_nil ?_
  | with_reducible refine rd_op ?_
  | with_reducible refine rd_asg ?_
  | with_reducible refine rd_name ?_
  | with_reducible refine rd_c1 ?_
  | with_reducible refine rd_cb ?_
  | with_reducible refine rd_test ?_
  | with_reducible refine rd_B ?_
  | with_reducible refine rd_bl ?_
  | with_reducible refine rd_if ?_
  | with_reducible refine rd_ret ?_
  | with_reducible refine rd_drop ?_
  | with_reducible refine rd_next ?_
  | with_reducible refine rd_addI ?_
  | with_reducible refine rd_ltI ?_
  | with_reducible refine rd_eqI ?_
  | with_reducible refine rd_neI ?_
  | with_reducible refine rd_eqS ?_
  | with_reducible refine rd_neS ?_
  | with_reducible refine rd_gtI ?_
  | with_reducible refine rd_geI ?_
  | with_reducible refine rd_leI ?_
  | with_reducible refine rd_ltS ?_
  | with_reducible refine rd_subI ?_
  | ((with_reducible refine rd_modI ?hc ?_); (case hc => first | decide | omega))
  | ((with_reducible refine rd_mulI ?hc ?_); (case hc => first | exact mul_bI | exact .inl (.inr (by decide)) | exact .inl (.inl (by decide)) | exact .inl (.inr (by omega)) | exact .inl (.inl (by omega))))
  | ((with_reducible refine rd_divI ?hc ?_); (case hc => first | decide | omega))
  | ((with_reducible refine rd_powI ?hc ?_); (case hc => exact ⟨by decide, by decide, by decide⟩))
  | with_reducible refine rd_lst ?_
  | with_reducible refine rd_tup ?_
  | ((with_reducible refine rd_sz ?hv ?_); (case hv => exact rfl))
  | with_reducible refine rd_and ?_
  | with_reducible refine rd_or ?_
  | with_reducible refine rd_not ?_
  | with_reducible refine rd_andV ?_
  | with_reducible refine rd_orV ?_
  | with_reducible refine rd_notV ?_
  | with_reducible refine rd_ifE ?_
  | with_reducible refine rd_T ?_
  | with_reducible refine rd_F ?_
  | with_reducible refine rd_chain ?_
  | with_reducible refine rd_is ?_
  | with_reducible refine rd_isNot ?_
  | with_reducible refine rd_absI ?_
  | with_reducible refine rd_maxI ?_
  | with_reducible refine rd_minI ?_
  | with_reducible refine rd_intI ?_
  | with_reducible refine rd_intB ?_
  | with_reducible refine rd_sub ?_
  | with_reducible refine rd_sl ?_
  | with_reducible refine rd_noPart ?_
  | with_reducible refine rd_part ?_
  | with_reducible refine rd_exI ?_
  | with_reducible refine rd_bm ?_
  | with_reducible refine rd_bm0 ?_
  | with_reducible refine rd_un ?_
  | with_reducible refine rd_neg ?_
  | with_reducible refine rd_c2 ?_
  | with_reducible refine rd_retN ?_
  | with_reducible refine rd_break ?_
  | with_reducible refine rd_cont ?_
  | with_reducible refine rd_for ?_
  | with_reducible refine rd_rng1 ?_
  | with_reducible refine rd_rng2 ?_
  | with_reducible refine rd_iList ?_
  | with_reducible refine rd_iTup ?_
  | with_reducible refine rd_iEnum ?_
  | ((with_reducible refine rd_forR ?h0 ?h1 ?_); (case h0 => omega); (case h1 => omega))
  | with_reducible refine rd_lc ?_
  | with_reducible refine rd_gcons ?_
  | with_reducible refine rd_gnil ?_
  | with_reducible refine rd_dget ?_
  | with_reducible refine rd_dput ?_
  | with_reducible refine rd_dnew ?_
  | with_reducible refine rd_dc ?_
  | with_reducible refine rd_iItems ?_
  | with_reducible refine rd_iKeys ?_
  | with_reducible refine rd_din ?_
  | with_reducible refine rd_par ?_
  | with_reducible refine rd_two ?_
  | with_reducible refine rd_reprB ?_
  | with_reducible refine rd_ck ?_
  | ((with_reducible refine rd_len ?hl ?_); (case hl => exact rfl))
  | with_reducible refine rd_nT ?_
  | with_reducible refine rd_nF ?_
  | with_reducible refine rd_dnin ?_
  | with_reducible refine rd_isB ?_
  | with_reducible refine rd_isNotB ?_
  | with_reducible refine rd_daug ?_
  | with_reducible refine rd_yesT ?_
  | ((with_reducible refine rd_wp ?hw ?_); (case hw => exact rfl)))
local macro_rules | `(tactic| wtm_at "rd") => `(tactic| repeat wtm_at "rd1")

theorem take_snoc {α : Type} {xs : List α} {i : Nat} (hi : i < xs.length) : xs.take (i + 1) = xs.take i ++ [xs[i]] := by
  rw [List.take_succ, List.getElem?_eq_getElem hi]
  rfl
theorem not_take {α : Type} {xs : List α} {i : Nat} (nd : xs.Nodup) (hi : i < xs.length) : xs[i] ∉ xs.take i := by
  intro hm
  obtain ⟨j, hj, e⟩ := List.mem_iff_getElem.mp hm
  rw [List.length_take] at hj
  have e' : xs[j] = xs[i] := by rw [← e, List.getElem_take]
  have z := List.pairwise_iff_getElem.mp (List.nodup_iff_pairwise_ne.mp nd)
  exact z j i (by omega) hi (by omega) e'
theorem lk_same {H H' : Hp} {a : Addr} {kvs : List (Key × V)} (ha : H a = some (.dK kvs)) (but : But a H H') : Same H (upd H' a (.dK kvs)) := fun b o hb => by
  by_cases e : b = a
  · subst e
    rw [ha] at hb
    rw [upd_same]
    exact hb
  · exact at_upd e (but b o e hb)
/-- the lists of the nodes' neighbours -/
structure AdjAt (H : Hp) (d : Addr) (ns : List Str) (es : List (Str × Str)) (A : Str → Addr) : Prop where
  di : H d = some (.dK (kvG ns fun n => .ref (A n)))
  li : ∀ n ∈ ns, ∃ ys : List Str, H (A n) = some (.lst (ys.map V.str)) ∧ ys.Perm (nbrF es n) ∧ ys.Pairwise fun a b => ¬ sLt b a
theorem AdjAt.same {H H' : Hp} {d : Addr} {ns : List Str} {es : List (Str × Str)} {A : Str → Addr} (h : AdjAt H d ns es A) (s : Same H H') : AdjAt H' d ns es A :=
  ⟨s _ _ h.di, fun n hn => by
    obtain ⟨ys, h1, h2⟩ := h.li n hn
    exact ⟨ys, s _ _ h1, h2⟩⟩
/-- a graph stands -/
structure GrS (H : Hp) (g n e : Addr) (ns : List Str) (es : List (Addr × Str × Str)) : Prop where
  gr : GrAt H g n e ns es
  ok : GrOk ns (es.map (·.2))
  l2 : ns.length ≤ 100
  l3 : es.length ≤ 1000
theorem GSt.grs {H : Hp} {g n e st : Addr} {ns ord : List Str} {es : List (Addr × Str × Str)} {f : Str → Int} (h : GSt H g n e st ns ord es f) : GrS H g n e ns es := ⟨h.gr, h.ok, h.l2, h.l3⟩
theorem GrS.same {H H' : Hp} {g n e : Addr} {ns : List Str} {es : List (Addr × Str × Str)} (h : GrS H g n e ns es) (s : Same H H') : GrS H' g n e ns es := ⟨h.gr.same s, h.ok, h.l2, h.l3⟩
theorem GrS.nd {H : Hp} {g n e : Addr} {ns : List Str} {es : List (Addr × Str × Str)} (h : GrS H g n e ns es) : ns.Nodup := asc_nodup h.ok.names.asc
theorem GrS.inE {H : Hp} {g n e : Addr} {ns : List Str} {es : List (Addr × Str × Str)} (h : GrS H g n e ns es) : ∀ x ∈ es, x.2.1 ∈ ns ∧ x.2.2 ∈ ns := fun x hx => h.ok.mem _ (List.mem_map_of_mem hx)
theorem GrS.ne {H : Hp} {g n e : Addr} {ns : List Str} {es : List (Addr × Str × Str)} (h : GrS H g n e ns es) : ∀ x ∈ es.map (·.2), x.1 ≠ x.2 := fun x hx z => by
  have := h.ok.lt x hx
  rw [z] at this
  exact sLt_irrefl _ this
def spAdj : Sp := fun vs H Q _ => ∃ (g n e : Addr) (ns : List Str) (es : List (Addr × Str × Str)), vs = [.ref g] ∧ GrS H g n e ns es ∧
  ∀ (d : Addr) (A : Str → Addr) (H' : Hp), Same H H' → H d = none → AdjAt H' d ns (es.map (·.2)) A → Q (.ref d) H'
def spAdjF : Sp := fun vs H Q _ => ∃ (g n e : Addr) (ns : List Str) (es : List (Addr × Str × Str)), vs = [.ref g] ∧ GrS H g n e ns es ∧
  ∀ (d : Addr) (A : Str → Addr) (H' : Hp), Same H H' → H d = none → AdjAt H' d ns (es.map (·.2)) A → (∀ m ∈ ns, H (A m) = none) → Q (.ref d) H'
theorem adj_weak {vs : List V} {H : Hp} {Q : VK} {E : XK} (h : spAdj vs H Q E) : spAdjF vs H Q E := by
  obtain ⟨g, n, e, ns, es, e1, gs, q⟩ := h
  exact ⟨g, n, e, ns, es, e1, gs, fun d A H' s n a _ => q d A H' s n a⟩
theorem FnG.weak {P : Program} {w : World} {K : PySem.W.Frag} {mg : Str → Option Value} {base : Heap} {CX : CXT} {k : Nat} {f : Addr} {fd : FuncData} {ps : List Str} {sp sp' : Sp} (F : FnG P w K mg base CX k f fd ps sp) (h : ∀ vs H Q E, sp' vs H Q E → sp vs H Q E) : FnG P w K mg base CX k f fd ps sp' :=
  ⟨fun vs H Q E z => F.len vs H Q E (h vs H Q E z), fun A outer s H args us vs Q E r e b v z => F.go A outer s H args us vs Q E r e b v (h vs H Q E z)⟩
theorem Cal.weak {P : Program} {w : World} {K : PySem.W.Frag} {mg : Str → Option Value} {base : Heap} {CX : CXT} {k : Nat} {x : Str} {sp sp' : Sp} (C : Cal P w K mg base CX k x sp) (h : ∀ vs H Q E, sp' vs H Q E → sp vs H Q E) : Cal P w K mg base CX k x sp' := by
  obtain ⟨f, fd, ps, F, r⟩ := C.ex
  exact ⟨⟨f, fd, ps, FnG.weak F h, r⟩⟩
/-- what grows at d: lists, one a name, apart -/
structure Grow (H H' : Hp) (d : Addr) (ns : List Str) (A : Str → Addr) (L : Str → List Str) : Prop where
  sm : Same H H'
  di : H' d = some (.dK (kvG ns fun n => .ref (A n)))
  li : ∀ n ∈ ns, H' (A n) = some (.lst ((L n).map V.str)) ∧ H (A n) = none
  ap : ∀ n ∈ ns, ∀ m ∈ ns, A n = A m → n = m
theorem Grow.put {H H' : Hp} {d : Addr} {ns : List Str} {A : Str → Addr} {L : Str → List Str} {n : Str} {ys : List Str} (h : Grow H H' d ns A L) (hn : n ∈ ns) : Grow H (upd H' (A n) (.lst (ys.map V.str))) d ns A (updV L n ys) := by
  refine ⟨same_put h.sm (h.li n hn).2, at_upd (ne_of h.di (h.li n hn).1 (by intro z; cases z)) h.di, fun m hm => ⟨?_, (h.li m hm).2⟩, h.ap⟩
  unfold updV
  by_cases e : m = n
  · subst e
    rw [if_pos rfl, upd_same]
  · rw [if_neg e]
    exact at_upd (fun z => e (h.ap m hm n hn z)) (h.li m hm).1
section
variable {P : Program} {w : World} {K : PySem.W.Frag} {mg : Str → Option Value} {base : Heap}
theorem ok_adjF {f : Addr} {fd : FuncData} (F : Fun K "adjacency" "adjacency" s_adjacency f fd) (B : Bt mg) : FnG P w K mg base CX0 1 f fd ["graph"] spAdjF := by
  refine fnG0 F sc_adjacency (fun vs H Q E h => ?_) (fun cdv A outer s H vs Q E hr h => ?_)
  · obtain ⟨g, n, e, ns, es, rfl, _⟩ := h
    rfl
  · obtain ⟨g, n, e, ns, es, rfl, gs, q⟩ := h
    have nd := sc_adjacency.nd
    have hu := hr.u1
    refine ⟨_, (pss_cons (ps_asg (pv 0) (kg_tup (n := 2) K rfl rfl (pgs_cons (pg_name (i := 1) nd rfl (by first | exact Or.inl rfl | exact Or.inr rfl)) (pgs_cons (pg_name (i := 2) nd rfl (by first | exact Or.inl rfl | exact Or.inr rfl)) pgs_nil))))
  (pss_cons (ps_setDc (i := 3) (own := [("node", 4)]) rfl nd rfl rfl (sw_dict rfl rfl rfl (by decide +kernel)) (ki_tup K rfl (pv 1)) (blkOk_by (own := [("node", 4)]) (N := nN_adjacency) (sc := defScope s_adjacency) (by decide +kernel)) (fun _ _ _ _ _ => (pg_name (i := 4) nd rfl (by first | exact Or.inl rfl | exact Or.inr rfl))) (fun _ _ _ _ _ => pts_nil) (fun _ _ _ _ _ => (pv 4)) (fun _ _ _ _ _ => (pe_lst pa_nil)))
  (pss_cons (ps_for PassesOwn.never rfl (ki_tup K rfl (pv 2)) (kg_tup (n := 2) K rfl rfl (pgs_cons (pg_name (i := 5) nd rfl (by first | exact Or.inl rfl | exact Or.inr rfl)) (pgs_cons (pg_name (i := 6) nd rfl (by first | exact Or.inl rfl | exact Or.inr rfl)) pgs_nil))) (pss_cons (ps_expr (pe_bm PySem.F.plainAttrs_list PySem.F.slot_list_append PySem.F.type_list_append mt_append (pe_dget hu (pv 3) (pv 5) (fun _ _ => rfl)) (pa_cons (pv 6) pa_nil)))
  (pss_one (ps_expr (pe_bm PySem.F.plainAttrs_list PySem.F.slot_list_append PySem.F.type_list_append mt_append (pe_dget hu (pv 3) (pv 6) (fun _ _ => rfl)) (pa_cons (pv 5) pa_nil))))))
  (pss_one (ps_ret (pe_lock (pe_dc (own := [("node", 4), ("some", 7)]) rfl nd (pi_items (pv 3)) (blkOk_by (own := [("node", 4), ("some", 7)]) (N := nN_adjacency) (sc := defScope s_adjacency) (by decide +kernel)) (fun _ _ _ _ _ => (kg_tup (n := 2) K rfl rfl (pgs_cons (pg_name (i := 4) nd rfl (by first | exact Or.inl rfl | exact Or.inr rfl)) (pgs_cons (pg_name (i := 7) nd rfl (by first | exact Or.inl rfl | exact Or.inr rfl)) pgs_nil)))) (fun _ _ _ _ _ => pts_nil) (fun _ _ _ _ _ => (pv 4)) (fun _ _ _ _ _ => (pe_callB (kSorted K rfl hr.u64) (by rfl) B.sorted bb_sorted (pa_cons (pv 7) pa_nil)))))))))), ?_⟩
    wtm_at "rd"
    refine rd_unp (SqT.of gs.gr.top) rfl ?_
    wtm_at "rd"
    refine rd_forT (SqT.of gs.gr.nodes) ?_
    intro D fD
    refine dcW (walk_tup (K := K) (a := n) (xs := ns.map V.str)) (fun i H' => ∃ A : Str → Addr, Grow H H' D (ns.take i) A (fun _ => [])) ⟨fun _ => 0, Same.new fD, upd_same, (fun n hn => nomatch hn), fun n hn => nomatch hn⟩ ?_ ?_ ?_
    · rintro i H' hi ⟨A, gw⟩
      exact SqT.of (gw.sm _ _ gs.gr.nodes)
    · rintro i x H' H2 hi ⟨A, gw⟩ ⟨rfl, hx⟩
      obtain ⟨hin, rfl⟩ := map_at hx
      wtm_at "rd"
      intro t ft
      refine rd_accD (k := .inr ns[i]) rfl (at_upd (ne_of_none gw.di ft) gw.di) (by rw [List.length_map, List.length_take]; have := gs.l2; omega) ?_
      have ntD : t ≠ D := Ne.symm (ne_of_none gw.di ft)
      have nin := not_take gs.nd hin
      have nt : ∀ m ∈ ns.take i, A m ≠ t := fun m hm => ne_of_none (gw.li m hm).1 ft
      refine ⟨updV A ns[i] t, same_put (same_add gw.sm ft) fD, ?_, ?_, ?_⟩
      · rw [upd_same, kvG_new nin, take_snoc hin]
        congr 2
        refine List.map_congr_left fun m _ => ?_
        show ((Sum.inr m : Key), updV (fun n => V.ref (A n)) ns[i] (.ref t) m) = (Sum.inr m, V.ref (updV A ns[i] t m))
        unfold updV
        by_cases z : m = ns[i]
        · rw [if_pos z, if_pos z]
        · rw [if_neg z, if_neg z]
      · intro m hm
        rw [take_snoc hin] at hm
        unfold updV
        rcases List.mem_append.mp hm with hm | hm
        · rw [if_neg (fun z => nin (by rw [← z]; exact hm))]
          exact ⟨at_upd (ne_of (gw.li m hm).1 gw.di (by intro z; cases z)) (at_upd (nt m hm) (gw.li m hm).1), (gw.li m hm).2⟩
        · rw [List.mem_singleton] at hm
          rw [if_pos hm]
          exact ⟨at_upd ntD upd_same, new_of_same gw.sm ft⟩
      · intro m hm m2 hm2 z
        rw [take_snoc hin] at hm hm2
        unfold updV at z
        rcases List.mem_append.mp hm with hm | hm <;> rcases List.mem_append.mp hm2 with hm2 | hm2
        · rw [if_neg (fun y => nin (by rw [← y]; exact hm)), if_neg (fun y => nin (by rw [← y]; exact hm2))] at z
          exact gw.ap m hm m2 hm2 z
        · rw [List.mem_singleton] at hm2
          rw [if_neg (fun y => nin (by rw [← y]; exact hm)), if_pos hm2] at z
          exact absurd z (nt m hm)
        · rw [List.mem_singleton] at hm
          rw [if_pos hm, if_neg (fun y => nin (by rw [← y]; exact hm2))] at z
          exact absurd z.symm (nt m2 hm2)
        · rw [List.mem_singleton] at hm hm2
          rw [hm, hm2]
    rintro H1 ⟨A, gw⟩
    rw [List.length_map, List.take_length] at gw
    wtm_at "rd"
    refine rd_forT (SqT.of (gw.sm _ _ gs.gr.edges)) ?_
    refine turnsT (K := K) (xs := es.map fun x => V.ref x.1) (fun i σ H' => ∃ u4 u5 u6 u7 : Option V, σ = [some (.ref g), some (.ref n), some (.ref e), some (.ref D), u4, u5, u6, u7] ∧ Grow H H' D ns A (fun m => nbrF ((es.map (·.2)).take i) m)) ⟨_, _, _, _, rfl, gw⟩ ?_ ?_ ?_
    · rintro i σ H' hi ⟨u4, u5, u6, u7, rfl, gw⟩
      exact SqT.of (gw.sm _ _ gs.gr.edges)
    · rintro i y σ H' hy ⟨u4, u5, u6, u7, rfl, gw⟩
      obtain ⟨hi, rfl⟩ := map_at hy
      have hm := List.getElem_mem hi
      obtain ⟨m1, m2⟩ := gs.inE _ hm
      have hne : es[i].2.1 ≠ es[i].2.2 := gs.ne es[i].2 (List.mem_map_of_mem hm)
      have hi2 : i < (es.map (·.2)).length := by rw [List.length_map]; exact hi
      have len : ∀ m, (nbrF ((es.map (·.2)).take i) m).length ≤ 2000 := fun m => by
        have := nbrF_len (x := m) (es := (es.map (·.2)).take i)
        rw [List.length_take, List.length_map] at this
        have := gs.l3
        omega
      have tk : ∀ m, nbrF ((es.map (·.2)).take (i + 1)) m = nbrF ((es.map (·.2)).take i) m ++ ((if es[i].2.1 = m then [es[i].2.2] else []) ++ (if es[i].2.2 = m then [es[i].2.1] else [])) := fun m => by
        have := nbrF_take (x := m) hi2
        rw [List.getElem_map] at this
        exact this
      refine rd_unp (SqT.of (gw.sm _ _ (gs.gr.pairs _ hm))) rfl ?_
      wtm_at "rd"
      refine rd_dat (.inl gw.di) (kvG_val m1) rfl ?_
      refine rd_tyL (gw.li _ m1).1 ?_
      wtm_at "rd"
      refine rd_append (gw.li _ m1).1 (by rw [List.length_map]; have := len es[i].2.1; omega) ?_
      have gw2 := gw.put (ys := nbrF ((es.map (·.2)).take i) es[i].2.1 ++ [es[i].2.2]) m1
      rw [List.map_append] at gw2
      wtm_at "rd"
      refine rd_dat (.inl gw2.di) (kvG_val m2) rfl ?_
      have l2 := (gw2.li _ m2).1
      have e2 : updV (fun m => nbrF ((es.map (·.2)).take i) m) es[i].2.1 (nbrF ((es.map (·.2)).take i) es[i].2.1 ++ [es[i].2.2]) es[i].2.2 = nbrF ((es.map (·.2)).take i) es[i].2.2 := if_neg (Ne.symm hne)
      rw [e2] at l2
      refine rd_tyL l2 ?_
      wtm_at "rd"
      refine rd_append l2 (by rw [List.length_map]; have := len es[i].2.2; omega) ?_
      have gw3 := gw2.put (ys := nbrF ((es.map (·.2)).take i) es[i].2.2 ++ [es[i].2.1]) m2
      rw [List.map_append] at gw3
      refine ⟨_, _, _, _, rfl, gw3.sm, gw3.di, fun m hm => ⟨?_, (gw3.li m hm).2⟩, gw3.ap⟩
      refine (gw3.li m hm).1.trans ?_
      congr 3
      rw [tk]
      unfold updV
      by_cases c2 : m = es[i].2.2
      · subst c2
        rw [if_pos rfl, if_neg hne, if_pos rfl, List.nil_append]
      · rw [if_neg c2]
        by_cases c1 : m = es[i].2.1
        · subst c1
          rw [if_pos rfl, if_pos rfl, if_neg (Ne.symm hne), List.append_nil]
        · rw [if_neg c1, if_neg (Ne.symm c1), if_neg (Ne.symm c2), List.append_nil, List.append_nil]
    rintro σ H2 ⟨u4, u5, u6, u7, rfl, gw2⟩
    rw [List.length_map, List.take_of_length_le (by rw [List.length_map]; exact Nat.le_refl _)] at gw2
    wtm_at "rd"
    refine rd_lockE gw2.di fun od => ?_
    wtm_at "rd"
    refine rd_forI upd_same ?_
    intro D2 fD2
    have nDa := new_ne fD2
    have fD20 := new_old fD2
    refine dcW walk_items (fun i H' => ∃ A2 : Str → Addr, But D H2 H' ∧ H' D = some (.frz od (.dK (kvG ns fun n => .ref (A n)))) ∧ H' D2 = some (.dK (kvG (ns.take i) fun n => .ref (A2 n))) ∧ (∀ m ∈ ns.take i, ∃ ys : List Str, H' (A2 m) = some (.lst (ys.map V.str)) ∧ (ys.Perm (nbrF (es.map (·.2)) m) ∧ ys.Pairwise fun a b => ¬ sLt b a)) ∧ ∀ m ∈ ns.take i, H (A2 m) = none)
      ⟨fun _ => 0, But.upd.trans (But.new fD2), at_upd (Ne.symm nDa) upd_same, upd_same, (fun m hm => nomatch hm), fun m hm => nomatch hm⟩ ?_ ?_ ?_
    · rintro i H' hi ⟨A2, _, hf, _⟩
      exact hf
    · rintro i x H' H3 hi ⟨A2, but, hf, hD, hl, fre⟩ ⟨T, x1, y1, rfl, fT, rfl, e1, e2⟩
      obtain ⟨hin, rfl, rfl⟩ := kvG_at e1 e2
      have hmem := List.getElem_mem hin
      have nin := not_take gs.nd hin
      have but2 : But D H2 (upd H' T (.tup [.str ns[i], .ref (A ns[i])])) := but.trans (But.new fT)
      have hf2 := at_upd (o := .tup [.str ns[i], .ref (A ns[i])]) (ne_of_none hf fT) hf
      have hD3 := at_upd (o := .tup [.str ns[i], .ref (A ns[i])]) (ne_of_none hD fT) hD
      have hl2 : ∀ m ∈ ns.take i, ∃ ys : List Str, upd H' T (.tup [.str ns[i], .ref (A ns[i])]) (A2 m) = some (.lst (ys.map V.str)) ∧ (ys.Perm (nbrF (es.map (·.2)) m) ∧ ys.Pairwise fun a b => ¬ sLt b a) := fun m hm => by
        obtain ⟨ys, z1, z2⟩ := hl m hm
        exact ⟨ys, at_upd (ne_of_none z1 fT) z1, z2⟩
      refine rd_unp (SqT.of upd_same) rfl ?_
      have ha := but2 _ _ (ne_of (gw2.li _ hmem).1 gw2.di (by intro z; cases z)) (gw2.li _ hmem).1
      generalize upd H' T (.tup [.str ns[i], .ref (A ns[i])]) = H4 at but2 hf2 hD3 hl2 ha
      wtm_at "rd"
      refine rd_sortS (SqL.of ha) (by have := nbrF_len (x := ns[i]) (es := es.map (·.2)); rw [List.length_map] at this; have := gs.l3; omega) ?_
      intro ys py sy l2 fl2
      refine rd_accD (k := .inr ns[i]) rfl (at_upd (ne_of_none hD3 fl2) hD3) (by rw [List.length_map, List.length_take]; have := gs.l2; omega) ?_
      have nl2D : l2 ≠ D2 := Ne.symm (ne_of_none hD3 fl2)
      have nH : H l2 = none := new_of_same gw2.sm (but2.free (Ne.symm (ne_of_none hf2 fl2)) fl2)
      refine ⟨updV A2 ns[i] l2, fun b' o' nb hb' => at_upd (ne_of_none hb' fD20) ((but2.trans (But.new fl2)) b' o' nb hb'), at_upd (Ne.symm nDa) (at_upd (ne_of_none hf2 fl2) hf2), ?_, ?_, ?_⟩
      · rw [upd_same, kvG_new nin, take_snoc hin]
        congr 2
        refine List.map_congr_left fun m _ => ?_
        show ((Sum.inr m : Key), updV (fun n => V.ref (A2 n)) ns[i] (.ref l2) m) = (Sum.inr m, V.ref (updV A2 ns[i] l2 m))
        unfold updV
        by_cases z : m = ns[i]
        · rw [if_pos z, if_pos z]
        · rw [if_neg z, if_neg z]
      · intro m hm
        rw [take_snoc hin] at hm
        unfold updV
        rcases List.mem_append.mp hm with hm | hm
        · rw [if_neg (fun z => nin (by rw [← z]; exact hm))]
          obtain ⟨zs, z1, z2⟩ := hl2 m hm
          exact ⟨zs, at_upd (ne_of z1 hD3 (by intro z; cases z)) (at_upd (ne_of_none z1 fl2) z1), z2⟩
        · rw [List.mem_singleton] at hm
          subst hm
          rw [if_pos rfl]
          exact ⟨ys, at_upd nl2D upd_same, py, sy⟩
      · intro m hm
        rw [take_snoc hin] at hm
        unfold updV
        rcases List.mem_append.mp hm with hm | hm
        · rw [if_neg (fun z => nin (by rw [← z]; exact hm))]
          exact fre m hm
        · rw [List.mem_singleton] at hm
          subst hm
          rw [if_pos rfl]
          exact nH
    rintro H' ⟨A2, but, hf, hD, hl, fre⟩
    rw [List.length_map, List.take_length] at hD hl fre
    refine ⟨hf, q D2 A2 _ (gw2.sm.trans (lk_same gw2.di but)) (new_of_same gw2.sm fD20) ⟨at_upd nDa hD, fun m hm => ?_⟩ fre⟩
    obtain ⟨ys, z1, z2⟩ := hl m hm
    exact ⟨ys, at_upd (ne_of z1 hf (by intro z; cases z)) z1, z2⟩
theorem ok_adj {f : Addr} {fd : FuncData} (F : Fun K "adjacency" "adjacency" s_adjacency f fd) (B : Bt mg) : FnG P w K mg base CX0 1 f fd ["graph"] spAdj := FnG.weak (ok_adjF F B) fun _ _ _ _ h => adj_weak h
end
end Law

namespace Law
open PySem PySem.Spec PyProof.Rows L2 U
local macro_rules | `(tactic| wtm_at "rd1") => `(tactic| first
  | with_reducible refine rd_seq ?_
  | ((with_reducible refine rd_var (v := ?vv) ?hv ?_); (case hv => exact rfl))
  | with_reducible refine rd_c ?_
  | with_reducible refine rd_cons ?_
  | with_reducible refine rd_nil ?_
  | with_reducible refine rd_op ?_
  | with_reducible refine rd_asg ?_
  | with_reducible refine rd_name ?_
  | with_reducible refine rd_c1 ?_
  | with_reducible refine rd_cb ?_
  | with_reducible refine rd_test ?_
  | with_reducible refine rd_B ?_
  | with_reducible refine rd_bl ?_
  | with_reducible refine rd_if ?_
  | with_reducible refine rd_ret ?_
  | with_reducible refine rd_drop ?_
  | with_reducible refine rd_next ?_
  | with_reducible refine rd_addI ?_
  | with_reducible refine rd_ltI ?_
  | with_reducible refine rd_eqI ?_
  | with_reducible refine rd_neI ?_
  | with_reducible refine rd_eqS ?_
  | with_reducible refine rd_neS ?_
  | with_reducible refine rd_gtI ?_
  | with_reducible refine rd_geI ?_
  | with_reducible refine rd_leI ?_
  | with_reducible refine rd_ltS ?_
  | with_reducible refine rd_subI ?_
  | ((with_reducible refine rd_modI ?hc ?_); (case hc => first | decide | omega))
  | ((with_reducible refine rd_mulI ?hc ?_); (case hc => first | exact mul_bI | exact .inl (.inr (by decide)) | exact .inl (.inl (by decide)) | exact .inl (.inr (by omega)) | exact .inl (.inl (by omega))))
  | ((with_reducible refine rd_divI ?hc ?_); (case hc => first | decide | omega))
  | ((with_reducible refine rd_powI ?hc ?_); (case hc => exact ⟨by decide, by decide, by decide⟩))
  | with_reducible refine rd_lst ?_
  | with_reducible refine rd_tup ?_
  | ((with_reducible refine rd_sz ?hv ?_); (case hv => exact rfl))
  | with_reducible refine rd_and ?_
  | with_reducible refine rd_or ?_
  | with_reducible refine rd_not ?_
  | with_reducible refine rd_andV ?_
  | with_reducible refine rd_orV ?_
  | with_reducible refine rd_notV ?_
  | with_reducible refine rd_ifE ?_
  | with_reducible refine rd_T ?_
  | with_reducible refine rd_F ?_
  | with_reducible refine rd_chain ?_
  | with_reducible refine rd_is ?_
  | with_reducible refine rd_isNot ?_
  | with_reducible refine rd_absI ?_
  | with_reducible refine rd_maxI ?_
  | with_reducible refine rd_minI ?_
  | with_reducible refine rd_intI ?_
  | with_reducible refine rd_intB ?_
  | with_reducible refine rd_sub ?_
  | with_reducible refine rd_sl ?_
  | with_reducible refine rd_noPart ?_
  | with_reducible refine rd_part ?_
  | with_reducible refine rd_exI ?_
  | with_reducible refine rd_bm ?_
  | with_reducible refine rd_bm0 ?_
  | with_reducible refine rd_un ?_
  | with_reducible refine rd_neg ?_
  | with_reducible refine rd_c2 ?_
  | with_reducible refine rd_retN ?_
  | with_reducible refine rd_break ?_
  | with_reducible refine rd_cont ?_
  | with_reducible refine rd_for ?_
  | with_reducible refine rd_rng1 ?_
  | with_reducible refine rd_rng2 ?_
  | with_reducible refine rd_iList ?_
  | with_reducible refine rd_iTup ?_
  | with_reducible refine rd_iEnum ?_
  | ((with_reducible refine rd_forR ?h0 ?h1 ?_); (case h0 => omega); (case h1 => omega))
  | with_reducible refine rd_lc ?_
  | with_reducible refine rd_gcons ?_
  | with_reducible refine rd_gnil ?_
  | with_reducible refine rd_dget ?_
  | with_reducible refine rd_dput ?_
  | with_reducible refine rd_dnew ?_
  | with_reducible refine rd_dc ?_
  | with_reducible refine rd_iItems ?_
  | with_reducible refine rd_iKeys ?_
  | with_reducible refine rd_din ?_
  | with_reducible refine rd_lc2 ?_
  | with_reducible refine rd_cd ?_
  | with_reducible refine rd_par ?_
  | with_reducible refine rd_two ?_
  | with_reducible refine rd_reprB ?_
  | with_reducible refine rd_ck ?_
  | ((with_reducible refine rd_len ?hl ?_); (case hl => exact rfl))
  | with_reducible refine rd_nT ?_
  | with_reducible refine rd_nF ?_
  | with_reducible refine rd_dnin ?_
  | with_reducible refine rd_isB ?_
  | with_reducible refine rd_isNotB ?_
  | with_reducible refine rd_daug ?_
  | with_reducible refine rd_yesT ?_
  | ((with_reducible refine rd_wp ?hw ?_); (case hw => exact rfl)))
local macro_rules | `(tactic| wtm_at "rd") => `(tactic| repeat wtm_at "rd1")

def valsF (es : List (Str × Str)) (f : Str → Int) (x : Str) (pn : List Str) : List Int := if x ∈ pn then [] else ([0, 1, 2] : List Int).filter (freeB es f x)
def spVals (K : PySem.W.Frag) : Sp := fun vs H Q _ => ∃ (st al ps : Addr) (x : Str) (ord ys pn : List Str) (es : List (Str × Str)) (f : Str → Int), vs = [.ref st, .str x, .ref al, .ref ps] ∧ H st = some (.dK (kvF ord f)) ∧ x ∈ ord ∧ H al = some (.lst (ys.map V.str)) ∧ (∀ y ∈ ys, y ∈ ord) ∧
  ys.Perm (nbrF es x) ∧ ys.length ≤ 2000 ∧ SqT K H ps (pn.map V.str) ∧ ∀ (l : Addr) (H' : Hp), Same H H' → H l = none → H' l = some (.lst ((valsF es f x pn).map V.int)) → Q (.ref l) H'
section
variable {P : Program} {w : World} {K : PySem.W.Frag} {mg : Str → Option Value} {base : Heap}
theorem ok_vals {f : Addr} {fd : FuncData} {va : Addr} (F : Fun K "values_for" "values_for" s_values_for f fd) (B : Bt mg) (hV : mg "VALUES" = some (.ref va)) (sV : ∀ H, SqT K H va ([0, 1, 2].map V.int)) : FnG P w K mg base CX0 1 f fd ["state", "node", "adjacent", "pinned"] (spVals K) := by
  refine fnG0 F sc_values_for (fun vs H Q E h => ?_) (fun cdv A outer s H vs Q E hr h => ?_)
  · obtain ⟨st, al, ps, x, ord, ys, pn, es, f, rfl, _⟩ := h
    rfl
  · obtain ⟨st, al, ps, x, ord, ys, pn, es, f, rfl, hst, hx, hal, hys, py, yl, hps, q⟩ := h
    have nd := sc_values_for.nd
    have hu := hr.u1
    refine ⟨_, (pss_cons (ps_if (pt_cmpR (kIn K rfl) (pv 1) (pv 3) rfl) (pss_one (ps_ret (pe_lst pa_nil))) pss_nil)
  (pss_cons (ps_set (i := 4) nd rfl (by first | exact Or.inl rfl | exact Or.inr rfl) (pe_op (kAdd K rfl) (pe_lst (pa_cons (pe_dget hu (pv 0) (pv 1) (fun _ _ => rfl)) pa_nil)) (pe_lc (own := [("other", 5)]) rfl nd (ki_list K rfl (pv 2)) (blkOk_by (own := [("other", 5)]) (N := nN_values_for) (sc := defScope s_values_for) (by decide +kernel)) (fun _ _ _ _ _ => (pg_name (i := 5) nd rfl (by first | exact Or.inl rfl | exact Or.inr rfl))) (fun _ _ _ _ _ => pts_nil) (fun _ _ _ _ _ => (pe_dget hu (pv 0) (pv 5) (fun _ _ => rfl))))))
  (pss_one (ps_ret (pe_lc (own := [("value", 6)]) rfl nd (ki_tup K rfl (pe_gl (v := .ref va) rfl ⟨_, hV, rfl⟩)) (blkOk_by (own := [("value", 6)]) (N := nN_values_for) (sc := defScope s_values_for) (by decide +kernel)) (fun _ _ _ _ _ => (pg_name (i := 6) nd rfl (by first | exact Or.inl rfl | exact Or.inr rfl))) (fun _ _ _ _ _ => (pts_one (pt_cmpR (kNotIn K rfl) (pv 6) (pv 4) rfl))) (fun _ _ _ _ _ => (pv 6))))))), ?_⟩
    wtm_at "rd"
    refine rd_inST hps ?_
    wtm_at "rd"
    unfold valsF at q
    refine rd_split (fun c => ?_) (fun c => ?_)
    · rw [if_pos c] at q
      wtm_at "rd"
      exact fun l fl => q l _ (Same.new fl) fl upd_same
    · rw [if_neg c] at q
      wtm_at "rd"
      refine rd_dat (.inl hst) (kvF_val hx) rfl ?_
      wtm_at "rd"
      intro t ft
      have s1 := Same.new (o := .lst [.int (f x)]) ft
      have ht := @upd_same H t (.lst [.int (f x)])
      generalize upd H t (.lst [.int (f x)]) = H1 at s1 ht
      wtm_at "rd"
      refine rd_forL (SqL.of (s1 _ _ hal)) ?_
      intro D fD
      refine lcL (K := K) (xs := ys.map V.str) (fun j H' => Same H1 H' ∧ H' D = some (.lst (((ys.take j).map f).map V.int))) ⟨Same.new fD, upd_same⟩ ?_ ?_ ?_
      · rintro j H' hj ⟨sb, _⟩
        exact SqL.of (sb _ _ (s1 _ _ hal))
      · rintro j y H' hy ⟨sb, hD⟩
        obtain ⟨hj, rfl⟩ := map_at hy
        wtm_at "rd"
        refine rd_dat (.inl (sb _ _ (s1 _ _ hst))) (kvF_val (hys _ (List.getElem_mem hj))) rfl ?_
        refine rd_acc hD (by rw [List.length_map, List.length_map, List.length_take]; omega) ?_
        refine ⟨same_put sb fD, ?_⟩
        rw [upd_same, take_snoc hj, List.map_append, List.map_append]
        rfl
      rintro H2 ⟨sb, hD⟩
      rw [List.length_map, List.take_length] at hD
      have s2 := s1.trans sb
      wtm_at "rd"
      refine rd_catL (sb _ _ ht) hD (by rw [List.length_map, List.length_map]; simp only [List.length_singleton]; omega) ?_
      intro ex fex
      have s3 := same_add (o := .lst ([V.int (f x)] ++ (ys.map f).map V.int)) s2 fex
      have hex : upd H2 ex (.lst ([V.int (f x)] ++ (ys.map f).map V.int)) ex = some (.lst (([f x] ++ ys.map f).map V.int)) := by
        rw [upd_same, List.map_append]
        rfl
      generalize upd H2 ex (.lst ([V.int (f x)] ++ (ys.map f).map V.int)) = H3 at s3 hex
      wtm_at "rd"
      refine rd_forT (sV _) ?_
      intro D2 fD2
      refine lcT (K := K) (xs := ([0, 1, 2] : List Int).map V.int) (fun j H' => Same H3 H' ∧ H' D2 = some (.lst (((([0, 1, 2] : List Int).take j).filter (freeB es f x)).map V.int))) ⟨Same.new fD2, upd_same⟩ ?_ ?_ ?_
      · rintro j H' hj _
        exact sV _
      · rintro j y H' hy ⟨sc, hD2⟩
        obtain ⟨hj, rfl⟩ := map_at hy
        have fb : freeB es f x ([0, 1, 2] : List Int)[j] = !decide (([0, 1, 2] : List Int)[j] ∈ [f x] ++ ys.map f) := by
          unfold freeB
          congr 1
          refine decide_eq_decide.mpr ?_
          rw [List.mem_append, List.mem_append, (py.map f).mem_iff]
          exact Or.comm
        have tj := take_snoc hj
        have fl : ((([0, 1, 2] : List Int).take j).filter (freeB es f x)).length ≤ 3 := by
          have h2 := List.length_filter_le (freeB es f x) (([0, 1, 2] : List Int).take j)
          rw [List.length_take] at h2
          simp only [List.length_cons, List.length_nil] at h2
          omega
        generalize ([0, 1, 2] : List Int)[j] = v at *
        wtm_at "rd"
        refine rd_ninIL (SqL.of (sc _ _ hex)) ?_
        wtm_at "rd"
        rw [← fb]
        cases c2 : freeB es f x v with
        | true =>
          rw [if_pos rfl]
          wtm_at "rd"
          refine rd_acc hD2 (by rw [List.length_map]; omega) ?_
          refine ⟨same_put sc fD2, ?_⟩
          rw [upd_same, tj, List.filter_append, List.map_append, List.filter_cons_of_pos c2, List.filter_nil]
          rfl
        | false =>
          rw [if_neg Bool.false_ne_true]
          refine ⟨sc, ?_⟩
          rw [hD2, tj, List.filter_append, List.filter_cons_of_neg (by rw [c2]; exact Bool.false_ne_true), List.filter_nil, List.append_nil]
      · rintro H4 ⟨sc, hD2⟩
        exact q D2 H4 (s3.trans sc) (new_of_same s3 fD2) hD2
end
end Law

namespace Law
open PySem PySem.Spec PyProof.Rows L2 U
local macro_rules | `(tactic| wtm_at "rd1") => `(tactic| first
  | with_reducible refine rd_seq ?_
  | ((with_reducible refine rd_var (v := ?vv) ?hv ?_); (case hv => exact rfl))
  | with_reducible refine rd_c ?_
  | with_reducible refine rd_cons ?_
  | with_reducible refine rd_nil ?_
  | with_reducible refine rd_op ?_
  | with_reducible refine rd_asg ?_
  | with_reducible refine rd_name ?_
  | with_reducible refine rd_c1 ?_
  | with_reducible refine rd_cb ?_
  | with_reducible refine rd_test ?_
  | with_reducible refine rd_B ?_
  | with_reducible refine rd_bl ?_
  | with_reducible refine rd_if ?_
  | with_reducible refine rd_ret ?_
  | with_reducible refine rd_drop ?_
  | with_reducible refine rd_next ?_
  | with_reducible refine rd_addI ?_
  | with_reducible refine rd_ltI ?_
  | with_reducible refine rd_eqI ?_
  | with_reducible refine rd_neI ?_
  | with_reducible refine rd_eqS ?_
  | with_reducible refine rd_neS ?_
  | with_reducible refine rd_gtI ?_
  | with_reducible refine rd_geI ?_
  | with_reducible refine rd_leI ?_
  | with_reducible refine rd_ltS ?_
  | with_reducible refine rd_subI ?_
  | ((with_reducible refine rd_modI ?hc ?_); (case hc => first | decide | omega))
  | ((with_reducible refine rd_mulI ?hc ?_); (case hc => first | exact mul_bI | exact .inl (.inr (by decide)) | exact .inl (.inl (by decide)) | exact .inl (.inr (by omega)) | exact .inl (.inl (by omega))))
  | ((with_reducible refine rd_divI ?hc ?_); (case hc => first | decide | omega))
  | ((with_reducible refine rd_powI ?hc ?_); (case hc => exact ⟨by decide, by decide, by decide⟩))
  | with_reducible refine rd_lst ?_
  | with_reducible refine rd_tup ?_
  | ((with_reducible refine rd_sz ?hv ?_); (case hv => exact rfl))
  | with_reducible refine rd_and ?_
  | with_reducible refine rd_or ?_
  | with_reducible refine rd_not ?_
  | with_reducible refine rd_andV ?_
  | with_reducible refine rd_orV ?_
  | with_reducible refine rd_notV ?_
  | with_reducible refine rd_ifE ?_
  | with_reducible refine rd_T ?_
  | with_reducible refine rd_F ?_
  | with_reducible refine rd_chain ?_
  | with_reducible refine rd_is ?_
  | with_reducible refine rd_isNot ?_
  | with_reducible refine rd_absI ?_
  | with_reducible refine rd_maxI ?_
  | with_reducible refine rd_minI ?_
  | with_reducible refine rd_intI ?_
  | with_reducible refine rd_intB ?_
  | with_reducible refine rd_sub ?_
  | with_reducible refine rd_sl ?_
  | with_reducible refine rd_noPart ?_
  | with_reducible refine rd_part ?_
  | with_reducible refine rd_exI ?_
  | with_reducible refine rd_bm ?_
  | with_reducible refine rd_bm0 ?_
  | with_reducible refine rd_un ?_
  | with_reducible refine rd_neg ?_
  | with_reducible refine rd_c2 ?_
  | with_reducible refine rd_retN ?_
  | with_reducible refine rd_break ?_
  | with_reducible refine rd_cont ?_
  | with_reducible refine rd_for ?_
  | with_reducible refine rd_rng1 ?_
  | with_reducible refine rd_rng2 ?_
  | with_reducible refine rd_iList ?_
  | with_reducible refine rd_iTup ?_
  | with_reducible refine rd_iEnum ?_
  | ((with_reducible refine rd_forR ?h0 ?h1 ?_); (case h0 => omega); (case h1 => omega))
  | with_reducible refine rd_lc ?_
  | with_reducible refine rd_gcons ?_
  | with_reducible refine rd_gnil ?_
  | with_reducible refine rd_dget ?_
  | with_reducible refine rd_dput ?_
  | with_reducible refine rd_dnew ?_
  | with_reducible refine rd_dc ?_
  | with_reducible refine rd_iItems ?_
  | with_reducible refine rd_iKeys ?_
  | with_reducible refine rd_din ?_
  | with_reducible refine rd_lc2 ?_
  | with_reducible refine rd_cd ?_
  | with_reducible refine rd_par ?_
  | with_reducible refine rd_two ?_
  | with_reducible refine rd_reprB ?_
  | with_reducible refine rd_ck ?_
  | ((with_reducible refine rd_len ?hl ?_); (case hl => exact rfl))
  | with_reducible refine rd_nT ?_
  | with_reducible refine rd_nF ?_
  | with_reducible refine rd_dnin ?_
  | with_reducible refine rd_isB ?_
  | with_reducible refine rd_isNotB ?_
  | with_reducible refine rd_daug ?_
  | with_reducible refine rd_yesT ?_
  | ((with_reducible refine rd_wp ?hw ?_); (case hw => exact rfl)))
local macro_rules | `(tactic| wtm_at "rd") => `(tactic| repeat wtm_at "rd1")

def spIsInt (K : PySem.W.Frag) : Sp := fun vs H Q _ => ∃ (x : V) (a : Ty), vs = [x] ∧ TyIs K H x a ∧ Q (.bl (decide (a = .int))) H
def playF (f : Str → Int) (ms : List (Str × Int)) : Str → Int := ms.foldl (fun f m => updf f m.1 m.2) f
def LegalSeq (ns : List Str) (es : List (Str × Str)) (pn : List Str) (f : Str → Int) (ms : List (Str × Int)) : Prop := ∀ i (h : i < ms.length), Legal ns es (playF f (ms.take i)) pn ms[i]
theorem playF_snoc {f : Str → Int} {ms : List (Str × Int)} {m : Str × Int} : playF f (ms ++ [m]) = updf (playF f ms) m.1 m.2 := by
  unfold playF
  rw [List.foldl_append]
  rfl
theorem plays_seq {ns : List Str} {es : List (Str × Str)} {pn : List Str} {f : Str → Int} {ms : List (Str × Int)} {f' : Str → Int} (h : Plays ns es pn f ms f') : LegalSeq ns es pn f ms ∧ f' = playF f ms := by
  induction h with
  | nil => exact ⟨(fun i h => nomatch h), rfl⟩
  | @snoc ms f' m p l ih =>
    obtain ⟨i1, i2⟩ := ih
    refine ⟨fun i h => ?_, by rw [playF_snoc, ← i2]⟩
    rw [List.length_append, List.length_singleton] at h
    by_cases c : i < ms.length
    · rw [List.take_append_of_le_length (by omega), List.getElem_append_left c]
      exact i1 i c
    · have : i = ms.length := by omega
      subst this
      rw [List.take_append_of_le_length (Nat.le_refl _), List.take_length, List.getElem_append_right (Nat.le_refl _)]
      simp only [Nat.sub_self, List.getElem_cons_zero]
      rw [← i2]
      exact l
theorem upd_ok {ns : List Str} {es : List (Str × Str)} {pn : List Str} {f : Str → Int} {m : Str × Int} (ok : EsOk ns es f) (l : Legal ns es f pn m) : EsOk ns es (updf f m.1 m.2) := by
  refine (move_keeps (f0 := f) (h := fun _ => 0) ok l fun e _ => ?_).1
  omega
theorem seq_ok {ns : List Str} {es : List (Str × Str)} {pn : List Str} {f : Str → Int} {ms : List (Str × Int)} (ok : EsOk ns es f) (l : LegalSeq ns es pn f ms) : ∀ i, i ≤ ms.length → EsOk ns es (playF f (ms.take i))
  | 0, _ => by
    rw [List.take_zero]
    exact ok
  | i + 1, h => by
    rw [take_snoc (by omega : i < ms.length), playF_snoc]
    exact upd_ok (seq_ok ok l i (by omega)) (l i (by omega))
theorem GSt.re {H : Hp} {g n e st st' : Addr} {ns ord : List Str} {es : List (Addr × Str × Str)} {f f' : Str → Int} (h : GSt H g n e st ns ord es f) (hs : H st' = some (.dK (kvF ord f'))) (ok : EsOk ns (es.map (·.2)) f') : GSt H g n e st' ns ord es f' :=
  ⟨h.gr, h.ok, h.pm, h.l2, h.l3, hs, ok.tri, fun x hx => ok.pro _ (List.mem_map_of_mem hx)⟩
def spPins : Sp := fun vs H Q _ => ∃ (p g n e st : Addr) (ns ord : List Str) (es : List (Addr × Str × Str)) (f : Str → Int), vs = [.ref p, .ref g] ∧ PoolAt H p ∧ GSt H g n e st ns ord es f ∧
  ∀ (t : Addr) (pn : List Str) (H' : Hp), Go p H H' → H t = none → H' t = some (.tup (pn.map V.str)) → (∀ x ∈ pn, x ∈ ns) → pn.length ≤ 100 → Q (.ref t) H'
section
variable {P : Program} {w : World} {K : PySem.W.Frag} {mg : Str → Option Value} {base : Heap}
theorem ok_is_integer {f : Addr} {fd : FuncData} (F : Fun K "is_integer" "is_integer" s_is_integer f fd) (B : Bt mg) (Bb : mg "bool" = none) : FnG P w K mg base CX0 1 f fd ["candidate"] (spIsInt K) := by
  refine fnG0 F sc_is_integer (fun vs H Q E h => ?_) (fun cdv A outer s H vs Q E hr h => ?_)
  · obtain ⟨x, a, rfl, _⟩ := h
    rfl
  · obtain ⟨x, a, rfl, hx, q⟩ := h
    have nd := sc_is_integer.nd
    refine ⟨_, (pss_one (ps_ret (pe_and (pe_callB (kIsi K rfl) (by rfl) B.isinstance bb_isinstance (pa_cons (pv 0) (pa_cons (pe_ty rfl B.int bb_int) pa_nil))) (pe_one (pe_not (pe_callB (kIsi K rfl) (by rfl) B.isinstance bb_isinstance (pa_cons (pv 0) (pa_cons (pe_ty rfl Bb bb_bool) pa_nil)))))))), ?_⟩
    wtm_at "rd"
    refine rd_isi hx (t := .int) (by decide +kernel) ?_
    wtm_at "rd"
    refine rd_b (fun c => ?_) (fun c => ?_)
    · wtm_at "rd"
      refine rd_isi hx (t := .bl) (by decide +kernel) ?_
      wtm_at "rd"
      have : (!isT a .bl) = decide (a = .int) := by revert c; cases a <;> decide +kernel
      rw [this]
      exact q
    · have : decide (a = Ty.int) = false := by revert c; cases a <;> decide +kernel
      rw [this] at q
      exact q
structure C6 (P : Program) (w : World) (K : PySem.W.Frag) (mg : Str → Option Value) (base : Heap) : Prop where
  is_integer : Cal P w K mg base CX0 1 "is_integer" (spIsInt K)
structure C9p (P : Program) (w : World) (K : PySem.W.Frag) (mg : Str → Option Value) (base : Heap) : Prop where
  _law_draw : Cal P w K mg base CX0 1 "_law_draw" spDraw
theorem ok_pins {f : Addr} {fd : FuncData} (F : Fun K "_law_draw_pins" "_law_draw_pins" s__law_draw_pins f fd) (B : Bt mg) (C : C9p P w K mg base) : FnG P w K mg base CX0 2 f fd ["_law_pool_here", "_law_graph"] spPins := by
  refine fnG0 F sc__law_draw_pins (fun vs H Q E h => ?_) (fun cdv A outer s H vs Q E hr h => ?_)
  · obtain ⟨p, g, n, e, st, ns, ord, es, f, rfl, _⟩ := h
    rfl
  · obtain ⟨p, g, n, e, st, ns, ord, es, f, rfl, hp, gs, q⟩ := h
    have nd := sc__law_draw_pins.nd
    refine ⟨_, (pss_cons (ps_if (pt_cmpR (kEq K rfl hr.u64) (pe_c C._law_draw hr (by decide) rfl (pa_cons (pv 0) (pa_cons pe_int pa_nil))) pe_int (nomark _)) (pss_one (ps_ret (pe_tup pa_nil))) pss_nil)
  (pss_one (ps_ret (pe_callTy (kTuple K rfl) (by rfl) B.tuple bb_tuple (pa_cons (pe_lc (own := [("_law_node", 2)]) rfl nd (ki_tup K rfl (pe_ix (kIx K rfl) (pv 1) pe_int (fun _ _ => rfl))) (blkOk_by (own := [("_law_node", 2)]) (N := nN__law_draw_pins) (sc := defScope s__law_draw_pins) (by decide +kernel)) (fun _ _ _ _ _ => (pg_name (i := 2) nd rfl (by first | exact Or.inl rfl | exact Or.inr rfl))) (fun _ _ _ _ _ => (pts_one (pt_cmpR (kEq K rfl hr.u64) (pe_c C._law_draw hr (by decide) rfl (pa_cons (pv 0) (pa_cons pe_int pa_nil))) pe_int (nomark _)))) (fun _ _ _ _ _ => (pv 2))) pa_nil))))), ?_⟩
    wtm_at "rd"
    refine use_draw hp (by decide) (by decide) fun r H1 r0 r1 g1 => ?_
    wtm_at "rd"
    refine rd_split (fun c => ?_) (fun c => ?_)
    · wtm_at "rd"
      intro t ft
      exact q t [] _ (g1.new ft) (g1.free _ ft) upd_same (fun x hx => nomatch hx) (by decide)
    · wtm_at "rd"
      have gs1 := gs.go hp g1
      refine rd_ixT (SqT.of gs1.gr.top) (v := .ref n) rfl ?_
      refine rd_forT (SqT.of gs1.gr.nodes) ?_
      intro D fD
      have fD0 := g1.free _ fD
      have npD := g1.pool.ne fD
      refine lcT (K := K) (xs := ns.map V.str) (fun i H' => ∃ pn : List Str, Go p H H' ∧ H' D = some (.lst (pn.map V.str)) ∧ (∀ x ∈ pn, x ∈ ns) ∧ pn.length ≤ i) ⟨[], g1.new fD, upd_same, (fun x hx => nomatch hx), by decide⟩ ?_ ?_ ?_
      · rintro i H' hi ⟨pn, g, _⟩
        exact SqT.of (gs.go hp g).gr.nodes
      · rintro i y H' hy ⟨pn, g, hD, hin, hl⟩
        obtain ⟨hi, rfl⟩ := map_at hy
        have hm := List.getElem_mem hi
        wtm_at "rd"
        refine use_draw g.pool (by decide) (by decide) fun r2 H2 _ _ g2 => ?_
        have g3 := g.trans g2
        have hD2 := g2.at hD (Ne.symm npD)
        wtm_at "rd"
        refine rd_split (fun c2 => ?_) (fun c2 => ?_)
        · wtm_at "rd"
          refine rd_acc hD2 (by rw [List.length_map]; have := gs.l2; omega) ?_
          refine ⟨pn ++ [ns[i]], g3.put fD0 npD, ?_, ?_, by rw [List.length_append]; simp only [List.length_singleton]; omega⟩
          · rw [upd_same, List.map_append]
            rfl
          · intro x hx
            rcases List.mem_append.mp hx with h | h
            · exact hin x h
            · rw [List.mem_singleton] at h
              rw [h]
              exact hm
        · exact ⟨pn, g3, hD2, hin, by omega⟩
      rintro H3 ⟨pn, g, hD, hin, hl⟩
      rw [List.length_map] at hl
      wtm_at "rd"
      refine rd_tupleL (SqL.of hD) ?_
      intro t ft
      exact q t pn _ (g.new ft) (g.free _ ft) upd_same hin (by have := gs.l2; omega)
end
end Law

/-! exceptions that outlive their handler; own classes over own classes -/
namespace U
open PySem PySem.Spec PyProof.Rows L2
/-- at a: an exception of the class cls, its dict at d -/
def exk (a : Addr) (cls : Value) (d : Option Addr) : HO := .ext fun h => ∃ oe vs, h.get? a = some oe ∧ Zc cls d oe ∧ oe.data = .fields vs
theorem exk_ok {P : Program} {w : World} {H : Hp} {h : Heap} {a : Addr} {cls : Value} {d : Option Addr} {oe : Obj} {vs : Array Value} (e : h.get? a = some oe) (z : Zc cls d oe) (f : oe.data = .fields vs) : ObjOk P w H h a (exk a cls d) := by
  refine ⟨⟨oe, vs, e, z, f⟩, ⟨_, e⟩, fun h1 h2 t k => ?_⟩
  obtain ⟨o2, v2, e2, z2, f2⟩ := t
  exact ⟨o2, v2, k _ e2, z2, f2⟩
theorem exk_at {P : Program} {w : World} {H : Hp} {h : Heap} {a : Addr} {cls : Value} {d : Option Addr} (hok : HOk P w H h) (e : H a = some (exk a cls d)) : ∃ oe vs, h.get? a = some oe ∧ Zc cls d oe ∧ oe.data = .fields vs := by
  have t : ObjOk P w H h a (.ext fun h => ∃ oe vs, h.get? a = some oe ∧ Zc cls d oe ∧ oe.data = .fields vs) := hok a _ e
  exact t.1
section
variable {X : Cx} {pins : List (Addr × Obj)} {σ : L2.St} {H : Hp} {sI s' : Shared} {B : Heap} {a : Addr} {cls : Value} {d : Option Addr} {oe : Obj} {vs : Array Value}
/-- back on the ground, the exception tracked -/
theorem landed_k (I : Inv X pins σ H sI) (nb : ∀ b o, sI.heap.get? b = some o → b ∉ frs X.stack → B.get? b = some o) (st : B.StaysIn s'.heap) (up : sI.heap.UpToSlots s'.heap) (os : s'.os = sI.os) (ag : AllBare s'.gens)
    (hB : B.get? a = none) (nfr : a ∉ frs X.stack) (na : H a = none) (he : s'.heap.get? a = some oe) (hz : Zc cls d oe) (hd : oe.data = .fields vs) : Inv X pins σ (upd H a (exk a cls d)) s' := by
  have fr : ∀ b ∈ frs X.stack, ∀ o, sI.heap.get? b = some o → ∃ sl, s'.heap.get? b = some { o with slots := sl } := by
    intro b hb o e
    obtain ⟨_, o1, e1, h1⟩ := I.stack.mem hb
    rw [e] at e1
    cases e1
    exact up b o e h1
  have sIa : ∀ o, sI.heap.get? a ≠ some o := fun o e => by
    rw [nb a o e nfr] at hB
    cases hB
  have ok1 : HOk X.prog X.w H s'.heap := (I.inGround nb).kept st
  have ok2 : HOk X.prog X.w (upd H a (exk a cls d)) s'.heap := by
    intro b o e
    by_cases hb : b = a
    · subst hb
      rw [upd_same] at e
      cases e
      exact exk_ok he hz hd
    · rw [upd_ne hb] at e
      exact (ok1 b o e).stay (fun c v _ q => q) (fun c q => at_upd (ne_of_none q na) q) fun c xs q => at_upd (ne_of_none q na) q
  have J := I.call (ch := []) (h' := s'.heap) (g' := s'.gens) (t' := s'.toks) (d' := s'.drawn) (H' := upd H a (exk a cls d))
    { keep := fun b o e _ hb _ => st b o (nb b o e hb)
      slot := fun b o e _ hb _ => fr b hb o e
      free := fun b o e n _ => no_upd (fun z => sIa o (by rw [← z]; exact e)) n
      there := fun b o e _ => by
        by_cases hb : b ∈ frs X.stack
        · obtain ⟨sl, q⟩ := fr b hb o e
          exact ⟨_, q⟩
        · exact ⟨o, st b o (nb b o e hb)⟩
      tups := fun _ _ e => at_upd (ne_of_none e na) e
      frzs := fun _ _ _ e => at_upd (ne_of_none e na) e
      tbls := fun b ps e => ⟨#[], by rw [at_upd (ne_of_none e na) e]; simp⟩ } ok2 ag (fun _ z => nomatch z)
  obtain ⟨b1, b2, b3, b4, b5⟩ := s'
  have e5 : b5 = sI.os := os
  subst e5
  exact J
end
/-- the wish of 'except x as n', the exception tracked: slot i is n's -/
def wKeep (K : PySem.W.Frag) (c : Value) (i : Nat) (ts : TS) (Wout : WX) (D : Ends) : WX := fun cls d σ H =>
  ∃ b, PySem.W.exmOne K cls c = some b ∧ (b = false → Wout cls d σ H) ∧
    (b = true → ∀ a, H a = none → ts { nx := fun σ1 H1 => D.nx (σ1.set i none) H1, rt := D.rt, bk := fun σ1 H1 => D.bk (σ1.set i none) H1, ct := fun σ1 H1 => D.ct (σ1.set i none) H1 } (σ.set i (some (.ref a))) (upd H a (exk a cls d)))
section
variable {X : Cx} {x n : Str} {c : Value} {i : Nat} {body suite : List Stmt} {b₀ : Stmt} {np pos pos' : Pos} {tb : WX → TS} {ts : TS} {Wout : WX}
theorem ps_try_keep (hs : X.stack = X.env :: X.outer) (hf : X.env.frame = some X.env.locals) (hN : X.N.Nodup) (hi : X.N[i]? = some n) (hln : X.env.kindOf n = some .local) (hc : L2.Names X x c) (tk : Takes X Wout)
    (hb : ∀ (W : WX) (pn : List (Addr × Obj)) (xe : Value → Shared → Prop), Takes (X.tr pn xe) W → PassesOwn (model X.prog X.w) X.A X.env xe → PSs (X.tr pn xe) body (tb W))
    (hsu : ∀ (a : Addr) (pn : List (Addr × Obj)), PSs (X.suite a pn) (b₀ :: suite) ts) :
    PS X (.Try body [.ExceptHandler (some (.Name x np)) (some n) (b₀ :: suite) pos'] [] [] pos) (fun D σ H => tb (wKeep X.K c i ts Wout D) D σ H) := by
  refine ⟨fun pins s σ H D I want => ?_⟩
  have okX := I.ok
  have frX : X.A.frames = some (X.env :: X.outer) := by rw [okX.frames, hs]
  refine wpAny_Try_except ?_
  have run := (hb (wKeep X.K c i ts Wout D) (X.pn ++ pins) (fun e t1 => wpAny (model X.prog X.w) X.A (noteFrame e X.env) (fun _ t2 => wpAny (model X.prog X.w) X.A (setFlight e none) (fun _ t3 =>
    wpAny (model X.prog X.w) X.A (handleBy e X.env [.ExceptHandler (some (.Name x np)) (some n) (b₀ :: suite) pos']) (SP X pins D) X.xe t3) X.xe t2) X.xe t1) ?_ PassesOwn.looking).run [] s σ H D (I.toTry _) want
  · refine wpAny_mono run (fun f t1 h => ?_) fun _ _ z => z
    cases f with
    | next =>
      obtain ⟨σ1, H1, J, q⟩ := h
      exact wpAny_execs_nil ⟨σ1, H1, J.ofTry okX, q⟩
    | brk =>
      obtain ⟨σ1, H1, J, q⟩ := h
      exact ⟨σ1, H1, J.ofTry okX, q⟩
    | cont =>
      obtain ⟨σ1, H1, J, q⟩ := h
      exact ⟨σ1, H1, J.ofTry okX, q⟩
    | ret v =>
      obtain ⟨v1, σ1, H1, J, r, q⟩ := h
      exact ⟨v1, σ1, H1, J.ofTry okX, r, q⟩
  · intro u t0 xx
    obtain ⟨a, B, sI, pins1, σ1, H1, cls, d, rfl, J1, nb, up, sky, na, os, ag, b, hb1, hno, hyes⟩ := xx
    have J : Inv X pins σ1 H1 sI := J1.ofTry okX
    have sky1 : Sky B (X.env :: X.outer) a (Zc cls d) X.env.locals t0.heap := by rw [← hs]; exact sky
    show wpAny (model X.prog X.w) X.A (noteFrame (.ref a) X.env) _ _ _
    refine Sky.land Zc.steady frX hf sky1 fun h3 fl3 up3 => ?_
    have J3 : Inv X pins σ1 H1 { t0 with heap := h3 } := J.landed nb fl3.1 (up.trans up3) os ag
    obtain ⟨oe3, vs3, he3, hz3, hd3⟩ := fl3.there
    have off : ∀ {h : Heap} {o : Obj} {vs : Array Value}, h.FunFrames B (X.env :: X.outer) → h.get? a = some o → o.data = .fields vs → a ∉ frs (X.env :: X.outer) := by
      intro h o vs ff e dd hm
      obtain ⟨_, o1, e1, hnf⟩ := ff.mem hm
      rw [e] at e1
      cases e1
      exact hnf _ dd
    have nfr := off fl3.2.2.1 he3 hd3
    have nL : a ≠ X.env.locals := fun z => nfr (List.mem_filterMap.mpr ⟨X.env, List.mem_cons_self, by rw [hf, z]⟩)
    have nF : a ∉ X.fs := by
      intro hm
      obtain ⟨e, he, q⟩ := List.mem_filterMap.mp hm
      exact nfr (List.mem_filterMap.mpr ⟨e, List.mem_cons_of_mem _ he, q⟩)
    have S3 := J3.suite he3 hd3 na nL nF
    refine wpAny_handleBy_cons (codeAny_handlers_test ?_) (by intro q; cases q)
    have LT : PySem.W.Looks (model X.prog X.w) h3 (typeOf (.ref a)) cls := fun A Q E s k q => wpAny_typeOf_ref (k _ _ he3) (by rw [hz3.1]; exact q)
    have LM := PySem.W.exm_one (M := model X.prog X.w) (J3.kIn) LT hb1
    have named : ∀ {Q E : Value → Shared → Prop}, Q c { t0 with heap := h3 } → wpAny (model X.prog X.w) (X.A.mark (some (.ref a))) (eval (.Name x np) X.env) Q E { t0 with heap := h3 } := by
      intro Q E q
      obtain ⟨hg, hdbg, hm | ⟨hm, hv, hnn⟩⟩ := hc
      · exact ld_glob (X := X.suite a ((a, oe3) :: (X.pn ++ pins))) S3 hg hm q hdbg
      · exact ld_blt (X := X.suite a ((a, oe3) :: (X.pn ++ pins))) S3 hg hm hv q hnn hdbg
    refine named (LM.here ?_)
    cases b with
    | false =>
      show wpAny _ X.A (handleBy (.ref a) X.env []) _ _ _
      refine wpAny_handleBy_nil ?_
      obtain ⟨k1, k2, k3, oe, vs, T, oT, ts1, he, hz, hd, h1, hr⟩ := id fl3
      unfold PySem.passOn
      refine wpAny_bind (wpAny_field he hd h1 ?_)
      rw [if_neg (show ¬ ((Value.ref T == Value.none) = true) from by simp)]
      have onward : wpAny (model X.prog X.w) X.A (setFlight (.ref a) X.env.frame) (fun _ s4 => wpAny (model X.prog X.w) X.A (throw (.ref a) : Sem Flow) (SP X pins D) X.xe s4) X.xe { t0 with heap := h3 } := by
        rw [hf]
        refine HandSPX.setFlight_upZ fl3 fun h4 hh4 up4 => wpAny_throw (tk _ _ ?_)
        exact ⟨a, B, sI, pins, σ1, H1, cls, d, rfl, J, nb, (up.trans up3).trans up4, .inr (.inr (by rw [hs]; exact hh4)), na, os, ag, hno rfl⟩
      first
        | exact wpAny_bind (wpAny_pure (wpAny_bind onward))
        | exact wpAny_bind onward
    | true =>
      refine codeAny_handlers_suite_as ?_
      refine HandSPX.lands_againZ fl3 fun h4 fl4 up4 => ?_
      obtain ⟨oe4, vs4, he4, hz4, hd4⟩ := fl4.there
      have J4 : Inv X pins σ1 (upd H1 a (exk a cls d)) { t0 with heap := h4 } := landed_k J nb fl4.1 ((up.trans up3).trans up4) os ag fl4.2.1 (by rw [hs]; exact nfr) na he4 hz4 hd4
      have S4 : Inv (X.suite a (X.pn ++ pins)) [] σ1 (upd H1 a (exk a cls d)) { t0 with heap := h4 } :=
        ⟨J4.ok.suite _ _, J4.os, J4.bare, J4.base, J4.loc, J4.cell, J4.free, J4.freeC, fun p hp => J4.pin p (by rw [List.append_nil] at hp; exact hp), J4.hok, J4.len⟩
      refine store_ok (X := X.suite a (X.pn ++ pins)) (v := .ref a) S4 hN hi (.inl hln) rfl (fun s5 S5 => ?_) (.inr hln)
      refine wpAny_mono ((hsu a (X.pn ++ pins)).run [] s5 _ _ _ S5 (hyes rfl a na)) (fun f s6 hsp => ?_) (fun _ _ z => False.elim z)
      have back : ∀ {σ6 : L2.St} {H6 : Hp}, Inv (X.suite a (X.pn ++ pins)) [] σ6 H6 s6 → Inv X pins σ6 H6 s6 := fun S =>
        ⟨okX, S.os, S.bare, S.base, S.loc, S.cell, S.free, S.freeC, fun p hp => S.pin p (List.mem_append_left _ hp), S.hok, S.len⟩
      have over : ∀ {σ6 : L2.St} {H6 : Hp} {Q : Shared → Prop}, Inv (X.suite a (X.pn ++ pins)) [] σ6 H6 s6 → (∀ s7, Inv X pins (σ6.set i none) H6 s7 → Q s7) →
          wpAny (model X.prog X.w) X.A (do bindName X.env n .none; unbindBehindTheSuite X.env n pos') (fun _ s7 => Q s7) X.xe s6 := fun S6 hq => gone_ok (back S6) hN hi hln hq
      cases f with
      | next =>
        obtain ⟨σ6, H6, S6, q6⟩ := hsp
        exact over S6 fun s7 J7 => ⟨_, _, J7, q6⟩
      | brk =>
        obtain ⟨σ6, H6, S6, q6⟩ := hsp
        exact over S6 fun s7 J7 => ⟨_, _, J7, q6⟩
      | cont =>
        obtain ⟨σ6, H6, S6, q6⟩ := hsp
        exact over S6 fun s7 J7 => ⟨_, _, J7, q6⟩
      | ret v =>
        obtain ⟨v6, σ6, H6, S6, r6, q6⟩ := hsp
        exact over S6 fun s7 J7 => ⟨_, _, _, J7, r6, q6⟩
end
/-! e.f of a tracked exception -/
def tXk (K : PySem.W.Frag) (f : Str) (te : TE) : TE := fun σ H Q => te σ H fun x H1 => ∃ (a C dd : Addr) (fs : List (Str × V)) (v : V), x = .ref a ∧ H1 a = some (exk a (.ref C) (some dd)) ∧ XfC K C ∧ PySem.W.findIn K (.ref C) f = some none ∧ H1 dd = some (.xd fs) ∧ fs.lookup f = some v ∧ Q v H1
theorem pe_xk {X : Cx} {e : Expr} {te : TE} {pos : Pos} {n : Str} (he : PE X e te) (hb : attributeBase e n X.env (eval e X.env) = eval e X.env := by rfl) : PE X (.Attribute e n pos) (tXk X.K n te) := by
  refine ⟨fun pins s σ H Q I want => attr_of hb (thn (he.run pins s σ H _ I want) fun u s1 got => ?_)⟩
  obtain ⟨x, H1, I1, rx, a, C, dd, fs, v, rfl, hk, T, hno, hdd, hl, q⟩ := got
  obtain rfl : u = Value.ref a := rx
  obtain ⟨oe, vs, h1, hz, hd⟩ := exk_at I1.hok hk
  have hx : ObjOk X.prog X.w H1 s1.heap dd (.xd fs) := I1.hok dd _ hdd
  obtain ⟨mA, hns, hr⟩ := hx
  obtain ⟨od, ho, hl2⟩ := lookIn_ns hns
  obtain ⟨u2, hu, ru⟩ := RelO.some_of (v := v) (o := mA n) (by rw [← hl]; exact hr n)
  have J : PySem.W.InstAt s1.heap a oe C (some od) := by
    refine ⟨h1, hz.1, ?_, ?_⟩
    · unfold PySem.W.notCls
      rw [hd] <;> rfl
    · rw [hz.2]
      exact ho
  exact HandSPX.exc_get I1.kIn J T.ga T.gg T.exC (PySem.W.findObj_own T.hdC hno rfl (by rw [hl2, hu])) (handed_of ru) ⟨v, H1, I1.tok _, ru, q⟩
/-! Base.__init__(self, ..), Base an own class over ValueError with no __init__ of its own -/
structure BaseI (K : PySem.W.Frag) (CB : Addr) : Prop where
  kp : PySem.W.keepIn K (.ref CB) = true
  ga : PySem.W.specialIn K (.ref CB) "__getattribute__" = some (some (.builtin "type.__getattribute__"))
  rd : PySem.W.readsIn K CB (.type "type") = true
  at_ : PySem.W.findCls K (.ref CB) (.type "type") "__init__" = some (.val (.builtin "ValueError.__init__"))
theorem pe_binit {X : Cx} {x : Str} {CB : Addr} {e : Expr} {es : List Expr} {ta : TA} {p1 p2 pos : Pos} {pl : Sem Bool} (hg : Gl X x) (hm : X.mg x = some (.ref CB)) (T : BaseI X.K CB) (ha : PA X (e :: es) ta)
    (hc : eval (.Call (.Attribute (.Name x p1) "__init__" p2) (e :: es) [] pos) X.env = (do
      let ov ← eval (.Name x p1) X.env
      standAt p2.atName
      let (f, first) ← holding [ov] (getMethod ov "__init__" pl)
      callWith pos f first (backTo pos (starEach (e :: es) X.env)) (backToKw pos (keywordEach [] X.env))) := by rfl)
    (hdb : (x == ("__debug__" : Str)) = false := by decide)
    (he : starEach (e :: es) X.env = (false, eval e X.env) :: starEach es X.env := by rfl) (hpl : (backTo pos (starEach es X.env)).any (·.1) = false := by rfl) :
    PE X (.Call (.Attribute (.Name x p1) "__init__" p2) (e :: es) [] pos) (tVeI X.K ta) := by
  refine ⟨fun pins s σ H Q I want => ?_⟩
  refine PySem.W.methodCall_KW (ld_glob I hg hm ?_ hdb) hc
  refine PySem.W.method_cls I.kIn T.ga (PySem.W.cls_value I.kIn T.rd T.at_ (by decide +kernel) ?_)
  show wpAny _ _ (callWith pos (Value.builtin "ValueError.__init__") [] (backTo pos (starEach (e :: es) X.env)) []) _ _ _
  refine PyProof.Rows.callWith_method1 (thn (ha.run pos pins _ σ H _ (I.tok _) want) fun us s1 ⟨vs, H1, I1, r1, a, C, ws, ev, hl, O, ea, q⟩ => ?_) he hpl
  subst ev
  cases r1 with
  | @cons _ u0 _ ur ra rest =>
    obtain rfl : u0 = Value.ref a := ra
    have few : ur.length ≤ sizeLine := by
      rw [← Paired.length rest, sizeLine_eq]
      omega
    exact oinit_ok O I1 ea few fun s2 J => ⟨.non, H1, J, rfl, q⟩
end U

/-! functions handed on: promises that speak of the cells which a handed function captured -/
namespace U
open PySem PySem.Spec PyProof.Rows L2 LamX NdefX
section
variable {P : Program} {w : World} {K : PySem.W.Frag} {mg : Str → Option Value} {base : Heap} {CX : CXT}
end
section
variable {X : Cx} {pins : List (Addr × Obj)} {σ : L2.St} {H : Hp} {s : Shared} {cl : List (Str × Addr)} {fr : List Str} {ws : List (Option V)} {js : List Nat}
end
end U

/-! enumerate(tuple) -/
namespace U
open PySem PySem.Spec PyProof.Rows L2
end U

/-! own exceptions with one field: made, raised, kept, read -/
namespace U
open PySem PySem.Spec PyProof.Rows L2
/-- __init__(self, v): the field f is v -/
def spInit1 (C : Addr) (f : Str) : Sp := fun vs H Q _ => ∃ (a : Addr) (v : V), vs = [.ref a, v] ∧ H a = some (exo a C none) ∧
  ∀ dx, H dx = none → dx ≠ a → Q .non (upd (upd H dx (exd dx [(f, v)])) a (exo a C (some dx)))
theorem rd_mk1 {C : Addr} {f : Str} {v : V} {H : Hp} {Q : XK} (h : ∀ (dd : Addr) (H' : Hp), Same H H' → H dd = none → H' dd = some (.xd [(f, v)]) → Q (.ref C) (some dd) H') :
    [v].length ≤ 1000 ∧ ∀ a, H a = none → spInit1 C f (.ref a :: ([v] ++ [])) (upd H a (exo a C none)) (fun w H2 => w = .non ∧ ∃ (d : Addr) (fs : List (Str × V)), H2 a = some (exo a C (some d)) ∧ H2 d = some (exd d fs) ∧ H d = none ∧ Q (.ref C) (some d) (upd (del H2 a) d (.xd fs))) (fun _ _ _ => False) := by
  refine ⟨(by show 1 ≤ 1000; decide), fun a na => ⟨a, v, rfl, upd_same, fun dx ndx nda => ⟨rfl, dx, [(f, v)], upd_same, ?_, ?_, ?_⟩⟩⟩
  · rw [upd_ne nda, upd_same]
  · rw [upd_ne nda] at ndx
    exact ndx
  · have nd0 : H dx = none := by
      rw [upd_ne nda] at ndx
      exact ndx
    refine h dx _ (fun b o e => ?_) nd0 upd_same
    have n1 : b ≠ dx := ne_of_none e nd0
    have n2 : b ≠ a := ne_of_none e na
    rw [upd_ne n1, del_ne n2, upd_ne n2, upd_ne n1, upd_ne n2]
    exact e
section
variable {σ : L2.St} {H : Hp} {Q : VK} {D : Ends} {K : PySem.W.Frag} {te : TE} {ta : TA}
theorem rd_vei {v : V} (h : ta σ H fun vs H1 => ∃ (a C : Addr) (ws : List V), vs = .ref a :: ws ∧ ws.length ≤ 1000 ∧ OexC K C ∧ H1 a = some (exo a C none) ∧ Q .non H1) : tVeI K ta σ H Q := h
theorem rd_ost {f : Str} {to : TE} (h : te σ H fun y H1 => to σ H1 fun x H2 => ∃ a C : Addr, x = .ref a ∧ OexC K C ∧ PySem.W.findIn K (.ref C) f = some none ∧
  ((H2 a = some (exo a C none) ∧ ∀ dx, H2 dx = none → dx ≠ a → D.nx σ (upd (upd H2 dx (exd dx [(f, y)])) a (exo a C (some dx)))) ∨
    ∃ (dx : Addr) (fs : List (Str × V)), H2 a = some (exo a C (some dx)) ∧ H2 dx = some (exd dx fs) ∧ fs.length ≤ 900 ∧ D.nx σ (upd H2 dx (exd dx ((f, y) :: fs))))) : tOst K f to te D σ H := h
end
/-! the class's facts, gathered -/
structure OwnX (K : PySem.W.Frag) (mg : Str → Option Value) (x : Str) (f : Str) (C CB fI : Addr) : Prop where
  gC : mg x = some (.ref C)
  ox : OexC K C
  no : PySem.W.findIn K (.ref C) f = some none
  iC : PySem.W.findIn K (.ref C) "__init__" = some (some (.ref fI))
  tI : PySem.W.typeIn K (.ref fI) = some (.type "function")
  xf : XfC K C
  gB : mg "InputError" = some (.ref CB)
  bi : BaseI K CB
  ex : PySem.W.exmOne K (.ref C) (.ref C) = some true
  eb : PySem.W.exmOne K (.ref C) (.ref CB) = some true
end U

/-! is_move of anything -/
namespace Law
open PySem PySem.Spec PyProof.Rows L2 U
local macro_rules | `(tactic| wtm_at "rd1") => `(tactic| first
  | with_reducible refine rd_seq ?_
  | ((with_reducible refine rd_var (v := ?vv) ?hv ?_); (case hv => exact rfl))
  | with_reducible refine rd_c ?_
  | with_reducible refine rd_cons ?_
  | with_reducible refine rd_nil ?_
  | with_reducible refine rd_op ?_
  | with_reducible refine rd_asg ?_
  | with_reducible refine rd_name ?_
  | with_reducible refine rd_c1 ?_
  | with_reducible refine rd_cb ?_
  | with_reducible refine rd_test ?_
  | with_reducible refine rd_B ?_
  | with_reducible refine rd_bl ?_
  | with_reducible refine rd_if ?_
  | with_reducible refine rd_ret ?_
  | with_reducible refine rd_drop ?_
  | with_reducible refine rd_next ?_
  | with_reducible refine rd_addI ?_
  | with_reducible refine rd_ltI ?_
  | with_reducible refine rd_eqI ?_
  | with_reducible refine rd_neI ?_
  | with_reducible refine rd_eqS ?_
  | with_reducible refine rd_neS ?_
  | with_reducible refine rd_gtI ?_
  | with_reducible refine rd_geI ?_
  | with_reducible refine rd_leI ?_
  | with_reducible refine rd_ltS ?_
  | with_reducible refine rd_subI ?_
  | ((with_reducible refine rd_modI ?hc ?_); (case hc => first | decide | omega))
  | ((with_reducible refine rd_mulI ?hc ?_); (case hc => first | exact mul_bI | exact .inl (.inr (by decide)) | exact .inl (.inl (by decide)) | exact .inl (.inr (by omega)) | exact .inl (.inl (by omega))))
  | ((with_reducible refine rd_divI ?hc ?_); (case hc => first | decide | omega))
  | ((with_reducible refine rd_powI ?hc ?_); (case hc => exact ⟨by decide, by decide, by decide⟩))
  | with_reducible refine rd_lst ?_
  | with_reducible refine rd_tup ?_
  | ((with_reducible refine rd_sz ?hv ?_); (case hv => exact rfl))
  | with_reducible refine rd_and ?_
  | with_reducible refine rd_or ?_
  | with_reducible refine rd_not ?_
  | with_reducible refine rd_andV ?_
  | with_reducible refine rd_orV ?_
  | with_reducible refine rd_notV ?_
  | with_reducible refine rd_ifE ?_
  | with_reducible refine rd_T ?_
  | with_reducible refine rd_F ?_
  | with_reducible refine rd_chain ?_
  | with_reducible refine rd_is ?_
  | with_reducible refine rd_isNot ?_
  | with_reducible refine rd_absI ?_
  | with_reducible refine rd_maxI ?_
  | with_reducible refine rd_minI ?_
  | with_reducible refine rd_intI ?_
  | with_reducible refine rd_intB ?_
  | with_reducible refine rd_sub ?_
  | with_reducible refine rd_sl ?_
  | with_reducible refine rd_noPart ?_
  | with_reducible refine rd_part ?_
  | with_reducible refine rd_exI ?_
  | with_reducible refine rd_bm ?_
  | with_reducible refine rd_bm0 ?_
  | with_reducible refine rd_un ?_
  | with_reducible refine rd_neg ?_
  | with_reducible refine rd_c2 ?_
  | with_reducible refine rd_retN ?_
  | with_reducible refine rd_break ?_
  | with_reducible refine rd_cont ?_
  | with_reducible refine rd_for ?_
  | with_reducible refine rd_rng1 ?_
  | with_reducible refine rd_rng2 ?_
  | with_reducible refine rd_iList ?_
  | with_reducible refine rd_iTup ?_
  | with_reducible refine rd_iEnum ?_
  | ((with_reducible refine rd_forR ?h0 ?h1 ?_); (case h0 => omega); (case h1 => omega))
  | with_reducible refine rd_lc ?_
  | with_reducible refine rd_gcons ?_
  | with_reducible refine rd_gnil ?_
  | with_reducible refine rd_dget ?_
  | with_reducible refine rd_dput ?_
  | with_reducible refine rd_dnew ?_
  | with_reducible refine rd_dc ?_
  | with_reducible refine rd_iItems ?_
  | with_reducible refine rd_iKeys ?_
  | with_reducible refine rd_din ?_
  | with_reducible refine rd_lc2 ?_
  | with_reducible refine rd_cd ?_
  | with_reducible refine rd_par ?_
  | with_reducible refine rd_two ?_
  | with_reducible refine rd_reprB ?_
  | with_reducible refine rd_ck ?_
  | ((with_reducible refine rd_len ?hl ?_); (case hl => exact rfl))
  | with_reducible refine rd_nT ?_
  | with_reducible refine rd_nF ?_
  | with_reducible refine rd_dnin ?_
  | with_reducible refine rd_isB ?_
  | with_reducible refine rd_isNotB ?_
  | with_reducible refine rd_daug ?_
  | with_reducible refine rd_yesT ?_
  | ((with_reducible refine rd_wp ?hw ?_); (case hw => exact rfl)))
local macro_rules | `(tactic| wtm_at "rd") => `(tactic| repeat wtm_at "rd1")

/-- c: not a move by its form (o = none), or a text and a number -/
inductive CandAt (K : PySem.W.Frag) (H : Hp) : V → Option (Str × Int) → Prop
  | odd {c : V} {a : Ty} : TyIs K H c a → isT a .tup = false → CandAt K H c none
  | len {a : Addr} {xs : List V} : H a = some (.tup xs) → xs.length ≠ 2 → CandAt K H (.ref a) none
  | node {a : Addr} {x y : V} {t : Ty} : H a = some (.tup [x, y]) → TyIs K H x t → isT t .str = false → CandAt K H (.ref a) none
  | val {a : Addr} {x : Str} {y : V} {t : Ty} : H a = some (.tup [.str x, y]) → TyIs K H y t → t ≠ .int → CandAt K H (.ref a) none
  | mv {a : Addr} {x : Str} {v : Int} : H a = some (.tup [.str x, .int v]) → CandAt K H (.ref a) (some (x, v))
def IsMv (ns : List Str) (es : List (Str × Str)) (f : Str → Int) (pn : List Str) (o : Option (Str × Int)) : Prop := ∃ m, o = some m ∧ Legal ns es f pn m
def spHasV (K : PySem.W.Frag) : Sp := fun vs H Q _ => ∃ (g n e : Addr) (x : V) (t : Ty) (ns : List Str) (es : List (Addr × Str × Str)), vs = [.ref g, x] ∧ GrAt H g n e ns es ∧ ((TyIs K H x t ∧ isT t .str = false ∧ Q (.bl false) H) ∨ ∃ s, x = .str s ∧ Q (.bl (decide (s ∈ ns))) H)
def spIsValV (K : PySem.W.Frag) : Sp := fun vs H Q _ => ∃ (y : V) (t : Ty), vs = [y] ∧ ((TyIs K H y t ∧ t ≠ .int ∧ Q (.bl false) H) ∨ ∃ v : Int, y = .int v ∧ Q (.bl (decide (0 ≤ v) && decide (v ≤ 2))) H)
def spIsMoveV (K : PySem.W.Frag) : Sp := fun vs H Q _ => ∃ (g n e st ad ps : Addr) (c : V) (o : Option (Str × Int)) (ns ord pn : List Str) (es : List (Addr × Str × Str)) (f : Str → Int) (Ad : Str → Addr), vs = [.ref g, .ref st, .ref ad, c, .ref ps] ∧ GSt H g n e st ns ord es f ∧
  AdjAt H ad ns (es.map (·.2)) Ad ∧ CandAt K H c o ∧ SqT K H ps (pn.map V.str) ∧ ∀ (b : Bool) (H' : Hp), Same H H' → (b = true ↔ IsMv ns (es.map (·.2)) f pn o) → Q (.bl b) H'
section
variable {P : Program} {w : World} {K : PySem.W.Frag} {mg : Str → Option Value} {base : Heap}
theorem ok_hasV {f : Addr} {fd : FuncData} (F : Fun K "has_node" "has_node" s_has_node f fd) (B : Bt mg) : FnG P w K mg base CX0 1 f fd ["graph", "candidate"] (spHasV K) := by
  refine fnG0 F sc_has_node (fun vs H Q E h => ?_) (fun cdv A outer s H vs Q E hr h => ?_)
  · obtain ⟨g, n, e, x, t, ns, es, rfl, _⟩ := h
    rfl
  · obtain ⟨g, n, e, x, t, ns, es, rfl, hg, q⟩ := h
    have nd := sc_has_node.nd
    refine ⟨_, (pss_one (ps_ret (pe_and (pe_callB (kIsi K rfl) (by rfl) B.isinstance bb_isinstance (pa_cons (pv 1) (pa_cons (pe_ty rfl B.str bb_str) pa_nil))) (pe_one (pe_cmpR (kIn K rfl) (pv 1) (pe_ix (kIx K rfl) (pv 0) pe_int (fun _ _ => rfl)) rfl))))), ?_⟩
    wtm_at "rd"
    rcases q with ⟨ht, hs, q⟩ | ⟨s, rfl, q⟩
    · refine rd_isi ht (t := .str) (by decide +kernel) ?_
      rw [hs]
      wtm_at "rd"
      exact q
    refine rd_isi ty_str (t := .str) (by decide +kernel) ?_
    rw [show isT .str .str = true from by decide +kernel]
    wtm_at "rd"
    refine rd_ixT (SqT.of hg.top) (v := .ref n) rfl ?_
    refine rd_inST (SqT.of hg.nodes) ?_
    exact q
theorem ok_is_valueV {f : Addr} {fd : FuncData} (F : Fun K "is_value" "is_value" s_is_value f fd) (B : Bt mg) (C : C6 P w K mg base) : FnG P w K mg base CX0 2 f fd ["candidate"] (spIsValV K) := by
  refine fnG0 F sc_is_value (fun vs H Q E h => ?_) (fun cdv A outer s H vs Q E hr h => ?_)
  · obtain ⟨y, t, rfl, _⟩ := h
    rfl
  · obtain ⟨y, t, rfl, q⟩ := h
    have nd := sc_is_value.nd
    refine ⟨_, (pss_one (ps_ret (pe_and (pe_c C.is_integer hr (by decide) rfl (pa_cons (pv 0) pa_nil)) (pe_one (pe_chain uLe uLe pe_int (pv 0) pe_int))))), ?_⟩
    wtm_at "rd"
    rcases q with ⟨ht, hs, q⟩ | ⟨v, rfl, q⟩
    · refine ⟨_, t, rfl, ht, ?_⟩
      rw [decide_eq_false hs]
      wtm_at "rd"
      exact q
    refine ⟨_, .int, rfl, ty_int, ?_⟩
    wtm_at "rd"
    refine rd_T ?_
    wtm_at "rd"
    refine rd_split (fun c => ?_) (fun c => ?_)
    · wtm_at "rd"
      rw [decide_eq_true c, Bool.true_and] at q
      exact q
    · rw [decide_eq_false c, Bool.false_and] at q
      exact q
structure C7V (P : Program) (w : World) (K : PySem.W.Frag) (mg : Str → Option Value) (base : Heap) : Prop where
  has_node : Cal P w K mg base CX0 1 "has_node" (spHasV K)
  is_value : Cal P w K mg base CX0 2 "is_value" (spIsValV K)
  values_for : Cal P w K mg base CX0 1 "values_for" (spVals K)
theorem ok_is_moveV {f : Addr} {fd : FuncData} (F : Fun K "is_move" "is_move" s_is_move f fd) (B : Bt mg) (C : C7V P w K mg base) : FnG P w K mg base CX0 3 f fd ["graph", "state", "adjacent", "candidate", "pinned"] (spIsMoveV K) := by
  refine fnG0 F sc_is_move (fun vs H Q E h => ?_) (fun cdv A outer s H vs Q E hr h => ?_)
  · obtain ⟨g, n, e, st, ad, ps, c, o, ns, ord, pn, es, f, Ad, rfl, _⟩ := h
    rfl
  · obtain ⟨g, n, e, st, ad, ps, c, o, ns, ord, pn, es, f, Ad, rfl, gs, had, hc, hps, q⟩ := h
    have nd := sc_is_move.nd
    have hu := hr.u1
    refine ⟨_, (pss_cons (ps_if (PW.pt (pw_or (pt_not (pt_val (pe_callB (kIsi K rfl) (by rfl) B.isinstance bb_isinstance (pa_cons (pv 3) (pa_cons (pe_ty rfl B.tuple bb_tuple) pa_nil))))) (pw_or1 (pt_cmpR (kNe K rfl hr.u64) (pe_callB (kLen K rfl) (by rfl) B.len bb_len (pa_cons (pv 3) pa_nil)) pe_int (nomark _))))) (pss_one (ps_ret pe_bl)) pss_nil)
  (pss_cons (ps_if (PW.pt (pw_or (pt_not (pt_val (pe_c C.has_node hr (by decide) rfl (pa_cons (pv 0) (pa_cons (pe_ix (kIx K rfl) (pv 3) pe_int (fun _ _ => rfl)) pa_nil))))) (pw_or1 (pt_not (pt_val (pe_c C.is_value hr (by decide) rfl (pa_cons (pe_ix (kIx K rfl) (pv 3) pe_int (fun _ _ => rfl)) pa_nil))))))) (pss_one (ps_ret pe_bl)) pss_nil)
  (pss_one (ps_ret (pe_cmpR (kIn K rfl) (pe_ix (kIx K rfl) (pv 3) pe_int (fun _ _ => rfl)) (pe_c C.values_for hr (by decide) rfl (pa_cons (pv 1) (pa_cons (pe_ix (kIx K rfl) (pv 3) pe_int (fun _ _ => rfl)) (pa_cons (pe_dget hu (pv 2) (pe_ix (kIx K rfl) (pv 3) pe_int (fun _ _ => rfl)) (fun _ _ => rfl)) (pa_cons (pv 4) pa_nil))))) rfl))))), ?_⟩
    have no : o = none → Q (.bl false) H := fun e => q false H (Same.refl _) ⟨(fun z => nomatch z), fun ⟨m, e1, _⟩ => by rw [e] at e1; cases e1⟩
    wtm_at "rd"
    cases hc with
    | odd ht hs =>
      refine rd_isi ht (t := .tup) (by decide +kernel) ?_
      rw [hs]
      wtm_at "rd"
      exact no rfl
    | len ht hl =>
      refine rd_isi (ty_tup ht) (t := .tup) (by decide +kernel) ?_
      rw [show isT .tup .tup = true from by decide +kernel]
      wtm_at "rd"
      refine rd_lenT (SqT.of ht) ?_
      wtm_at "rd"
      refine rd_nyes (by omega) ?_
      wtm_at "rd"
      exact no rfl
    | node ht hx hs =>
      refine rd_isi (ty_tup ht) (t := .tup) (by decide +kernel) ?_
      rw [show isT .tup .tup = true from by decide +kernel]
      wtm_at "rd"
      refine rd_lenT (SqT.of ht) ?_
      wtm_at "rd"
      refine rd_nno rfl ?_
      wtm_at "rd"
      refine rd_ixT (SqT.of ht) rfl ?_
      wtm_at "rd"
      refine ⟨g, n, e, _, _, ns, es, rfl, gs.gr, .inl ⟨hx, hs, ?_⟩⟩
      wtm_at "rd"
      exact no rfl
    | @val c x y t ht hy hs =>
      refine rd_isi (ty_tup ht) (t := .tup) (by decide +kernel) ?_
      rw [show isT .tup .tup = true from by decide +kernel]
      wtm_at "rd"
      refine rd_lenT (SqT.of ht) ?_
      wtm_at "rd"
      refine rd_nno rfl ?_
      wtm_at "rd"
      refine rd_ixT (SqT.of ht) (v := .str x) rfl ?_
      wtm_at "rd"
      refine ⟨g, n, e, _, .str, ns, es, rfl, gs.gr, .inr ⟨x, rfl, ?_⟩⟩
      by_cases hm : x ∈ ns
      · rw [decide_eq_true hm]
        wtm_at "rd"
        refine rd_ixT (SqT.of ht) (v := y) rfl ?_
        wtm_at "rd"
        refine ⟨y, t, rfl, .inl ⟨hy, hs, ?_⟩⟩
        wtm_at "rd"
        exact no rfl
      · rw [decide_eq_false hm]
        wtm_at "rd"
        exact no rfl
    | @mv c x v hc =>
      refine rd_isi (ty_tup hc) (t := .tup) (by decide +kernel) ?_
      rw [show isT .tup .tup = true from by decide +kernel]
      wtm_at "rd"
      refine rd_lenT (SqT.of hc) ?_
      wtm_at "rd"
      refine rd_nno rfl ?_
      wtm_at "rd"
      refine rd_ixT (SqT.of hc) (v := .str x) rfl ?_
      wtm_at "rd"
      refine ⟨g, n, e, _, .str, ns, es, rfl, gs.gr, .inr ⟨x, rfl, ?_⟩⟩
      have nol : ¬ Legal ns (es.map (·.2)) f pn (x, v) → Q (.bl false) H := fun z => q false H (Same.refl _) ⟨(fun z => nomatch z), fun ⟨m, e1, l⟩ => by cases e1; exact (z l).elim⟩
      by_cases hm : x ∈ ns
      case neg =>
        rw [decide_eq_false hm]
        wtm_at "rd"
        exact nol fun l => hm l.mem
      rw [decide_eq_true hm]
      wtm_at "rd"
      refine rd_ixT (SqT.of hc) (v := .int v) rfl ?_
      wtm_at "rd"
      refine ⟨.int v, .int, rfl, .inr ⟨v, rfl, ?_⟩⟩
      by_cases hv : 0 ≤ v ∧ v ≤ 2
      case neg =>
        rw [show (decide (0 ≤ v) && decide (v ≤ 2)) = false from by rw [← Bool.decide_and]; exact decide_eq_false hv]
        wtm_at "rd"
        exact nol fun l => hv (by have := l.val; simp only at this; omega)
      rw [decide_eq_true hv.1, decide_eq_true hv.2, Bool.and_self]
      obtain ⟨ys, y1, y2, _⟩ := had.li _ hm
      have yl : ys.length ≤ 2000 := by
        have := nbrF_len (x := x) (es := es.map (·.2))
        rw [List.length_map] at this
        rw [y2.length_eq]
        have := gs.l3
        omega
      have yin : ∀ y ∈ ys, y ∈ ord := fun y hy => by
        rcases mem_nbrF.mp (y2.mem_iff.mp hy) with h | h
        · exact gs.inO _ (gs.ok.mem _ h).2
        · exact gs.inO _ (gs.ok.mem _ h).1
      wtm_at "rd"
      refine rd_ixT (SqT.of hc) (v := .int v) rfl ?_
      wtm_at "rd"
      refine rd_ixT (SqT.of hc) (v := .str x) rfl ?_
      wtm_at "rd"
      refine rd_ixT (SqT.of hc) (v := .str x) rfl ?_
      refine rd_dat (.inl had.di) (kvG_val hm) rfl ?_
      wtm_at "rd"
      refine ⟨st, _, ps, x, ord, ys, pn, es.map (·.2), f, rfl, gs.st, gs.inO _ hm, y1, yin, y2, yl, hps, fun l H' s1 fl hl => ?_⟩
      refine rd_inIL (SqL.of hl) ?_
      refine q _ H' s1 ?_
      have fw : v ∈ valsF (es.map (·.2)) f x pn ↔ Legal ns (es.map (·.2)) f pn (x, v) := by
        unfold valsF
        constructor
        · intro hin
          by_cases hp : x ∈ pn
          · rw [if_pos hp] at hin
            cases hin
          rw [if_neg hp] at hin
          obtain ⟨_, fr⟩ := List.mem_filter.mp hin
          unfold freeB at fr
          rw [Bool.not_eq_true', decide_eq_false_iff_not] at fr
          refine ⟨hm, ?_, ?_, ?_, ?_⟩
          all_goals simp only
          all_goals first
            | exact hp
            | omega
            | exact fun z => fr (List.mem_append_right _ (List.mem_singleton.mpr z))
            | exact fun y hy z => fr (List.mem_append_left _ (List.mem_map.mpr ⟨y, mem_nbrF.mpr hy, z.symm⟩))
        · intro lg
          rw [if_neg lg.pin]
          refine List.mem_filter.mpr ⟨?_, ?_⟩
          · have : v = 0 ∨ v = 1 ∨ v = 2 := by omega
            rcases this with rfl | rfl | rfl <;> simp
          · unfold freeB
            rw [Bool.not_eq_true', decide_eq_false_iff_not]
            intro z
            rcases List.mem_append.mp z with z | z
            · obtain ⟨y, hy, ey⟩ := List.mem_map.mp z
              exact lg.nbr y (mem_nbrF.mp hy) ey.symm
            · rw [List.mem_singleton] at z
              exact lg.own z
      rw [decide_eq_true_iff, fw]
      exact ⟨fun l => ⟨_, rfl, l⟩, fun ⟨m, e1, l⟩ => by cases e1; exact l⟩
end
end Law

/-! calls with keywords and defaults of a def that may raise -/
namespace U
open PySem PySem.Spec PyProof.Rows L2
def tCK2 (sp : Sp) (np nk : Nat) (W : WX) (t tk : TA) : TE := fun σ H Q => t σ H fun vs H1 => vs.length = np ∧ tk σ H1 fun zs H2 => zs.length = nk ∧ sp (vs ++ zs) H2 Q fun cls d H' => W cls d σ H'
theorem pe_cKX {X : Cx} {W : WX} {k j : Nat} {x : Str} {np : Nat} {ks : List Str} {sp : Sp} {e : Expr} {es : List Expr} {kws : List Keyword} {t tk : TA} {p pos : Pos} (c : CalK X.prog X.w X.K X.mg X.base (L2.CX X.prog X.w) k x np ks sp) (hr : Rm j X.A) (hk : k ≤ j) (hg : Gl X x) (tx : Takes X W)
    (ha : PA X (e :: es) t) (hkw : PK X kws tk) (hall : (backToKw pos (keywordEach kws X.env)).all (·.1.isSome) = true := by rfl) (hks : (backToKw pos (keywordEach kws X.env)).filterMap (·.1) = ks := by rfl)
    (hdb : (x == ("__debug__" : Str)) = false := by decide) (he : starEach (e :: es) X.env = (false, eval e X.env) :: starEach es X.env := by rfl)
    (hpl : ((backTo pos (starEach (e :: es) X.env)).any (·.1) || (backToKw pos (keywordEach kws X.env)).any (·.1.isNone)) = false := by rfl) :
    PE X (.Call (.Name x p) (e :: es) kws pos) (tCK2 sp np ks.length W t tk) := by
  obtain ⟨f, fd, ps, F, hm, kp, b⟩ := c.ex
  refine ⟨fun pins s σ H Q I h => wpAny_Call_Name_kw (ld_glob I hg hm ?_ hdb)⟩
  refine PySem.W.callWith_KW (h₀ := X.base) I.ok.mod.kin kp hall (thn (ha.run pos pins s σ H _ I h) fun us s1 ⟨vs, H1, I1, r, hn, q⟩ => ?_) hpl he
  refine thn (hkw.run pos pins s1 σ H1 _ I1 q) fun ws s2 ⟨zs, H2, I2, rz, hz, q2⟩ => ⟨I2.kIn, ?_⟩
  rw [hks]
  have bd : BindsTo s2 fd ⟨us, ks.zip ws⟩ (ps.zip (us ++ ws)) := .of_eq (b us ws (by rw [← r.length]; exact hn) (by rw [← rz.length]; exact hz))
  refine wpAny_call (codeAny_mono (F.go X.A X.stack s2 H2 ⟨us, ks.zip ws⟩ (us ++ ws) (vs ++ zs) _ _ (hr.mono hk) I2.env0 bd (vals_app r rz) q2) ?_)
  intro res s' hq
  cases res with
  | error er => exact tx er s' (XE.of_call I2 (fun cls d H' z => z) hq)
  | ok fl =>
    cases fl with
    | ret u => exact I2.after hq
    | next => exact hq.elim
    | brk => exact hq.elim
    | cont => exact hq.elim
/-- an own error with one field, its __init__ done -/
structure ErrX (P : Program) (w : World) (K : PySem.W.Frag) (mg : Str → Option Value) (base : Heap) (x f : Str) (C CB : Addr) : Prop where
  ex : ∃ (fI : Addr) (fd : FuncData), OwnX K mg x f C CB fI ∧ FnOk P w K mg base CX0 1 fI fd ["self", f] (spInit1 C f) ∧ Binds K fd ["self", f] []
/-- raise X(e): reading rd_rz, e's, rd_mk1 -/
def tRz (C : Addr) (f : Str) (te : TE) (W : WX) : TS := fun _ σ H => tMkO C (spInit1 C f) [] (tCons te tNil) σ H fun cls d H' => W cls d σ H'
theorem ps_rz {X : Cx} {W : WX} {j : Nat} {x f : Str} {C CB : Addr} {e : Expr} {te : TE} {p p2 pos : Pos} (T : ErrX X.prog X.w X.K X.mg X.base x f C CB) (hr : Rm j X.A) (hk : 2 ≤ j) (hc : X.calm = true) (tk : Takes X W) (hg : Gl X x) (he : PE X e te)
    (hdb : (x == ("__debug__" : Str)) = false := by decide) (hs : starEach [e] X.env = (false, eval e X.env) :: starEach [] X.env := by rfl) (hpl : (backTo p2 (starEach [] X.env)).any (·.1) = false := by rfl) :
    PS X (.Raise (some (.Call (.Name x p) [e] [] p2)) none pos) (tRz C f te W) := by
  obtain ⟨fI, fd, T1, F1, b⟩ := T.ex
  exact ps_raise (pos := pos) hc tk (pmk_oex (p := p) (pos := p2) (dvs := []) T1.ox T1.iC T1.tI F1 (hr.r.mono hk) b .nil pass0 hg T1.gC (pa_cons he pa_nil (hs := hs)) hdb hs hpl)
theorem rd_rz {C : Addr} {f : Str} {te : TE} {W : WX} {D : Ends} {σ : L2.St} {H : Hp} (h : tCons te tNil σ H fun vs H1 => vs.length ≤ 1000 ∧ ∀ a, H1 a = none → spInit1 C f (.ref a :: (vs ++ [])) (upd H1 a (exo a C none))
  (fun v H2 => v = .non ∧ ∃ (d : Addr) (fs : List (Str × V)), H2 a = some (exo a C (some d)) ∧ H2 d = some (exd d fs) ∧ H1 d = none ∧ W (.ref C) (some d) σ (upd (del H2 a) d (.xd fs))) (fun _ _ _ => False)) : tRz C f te W D σ H := h
end U

/-! apply_moves of anything -/
namespace Law
open PySem PySem.Spec PyProof.Rows L2 U
local macro_rules | `(tactic| wtm_at "rd1") => `(tactic| first
  | with_reducible refine rd_seq ?_
  | ((with_reducible refine rd_var (v := ?vv) ?hv ?_); (case hv => exact rfl))
  | with_reducible refine rd_c ?_
  | with_reducible refine rd_cons ?_
  | with_reducible refine rd_nil ?_
  | with_reducible refine rd_op ?_
  | with_reducible refine rd_asg ?_
  | with_reducible refine rd_name ?_
  | with_reducible refine rd_c1 ?_
  | with_reducible refine rd_cb ?_
  | with_reducible refine rd_test ?_
  | with_reducible refine rd_B ?_
  | with_reducible refine rd_bl ?_
  | with_reducible refine rd_if ?_
  | with_reducible refine rd_ret ?_
  | with_reducible refine rd_drop ?_
  | with_reducible refine rd_next ?_
  | with_reducible refine rd_addI ?_
  | with_reducible refine rd_ltI ?_
  | with_reducible refine rd_eqI ?_
  | with_reducible refine rd_neI ?_
  | with_reducible refine rd_eqS ?_
  | with_reducible refine rd_neS ?_
  | with_reducible refine rd_gtI ?_
  | with_reducible refine rd_geI ?_
  | with_reducible refine rd_leI ?_
  | with_reducible refine rd_ltS ?_
  | with_reducible refine rd_subI ?_
  | ((with_reducible refine rd_modI ?hc ?_); (case hc => first | decide | omega))
  | ((with_reducible refine rd_mulI ?hc ?_); (case hc => first | exact mul_bI | exact .inl (.inr (by decide)) | exact .inl (.inl (by decide)) | exact .inl (.inr (by omega)) | exact .inl (.inl (by omega))))
  | ((with_reducible refine rd_divI ?hc ?_); (case hc => first | decide | omega))
  | ((with_reducible refine rd_powI ?hc ?_); (case hc => exact ⟨by decide, by decide, by decide⟩))
  | with_reducible refine rd_lst ?_
  | with_reducible refine rd_tup ?_
  | ((with_reducible refine rd_sz ?hv ?_); (case hv => exact rfl))
  | with_reducible refine rd_and ?_
  | with_reducible refine rd_or ?_
  | with_reducible refine rd_not ?_
  | with_reducible refine rd_andV ?_
  | with_reducible refine rd_orV ?_
  | with_reducible refine rd_notV ?_
  | with_reducible refine rd_ifE ?_
  | with_reducible refine rd_T ?_
  | with_reducible refine rd_F ?_
  | with_reducible refine rd_chain ?_
  | with_reducible refine rd_is ?_
  | with_reducible refine rd_isNot ?_
  | with_reducible refine rd_absI ?_
  | with_reducible refine rd_maxI ?_
  | with_reducible refine rd_minI ?_
  | with_reducible refine rd_intI ?_
  | with_reducible refine rd_intB ?_
  | with_reducible refine rd_sub ?_
  | with_reducible refine rd_sl ?_
  | with_reducible refine rd_noPart ?_
  | with_reducible refine rd_part ?_
  | with_reducible refine rd_exI ?_
  | with_reducible refine rd_bm ?_
  | with_reducible refine rd_bm0 ?_
  | with_reducible refine rd_un ?_
  | with_reducible refine rd_neg ?_
  | with_reducible refine rd_c2 ?_
  | with_reducible refine rd_retN ?_
  | with_reducible refine rd_break ?_
  | with_reducible refine rd_cont ?_
  | with_reducible refine rd_for ?_
  | with_reducible refine rd_rng1 ?_
  | with_reducible refine rd_rng2 ?_
  | with_reducible refine rd_iList ?_
  | with_reducible refine rd_iTup ?_
  | with_reducible refine rd_iEnum ?_
  | ((with_reducible refine rd_forR ?h0 ?h1 ?_); (case h0 => omega); (case h1 => omega))
  | with_reducible refine rd_lc ?_
  | with_reducible refine rd_gcons ?_
  | with_reducible refine rd_gnil ?_
  | with_reducible refine rd_dget ?_
  | with_reducible refine rd_dput ?_
  | with_reducible refine rd_dnew ?_
  | with_reducible refine rd_dc ?_
  | with_reducible refine rd_iItems ?_
  | with_reducible refine rd_iKeys ?_
  | with_reducible refine rd_din ?_
  | with_reducible refine rd_lc2 ?_
  | with_reducible refine rd_cd ?_
  | with_reducible refine rd_par ?_
  | with_reducible refine rd_two ?_
  | with_reducible refine rd_reprB ?_
  | with_reducible refine rd_ck ?_
  | ((with_reducible refine rd_len ?hl ?_); (case hl => exact rfl))
  | with_reducible refine rd_nT ?_
  | with_reducible refine rd_nF ?_
  | with_reducible refine rd_dnin ?_
  | with_reducible refine rd_isB ?_
  | with_reducible refine rd_isNotB ?_
  | with_reducible refine rd_daug ?_
  | with_reducible refine rd_yesT ?_
  | ((with_reducible refine rd_wp ?hw ?_); (case hw => exact rfl)))
local macro_rules | `(tactic| wtm_at "rd") => `(tactic| repeat wtm_at "rd1")

theorem rd_rz {C : Addr} {f : Str} {te : TE} {W : WX} {D : Ends} {σ : L2.St} {H : Hp} (h : tCons te tNil σ H fun vs H1 => vs.length ≤ 1000 ∧ ∀ a, H1 a = none → spInit1 C f (.ref a :: (vs ++ [])) (upd H1 a (exo a C none))
  (fun v H2 => v = .non ∧ ∃ (d : Addr) (fs : List (Str × V)), H2 a = some (exo a C (some d)) ∧ H2 d = some (exd d fs) ∧ H1 d = none ∧ W (.ref C) (some d) σ (upd (del H2 a) d (.xd fs))) (fun _ _ _ => False)) : tRz C f te W D σ H := h
/-- the error with v at the position leaves -/
def PosE (C : Addr) (v : V) (H : Hp) (E : XK) : Prop := ∀ (d : Addr) (H' : Hp), Same H H' → H d = none → H' d = some (.xd [("position", v)]) → E (.ref C) (some d) H'
/-- the list's elements: legal moves first, all of them or the next one not -/
def Runs (ns : List Str) (es : List (Str × Str)) (f : Str → Int) (pn : List Str) (os : List (Option (Str × Int))) (ms : List (Str × Int)) : Prop :=
  LegalSeq ns es pn f ms ∧ (os = ms.map some ∨ ∃ o r, os = ms.map some ++ o :: r ∧ ¬ IsMv ns es (playF f ms) pn o)
def spApplyX (K : PySem.W.Frag) (C : Addr) : Sp := fun vs H Q E => ∃ (g n e st ps : Addr) (c : V) (ns ord pn : List Str) (es : List (Addr × Str × Str)) (f : Str → Int), vs = [.ref g, .ref st, c, .ref ps] ∧ GSt H g n e st ns ord es f ∧ SqT K H ps (pn.map V.str) ∧
  ((∃ t, TyIs K H c t ∧ isT t .lst = false ∧ PosE C .non H E) ∨
   ∃ (mv : Addr) (cs : List V) (os : List (Option (Str × Int))) (ms : List (Str × Int)), c = .ref mv ∧ H mv = some (.lst cs) ∧ os.length = cs.length ∧ (∀ i (h : i < cs.length) (h' : i < os.length), CandAt K H cs[i] os[i]) ∧ Runs ns (es.map (·.2)) f pn os ms ∧
    (os = ms.map some → ∀ (d : Addr) (H' : Hp), Same H H' → H d = none → H' d = some (.dK (kvF ord (playF f ms))) → Q (.ref d) H') ∧
    (os ≠ ms.map some → PosE C (.int ms.length) H E))
theorem tyx_same {K : PySem.W.Frag} {H H' : Hp} {x : V} {t : Value} (h : TyX K H x t) (s : Same H H') : TyX K H' x t := by
  cases h with
  | base h =>
    cases h with
    | non => exact .base .non
    | bl x => exact .base (.bl x)
    | int x => exact .base (.int x)
    | str x => exact .base (.str x)
    | flt x => exact .base (.flt x)
    | lst e => exact .base (.lst (s _ _ e))
    | frz e => exact .base (.frz (s _ _ e))
    | tup e => exact .base (.tup (s _ _ e))
    | dK e => exact .base (.dK (s _ _ e))
    | dT e => exact .base (.dT (s _ _ e))
    | ins e a b c d f => exact .base (.ins (s _ _ e) a b c d f)
  | byt b => exact .byt b
  | set e => exact .set (s _ _ e)
  | kList e c => exact .kList e c
  | kTuple e c => exact .kTuple e c
  | kDict e c => exact .kDict e c
  | fTuple e => exact .fTuple (s _ _ e)
  | fDict e => exact .fDict (s _ _ e)
theorem CandAt.same {K : PySem.W.Frag} {H H' : Hp} {c : V} {o : Option (Str × Int)} (h : CandAt K H c o) (s : Same H H') : CandAt K H' c o := by
  cases h with
  | odd a b => exact .odd (tyx_same a s) b
  | len a b => exact .len (s _ _ a) b
  | node a b c => exact .node (s _ _ a) (tyx_same b s) c
  | val a b c => exact .val (s _ _ a) (tyx_same b s) c
  | mv a => exact .mv (s _ _ a)
structure C8V (P : Program) (w : World) (K : PySem.W.Frag) (mg : Str → Option Value) (base : Heap) : Prop where
  adjacency : Cal P w K mg base CX0 1 "adjacency" spAdj
  is_move : Cal P w K mg base CX0 3 "is_move" (spIsMoveV K)
section
variable {P : Program} {w : World} {K : PySem.W.Frag} {mg : Str → Option Value} {base : Heap}
theorem ok_applyX {f : Addr} {fd : FuncData} {CE CB : Addr} (F : Fun K "apply_moves" "apply_moves" s_apply_moves f fd) (B : Bt mg) (C : C8V P w K mg base) (T : ErrX P w K mg base "InvalidMove" "position" CE CB) : FnG P w K mg base (L2.CX P w) 4 f fd ["graph", "state", "moves", "pinned"] (spApplyX K CE) := by
  refine fnG F sc_apply_moves (fun vs H Q E h => ?_) (fun cdv A outer s H vs Q E hr h => ?_)
  · obtain ⟨g, n, e, st, ps, c, ns, ord, pn, es, f, rfl, _⟩ := h
    rfl
  · obtain ⟨g, n, e, st, ps, c, ns, ord, pn, es, f, rfl, gs, hps, alt⟩ := h
    have nd := sc_apply_moves.nd
    have hu := hr.u1
    refine ⟨_, (pss_cons (ps_if (pt_not (pt_val (pe_callB (kIsi K rfl) (by rfl) B.isinstance bb_isinstance (pa_cons (pv 2) (pa_cons (pe_ty rfl B.list bb_list) pa_nil))))) (pss_one (ps_rz T hr (by decide) rfl (takes_of rfl rfl rfl rfl) rfl pe_non)) pss_nil)
  (pss_cons (ps_set (i := 4) nd rfl (by first | exact Or.inl rfl | exact Or.inr rfl) (pe_c C.adjacency hr (by decide) rfl (pa_cons (pv 0) pa_nil)))
  (pss_cons (ps_set (i := 5) nd rfl (by first | exact Or.inl rfl | exact Or.inr rfl) (pe_callTy cDict (by rfl) B.dict bb_dict (pa_cons (pv 1) pa_nil)))
  (pss_cons (ps_for (passes_of rfl) rfl (pi_enum (by rfl) B.enumerate (pa_cons (pv 2) pa_nil)) (kg_tup (n := 2) K rfl rfl (pgs_cons (pg_name (i := 6) nd rfl (by first | exact Or.inl rfl | exact Or.inr rfl)) (pgs_cons (pg_name (i := 7) nd rfl (by first | exact Or.inl rfl | exact Or.inr rfl)) pgs_nil))) (pss_cons (ps_if (pt_not (pt_val (pe_c C.is_move hr (by decide) rfl (pa_cons (pv 0) (pa_cons (pv 5) (pa_cons (pv 4) (pa_cons (pv 7) (pa_cons (pv 3) pa_nil)))))))) (pss_one (ps_rz T hr (by decide) rfl (takes_of rfl rfl rfl rfl) rfl (pv 6))) pss_nil)
  (pss_one (ps_dput hu (pv 5) (pe_ix (kIx K rfl) (pv 7) pe_int (fun _ _ => rfl)) (pe_ix (kIx K rfl) (pv 7) pe_int (fun _ _ => rfl)) rfl))))
  (pss_one (ps_ret (pv 5))))))), ?_⟩
    wtm_at "rd"
    rcases alt with ⟨t, ht, hs, pe⟩ | ⟨mv, cs, os, ms, rfl, hmv, hol, hcs, ⟨lq, ro⟩, q1, q2⟩
    · refine rd_isi ht (t := .lst) (by decide +kernel) ?_
      rw [hs]
      wtm_at "rd"
      exact rd_mk1 fun dd H' s nd hd => pe dd H' s nd hd
    refine rd_isi (ty_lst hmv) (t := .lst) (by decide +kernel) ?_
    rw [show isT .lst .lst = true from by decide +kernel]
    wtm_at "rd"
    refine ⟨g, n, e, ns, es, rfl, gs.grs, fun ad Ad H1 s1 _ had => ?_⟩
    wtm_at "rd"
    refine ⟨_, .inl (s1 _ _ gs.st), fun c fc => ?_⟩
    have fc0 := new_of_same s1 fc
    have s2 := same_add (o := .dK (kvF ord f)) s1 fc
    have had2 := had.same (Same.new (o := .dK (kvF ord f)) fc)
    have hc2 := @upd_same H1 c (.dK (kvF ord f))
    have nca : c ≠ ad := Ne.symm (ne_of_none had.di fc)
    have ncl : ∀ m ∈ ns, Ad m ≠ c := fun m hm => by
      obtain ⟨ys, y1, _⟩ := had.li m hm
      exact ne_of_none y1 fc
    generalize upd H1 c (.dK (kvF ord f)) = H2 at s2 had2 hc2
    wtm_at "rd"
    refine rd_forE (SqL.of (s2 _ _ hmv)) ?_
    have le1 : ms.length ≤ cs.length := by
      rw [← hol]
      rcases ro with rfl | ⟨o, r, rfl, _⟩
      · rw [List.length_map]; exact Nat.le_refl _
      · rw [List.length_append, List.length_map]; omega
    refine turnsW (walk_enum (K := K) (a := mv) (xs := cs)) (fun i σ H' => ∃ u6 u7 : Option V, i ≤ ms.length ∧ σ = [some (.ref g), some (.ref st), some (.ref mv), some (.ref ps), some (.ref ad), some (.ref c), u6, u7] ∧ Same H H' ∧ AdjAt H' ad ns (es.map (·.2)) Ad ∧ H' c = some (.dK (kvF ord (playF f (ms.take i)))))
      ⟨_, _, Nat.zero_le _, rfl, s2, had2, hc2⟩ ?_ ?_ ?_
    · rintro i σ H' hi ⟨u6, u7, il, rfl, s, _⟩
      exact SqL.of (s _ _ hmv)
    · rintro i y σ H3 H4 hi ⟨u6, u7, il, rfl, s, ha, hc⟩ ⟨T1, x1, y1, rfl, fT, rfl, e1, e2⟩
      have hx := Option.some.inj e1
      subst hx
      have hin : i < cs.length := (List.getElem?_eq_some_iff.mp e2).1
      have hio : i < os.length := by omega
      obtain rfl : cs[i] = y1 := (List.getElem?_eq_some_iff.mp e2).2
      have hcd := hcs i hin hio
      have okf := seq_ok gs.eok lq i il
      have sT := same_add (o := .tup [.int (i : Nat), cs[i]]) s fT
      have haT := ha.same (Same.new (o := .tup [.int (i : Nat), cs[i]]) fT)
      have hcT := at_upd (o := .tup [.int (i : Nat), cs[i]]) (ne_of_none hc fT) hc
      refine rd_unp (SqT.of upd_same) rfl ?_
      generalize upd H3 T1 (.tup [.int (i : Nat), cs[i]]) = H5 at sT haT hcT
      wtm_at "rd"
      refine ⟨g, n, e, c, ad, ps, cs[i], os[i], ns, ord, pn, es, _, Ad, rfl, (gs.same sT).re hcT okf, haT, hcd.same sT, Same.seqT sT hps, fun b H6 s6 hb => ?_⟩
      have s06 := sT.trans s6
      by_cases c0 : i < ms.length
      · have hi2 := c0
        have ex : os[i] = some ms[i] := by
          rcases ro with rfl | ⟨o, r, rfl, _⟩
          · rw [List.getElem_map]
          · rw [List.getElem_append_left (by rw [List.length_map]; exact c0), List.getElem_map]
        have lg := lq i c0
        have : b = true := hb.mpr ⟨_, ex, lg⟩
        subst this
        have tk := take_snoc hi2
        rw [ex] at hcd
        generalize cs[i] = ci at *
        generalize ms[i] = m at *
        cases hcd with
        | @mv a x v htm =>
        wtm_at "rd"
        refine rd_ixT (SqT.of (s06 _ _ htm)) (v := .int v) rfl ?_
        wtm_at "rd"
        refine rd_ixT (SqT.of (s06 _ _ htm)) (v := .str x) rfl ?_
        refine rd_dset (s6 _ _ hcT) (k := .inr x) rfl (by rw [List.length_map, gs.pm.length_eq]; have := gs.l2; omega) ?_
        rw [kvF_put (gs.inO _ lg.mem)]
        refine ⟨_, _, by omega, rfl, same_put s06 fc0, ?_, ?_⟩
        · have h6 := haT.same s6
          refine ⟨at_upd (Ne.symm nca) h6.di, fun m' hm' => ?_⟩
          obtain ⟨ys, z1, z2⟩ := h6.li m' hm'
          exact ⟨ys, at_upd (ncl m' hm') z1, z2⟩
        · rw [upd_same, tk, playF_snoc]
      · have ei : i = ms.length := by omega
        subst ei
        rcases ro with rfl | ⟨o, r, rfl, no⟩
        · rw [List.length_map] at hio
          omega
        rw [List.take_length, List.getElem_append_right (by rw [List.length_map]; exact Nat.le_refl _)] at hb
        simp only [List.length_map, Nat.sub_self, List.getElem_cons_zero] at hb
        have : b = false := by
          cases b with
          | false => rfl
          | true => exact (no (hb.mp rfl)).elim
        subst this
        wtm_at "rd"
        refine rd_rz ?_
        wtm_at "rd"
        refine rd_mk1 fun dd H' s' nd' hd => ?_
        exact q2 (fun z => by have := congrArg List.length z; rw [List.length_append] at this; simp at this) dd H' (s06.trans s') (s06.free nd') hd
    · rintro σ H3 ⟨u6, u7, il, rfl, s, ha, hc⟩
      have el : ms.length = cs.length := by omega
      have eo : os = ms.map some := by
        rcases ro with rfl | ⟨o, r, rfl, _⟩
        · rfl
        · rw [List.length_append, List.length_map] at hol
          simp at hol
          omega
      rw [List.take_of_length_le (by omega)] at hc
      wtm_at "rd"
      exact q1 eo c H3 s fc0 hc
end
end Law

namespace Law
open PySem PySem.Spec PyProof.Rows L2 U
local macro_rules | `(tactic| wtm_at "rd1") => `(tactic| first
  | with_reducible refine rd_seq ?_
  | ((with_reducible refine rd_var (v := ?vv) ?hv ?_); (case hv => exact rfl))
  | with_reducible refine rd_c ?_
  | with_reducible refine rd_cons ?_
  | with_reducible refine rd_nil ?_
  | with_reducible refine rd_op ?_
  | with_reducible refine rd_asg ?_
  | with_reducible refine rd_name ?_
  | with_reducible refine rd_c1 ?_
  | with_reducible refine rd_cb ?_
  | with_reducible refine rd_test ?_
  | with_reducible refine rd_B ?_
  | with_reducible refine rd_bl ?_
  | with_reducible refine rd_if ?_
  | with_reducible refine rd_ret ?_
  | with_reducible refine rd_drop ?_
  | with_reducible refine rd_next ?_
  | with_reducible refine rd_addI ?_
  | with_reducible refine rd_ltI ?_
  | with_reducible refine rd_eqI ?_
  | with_reducible refine rd_neI ?_
  | with_reducible refine rd_eqS ?_
  | with_reducible refine rd_neS ?_
  | with_reducible refine rd_gtI ?_
  | with_reducible refine rd_geI ?_
  | with_reducible refine rd_leI ?_
  | with_reducible refine rd_ltS ?_
  | with_reducible refine rd_subI ?_
  | ((with_reducible refine rd_modI ?hc ?_); (case hc => first | decide | omega))
  | ((with_reducible refine rd_mulI ?hc ?_); (case hc => first | exact mul_bI | exact .inl (.inr (by decide)) | exact .inl (.inl (by decide)) | exact .inl (.inr (by omega)) | exact .inl (.inl (by omega))))
  | ((with_reducible refine rd_divI ?hc ?_); (case hc => first | decide | omega))
  | ((with_reducible refine rd_powI ?hc ?_); (case hc => exact ⟨by decide, by decide, by decide⟩))
  | with_reducible refine rd_lst ?_
  | with_reducible refine rd_tup ?_
  | ((with_reducible refine rd_sz ?hv ?_); (case hv => exact rfl))
  | with_reducible refine rd_and ?_
  | with_reducible refine rd_or ?_
  | with_reducible refine rd_not ?_
  | with_reducible refine rd_andV ?_
  | with_reducible refine rd_orV ?_
  | with_reducible refine rd_notV ?_
  | with_reducible refine rd_ifE ?_
  | with_reducible refine rd_T ?_
  | with_reducible refine rd_F ?_
  | with_reducible refine rd_chain ?_
  | with_reducible refine rd_is ?_
  | with_reducible refine rd_isNot ?_
  | with_reducible refine rd_absI ?_
  | with_reducible refine rd_maxI ?_
  | with_reducible refine rd_minI ?_
  | with_reducible refine rd_intI ?_
  | with_reducible refine rd_intB ?_
  | with_reducible refine rd_sub ?_
  | with_reducible refine rd_sl ?_
  | with_reducible refine rd_noPart ?_
  | with_reducible refine rd_part ?_
  | with_reducible refine rd_exI ?_
  | with_reducible refine rd_bm ?_
  | with_reducible refine rd_bm0 ?_
  | with_reducible refine rd_un ?_
  | with_reducible refine rd_neg ?_
  | with_reducible refine rd_c2 ?_
  | with_reducible refine rd_retN ?_
  | with_reducible refine rd_break ?_
  | with_reducible refine rd_cont ?_
  | with_reducible refine rd_for ?_
  | with_reducible refine rd_rng1 ?_
  | with_reducible refine rd_rng2 ?_
  | with_reducible refine rd_iList ?_
  | with_reducible refine rd_iTup ?_
  | with_reducible refine rd_iEnum ?_
  | ((with_reducible refine rd_forR ?h0 ?h1 ?_); (case h0 => omega); (case h1 => omega))
  | with_reducible refine rd_lc ?_
  | with_reducible refine rd_gcons ?_
  | with_reducible refine rd_gnil ?_
  | with_reducible refine rd_dget ?_
  | with_reducible refine rd_dput ?_
  | with_reducible refine rd_dnew ?_
  | with_reducible refine rd_dc ?_
  | with_reducible refine rd_iItems ?_
  | with_reducible refine rd_iKeys ?_
  | with_reducible refine rd_din ?_
  | with_reducible refine rd_lc2 ?_
  | with_reducible refine rd_cd ?_
  | with_reducible refine rd_par ?_
  | with_reducible refine rd_two ?_
  | with_reducible refine rd_reprB ?_
  | with_reducible refine rd_ck ?_
  | ((with_reducible refine rd_len ?hl ?_); (case hl => exact rfl))
  | with_reducible refine rd_nT ?_
  | with_reducible refine rd_nF ?_
  | with_reducible refine rd_dnin ?_
  | with_reducible refine rd_isB ?_
  | with_reducible refine rd_isNotB ?_
  | with_reducible refine rd_daug ?_
  | with_reducible refine rd_yesT ?_
  | ((with_reducible refine rd_wp ?hw ?_); (case hw => exact rfl)))
local macro_rules | `(tactic| wtm_at "rd") => `(tactic| repeat wtm_at "rd1")

section
variable {K : PySem.W.Frag} {H : Hp} {Q : VK} {p q : Addr} {σ : L2.St}
theorem rd_neKF {ord : List Str} {f g : Str → Int} (h1 : H p = some (.dK (kvF ord f))) (h2 : H q = some (.dK (kvF ord g))) (e : ∀ n ∈ ord, f n = g n) (h : Q (.bl false) H) : rNeDA (.ref p) (.ref q) H Q := by
  refine ⟨p, q, _, _, rfl, rfl, h1, h2, by rw [List.length_map, List.length_map], fun x hx => ?_, h⟩
  obtain ⟨n, hn, rfl⟩ := List.mem_map.mp hx
  exact ⟨by rw [kvF_val hn, e n hn], rfl⟩
theorem rd_lstS {tr : TA} (h : tr σ H fun xs H1 => xs.length ≤ sizeLine ∧ ∀ p, H1 p = none → (p == sysModules) = false → Q (.ref p) (upd H1 p (.lst xs))) : tLstS tr σ H Q := h
theorem rd_reprAll {g n e st ps l : Addr} {ns ord pn : List Str} {es : List (Addr × Str × Str)} {f : Str → Int} (gs : GSt H g n e st ns ord es f) (hps : H ps = some (.tup (pn.map V.str))) (hl : H l = some (.lst [.ref g, .ref st, .ref ps])) (hn : (l == sysModules) = false)
    (pin : ∀ x ∈ pn, x ∈ ns) (pl : pn.length ≤ 100) (h : Q (.str (PyData.list [dGr ns (es.map (·.2)), dSt ord f, dStrs pn]).shown) H) : rReprL K [.ref l] H Q := by
  have nm := gs.ok.names.ok
  have ed : ∀ (es2 : List (Addr × Str × Str)), (∀ x ∈ es2, H x.1 = some (.tup [.str x.2.1, .str x.2.2])) → DpAll K H (es2.map fun x => V.ref x.1) ((es2.map (·.2)).map fun e => PyData.tuple [.str e.1, .str e.2]) := by
    intro es2
    induction es2 with
    | nil => intro _; exact .nil
    | cons x xs ih => intro hx; exact .cons (.tup (SqT.of (hx x List.mem_cons_self)) (.cons (.str _) (.cons (.str _) .nil))) (ih fun y hy => hx y (List.mem_cons_of_mem _ hy))
  have to1 : ∀ xs : List Str, tupOnlyAll (xs.map PyData.str) = true := by
    intro xs
    induction xs with
    | nil => rfl
    | cons x xs ih => simp [tupOnlyAll, tupOnly, ih]
  have to2 : ∀ xs : List (Str × Str), tupOnlyAll (xs.map fun e => PyData.tuple [.str e.1, .str e.2]) = true := by
    intro xs
    induction xs with
    | nil => rfl
    | cons x xs ih => simp [tupOnlyAll, tupOnly, ih]
  refine .inl ⟨_, _, hl, hn, .cons (.of (.tup (SqT.of gs.gr.top) (.cons (.tup (SqT.of gs.gr.nodes) (dp_strs _)) (.cons (.tup (SqT.of gs.gr.edges) (ed es gs.gr.pairs)) .nil))) ?_) (.cons (.dct gs.st) (.cons (.of (.tup (SqT.of hps) (dp_strs _)) ?_) .nil)), ?_, h⟩
  · rw [tupOnly, tupOnlyAll, tupOnlyAll, tupOnlyAll, tupOnly, tupOnly, to1, to2]
    rfl
  · simp [tupOnly, to1]
  · refine shows_all nm (fun e he => ?_) (fun n hn => ?_) (fun n hn => nm _ (pin n hn)) gs.l2 (by rw [List.length_map]; exact gs.l3) (by rw [gs.pm.length_eq]; exact gs.l2) pl
    · obtain ⟨z1, z2⟩ := gs.ok.mem e he
      exact ⟨nm _ z1, nm _ z2⟩
    · have := gs.pm.mem_iff.mp hn
      exact ⟨nm _ this, gs.tri _ this⟩
end
theorem mem_of_legal {ns : List Str} {es : List (Str × Str)} {f : Str → Int} {ps : List Str} {m : Str × Int} (l : Legal ns es f ps m) : m ∈ movesF ns es f ps := by
  unfold movesF
  rw [List.mem_flatMap]
  refine ⟨m.1, l.mem, ?_⟩
  rw [if_neg l.pin]
  unfold movesOf
  refine List.mem_map.mpr ⟨m.2, List.mem_filter.mpr ⟨?_, ?_⟩, rfl⟩
  · have hv := l.val
    have : m.2 = 0 ∨ m.2 = 1 ∨ m.2 = 2 := by omega
    rcases this with h | h | h <;> rw [h] <;> simp
  · unfold freeB
    rw [Bool.not_eq_true', decide_eq_false_iff_not]
    intro z
    rcases List.mem_append.mp z with z | z
    · obtain ⟨y, hy, ey⟩ := List.mem_map.mp z
      exact l.nbr y (mem_nbrF.mp hy) ey.symm
    · rw [List.mem_singleton] at z
      exact l.own z
theorem LegalSeq.take {ns : List Str} {es : List (Str × Str)} {pn : List Str} {f : Str → Int} {ms : List (Str × Int)} (l : LegalSeq ns es pn f ms) (k : Nat) : LegalSeq ns es pn f (ms.take k) := by
  intro i h
  rw [List.length_take] at h
  rw [List.getElem_take, List.take_take, Nat.min_eq_left (by omega)]
  exact l i (by omega)
def spLaw (K : PySem.W.Frag) : Sp := fun vs H Q _ => ∃ (a : Addr) (nums : List Int), vs = [.ref a] ∧ SqL K H a (nums.map V.int) ∧ nums.length ≤ 63 ∧ ∀ H' : Hp, Q (.bl true) H'
theorem seqL_keep {K : PySem.W.Frag} {H H' : Hp} {a p : Addr} {xs : List V} (h : SqL K H a xs) (np : H p = none) (b : But p H H') : SqL K H' a xs := by
  rcases h with (h | ⟨o, h⟩) | h
  · exact .inl (.inl (b _ _ (ne_of_none h np) h))
  · exact .inl (.inr ⟨o, b _ _ (ne_of_none h np) h⟩)
  · exact .inr h
section
variable {P : Program} {w : World} {K : PySem.W.Frag} {mg : Str → Option Value} {base : Heap}
end
end Law

/-! moves one behind the other -/
namespace Law
open PySem PySem.Spec PyProof.Rows L2 U
theorem playF_cons {f : Str → Int} {m : Str × Int} {r : List (Str × Int)} : playF f (m :: r) = playF (updf f m.1 m.2) r := rfl
theorem seq_cons {ns : List Str} {es : List (Str × Str)} {pn : List Str} {f : Str → Int} {m : Str × Int} {r : List (Str × Int)} : LegalSeq ns es pn f (m :: r) ↔ Legal ns es f pn m ∧ LegalSeq ns es pn (updf f m.1 m.2) r := by
  constructor
  · intro l
    refine ⟨l 0 (Nat.succ_pos _), fun i h => ?_⟩
    have := l (i + 1) (Nat.succ_lt_succ h)
    rw [List.take_succ_cons, playF_cons] at this
    exact this
  · rintro ⟨l1, l2⟩ i h
    cases i with
    | zero => exact l1
    | succ i =>
      rw [List.take_succ_cons, playF_cons]
      exact l2 i (Nat.lt_of_succ_lt_succ h)
end Law

/-! isinstance of a kept exception, its dict known -/
namespace U
open PySem PySem.Spec PyProof.Rows L2
section
variable {P : Program} {w : World} {A : Around} {E : Value → Shared → Prop} {K : PySem.W.Frag} {x D : Addr} {ox : Obj} {od : Option Obj}
theorem find_class (C : ExcC K D) : PySem.W.findObj K D od "__class__" = some (.bind (.builtin "getset_descriptor.__get__") (.builtin "object.__class__")) := by
  obtain ⟨cd, hc, _⟩ := PySem.W.any_some C.hd
  unfold PySem.W.findObj
  rw [hc, Option.bind_some, C.ha, Option.bind_some]
  simp [C.hn, C.ht]
theorem class_of_exc {Q : Option Value → Shared → Prop} {s : Shared} (C : ExcC K D) (X : K.In s.heap) (I : PySem.W.InstAt s.heap x ox D od) (h : Q (some (.ref D)) { s with toks := s.toks + 1 }) : wpAny (model P w) A (getAttr? (.ref x) "__class__") Q E s := by
  obtain ⟨hp, g, d, t, os⟩ := s
  have lt := I.type (M := model P w)
  have l1 := PySem.W.looks_findIn (M := model P w) X C.hg
  have l2 := PySem.W.looks_findIn (M := model P w) X C.hk
  have l3 := PySem.W.looks_find (M := model P w) X I (find_class C)
  have isB : PySem.W.Looks (model P w) hp (isInstance (.ref x) (.type "BaseException")) true := lt.andThen (PySem.W.looks_subIn X C.hs)
  have q1 : (Value.builtin "BaseException.__getattribute__" == Value.builtin "object.__getattribute__") = false := by decide +kernel
  have q2 : (onTheHeap (Value.ref D) && Value.builtin "BaseException.__getattribute__" == Value.builtin "object.__getattribute__") = false := by rw [q1] <;> rfl
  have q3 : (false && onTheHeap (Value.builtin "BaseException.__getattribute__")) = false := rfl
  unfold getAttr? getAttrBy? getAttrBy
  refine wpAny_bind (wpAny_mkText (wpAny_bind (wpAny_attempt ?_)))
  refine wpAny_holding (wpAny_bind (lt.at (wpAny_bind (l1.at ?_))))
  show wpAny _ _ (if (onTheHeap (Value.ref D) && Value.builtin "BaseException.__getattribute__" == Value.builtin "object.__getattribute__") = true then _ else _) _ _ _
  rw [q2, if_neg Bool.false_ne_true]
  unfold getAttrByItsOwn hookBefore
  refine wpAny_bind ?_
  rw [if_pos (show onTheHeap (Value.ref D) = true from rfl)]
  refine l2.at (wpAny_bind (wpAny_attempt (wpAny_holding ?_)))
  unfold callGetattribute
  rw [q3, if_neg Bool.false_ne_true]
  unfold boundAndCalled
  rw [PySem.F.excAttr_ValueError.ga.bind (.ref x)]
  refine wpAny_bind (wpAny_pure ?_)
  show wpAny _ _ (call (.builtin "BaseException.__getattribute__") [.ref x, .str "__class__" t]) _ _ _
  refine wpAny_call (PySem.codeAny_call_builtin PySem.F.excAttr_ValueError.ga.plain PySem.F.entry_bexc_ga ?_)
  have args := PySem.F.args_bexc_ga (.ref x) (.str "__class__" t)
  refine @PySem.W.check_slot (model P w) _ _ ⟨hp, g, d, t + 1, os⟩ "BaseException.__getattribute__" "BaseException" "__getattribute__" (.ref x) [.str "__class__" t] [] _ (by decide +kernel) (by decide +kernel) isB args ?_
  unfold Builtin.«object.__getattribute__»
  refine wpAny_bind (wpAny_of_eq (a := ((Value.ref x : Value), [Value.str "__class__" t])) (by first | rfl | (simp only [slotArgs]; rfl)) ?_)
  refine wpAny_bind (wpAny_pure ?_)
  refine wpAny_bind (lt.at (wpAny_bind (l3.at ?_)))
  show wpAny _ _ (holding [Value.builtin "object.__class__"] (call (.builtin "getset_descriptor.__get__") [.builtin "object.__class__", .ref x, .ref D]) >>= ret) _ _ _
  refine wpAny_bind (wpAny_holding (wpAny_call ?_))
  refine PySem.W.class_get (s := ⟨hp, g, d, t + 1, os⟩) (ox := ox) (od := od) X I C.hm ?_
  refine wpAny_pure ?_
  show wpAny _ _ (handedOut (.ref D)) _ _ _
  rw [PySem.W.handedOut_of (v := .ref D) rfl]
  first
    | exact wpAny_pure (wpAny_pure h)
    | exact wpAny_pure h
    | exact wpAny_pure (wpAny_bind (wpAny_pure (wpAny_pure h)))
theorem kitx_exc (C : ExcC K D) : PySem.W.KitX K (.ref x) (.ref D) (fun h => ∃ ox od, PySem.W.InstAt h x ox D od) where
  ty := fun _ _ _ ⟨_, _, I⟩ => I.type
  it := fun M h X _ => by
    obtain ⟨cd, hcD, _⟩ := PySem.W.any_some C.hd
    unfold PySem.W.clsIn at hcD
    split at hcD
    · rename_i ho
      intro A' Q' E' s' k q
      unfold isType loadHead
      refine wpAny_bind (wpAny_loadPart (k _ _ (X _ _ ho)) ?_)
      exact wpAny_pure q
    · cases hcD
  ne := fun h tp dd its n sl X htp => (PySem.W.handS_kitx_exc (x := x) (ox := default) C.hg C.hk C.hs C.hd C.ha C.hn C.ht C.hm).ne h tp dd its n sl X htp
  ca := fun X ⟨_, _, I⟩ k => class_of_exc C X I k
end
/-- isinstance(e, c), e kept -/
def rIsK (K : PySem.W.Frag) : List V → Hp → VK → Prop := fun xs H Q => ∃ (a C dd : Addr) (fs : List (Str × V)) (c : V) (cv : Value) (b : Bool), xs = [.ref a, c] ∧ H a = some (exk a (.ref C) (some dd)) ∧ H dd = some (.xd fs) ∧ ExcC K C ∧ (∀ u, RelV c u → u = cv) ∧ PySem.W.kitOne K (.ref C) cv = some b ∧ Q (.bl b) H
theorem kIsK {X : Cx} (K : PySem.W.Frag) (hK : X.K = K) : CallR X (.builtin "isinstance") (rIsK K) := by
  subst hK
  intro pins s σ H xs us Q I r h
  obtain ⟨a, C, dd, fs, c, cv, b, rfl, hk, hdd, T, hcv, e, q⟩ := h
  match us, r with
  | [_, u], .cons rx (.cons rt .nil) =>
    cases rx
    have ec := hcv _ rt
    subst ec
    obtain ⟨oe, vs, h1, hz, hd⟩ := exk_at I.hok hk
    have hx : ObjOk X.prog X.w H s.heap dd (.xd fs) := I.hok dd _ hdd
    obtain ⟨mA, hns, hr⟩ := hx
    obtain ⟨od, ho, hl2⟩ := lookIn_ns hns
    have J : PySem.W.InstAt s.heap a oe C (some od) := by
      refine ⟨h1, hz.1, ?_, ?_⟩
      · unfold PySem.W.notCls
        rw [hd] <;> rfl
      · rw [hz.2]
        exact ho
    exact PySem.W.kia_one (kitx_exc T) I.kIn ⟨_, _, J⟩ e (fun z => nomatch z) fun tk => ⟨.bl b, H, I.kept (t' := tk) fun _ _ z => z, rfl, q⟩
theorem rd_isK {K : PySem.W.Frag} {H : Hp} {Q : VK} {a C dd : Addr} {fs : List (Str × V)} {c : V} {cv : Value} {b : Bool} (hk : H a = some (exk a (.ref C) (some dd))) (hd : H dd = some (.xd fs)) (T : ExcC K C) (hc : ∀ u, RelV c u → u = cv) (e : PySem.W.kitOne K (.ref C) cv = some b) (h : Q (.bl b) H) : rIsK K [.ref a, c] H Q :=
  ⟨a, C, dd, fs, c, cv, b, rfl, hk, hd, T, hc, e, h⟩
end U
namespace U
open PySem PySem.Spec PyProof.Rows L2
theorem kit_refT {K : PySem.W.Frag} {D C : Addr} (h1 : PySem.W.isClsIn K C = true) (h2 : PySem.W.typeIn K (.ref C) = some (.type "type")) (h3 : PySem.W.subIn K (.ref D) (.ref C) = some true) : PySem.W.kitOne K (.ref D) (.ref C) = some true := by
  have h1' : (PySem.W.clsIn K C).isSome = true := h1
  unfold PySem.W.kitOne PySem.W.kitCls
  split
  · rfl
  · show (if ((PySem.W.clsIn K C).isSome && PySem.W.typeIn K (.ref C) == some (.type "type")) = true then PySem.W.subIn K (.ref D) (.ref C) else none) = some true
    rw [if_pos (by rw [h1', h2] <;> rfl)]
    exact h3
theorem kit_ty {K : PySem.W.Frag} {D : Addr} {T : String} {b : Bool} (h1 : PySem.W.kitMeta T = true) (h3 : PySem.W.subIn K (.ref D) (.type T) = some b) : PySem.W.kitOne K (.ref D) (.type T) = some b := by
  unfold PySem.W.kitOne PySem.W.kitCls
  show (if (Value.ref D == Value.type T) = true then some true else if PySem.W.kitMeta T = true then PySem.W.subIn K (.ref D) (.type T) else none) = some b
  rw [if_neg (fun z => nomatch (beq_iff_eq.mp z : Value.ref D = Value.type T)), if_pos h1]
  exact h3
end U

/-! the facts of an own error class, gathered from the fragment -/
namespace U
open PySem PySem.Spec PyProof.Rows L2
theorem exm_sub {K : PySem.W.Frag} {S T : Addr} (h1 : PySem.W.subIn K (.ref S) (.type "BaseException") = some true) (b1 : PySem.W.subIn K (.ref T) (.type "BaseException") = some true) (h2 : PySem.W.isClsIn K T = true) (h3 : PySem.W.typeIn K (.ref T) = some (.type "type")) (h4 : PySem.W.subIn K (.ref S) (.ref T) = some true) :
    PySem.W.exmOne K (.ref S) (.ref T) = some true := by
  have e1 : (PySem.W.subIn K (.ref T) (.type "BaseException") == some true) = true := by rw [b1] <;> rfl
  have e2 : ((PySem.W.clsIn K T).isSome && PySem.W.typeIn K (.ref T) == some (.type "type")) = true := by
    have h2' : (PySem.W.clsIn K T).isSome = true := h2
    rw [h2', h3] <;> rfl
  show (if (PySem.W.subIn K (.ref T) (.type "BaseException") == some true) = true then (if ((PySem.W.clsIn K T).isSome && PySem.W.typeIn K (.ref T) == some (.type "type")) = true then PySem.W.subIn K (.ref S) (.ref T) else none) else none) = some true
  rw [if_pos e1, if_pos e2]
  exact h4
theorem own_mk {K : PySem.W.Frag} {mg : Str → Option Value} {x f : Str} {C CB fI : Addr} {nm q : Str} {N : Addr} {bs : List Value} {sn : List Str} {sub : List Value} {ab : Bool} {col : Option Bool} {dd : Option Addr} {m0 m1 m2 m3 m5 : Option Value}
    (gC : mg x = some (.ref C)) (gB : mg "InputError" = some (.ref CB))
    (xL : K.lookup C = some (excClassObj nm q C N bs [.ref CB, .type "ValueError", .type "Exception", .type "BaseException", .type "object"] true sn sub ab col dd m0 m1 m2 m3 m5 "ValueError.__new__"))
    (sa : PySem.W.findIn K (.ref C) "__setattr__" = some (some (.builtin "object.__setattr__"))) (ga : PySem.W.findIn K (.ref C) "__getattribute__" = some (some (.builtin "BaseException.__getattribute__"))) (gg : PySem.W.findIn K (.ref C) "__getattr__" = some none) (nb : PySem.W.findIn K (.ref C) f = some none)
    (a1 : PySem.W.findIn K (.ref C) "__init__" = some (some (.ref fI))) (t1 : PySem.W.typeIn K (.ref fI) = some (.type "function"))
    (kC : PySem.W.keepIn K (.ref C) = true) (eC : PySem.W.subIn K (.ref C) (.type "BaseException") = some true) (tC : PySem.W.typeIn K (.ref C) = some (.type "type")) (hC : PySem.W.hasDictIn K C = true) (iC : PySem.W.isClsIn K C = true) (sC : PySem.W.subIn K (.ref C) (.ref C) = some true)
    (kB : PySem.W.keepIn K (.ref CB) = true) (eB : PySem.W.subIn K (.ref CB) (.type "BaseException") = some true) (tB : PySem.W.typeIn K (.ref CB) = some (.type "type")) (iB : PySem.W.isClsIn K CB = true) (sB : PySem.W.subIn K (.ref C) (.ref CB) = some true)
    (gB2 : PySem.W.specialIn K (.ref CB) "__getattribute__" = some (some (.builtin "type.__getattribute__"))) (rB : PySem.W.readsIn K CB (.type "type") = true) (aB : PySem.W.findCls K (.ref CB) (.type "type") "__init__" = some (.val (.builtin "ValueError.__init__"))) : OwnX K mg x f C CB fI where
  gC := gC
  ox := ⟨⟨nm, q, N, bs, _, sn, sub, ab, col, dd, m0, m1, m2, m3, m5, xL, by first | rfl | decide +kernel⟩, sa, eC, tC, kC⟩
  no := nb
  iC := a1
  tI := t1
  xf := ⟨ga, gg, eC, hC⟩
  gB := gB
  bi := ⟨kB, gB2, rB, aB⟩
  ex := exm_sub eC eC iC tC sC
  eb := exm_sub eC eB iB tB sB
end U

/-! own exceptions with one field over any built-in class of the plain kind -/
namespace U
open PySem PySem.Spec PyProof.Rows L2
section
variable {P : Program} {w : World} {A : Around} {R : Result → Shared → Prop} {hp : Heap} {g : Array GenState} {d : Drawn} {t : Nat} {os : OsState} {B newId initId : String} {bmB : List Value}
end
section
variable {X : Cx} {pins : List (Addr × Obj)} {σ : L2.St} {H : Hp} {s : Shared} {a C dx : Addr} {f : Str} {y : V} {u : Value} {B newId initId : String} {bmB : List Value}
variable {o e : Expr} {es : List Expr} {to te : TE} {ta : TA} {p p' p1 p2 pos : Pos}
end
section
variable {X : Cx} {W : WX} {j : Nat} {x f : Str} {B newId initId : String} {bmB : List Value} {C : Addr} {e : Expr} {te : TE} {p p2 pos : Pos}
end
section
variable {K : PySem.W.Frag} {H : Hp} {Q : VK} {D : Ends} {σ : L2.St} {newId : String} {bmB : List Value} {ta : TA} {te : TE}
end
end U

/-! own exceptions over KeyError: made by LookupError's __new__ -/
namespace U
open PySem PySem.Spec PyProof.Rows L2
section
variable {M : Model} {A : Around} {E : Value → Shared → Prop} {h : Heap} {g : Array GenState} {d : Drawn} {t : Nat} {os : OsState}
variable {nm q : Str} {C N : Addr} {bs bm bmN : List Value} {hdct : Bool} {sn : List Str} {sub : List Value} {ab : Bool} {col : Option Bool} {dd : Option Addr} {k0 k1 k2 k3 k5 : Option Value} {NB newId iI : String}
end
section
variable {P : Program} {w : World} {A : Around} {R : Result → Shared → Prop} {h : Heap} {g : Array GenState} {d : Drawn} {t : Nat} {os : OsState}
variable {nm q : Str} {C N : Addr} {bs bm bmN : List Value} {hdct : Bool} {sn : List Str} {sub : List Value} {ab : Bool} {col : Option Bool} {dd : Option Addr} {k0 k1 k2 k3 k5 : Option Value} {NB newId iI : String}
end
end U

/-! UnknownNode; check_node, neighbors -/
namespace Law
open PySem PySem.Spec PyProof.Rows L2 U
local macro_rules | `(tactic| wtm_at "rd1") => `(tactic| first
  | with_reducible refine rd_seq ?_
  | ((with_reducible refine rd_var (v := ?vv) ?hv ?_); (case hv => exact rfl))
  | with_reducible refine rd_c ?_
  | with_reducible refine rd_cons ?_
  | with_reducible refine rd_nil ?_
  | with_reducible refine rd_op ?_
  | with_reducible refine rd_asg ?_
  | with_reducible refine rd_name ?_
  | with_reducible refine rd_c1 ?_
  | with_reducible refine rd_cb ?_
  | with_reducible refine rd_test ?_
  | with_reducible refine rd_B ?_
  | with_reducible refine rd_bl ?_
  | with_reducible refine rd_if ?_
  | with_reducible refine rd_ret ?_
  | with_reducible refine rd_drop ?_
  | with_reducible refine rd_next ?_
  | with_reducible refine rd_addI ?_
  | with_reducible refine rd_ltI ?_
  | with_reducible refine rd_eqI ?_
  | with_reducible refine rd_neI ?_
  | with_reducible refine rd_eqS ?_
  | with_reducible refine rd_neS ?_
  | with_reducible refine rd_gtI ?_
  | with_reducible refine rd_geI ?_
  | with_reducible refine rd_leI ?_
  | with_reducible refine rd_ltS ?_
  | with_reducible refine rd_subI ?_
  | ((with_reducible refine rd_modI ?hc ?_); (case hc => first | decide | omega))
  | ((with_reducible refine rd_mulI ?hc ?_); (case hc => first | exact mul_bI | exact .inl (.inr (by decide)) | exact .inl (.inl (by decide)) | exact .inl (.inr (by omega)) | exact .inl (.inl (by omega))))
  | ((with_reducible refine rd_divI ?hc ?_); (case hc => first | decide | omega))
  | ((with_reducible refine rd_powI ?hc ?_); (case hc => exact ⟨by decide, by decide, by decide⟩))
  | with_reducible refine rd_lst ?_
  | with_reducible refine rd_tup ?_
  | ((with_reducible refine rd_sz ?hv ?_); (case hv => exact rfl))
  | with_reducible refine rd_and ?_
  | with_reducible refine rd_or ?_
  | with_reducible refine rd_not ?_
  | with_reducible refine rd_andV ?_
  | with_reducible refine rd_orV ?_
  | with_reducible refine rd_notV ?_
  | with_reducible refine rd_ifE ?_
  | with_reducible refine rd_T ?_
  | with_reducible refine rd_F ?_
  | with_reducible refine rd_chain ?_
  | with_reducible refine rd_is ?_
  | with_reducible refine rd_isNot ?_
  | with_reducible refine rd_absI ?_
  | with_reducible refine rd_maxI ?_
  | with_reducible refine rd_minI ?_
  | with_reducible refine rd_intI ?_
  | with_reducible refine rd_intB ?_
  | with_reducible refine rd_sub ?_
  | with_reducible refine rd_sl ?_
  | with_reducible refine rd_noPart ?_
  | with_reducible refine rd_part ?_
  | with_reducible refine rd_exI ?_
  | with_reducible refine rd_bm ?_
  | with_reducible refine rd_bm0 ?_
  | with_reducible refine rd_un ?_
  | with_reducible refine rd_neg ?_
  | with_reducible refine rd_c2 ?_
  | with_reducible refine rd_retN ?_
  | with_reducible refine rd_break ?_
  | with_reducible refine rd_cont ?_
  | with_reducible refine rd_for ?_
  | with_reducible refine rd_rng1 ?_
  | with_reducible refine rd_rng2 ?_
  | with_reducible refine rd_iList ?_
  | with_reducible refine rd_iTup ?_
  | with_reducible refine rd_iEnum ?_
  | ((with_reducible refine rd_forR ?h0 ?h1 ?_); (case h0 => omega); (case h1 => omega))
  | with_reducible refine rd_lc ?_
  | with_reducible refine rd_gcons ?_
  | with_reducible refine rd_gnil ?_
  | with_reducible refine rd_dget ?_
  | with_reducible refine rd_dput ?_
  | with_reducible refine rd_dnew ?_
  | with_reducible refine rd_dc ?_
  | with_reducible refine rd_iItems ?_
  | with_reducible refine rd_iKeys ?_
  | with_reducible refine rd_din ?_
  | with_reducible refine rd_lc2 ?_
  | with_reducible refine rd_cd ?_
  | with_reducible refine rd_par ?_
  | with_reducible refine rd_two ?_
  | with_reducible refine rd_reprB ?_
  | with_reducible refine rd_ck ?_
  | ((with_reducible refine rd_len ?hl ?_); (case hl => exact rfl))
  | with_reducible refine rd_nT ?_
  | with_reducible refine rd_nF ?_
  | with_reducible refine rd_dnin ?_
  | with_reducible refine rd_isB ?_
  | with_reducible refine rd_isNotB ?_
  | with_reducible refine rd_daug ?_
  | with_reducible refine rd_yesT ?_
  | ((with_reducible refine rd_wp ?hw ?_); (case hw => exact rfl)))
local macro_rules | `(tactic| wtm_at "rd") => `(tactic| repeat wtm_at "rd1")

/-- no node -/
def NotN (K : PySem.W.Frag) (H : Hp) (ns : List Str) (x : V) : Prop := (∃ t, TyIs K H x t ∧ isT t .str = false) ∨ ∃ s, x = .str s ∧ s ∉ ns
theorem NotN.same {K : PySem.W.Frag} {H H' : Hp} {ns : List Str} {x : V} (h : NotN K H ns x) (s : Same H H') : NotN K H' ns x := by
  rcases h with ⟨t, h1, h2⟩ | h
  · exact .inl ⟨t, tyx_same h1 s, h2⟩
  · exact .inr h
section
variable {P : Program} {w : World} {K : PySem.W.Frag} {mg : Str → Option Value} {base : Heap}
end
end Law

/-! paths found level by level: the plain law -/
namespace U
open PySem PySem.Spec PyProof.Rows L2
inductive Reach (adj : Str → List Str) (ok : Str → Str → Bool) (root : Str) : Str → Prop
  | refl : Reach adj ok root root
  | step {a b : Str} : Reach adj ok root a → b ∈ adj a → ok a b = true → Reach adj ok root b
theorem Reach.trans {adj : Str → List Str} {ok : Str → Str → Bool} {a b c : Str} (h : Reach adj ok a b) (k : Reach adj ok b c) : Reach adj ok a c := by
  induction k with
  | refl => exact h
  | step _ m o ih => exact .step ih m o
section
variable {adj : Str → List Str} {ok : Str → Str → Bool} {root : Str}
end

/-! ### neighbours in order -/
end U

/-! d.update(e); lists of texts compared; the last but one -/
namespace U
open PySem PySem.Spec PyProof.Rows L2
/-! lists of texts compared -/
section
variable {K : PySem.W.Frag} {H : Hp} {Q : VK} {p q : Addr} {x y : V} {d : PyData} {xs ys : List Str}
/-- the same data twice -/
theorem rd_neSame (hp : Dp K H (.ref p) d) (hq : Dp K H (.ref q) d) (sh : SeqAt.shaped d = true) (h : Q (.bl false) H) : rNeU K (.ref p) (.ref q) H Q := by
  refine ⟨_, _, hp, hq, sh, sh, ?_⟩
  rw [SeqAt.eqv_refl _ (SeqAt.canLay_of_shaped sh)]
  exact h
end
end U

/-! small readings that many laws want -/
namespace U
open PySem PySem.Spec PyProof.Rows L2
section
variable {K : PySem.W.Frag} {H H' : Hp} {Q : VK} {p q a : Addr} {σ : L2.St} {te td : TE} {tr : TA} {xs : List V}
theorem rd_neKF {ord : List Str} {f g : Str → Int} (h1 : H p = some (.dK (kvF ord f))) (h2 : H q = some (.dK (kvF ord g))) (e : ∀ n ∈ ord, f n = g n) (h : Q (.bl false) H) : rNeDA (.ref p) (.ref q) H Q := by
  refine ⟨p, q, _, _, rfl, rfl, h1, h2, by rw [List.length_map, List.length_map], fun x hx => ?_, h⟩
  obtain ⟨n, hn, rfl⟩ := List.mem_map.mp hx
  exact ⟨by rw [kvF_val hn, e n hn], rfl⟩
theorem rd_lstS {tr : TA} (h : tr σ H fun xs H1 => xs.length ≤ sizeLine ∧ ∀ p, H1 p = none → (p == sysModules) = false → Q (.ref p) (upd H1 p (.lst xs))) : tLstS tr σ H Q := h
theorem seqL_keep (h : SqL K H a xs) (np : H p = none) (b : But p H H') : SqL K H' a xs := by
  rcases h with (h | ⟨o, h⟩) | h
  · exact .inl (.inl (b _ _ (ne_of_none h np) h))
  · exact .inl (.inr ⟨o, b _ _ (ne_of_none h np) h⟩)
  · exact .inr h
end
theorem cutV_from {xs : List V} {i : Nat} (h : i ≤ xs.length) : cutV xs (some (i : Int)) none = xs.drop i := by
  unfold cutV HT.sIx
  simp only
  rw [if_neg (by omega), Int.toNat_natCast, Nat.min_eq_left h]
  exact List.take_of_length_le (by rw [List.length_drop]; omega)
end U

/-! a pair among pairs; lists of lists of texts -/
namespace U
open PySem PySem.Spec PyProof.Rows L2
/-! lists of lists of texts -/
end U

/-! what laws try besides nodes -/
namespace Law
open PySem PySem.Spec PyProof.Rows L2 U
local macro_rules | `(tactic| wtm_at "rd1") => `(tactic| first
  | with_reducible refine rd_seq ?_
  | ((with_reducible refine rd_var (v := ?vv) ?hv ?_); (case hv => exact rfl))
  | with_reducible refine rd_c ?_
  | with_reducible refine rd_cons ?_
  | with_reducible refine rd_nil ?_
  | with_reducible refine rd_op ?_
  | with_reducible refine rd_asg ?_
  | with_reducible refine rd_name ?_
  | with_reducible refine rd_c1 ?_
  | with_reducible refine rd_cb ?_
  | with_reducible refine rd_test ?_
  | with_reducible refine rd_B ?_
  | with_reducible refine rd_bl ?_
  | with_reducible refine rd_if ?_
  | with_reducible refine rd_ret ?_
  | with_reducible refine rd_drop ?_
  | with_reducible refine rd_next ?_
  | with_reducible refine rd_addI ?_
  | with_reducible refine rd_ltI ?_
  | with_reducible refine rd_eqI ?_
  | with_reducible refine rd_neI ?_
  | with_reducible refine rd_eqS ?_
  | with_reducible refine rd_neS ?_
  | with_reducible refine rd_gtI ?_
  | with_reducible refine rd_geI ?_
  | with_reducible refine rd_leI ?_
  | with_reducible refine rd_ltS ?_
  | with_reducible refine rd_subI ?_
  | ((with_reducible refine rd_modI ?hc ?_); (case hc => first | decide | omega))
  | ((with_reducible refine rd_mulI ?hc ?_); (case hc => first | exact mul_bI | exact .inl (.inr (by decide)) | exact .inl (.inl (by decide)) | exact .inl (.inr (by omega)) | exact .inl (.inl (by omega))))
  | ((with_reducible refine rd_divI ?hc ?_); (case hc => first | decide | omega))
  | ((with_reducible refine rd_powI ?hc ?_); (case hc => exact ⟨by decide, by decide, by decide⟩))
  | with_reducible refine rd_lst ?_
  | with_reducible refine rd_tup ?_
  | ((with_reducible refine rd_sz ?hv ?_); (case hv => exact rfl))
  | with_reducible refine rd_and ?_
  | with_reducible refine rd_or ?_
  | with_reducible refine rd_not ?_
  | with_reducible refine rd_andV ?_
  | with_reducible refine rd_orV ?_
  | with_reducible refine rd_notV ?_
  | with_reducible refine rd_ifE ?_
  | with_reducible refine rd_T ?_
  | with_reducible refine rd_F ?_
  | with_reducible refine rd_chain ?_
  | with_reducible refine rd_is ?_
  | with_reducible refine rd_isNot ?_
  | with_reducible refine rd_absI ?_
  | with_reducible refine rd_maxI ?_
  | with_reducible refine rd_minI ?_
  | with_reducible refine rd_intI ?_
  | with_reducible refine rd_intB ?_
  | with_reducible refine rd_sub ?_
  | with_reducible refine rd_sl ?_
  | with_reducible refine rd_noPart ?_
  | with_reducible refine rd_part ?_
  | with_reducible refine rd_exI ?_
  | with_reducible refine rd_bm ?_
  | with_reducible refine rd_bm0 ?_
  | with_reducible refine rd_un ?_
  | with_reducible refine rd_neg ?_
  | with_reducible refine rd_c2 ?_
  | with_reducible refine rd_retN ?_
  | with_reducible refine rd_break ?_
  | with_reducible refine rd_cont ?_
  | with_reducible refine rd_for ?_
  | with_reducible refine rd_rng1 ?_
  | with_reducible refine rd_rng2 ?_
  | with_reducible refine rd_iList ?_
  | with_reducible refine rd_iTup ?_
  | with_reducible refine rd_iEnum ?_
  | ((with_reducible refine rd_forR ?h0 ?h1 ?_); (case h0 => omega); (case h1 => omega))
  | with_reducible refine rd_lc ?_
  | with_reducible refine rd_gcons ?_
  | with_reducible refine rd_gnil ?_
  | with_reducible refine rd_dget ?_
  | with_reducible refine rd_dput ?_
  | with_reducible refine rd_dnew ?_
  | with_reducible refine rd_dc ?_
  | with_reducible refine rd_iItems ?_
  | with_reducible refine rd_iKeys ?_
  | with_reducible refine rd_din ?_
  | with_reducible refine rd_lc2 ?_
  | with_reducible refine rd_cd ?_
  | with_reducible refine rd_par ?_
  | with_reducible refine rd_two ?_
  | with_reducible refine rd_reprB ?_
  | with_reducible refine rd_ck ?_
  | ((with_reducible refine rd_len ?hl ?_); (case hl => exact rfl))
  | with_reducible refine rd_nT ?_
  | with_reducible refine rd_nF ?_
  | with_reducible refine rd_dnin ?_
  | with_reducible refine rd_isB ?_
  | with_reducible refine rd_isNotB ?_
  | with_reducible refine rd_daug ?_
  | with_reducible refine rd_yesT ?_
  | ((with_reducible refine rd_wp ?hw ?_); (case hw => exact rfl)))
local macro_rules | `(tactic| wtm_at "rd") => `(tactic| repeat wtm_at "rd1")

theorem lk_1 {k : Str} {v : V} : List.lookup k [(k, v)] = some v := by
  have e : (k == k) = true := beq_self_eq_true k
  simp only [List.lookup, e]
/-- what the law tries besides nodes -/
def Cand (K : PySem.W.Frag) (H : Hp) (ns : List Str) (x : V) : Prop := NotN K H ns x ∧ ∃ S, Rp K H x S
theorem Cand.same {K : PySem.W.Frag} {H H' : Hp} {ns : List Str} {x : V} (h : Cand K H ns x) (s : Same H H') : Cand K H' ns x := ⟨h.1.same s, h.2.imp fun _ r => r.same s⟩
section
variable {K : PySem.W.Frag} {H : Hp} {ns : List Str}
end
end Law

/-! k08: apply_moves asked, the answer told; what the law expects -/
namespace Law
open PySem PySem.Spec PyProof.Rows L2 U
local macro_rules | `(tactic| wtm_at "rd1") => `(tactic| first
  | with_reducible refine rd_seq ?_
  | ((with_reducible refine rd_var (v := ?vv) ?hv ?_); (case hv => exact rfl))
  | with_reducible refine rd_c ?_
  | with_reducible refine rd_cons ?_
  | with_reducible refine rd_nil ?_
  | with_reducible refine rd_op ?_
  | with_reducible refine rd_asg ?_
  | with_reducible refine rd_name ?_
  | with_reducible refine rd_c1 ?_
  | with_reducible refine rd_cb ?_
  | with_reducible refine rd_test ?_
  | with_reducible refine rd_B ?_
  | with_reducible refine rd_bl ?_
  | with_reducible refine rd_if ?_
  | with_reducible refine rd_ret ?_
  | with_reducible refine rd_drop ?_
  | with_reducible refine rd_next ?_
  | with_reducible refine rd_addI ?_
  | with_reducible refine rd_ltI ?_
  | with_reducible refine rd_eqI ?_
  | with_reducible refine rd_neI ?_
  | with_reducible refine rd_eqS ?_
  | with_reducible refine rd_neS ?_
  | with_reducible refine rd_gtI ?_
  | with_reducible refine rd_geI ?_
  | with_reducible refine rd_leI ?_
  | with_reducible refine rd_ltS ?_
  | with_reducible refine rd_subI ?_
  | ((with_reducible refine rd_modI ?hc ?_); (case hc => first | decide | omega))
  | ((with_reducible refine rd_mulI ?hc ?_); (case hc => first | exact mul_bI | exact .inl (.inr (by decide)) | exact .inl (.inl (by decide)) | exact .inl (.inr (by omega)) | exact .inl (.inl (by omega))))
  | ((with_reducible refine rd_divI ?hc ?_); (case hc => first | decide | omega))
  | ((with_reducible refine rd_powI ?hc ?_); (case hc => exact ⟨by decide, by decide, by decide⟩))
  | with_reducible refine rd_lst ?_
  | with_reducible refine rd_tup ?_
  | ((with_reducible refine rd_sz ?hv ?_); (case hv => exact rfl))
  | with_reducible refine rd_and ?_
  | with_reducible refine rd_or ?_
  | with_reducible refine rd_not ?_
  | with_reducible refine rd_andV ?_
  | with_reducible refine rd_orV ?_
  | with_reducible refine rd_notV ?_
  | with_reducible refine rd_ifE ?_
  | with_reducible refine rd_T ?_
  | with_reducible refine rd_F ?_
  | with_reducible refine rd_chain ?_
  | with_reducible refine rd_is ?_
  | with_reducible refine rd_isNot ?_
  | with_reducible refine rd_absI ?_
  | with_reducible refine rd_maxI ?_
  | with_reducible refine rd_minI ?_
  | with_reducible refine rd_intI ?_
  | with_reducible refine rd_intB ?_
  | with_reducible refine rd_sub ?_
  | with_reducible refine rd_sl ?_
  | with_reducible refine rd_noPart ?_
  | with_reducible refine rd_part ?_
  | with_reducible refine rd_exI ?_
  | with_reducible refine rd_bm ?_
  | with_reducible refine rd_bm0 ?_
  | with_reducible refine rd_un ?_
  | with_reducible refine rd_neg ?_
  | with_reducible refine rd_c2 ?_
  | with_reducible refine rd_retN ?_
  | with_reducible refine rd_break ?_
  | with_reducible refine rd_cont ?_
  | with_reducible refine rd_for ?_
  | with_reducible refine rd_rng1 ?_
  | with_reducible refine rd_rng2 ?_
  | with_reducible refine rd_iList ?_
  | with_reducible refine rd_iTup ?_
  | with_reducible refine rd_iEnum ?_
  | ((with_reducible refine rd_forR ?h0 ?h1 ?_); (case h0 => omega); (case h1 => omega))
  | with_reducible refine rd_lc ?_
  | with_reducible refine rd_gcons ?_
  | with_reducible refine rd_gnil ?_
  | with_reducible refine rd_dget ?_
  | with_reducible refine rd_dput ?_
  | with_reducible refine rd_dnew ?_
  | with_reducible refine rd_dc ?_
  | with_reducible refine rd_iItems ?_
  | with_reducible refine rd_iKeys ?_
  | with_reducible refine rd_din ?_
  | with_reducible refine rd_lc2 ?_
  | with_reducible refine rd_cd ?_
  | with_reducible refine rd_par ?_
  | with_reducible refine rd_two ?_
  | with_reducible refine rd_reprB ?_
  | with_reducible refine rd_ck ?_
  | ((with_reducible refine rd_len ?hl ?_); (case hl => exact rfl))
  | with_reducible refine rd_nT ?_
  | with_reducible refine rd_nF ?_
  | with_reducible refine rd_dnin ?_
  | with_reducible refine rd_isB ?_
  | with_reducible refine rd_isNotB ?_
  | with_reducible refine rd_daug ?_
  | with_reducible refine rd_yesT ?_
  | ((with_reducible refine rd_wp ?hw ?_); (case hw => exact rfl)))
local macro_rules | `(tactic| wtm_at "rd") => `(tactic| repeat wtm_at "rd1")

theorem rd_tXk8 {K : PySem.W.Frag} {f : Str} {te : TE} {σ : L2.St} {H : Hp} {Q : VK} (h : te σ H fun x H1 => ∃ (a C dd : Addr) (fs : List (Str × V)) (v : V), x = .ref a ∧ H1 a = some (exk a (.ref C) (some dd)) ∧ XfC K C ∧ PySem.W.findIn K (.ref C) f = some none ∧ H1 dd = some (.xd fs) ∧ fs.lookup f = some v ∧ Q v H1) : tXk K f te σ H Q := h
theorem rd_cK28 {sp : Sp} {np nk : Nat} {W : WX} {t tk : TA} {σ : L2.St} {H : Hp} {Q : VK} (h : t σ H fun vs H1 => vs.length = np ∧ tk σ H1 fun zs H2 => zs.length = nk ∧ sp (vs ++ zs) H2 Q fun cls d H' => W cls d σ H') : tCK2 sp np nk W t tk σ H Q := h
def psV : Option Nat → V
  | none => .non
  | some i => .int (i : Int)
/-- what the law makes of an answer -/
def RsW (H : Hp) (ord : List Str) (u : V) : Sum (Option Nat) (Str → Int) → Prop
  | .inl p => ∃ t, u = .ref t ∧ H t = some (.tup [psV p])
  | .inr g => ∃ d, u = .ref d ∧ H d = some (.dK (kvF ord g))
theorem RsW.same {H H' : Hp} {ord : List Str} {u : V} {r : Sum (Option Nat) (Str → Int)} (h : RsW H ord u r) (s : Same H H') : RsW H' ord u r := by
  cases r with
  | inl p =>
    obtain ⟨t, a, b⟩ := h
    exact ⟨t, a, s _ _ b⟩
  | inr g =>
    obtain ⟨t, a, b⟩ := h
    exact ⟨t, a, s _ _ b⟩
/-- something among moves -/
inductive CandX (K : PySem.W.Frag) (H : Hp) : V → Option (Str × Int) → Prop
  | dat {v : V} {d : PyData} {o : Option (Str × Int)} : Dp K H v d → SmD 60 3 d → CandAt K H v o → Fit d.shown o → CandX K H v o
  | emp {a : Addr} : H a = some (.dK []) → CandX K H (.ref a) none
theorem CandX.same {K : PySem.W.Frag} {H H' : Hp} {v : V} {o : Option (Str × Int)} (h : CandX K H v o) (s : Same H H') : CandX K H' v o := by
  cases h with
  | dat a b c d => exact .dat (Dp.same a s) b (c.same s) d
  | emp a => exact .emp (s _ _ a)
theorem CandX.cand {K : PySem.W.Frag} {H : Hp} {v : V} {o : Option (Str × Int)} (h : CandX K H v o) : CandAt K H v o := by
  cases h with
  | dat a b c d => exact c
  | emp a => exact .odd (ty_dK a) rfl
theorem rp_of_dp {K : PySem.W.Frag} {H : Hp} {v : V} {d : PyData} {n m : Nat} (h : Dp K H v d) (s : SmD n m d) (hn : n ≤ 2 ^ 20) (hm : m ≤ 50) : Rp K H v d.shown := by
  cases h with
  | non => simp only [PyData.shown]; exact .non
  | bl b => simp only [PyData.shown]; exact .bl b
  | int i =>
    have := s.sh
    simp only [PyData.showable, decide_eq_true_eq] at this
    simp only [PyData.shown]
    exact .int i this
  | str x =>
    have f := PyData.shown_fits_bulk (B := 13) (by decide) (by decide) s.lv (Nat.le_trans s.bk hn)
    simp only [PyData.shown] at f ⊢
    exact .str x f
  | lst a b => exact .of (.lst a b) s.nd (s.shows hn hm)
  | tup a b => exact .of (.tup a b) s.nd (s.shows hn hm)
theorem CandX.rp {K : PySem.W.Frag} {H : Hp} {v : V} {o : Option (Str × Int)} (h : CandX K H v o) : ∃ S, Rp K H v S ∧ Fit S o := by
  cases h with
  | dat a b c d => exact ⟨_, rp_of_dp a b (by decide) (by decide), d⟩
  | emp a => exact ⟨_, .dct (ns := []) (f := fun _ => 0) a ⟨by decide +kernel, by decide +kernel, by decide +kernel, by decide +kernel⟩, fit_head (by decide +kernel)⟩
theorem sm_int {k : Int} (h : -1 ≤ k ∧ k ≤ 3) : SmD 8 0 (.int k) := by
  have : k = -1 ∨ k = 0 ∨ k = 1 ∨ k = 2 ∨ k = 3 := by omega
  rcases this with rfl | rfl | rfl | rfl | rfl <;> exact ⟨by decide +kernel, by decide +kernel, by decide +kernel, by decide +kernel, by decide +kernel⟩
theorem sm_mv {x : Str} {k : Int} (h : IsName x) (hk : -1 ≤ k ∧ k ≤ 3) : SmD 60 3 (.tuple [.str x, .int k]) := (SmD.tup (SmDs.cons (SmD.name h) (SmDs.cons (sm_int hk) .nil))).mono (by decide) (by decide)
theorem cand_mv {K : PySem.W.Frag} {H : Hp} {a : Addr} {x : Str} {k : Int} (ha : H a = some (.tup [.str x, .int k])) (h : IsName x) (hk : -1 ≤ k ∧ k ≤ 3) : CandX K H (.ref a) (some (x, k)) :=
  .dat (.tup (SqT.of ha) (.cons (.str x) (.cons (.int k) .nil))) (sm_mv h hk) (.mv ha) (fit_mv (name_let h) hk)
/-- a text is among those of the moves exactly if it is one of them -/
theorem fit_in {S : Str} {o : Option (Str × Int)} {ns : List Str} {es : List (Str × Str)} {f : Str → Int} {pn : List Str} (h : Fit S o) (nm : ∀ x ∈ ns, IsName x) : S ∈ (movesF ns es f pn).map mvT ↔ IsMv ns es f pn o := by
  constructor
  · intro z
    obtain ⟨m, hm, e⟩ := List.mem_map.mp z
    have l := legal_of hm
    exact ⟨m, (h m.1 m.2 (nm _ l.mem) l.val.1 (by have := l.val.2; omega)).mp e.symm, l⟩
  · rintro ⟨m, rfl, l⟩
    have := (h m.1 m.2 (nm _ l.mem) l.val.1 (by have := l.val.2; omega)).mpr rfl
    rw [this]
    exact List.mem_map_of_mem (mem_of_legal l)
def spCal8 (K : PySem.W.Frag) : Sp := fun vs H Q _ => ∃ (g n e st ps : Addr) (c : V) (ns ord pn : List Str) (es : List (Addr × Str × Str)) (f : Str → Int), vs = [.ref g, .ref st, .ref ps, c] ∧ GSt H g n e st ns ord es f ∧ SqT K H ps (pn.map V.str) ∧
  ((∃ t, TyIs K H c t ∧ isT t .lst = false ∧ ∀ (u : V) (H' : Hp), Same H H' → RsW H' ord u (.inl none) → Q u H') ∨
   ∃ (mv : Addr) (cs : List V) (os : List (Option (Str × Int))) (ms : List (Str × Int)), c = .ref mv ∧ H mv = some (.lst cs) ∧ os.length = cs.length ∧ (∀ i (h : i < cs.length) (h' : i < os.length), CandX K H cs[i] os[i]) ∧ Runs ns (es.map (·.2)) f pn os ms ∧
    (os = ms.map some → ∀ (u : V) (H' : Hp), Same H H' → RsW H' ord u (.inr (playF f ms)) → Q u H') ∧
    (os ≠ ms.map some → ∀ (u : V) (H' : Hp), Same H H' → RsW H' ord u (.inl (some ms.length)) → Q u H'))
/-- the classes of k08's error -/
structure IsM (K : PySem.W.Frag) (mg : Str → Option Value) (CE CB : Addr) : Prop where
  cls : ExcC K CE
  gI : mg "InputError" = some (.ref CB)
  gM : mg "InvalidMove" = some (.ref CE)
  iM : PySem.W.kitOne K (.ref CE) (.ref CE) = some true
  mI : PySem.W.exmOne K (.ref CE) (.ref CB) = some true
section
variable {P : Program} {w : World} {K : PySem.W.Frag} {mg : Str → Option Value} {base : Heap}
structure TYa (P : Program) (w : World) (K : PySem.W.Frag) (mg : Str → Option Value) (base : Heap) (CE : Addr) : Prop where
  apply_moves : CalK P w K mg base (L2.CX P w) 4 "apply_moves" 3 ["pinned"] (spApplyX K CE)
theorem ok_cal8 {f : Addr} {fd : FuncData} {CE CB fI : Addr} (F : Fun K "_law_call" "_law_call" s__law_call f fd) (B : Bt mg) (C : TYa P w K mg base CE) (T : OwnX K mg "InvalidMove" "position" CE CB fI) (I : IsM K mg CE CB) : FnG P w K mg base CX0 5 f fd ["_law_graph", "_law_state", "_law_pins", "_law_candidate"] (spCal8 K) := by
  refine fnG0 F sc__law_call (fun vs H Q E h => ?_) (fun cdv A outer s H vs Q E hr h => ?_)
  · obtain ⟨g, n, e, st, ps, c, ns, ord, pn, es, f, rfl, _⟩ := h
    rfl
  · obtain ⟨g, n, e, st, ps, c, ns, ord, pn, es, f, rfl, gs, hps, alt⟩ := h
    have nd := sc__law_call.nd
    have hu := hr.u1
    have gM : ∃ u, mg "InvalidMove" = some u ∧ RelV (.ref CE) u := ⟨_, I.gM, rfl⟩
    refine ⟨_, (pss_cons (ps_set (i := 4) nd rfl (by first | exact Or.inl rfl | exact Or.inr rfl) pe_non)
  (pss_cons (ps_set (i := 5) nd rfl (by first | exact Or.inl rfl | exact Or.inr rfl) pe_non)
  (pss_cons (ps_try_keep (i := 6) (Wout := fun _ _ _ _ => False) rfl rfl nd rfl rfl ⟨rfl, by decide, Or.inl I.gI⟩ L2.takes0 (fun W pn xe tk _ => pss_one (ps_set (i := 5) nd rfl (Or.inl rfl) (pe_cKX C.apply_moves hr (by decide) rfl tk (pa_cons (pv 0) (pa_cons (pv 1) (pa_cons (pv 3) pa_nil))) (pk_cons (pv 2) pk_nil)))) (fun a pn => pss_one (ps_set (i := 4) nd rfl (Or.inl rfl) (pv 6))))
  (pss_cons (ps_if (pt_cmpR uIs (pv 4) pe_non (nomark _)) (pss_one (ps_ret (pv 5))) pss_nil)
  (pss_one (ps_ret (pe_ifExp (pt_val (pe_callB (kIsK K rfl) (by rfl) B.isinstance bb_isinstance (pa_cons (pv 4) (pa_cons (pe_gl rfl gM) pa_nil)))) (pe_tup (pa_cons (pe_xk (pv 4)) pa_nil)) pe_str))))))), ?_⟩
    wtm_at "rd"
    refine rd_cK28 ?_
    wtm_at "rd"
    rcases alt with ⟨t, ty, nl, q⟩ | ⟨mv, cs, os, ms, rfl, hmv, ol, cd, rn, q1, q2⟩
    · refine ⟨g, n, e, st, ps, c, ns, ord, pn, es, f, rfl, gs, hps, .inl ⟨t, ty, nl, fun d H' s' nd' hd => ⟨true, I.mI, (fun z => nomatch z), fun _ a na => ?_⟩⟩⟩
      have k := Same.new (o := exk a (.ref CE) (some d)) na
      have ha := @upd_same H' a (exk a (.ref CE) (some d))
      have hd2 := k _ _ hd
      have s2 := s'.trans k
      generalize upd H' a (exk a (.ref CE) (some d)) = H2 at ha hd2 s2
      wtm_at "rd"
      refine rd_no (fun z => by cases z) ?_
      wtm_at "rd"
      refine rd_isK ha hd2 I.cls (fun u hu => hu) I.iM ?_
      wtm_at "rd"
      refine rd_tXk8 ?_
      wtm_at "rd"
      refine ⟨a, CE, d, _, .non, rfl, ha, T.xf, T.no, hd2, lk_1, ?_⟩
      wtm_at "rd"
      intro t ft
      exact q _ _ (s2.trans (Same.new ft)) ⟨t, rfl, upd_same⟩
    · refine ⟨g, n, e, st, ps, _, ns, ord, pn, es, f, rfl, gs, hps, .inr ⟨mv, cs, os, ms, rfl, hmv, ol, fun i h h' => (cd i h h').cand, rn, fun eo d H' s' _ hd => ?_, fun no d H' s' nd' hd => ⟨true, I.mI, (fun z => nomatch z), fun _ a na => ?_⟩⟩⟩
      · wtm_at "rd"
        refine rd_yes rfl ?_
        wtm_at "rd"
        exact q1 eo _ H' s' ⟨d, rfl, hd⟩
      · have k := Same.new (o := exk a (.ref CE) (some d)) na
        have ha := @upd_same H' a (exk a (.ref CE) (some d))
        have hd2 := k _ _ hd
        have s2 := s'.trans k
        generalize upd H' a (exk a (.ref CE) (some d)) = H2 at ha hd2 s2
        wtm_at "rd"
        refine rd_no (fun z => by cases z) ?_
        wtm_at "rd"
        refine rd_isK ha hd2 I.cls (fun u hu => hu) I.iM ?_
        wtm_at "rd"
        refine rd_tXk8 ?_
        wtm_at "rd"
        refine ⟨a, CE, d, _, .int ms.length, rfl, ha, T.xf, T.no, hd2, lk_1, ?_⟩
        wtm_at "rd"
        intro t ft
        exact q2 no _ _ (s2.trans (Same.new ft)) ⟨t, rfl, upd_same⟩
structure TYb (P : Program) (w : World) (K : PySem.W.Frag) (mg : Str → Option Value) (base : Heap) : Prop where
  _law_moves_of : Cal P w K mg base CX0 2 "_law_moves_of" (spMoves K)
theorem ok_exp8 {f : Addr} {fd : FuncData} (F : Fun K "_law_compute_expected" "_law_compute_expected" s__law_compute_expected f fd) (B : Bt mg) (C : TYb P w K mg base) : FnG P w K mg base CX0 3 f fd ["_law_graph", "_law_state", "_law_pins", "_law_candidate"] (spCal8 K) := by
  refine fnG0 F sc__law_compute_expected (fun vs H Q E h => ?_) (fun cdv A outer s H vs Q E hr h => ?_)
  · obtain ⟨g, n, e, st, ps, c, ns, ord, pn, es, f, rfl, _⟩ := h
    rfl
  · obtain ⟨g, n, e, st, ps, c, ns, ord, pn, es, f, rfl, gs, hps, alt⟩ := h
    have nd := sc__law_compute_expected.nd
    have hu := hr.u1
    refine ⟨_, (pss_cons (ps_if (pt_not (pt_val (pe_callB (kIsi K rfl) (by rfl) B.isinstance bb_isinstance (pa_cons (pv 3) (pa_cons (pe_ty rfl B.list bb_list) pa_nil))))) (pss_one (ps_ret (pe_tup (pa_cons pe_non pa_nil)))) pss_nil)
  (pss_cons (ps_set (i := 4) nd rfl (by first | exact Or.inl rfl | exact Or.inr rfl) (pe_callTy cDict (by rfl) B.dict bb_dict (pa_cons (pv 1) pa_nil)))
  (pss_cons (ps_for PassesOwn.never rfl (pi_enum (by rfl) B.enumerate (pa_cons (pv 3) pa_nil)) (kg_tup (n := 2) K rfl rfl (pgs_cons (pg_name (i := 5) nd rfl (by first | exact Or.inl rfl | exact Or.inr rfl)) (pgs_cons (pg_name (i := 6) nd rfl (by first | exact Or.inl rfl | exact Or.inr rfl)) pgs_nil))) (pss_cons (ps_if (pt_cmpR (kNotIn K rfl) (pe_callB (kReprV K rfl hr.g hr.u64) (by rfl) B.repr bb_repr (pa_cons (pv 6) pa_nil)) (pe_lc (own := [("_law_one", 7)]) rfl nd (ki_list K rfl (pe_c C._law_moves_of hr (by decide) rfl (pa_cons (pv 0) (pa_cons (pv 4) (pa_cons (pv 2) pa_nil))))) (blkOk_by (own := [("_law_one", 7)]) (N := nN__law_compute_expected) (sc := defScope s__law_compute_expected) (by decide +kernel)) (fun _ _ _ _ _ => (pg_name (i := 7) nd rfl (by first | exact Or.inl rfl | exact Or.inr rfl))) (fun _ _ _ _ _ => pts_nil) (fun _ _ _ _ _ => (pe_callB (kReprV K rfl hr.g hr.u64) (by rfl) B.repr bb_repr (pa_cons (pv 7) pa_nil)))) rfl) (pss_one (ps_ret (pe_tup (pa_cons (pv 5) pa_nil)))) pss_nil)
  (pss_one (ps_dput hu (pv 4) (pe_ix (kIx K rfl) (pv 6) pe_int (fun _ _ => rfl)) (pe_ix (kIx K rfl) (pv 6) pe_int (fun _ _ => rfl)) rfl))))
  (pss_one (ps_ret (pv 4)))))), ?_⟩
    wtm_at "rd"
    rcases alt with ⟨t, ty, nl, q⟩ | ⟨mv, cs, os, ms, rfl, hmv, ol, cd, rn, q1, q2⟩
    · refine rd_isi ty (t := .lst) (by decide +kernel) ?_
      rw [nl]
      wtm_at "rd"
      intro t ft
      exact q _ _ (Same.new ft) ⟨t, rfl, upd_same⟩
    refine rd_isi (ty_lst hmv) (t := .lst) (by decide +kernel) ?_
    rw [show isT Ty.lst Ty.lst = true from rfl]
    wtm_at "rd"
    refine ⟨_, .inl gs.st, fun c fc => ?_⟩
    have s0 := Same.new (o := .dK (kvF ord f)) fc
    have hc0 := @upd_same H c (.dK (kvF ord f))
    generalize upd H c (.dK (kvF ord f)) = H0 at s0 hc0
    obtain ⟨lq, os_⟩ := rn
    have nm := gs.ok.names.ok
    have ol2 : ord.length ≤ 1000 := by have := gs.pm.length_eq; have := gs.l2; omega
    have at_ : ∀ i (h : i < os.length), i ≤ ms.length → (IsMv ns (es.map (·.2)) (playF f (ms.take i)) pn os[i] ↔ i < ms.length) ∧ ∀ h2 : i < ms.length, os[i] = some ms[i] := fun i h hi => by
      rcases os_ with e | ⟨o, r, e, no⟩
      · have l : i < ms.length := by rw [e, List.length_map] at h; exact h
        have e2 : os[i] = some ms[i] := by simp only [e, List.getElem_map]
        exact ⟨⟨fun _ => l, fun _ => ⟨ms[i], e2, lq i l⟩⟩, fun _ => e2⟩
      · by_cases l : i < ms.length
        · have e2 : os[i] = some ms[i] := by simp only [e]; rw [List.getElem_append_left (by rw [List.length_map]; exact l), List.getElem_map]
          exact ⟨⟨fun _ => l, fun _ => ⟨ms[i], e2, lq i l⟩⟩, fun _ => e2⟩
        · have ei : i = ms.length := by omega
          subst ei
          have e2 : os[ms.length] = o := by simp only [e]; rw [List.getElem_append_right (by rw [List.length_map]; exact Nat.le_refl _)]; simp
          rw [e2, List.take_length]
          exact ⟨⟨fun z => absurd z no, fun z => absurd z (Nat.lt_irrefl _)⟩, fun z => absurd z (Nat.lt_irrefl _)⟩
    have le_ : ms.length ≤ os.length := by
      rcases os_ with e | ⟨o, r, e, _⟩
      · rw [e, List.length_map]
        exact Nat.le_refl _
      · rw [e, List.length_append, List.length_map]
        omega
    wtm_at "rd"
    refine rd_forE (SqL.of (s0 _ _ hmv)) ?_
    refine turnsW (walk_enum (K := K) (a := mv) (xs := cs)) (fun i σ H' => (∃ u5 u6 u7 : Option V, σ = [some (.ref g), some (.ref st), some (.ref ps), some (.ref mv), some (.ref c), u5, u6, u7]) ∧ Same H H' ∧ i ≤ ms.length ∧ H' c = some (.dK (kvF ord (playF f (ms.take i))))) ⟨⟨_, _, _, rfl⟩, s0, Nat.zero_le _, by rw [List.take_zero]; exact hc0⟩ ?_ ?_ ?_
    · rintro i σ H' hi ⟨_, s, _⟩
      exact SqL.of (s _ _ hmv)
    · rintro i y σ H3 H4 hi ⟨⟨u5, u6, u7, rfl⟩, s, il, hc⟩ ⟨T1, x1, y1, rfl, fT, rfl, e1, e2⟩
      have hx := Option.some.inj e1
      subst hx
      have hio : i < os.length := by omega
      have hy : y1 = cs[i] := by
        have e2 : cs[i]? = some y1 := e2
        rw [List.getElem?_eq_getElem hi] at e2
        exact (Option.some.inj e2).symm
      subst hy
      have k1 := Same.new (o := .tup [.int (i : Int), cs[i]]) fT
      have s1 := s.trans k1
      have hT := @upd_same H3 T1 (.tup [.int (i : Int), cs[i]])
      have hc1 := k1 _ _ hc
      generalize upd H3 T1 (.tup [.int (i : Int), cs[i]]) = H5 at s1 hT hc1
      clear k1
      have cx := (cd i hi hio).same s1
      obtain ⟨S, rp, fit⟩ := cx.rp
      obtain ⟨mvI, mvE⟩ := at_ i hio il
      have gs1 := gs.same s1
      have hps1 := Same.seqT s1 hps
      have cand := cx.cand
      generalize os[i] = o at *
      generalize cs[i] = v at *
      refine rd_unp (SqT.of hT) rfl ?_
      wtm_at "rd"
      refine rd_reprV rp ?_
      wtm_at "rd"
      refine ⟨g, n, e, c, ps, ns, ord, pn, es, playF f (ms.take i), rfl, gs1.gr, by have := gs.l3; omega, by have := gs.l2; omega, hc1, gs.inO, gs.inE, hps1, fun sm m2 H6 s6 fsm hsm t2 em => ?_⟩
      wtm_at "rd"
      refine rd_forL (SqL.of hsm) ?_
      intro D fD
      have m2l : m2.length ≤ 3000 := by
        have h1 := congrArg List.length em
        have h2 := movesF_len (es := es.map (·.2)) (f := playF f (ms.take i)) (ps := pn) (ns := ns)
        have := gs.l2
        rw [List.length_map] at h1
        omega
      have leg : ∀ m ∈ m2, Legal ns (es.map (·.2)) (playF f (ms.take i)) pn m.2 := fun m hm => legal_of (by rw [← em]; exact List.mem_map_of_mem hm)
      refine lcL (K := K) (xs := m2.map fun m => V.ref m.1) (fun j H' => Same H6 H' ∧ H' D = some (.lst (((m2.take j).map fun m => mvT m.2).map V.str))) ⟨Same.new fD, by rw [List.take_zero]; exact upd_same⟩ ?_ ?_ ?_
      · rintro j H' hj ⟨sb, _⟩
        exact SqL.of (sb _ _ hsm)
      · rintro j y H' hy ⟨sb, hD⟩
        obtain ⟨hj, rfl⟩ : ∃ h : j < m2.length, y = .ref m2[j].1 := by
          have h := (List.getElem?_eq_some_iff.mp hy).1
          rw [List.length_map] at h
          rw [List.getElem?_map, List.getElem?_eq_getElem h] at hy
          exact ⟨h, (Option.some.inj hy).symm⟩
        have mm := List.getElem_mem hj
        have tk := take_snoc hj
        have lg := leg _ mm
        have ht := sb _ _ (t2 _ mm)
        generalize m2[j] = m at *
        wtm_at "rd"
        have rp2 : Rp K H' (.ref m.1) (mvT m.2) := rp_of_dp (.tup (SqT.of ht) (.cons (.str _) (.cons (.int _) .nil))) (sm_mv (nm _ lg.mem) ⟨by have := lg.val.1; omega, by have := lg.val.2; omega⟩) (by decide) (by decide)
        refine rd_reprV rp2 ?_
        refine rd_acc hD (by rw [List.length_map, List.length_map, List.length_take]; omega) ?_
        refine ⟨same_put sb fD, ?_⟩
        rw [upd_same, tk, List.map_append, List.map_append]
        rfl
      rintro H7 ⟨s7, hD⟩
      rw [List.length_map, List.take_length] at hD
      have ein : (S ∈ m2.map fun m => mvT m.2) ↔ i < ms.length := by
        have e : (m2.map fun m => mvT m.2) = (movesF ns (es.map (·.2)) (playF f (ms.take i)) pn).map mvT := by
          rw [← em, List.map_map]
          rfl
        rw [e]
        exact (fit_in fit nm).trans mvI
      have s57 := s6.trans s7
      have s17 := s1.trans s57
      have hc7 := s57 _ _ hc1
      have cand := cand.same s57
      refine rd_ninSL (SqL.of hD) ?_
      generalize (m2.map fun m => mvT m.2) = L at *
      wtm_at "rd"
      refine rd_nsplit (fun c0 => ?_) (fun c0 => ?_)
      · have ei : i = ms.length := by
          have : ¬ i < ms.length := fun z => c0 (ein.mpr z)
          omega
        have no : os ≠ ms.map some := fun z => by
          have := congrArg List.length z
          rw [List.length_map] at this
          omega
        wtm_at "rd"
        intro t ft
        refine q2 no _ _ (s17.trans (Same.new ft)) ⟨t, rfl, ?_⟩
        rw [upd_same, ei]
        rfl
      · have il2 := ein.mp c0
        obtain rfl := mvE il2
        have lg := lq i il2
        have tk := take_snoc il2
        clear mvI mvE fit cx rp
        generalize ms[i] = m at *
        obtain ⟨x, k⟩ := m
        cases cand with
        | mv ht =>
          wtm_at "rd"
          refine rd_ixT (SqT.of ht) (v := .int _) rfl ?_
          wtm_at "rd"
          refine rd_ixT (SqT.of ht) (v := .str _) rfl ?_
          refine rd_dset hc7 (k := .inr _) rfl (by rw [List.length_map]; omega) ?_
          rw [kvF_put (gs.inO _ lg.mem)]
          refine ⟨⟨_, _, _, rfl⟩, same_put s17 fc, il2, ?_⟩
          rw [upd_same, tk, playF_snoc]
    · rintro σ H' ⟨⟨u5, u6, u7, rfl⟩, s, il, hc⟩
      have eo : os = ms.map some := by
        rcases os_ with e | ⟨o, r, e, _⟩
        · exact e
        · have := congrArg List.length e
          rw [List.length_append, List.length_map, List.length_cons] at this
          omega
      have el : cs.length = ms.length := by rw [← ol, eo, List.length_map]
      rw [el, List.take_length] at hc
      wtm_at "rd"
      exact q1 eo _ H' s ⟨c, rfl, hc⟩
end
end Law

/-! two lists joined, the place told; != of data or of dicts -/
namespace U
open PySem PySem.Spec PyProof.Rows L2
variable {X : Cx}
def rCatS : R2 := fun x y H Q => ∃ pa pb us vs, x = .ref pa ∧ y = .ref pb ∧ H pa = some (.lst us) ∧ H pb = some (.lst vs) ∧ us.length + vs.length ≤ 100000 ∧
  ∀ p, H p = none → (p == sysModules) = false → Q (.ref p) (upd H p (.lst (us ++ vs)))
theorem kCatS : OpR X (binaryOp .Add) rCatS := by
  intro pn0 t0 σ0 G a1 a2 v1 v2 Q2 J w1 w2 hh
  obtain ⟨pa, pb, us, vs, e1, e2, ga, gb, len, k⟩ := hh
  subst e1
  subst e2
  cases w1
  cases w2
  have big := J.big
  obtain ⟨_, ia, na, ra, la, oa⟩ := J.lstM ga
  obtain ⟨_, ib, nb, rb, lb, ob⟩ := J.lstM gb
  have l3 : us.length + vs.length ≤ sizeLine := Nat.le_trans len (by decide)
  refine PySem.P.add_list oa ob ?_ (by simp only [List.size_toArray]; omega)
  rw [show ia.toArray ++ ib.toArray = (ia ++ ib).toArray by simp]
  exact ⟨V.ref _, _, J.lnew (t' := t0.toks) (ra.append rb) (by simp only [List.length_append]; omega), rfl, k _ J.fresh (beq_eq_false_iff_ne.mpr (Ne.symm (Nat.ne_of_lt big)))⟩
def rNeW (K : PySem.W.Frag) : R2 := fun x y H Q => rNeU K x y H Q ∨ rNeDA x y H Q
theorem kNeW (K : PySem.W.Frag) (hK : X.K = K) (hu : X.A.units + 64 < cLine) (hu0 : X.A.units < cLine) : OpR X (compareOp .NotEq) (rNeW K) := by
  intro pn0 t0 σ0 G a1 a2 v1 v2 Q2 J w1 w2 hh
  rcases hh with hh | hh
  · exact kNe K hK hu pn0 t0 σ0 G a1 a2 v1 v2 Q2 J w1 w2 hh
  · exact op_ne_dictA hu0 pn0 t0 σ0 G a1 a2 v1 v2 Q2 J w1 w2 hh
end U

/-! k08: _law_invalid -/
namespace Law
open PySem PySem.Spec PyProof.Rows L2 U
local macro_rules | `(tactic| wtm_at "rd1") => `(tactic| first
  | with_reducible refine rd_seq ?_
  | ((with_reducible refine rd_var (v := ?vv) ?hv ?_); (case hv => exact rfl))
  | with_reducible refine rd_c ?_
  | with_reducible refine rd_cons ?_
  | with_reducible refine rd_nil ?_
  | with_reducible refine rd_op ?_
  | with_reducible refine rd_asg ?_
  | with_reducible refine rd_name ?_
  | with_reducible refine rd_c1 ?_
  | with_reducible refine rd_cb ?_
  | with_reducible refine rd_test ?_
  | with_reducible refine rd_B ?_
  | with_reducible refine rd_bl ?_
  | with_reducible refine rd_if ?_
  | with_reducible refine rd_ret ?_
  | with_reducible refine rd_drop ?_
  | with_reducible refine rd_next ?_
  | with_reducible refine rd_addI ?_
  | with_reducible refine rd_ltI ?_
  | with_reducible refine rd_eqI ?_
  | with_reducible refine rd_neI ?_
  | with_reducible refine rd_eqS ?_
  | with_reducible refine rd_neS ?_
  | with_reducible refine rd_gtI ?_
  | with_reducible refine rd_geI ?_
  | with_reducible refine rd_leI ?_
  | with_reducible refine rd_ltS ?_
  | with_reducible refine rd_subI ?_
  | ((with_reducible refine rd_modI ?hc ?_); (case hc => first | decide | omega))
  | ((with_reducible refine rd_mulI ?hc ?_); (case hc => first | exact mul_bI | exact .inl (.inr (by decide)) | exact .inl (.inl (by decide)) | exact .inl (.inr (by omega)) | exact .inl (.inl (by omega))))
  | ((with_reducible refine rd_divI ?hc ?_); (case hc => first | decide | omega))
  | ((with_reducible refine rd_powI ?hc ?_); (case hc => exact ⟨by decide, by decide, by decide⟩))
  | with_reducible refine rd_lst ?_
  | with_reducible refine rd_tup ?_
  | ((with_reducible refine rd_sz ?hv ?_); (case hv => exact rfl))
  | with_reducible refine rd_and ?_
  | with_reducible refine rd_or ?_
  | with_reducible refine rd_not ?_
  | with_reducible refine rd_andV ?_
  | with_reducible refine rd_orV ?_
  | with_reducible refine rd_notV ?_
  | with_reducible refine rd_ifE ?_
  | with_reducible refine rd_T ?_
  | with_reducible refine rd_F ?_
  | with_reducible refine rd_chain ?_
  | with_reducible refine rd_is ?_
  | with_reducible refine rd_isNot ?_
  | with_reducible refine rd_absI ?_
  | with_reducible refine rd_maxI ?_
  | with_reducible refine rd_minI ?_
  | with_reducible refine rd_intI ?_
  | with_reducible refine rd_intB ?_
  | with_reducible refine rd_sub ?_
  | with_reducible refine rd_sl ?_
  | with_reducible refine rd_noPart ?_
  | with_reducible refine rd_part ?_
  | with_reducible refine rd_exI ?_
  | with_reducible refine rd_bm ?_
  | with_reducible refine rd_bm0 ?_
  | with_reducible refine rd_un ?_
  | with_reducible refine rd_neg ?_
  | with_reducible refine rd_c2 ?_
  | with_reducible refine rd_retN ?_
  | with_reducible refine rd_break ?_
  | with_reducible refine rd_cont ?_
  | with_reducible refine rd_for ?_
  | with_reducible refine rd_rng1 ?_
  | with_reducible refine rd_rng2 ?_
  | with_reducible refine rd_iList ?_
  | with_reducible refine rd_iTup ?_
  | with_reducible refine rd_iEnum ?_
  | ((with_reducible refine rd_forR ?h0 ?h1 ?_); (case h0 => omega); (case h1 => omega))
  | with_reducible refine rd_lc ?_
  | with_reducible refine rd_gcons ?_
  | with_reducible refine rd_gnil ?_
  | with_reducible refine rd_dget ?_
  | with_reducible refine rd_dput ?_
  | with_reducible refine rd_dnew ?_
  | with_reducible refine rd_dc ?_
  | with_reducible refine rd_iItems ?_
  | with_reducible refine rd_iKeys ?_
  | with_reducible refine rd_din ?_
  | with_reducible refine rd_lc2 ?_
  | with_reducible refine rd_cd ?_
  | with_reducible refine rd_par ?_
  | with_reducible refine rd_two ?_
  | with_reducible refine rd_reprB ?_
  | with_reducible refine rd_ck ?_
  | ((with_reducible refine rd_len ?hl ?_); (case hl => exact rfl))
  | with_reducible refine rd_nT ?_
  | with_reducible refine rd_nF ?_
  | with_reducible refine rd_dnin ?_
  | with_reducible refine rd_isB ?_
  | with_reducible refine rd_isNotB ?_
  | with_reducible refine rd_daug ?_
  | with_reducible refine rd_yesT ?_
  | ((with_reducible refine rd_wp ?hw ?_); (case hw => exact rfl)))
local macro_rules | `(tactic| wtm_at "rd") => `(tactic| repeat wtm_at "rd1")

theorem rd_repL8 {H : Hp} {Q : VK} {l : Addr} {xs : List V} {m : Nat} (hl : H l = some (.lst xs)) (h : ∀ p, H p = none → Q (.ref p) (upd H p (.lst (List.replicate m xs).flatten))) (h1 : m ≤ 100 := by decide) (h2 : xs.length * m ≤ 10000 := by decide) : rMulU (.ref l) (.int m) H Q := by
  refine ⟨l, m, xs, rfl, rfl, hl, by omega, by omega, ?_, fun p fp => ?_⟩
  · rw [Int.toNat_natCast]
    exact Nat.le_trans h2 (by decide)
  · rw [Int.toNat_natCast]
    exact h p fp
theorem ne8 {H : Hp} {p q : Addr} {xs : List V} (h : PoolAt H p) (hq : H q = some (.lst xs)) (n : ∀ b s, poolO b s ≠ .lst xs) : q ≠ p := fun z => by
  obtain ⟨b, s, e, _⟩ := h
  rw [z, e] at hq
  exact n b s (Option.some.inj hq)
theorem isa8 : IsName "a" := ⟨by decide, by decide, by decide⟩
theorem sm_bl (b : Bool) : SmD 8 0 (.bool b) := by cases b <;> exact ⟨by decide +kernel, by decide +kernel, by decide +kernel, by decide +kernel, by decide +kernel⟩
theorem sm_non : SmD 8 0 .none := ⟨by decide +kernel, by decide +kernel, by decide +kernel, by decide +kernel, by decide +kernel⟩
theorem sm_zero : SmD 8 0 (.str "0") := ⟨by decide +kernel, by decide +kernel, by decide +kernel, by decide +kernel, by decide +kernel⟩
theorem sm_two {x : Str} {b : PyData} (h : IsName x) (hb : SmD 8 0 b) : SmD 60 3 (.tuple [.str x, b]) := (SmD.tup (SmDs.cons (SmD.name h) (SmDs.cons hb .nil))).mono (by decide) (by decide)
theorem plus_let {x : Str} (h : Lett x.cps.toList) : Lett (x ++ Str.ofString "A").cps.toList := fun c hc => by
  rw [app_toL] at hc
  rcases List.mem_append.mp hc with hc | hc
  · exact h c hc
  · have : c ∈ [65] := hc
    rw [List.mem_singleton.mp this]
    exact .inl rfl
theorem sm_plus {x : Str} {k : Int} (h : IsName x) (hk : -1 ≤ k ∧ k ≤ 3) : SmD 60 3 (.tuple [.str (x ++ Str.ofString "A"), .int k]) := by
  have l := plus_let (name_let h)
  have sz : (x ++ Str.ofString "A").cps.size ≤ 9 := by
    have : (x ++ Str.ofString "A").cps.size = x.cps.size + 1 := by
      show (x.cps ++ _).size = _
      rw [Array.size_append]
      rfl
    have h2 : x.cps.size ≤ 8 := h.hi
    omega
  have s : SmD 9 0 (.str (x ++ Str.ofString "A")) := by
    refine ⟨?_, by simp [PyData.showable], ?_, by simp [PyData.depth], by simp [PyData.hasDict]⟩
    · rw [PyData.leavesShort, List.all_eq_true]
      intro c hc
      have := l c hc
      rw [decide_eq_true_eq]
      omega
    · rw [PyData.bulk]
      exact sz
  exact (SmD.tup (SmDs.cons s (SmDs.cons (sm_int hk) .nil))).mono (by decide) (by decide)
theorem dig_no {L : List Nat} (h : L ≠ digT 0 ++ [41] ∧ L ≠ digT 1 ++ [41] ∧ L ≠ digT 2 ++ [41]) : ∀ k : Int, 0 ≤ k → k ≤ 2 → L ≠ digT k ++ [41] := fun k h0 h2 => by
  rcases small3 h0 h2 with rfl | rfl | rfl
  · exact h.1
  · exact h.2.1
  · exact h.2.2
theorem fit_one {x : Str} (h : Lett x.cps.toList) : Fit (PyData.tuple [.str x]).shown none := by
  refine fit_rest (r := [44, 41]) h (by rw [shown_one, tup1_toL, shown_str, rep_let h]; simp) fun k h0 h2 e => ?_
  injection e with _ e
  injection e with e _
  exact absurd e (by decide)
theorem fit_thr {x : Str} {k : Int} (h : Lett x.cps.toList) (hk : 0 ≤ k ∧ k ≤ 2) : Fit (PyData.tuple [.str x, .int k, .int k]).shown none := by
  refine fit_rest (r := 44 :: 32 :: (digT k ++ (44 :: 32 :: (digT k ++ [41])))) h (by rw [shown_thr, tup3_toL, shown_str, rep_let h]; simp [digT]) fun j h0 h2 e => ?_
  injection e with _ e
  injection e with _ e
  rcases small3 hk.1 hk.2 with rfl | rfl | rfl <;> rcases small3 h0 h2 with rfl | rfl | rfl <;> exact absurd e (by decide +kernel)
theorem fit_name {x : Str} (h : Lett x.cps.toList) : Fit (PyData.str x).shown none := fit_head (by rw [shown_str, rep_let h]; exact fun z => absurd (Option.some.inj z) (by decide))
theorem from_head : ∀ (ts : List Str) (n : Nat) (acc : Str), acc.cps.toList.head? = some 91 → (textFrom n acc ts).cps.toList.head? = some 91
  | [], _, _, h => h
  | t :: ts, n, acc, h => by
    refine from_head ts (n + 1) _ ?_
    rw [app_toL, app_toL]
    cases e : acc.cps.toList with
    | nil => rw [e] at h; cases h
    | cons c r => rw [e] at h; exact h
theorem fit_list {ds : List PyData} : Fit (PyData.list ds).shown none := by
  refine fit_head ?_
  have h := from_head (PyData.shownAll ds) 0 "[" (by decide +kernel)
  have e : (PyData.list ds).shown = listText (PyData.shownAll ds) := by simp only [PyData.shown]
  rw [e]
  show (textFrom 0 "[" (PyData.shownAll ds) ++ ("]" : Str)).cps.toList.head? ≠ _
  rw [app_toL]
  cases e : (textFrom 0 "[" (PyData.shownAll ds)).cps.toList with
  | nil => rw [e] at h; cases h
  | cons c r =>
    rw [e] at h
    cases h
    exact fun z => absurd (Option.some.inj z) (by decide)
theorem fit_nonp {k : Int} : Fit (PyData.tuple [.none, .int k]).shown none := by
  have e : ((PyData.none).shown).cps.toList = [78, 111, 110, 101] := by decide +kernel
  exact fit_second (c := 78) (r := [111, 110, 101] ++ (44 :: 32 :: (digT k ++ [41]))) (by rw [shown_two, tup2_toL, e]; rfl) (by decide)
theorem fit_intp {x : Str} {k : Int} (hk : 0 ≤ k ∧ k ≤ 2) : Fit (PyData.tuple [.int k, .str x]).shown none := by
  have e : ∃ c, (PyData.int k).shown.cps.toList = [c] ∧ c ≠ 39 := by
    rcases small3 hk.1 hk.2 with rfl | rfl | rfl
    · exact ⟨48, by decide +kernel, by decide⟩
    · exact ⟨49, by decide +kernel, by decide⟩
    · exact ⟨50, by decide +kernel, by decide⟩
  obtain ⟨c, e, n⟩ := e
  exact fit_second (c := c) (r := 44 :: 32 :: ((PyData.str x).shown.cps.toList ++ [41])) (by rw [shown_two, tup2_toL, e]; rfl) n
def spInv8 (K : PySem.W.Frag) : Sp := fun vs H Q _ => ∃ (p g n e : Addr) (ns : List Str) (es : List (Addr × Str × Str)), vs = [.ref p, .ref g] ∧ PoolAt H p ∧ GrAt H g n e ns es ∧ 1 ≤ ns.length ∧ ns.length ≤ 100 ∧ (∀ x ∈ ns, IsName x) ∧
  ∀ (v : V) (o : Option (Str × Int)) (H' : Hp), Go p H H' → CandX K H' v o → Q v H'
section
variable {P : Program} {w : World} {K : PySem.W.Frag} {mg : Str → Option Value} {base : Heap}
structure TZa (P : Program) (w : World) (K : PySem.W.Frag) (mg : Str → Option Value) (base : Heap) : Prop where
  _law_draw : Cal P w K mg base CX0 1 "_law_draw" spDraw
theorem ok_inv8 {f : Addr} {fd : FuncData} (F : Fun K "_law_invalid" "_law_invalid" s__law_invalid f fd) (B : Bt mg) (C : TZa P w K mg base) : FnG P w K mg base CX0 2 f fd ["_law_pool_here", "_law_graph"] (spInv8 K) := by
  refine fnG0 F sc__law_invalid (fun vs H Q E h => ?_) (fun cdv A outer s H vs Q E hr h => ?_)
  · obtain ⟨p, g, n, e, ns, es, rfl, _⟩ := h
    rfl
  · obtain ⟨p, g, n, e, ns, es, rfl, hp, gr, n1, n100, nm, q⟩ := h
    have nd := sc__law_invalid.nd
    have hu := hr.u1
    refine ⟨_, (pss_cons (ps_set (i := 2) nd rfl (by first | exact Or.inl rfl | exact Or.inr rfl) (pe_ix (kIx K rfl) (pe_ix (kIx K rfl) (pv 1) pe_int (fun _ _ => rfl)) (pe_c C._law_draw hr (by decide) rfl (pa_cons (pv 0) (pa_cons (pe_callB (kLen K rfl) (by rfl) B.len bb_len (pa_cons (pe_ix (kIx K rfl) (pv 1) pe_int (fun _ _ => rfl)) pa_nil)) pa_nil))) (fun _ _ => rfl)))
  (pss_cons (ps_set (i := 3) nd rfl (by first | exact Or.inl rfl | exact Or.inr rfl) (pe_c C._law_draw hr (by decide) rfl (pa_cons (pv 0) (pa_cons pe_int pa_nil))))
  (pss_cons (ps_set (i := 4) nd rfl (by first | exact Or.inl rfl | exact Or.inr rfl) (pe_op (kAdd K rfl) (pe_op uMul (pe_lst (pa_cons (pe_tup (pa_cons (pv 2) (pa_cons (pv 3) pa_nil))) pa_nil)) pe_int) (pe_lst (pa_cons (pe_tup (pa_cons (pv 2) (pa_cons pe_int pa_nil))) (pa_cons (pe_tup (pa_cons (pv 2) (pa_cons (pe_un un_neg pe_int) pa_nil))) (pa_cons (pe_tup (pa_cons (pv 2) (pa_cons pe_bl pa_nil))) (pa_cons (pe_tup (pa_cons (pv 2) (pa_cons pe_bl pa_nil))) (pa_cons (pe_tup (pa_cons (pv 2) pa_nil)) pa_nil))))))))
  (pss_cons (ps_set (i := 4) nd rfl (by first | exact Or.inl rfl | exact Or.inr rfl) (pe_op (kAdd K rfl) (pv 4) (pe_lst (pa_cons (pe_lst (pa_cons (pv 2) (pa_cons (pv 3) pa_nil))) (pa_cons (pe_tup (pa_cons (pv 2) (pa_cons (pv 3) (pa_cons (pv 3) pa_nil)))) (pa_cons (pv 2) (pa_cons pe_non (pa_cons (pe_tup (pa_cons (pe_op (kAdd K rfl) (pv 2) pe_str) (pa_cons (pv 3) pa_nil))) (pa_cons (pe_tup (pa_cons pe_non (pa_cons (pv 3) pa_nil))) pa_nil)))))))))
  (pss_one (ps_ret (pe_ix (kIx K rfl) (pe_op (kAdd K rfl) (pv 4) (pe_lst (pa_cons (pe_tup (pa_cons (pe_lst (pa_cons pe_str pa_nil)) (pa_cons pe_int pa_nil))) (pa_cons pe_dnewK (pa_cons (pe_tup (pa_cons (pv 3) (pa_cons (pv 2) pa_nil))) (pa_cons (pe_tup (pa_cons (pv 2) (pa_cons pe_str pa_nil))) (pa_cons (pe_tup (pa_cons (pv 2) (pa_cons pe_non pa_nil))) (pa_cons (pe_tup pa_nil) pa_nil)))))))) (pe_c C._law_draw hr (by decide) rfl (pa_cons (pv 0) (pa_cons pe_int pa_nil))) (fun _ _ => rfl)))))))), ?_⟩
    wtm_at "rd"
    refine rd_ixT (SqT.of gr.top) (v := .ref n) rfl ?_
    wtm_at "rd"
    refine rd_ixT (SqT.of gr.top) (v := .ref n) rfl ?_
    wtm_at "rd"
    refine rd_lenT (SqT.of gr.nodes) ?_
    rw [List.length_map]
    wtm_at "rd"
    refine use_draw hp (by omega) (by omega) fun b HA b0 b1 ga => ?_
    obtain ⟨jx, rfl⟩ : ∃ k : Nat, b = (k : Int) := ⟨b.toNat, by omega⟩
    have hjx : jx < ns.length := by omega
    refine rd_ixT (SqT.of (ga.tup hp gr.nodes)) (v := .str ns[jx]) (atI_nat (by rw [List.getElem?_map, List.getElem?_eq_getElem hjx]; rfl)) ?_
    have nmx := nm _ (List.getElem_mem hjx)
    generalize ns[jx] = x at *
    have lx := name_let nmx
    wtm_at "rd"
    refine use_draw ga.pool (by decide) (by decide) fun k HB k0 k1 gb => ?_
    have G := ga.trans gb
    clear ga gb
    wtm_at "rd"
    intro t0 ft0
    have kt0 := Same.new (o := .tup [.str x, .int k]) ft0
    have ht0 := @upd_same HB t0 (.tup [.str x, .int k])
    have G := G.trans (Go.of_same G.pool kt0)
    generalize upd HB t0 (.tup [.str x, .int k]) = G1 at *
    clear kt0 ft0
    wtm_at "rd"
    intro l0 fl0
    have kl0 := Same.new (o := .lst [.ref t0]) fl0
    have hl0 := @upd_same G1 l0 (.lst [.ref t0])
    have ht0 := kl0 _ _ ht0
    have G := G.trans (Go.of_same G.pool kl0)
    generalize upd G1 l0 (.lst [.ref t0]) = G2 at *
    clear kl0 fl0
    wtm_at "rd"
    refine rd_repL8 (m := 3) hl0 ?_ (by decide) (by show 1 * 3 ≤ _; decide)
    rw [show (List.replicate 3 [V.ref t0]).flatten = [V.ref t0, .ref t0, .ref t0] from rfl]
    intro l1 fl1
    have kl1 := Same.new (o := .lst [.ref t0, .ref t0, .ref t0]) fl1
    have hl1 := @upd_same G2 l1 (.lst [.ref t0, .ref t0, .ref t0])
    have ht0 := kl1 _ _ ht0
    have hl0 := kl1 _ _ hl0
    have G := G.trans (Go.of_same G.pool kl1)
    generalize upd G2 l1 (.lst [.ref t0, .ref t0, .ref t0]) = G3 at *
    clear kl1 fl1
    clear hl0
    wtm_at "rd"
    intro t1 ft1
    have kt1 := Same.new (o := .tup [.str x, .int 3]) ft1
    have ht1 := @upd_same G3 t1 (.tup [.str x, .int 3])
    have ht0 := kt1 _ _ ht0
    have hl1 := kt1 _ _ hl1
    have G := G.trans (Go.of_same G.pool kt1)
    generalize upd G3 t1 (.tup [.str x, .int 3]) = G4 at *
    clear kt1 ft1
    wtm_at "rd"
    intro t2 ft2
    have kt2 := Same.new (o := .tup [.str x, .int (-1)]) ft2
    have ht2 := @upd_same G4 t2 (.tup [.str x, .int (-1)])
    have ht0 := kt2 _ _ ht0
    have hl1 := kt2 _ _ hl1
    have ht1 := kt2 _ _ ht1
    have G := G.trans (Go.of_same G.pool kt2)
    generalize upd G4 t2 (.tup [.str x, .int (-1)]) = G5 at *
    clear kt2 ft2
    wtm_at "rd"
    intro t3 ft3
    have kt3 := Same.new (o := .tup [.str x, .bl true]) ft3
    have ht3 := @upd_same G5 t3 (.tup [.str x, .bl true])
    have ht0 := kt3 _ _ ht0
    have hl1 := kt3 _ _ hl1
    have ht1 := kt3 _ _ ht1
    have ht2 := kt3 _ _ ht2
    have G := G.trans (Go.of_same G.pool kt3)
    generalize upd G5 t3 (.tup [.str x, .bl true]) = G6 at *
    clear kt3 ft3
    wtm_at "rd"
    intro t4 ft4
    have kt4 := Same.new (o := .tup [.str x, .bl false]) ft4
    have ht4 := @upd_same G6 t4 (.tup [.str x, .bl false])
    have ht0 := kt4 _ _ ht0
    have hl1 := kt4 _ _ hl1
    have ht1 := kt4 _ _ ht1
    have ht2 := kt4 _ _ ht2
    have ht3 := kt4 _ _ ht3
    have G := G.trans (Go.of_same G.pool kt4)
    generalize upd G6 t4 (.tup [.str x, .bl false]) = G7 at *
    clear kt4 ft4
    wtm_at "rd"
    intro t5 ft5
    have kt5 := Same.new (o := .tup [.str x]) ft5
    have ht5 := @upd_same G7 t5 (.tup [.str x])
    have ht0 := kt5 _ _ ht0
    have hl1 := kt5 _ _ hl1
    have ht1 := kt5 _ _ ht1
    have ht2 := kt5 _ _ ht2
    have ht3 := kt5 _ _ ht3
    have ht4 := kt5 _ _ ht4
    have G := G.trans (Go.of_same G.pool kt5)
    generalize upd G7 t5 (.tup [.str x]) = G8 at *
    clear kt5 ft5
    wtm_at "rd"
    intro l2 fl2
    have kl2 := Same.new (o := .lst [.ref t1, .ref t2, .ref t3, .ref t4, .ref t5]) fl2
    have hl2 := @upd_same G8 l2 (.lst [.ref t1, .ref t2, .ref t3, .ref t4, .ref t5])
    have ht0 := kl2 _ _ ht0
    have hl1 := kl2 _ _ hl1
    have ht1 := kl2 _ _ ht1
    have ht2 := kl2 _ _ ht2
    have ht3 := kl2 _ _ ht3
    have ht4 := kl2 _ _ ht4
    have ht5 := kl2 _ _ ht5
    have G := G.trans (Go.of_same G.pool kl2)
    generalize upd G8 l2 (.lst [.ref t1, .ref t2, .ref t3, .ref t4, .ref t5]) = G9 at *
    clear kl2 fl2
    refine rd_catL hl1 hl2 (by show 3 + 5 ≤ 100000; decide) ?_
    simp only [List.cons_append, List.nil_append]
    intro l3 fl3
    have kl3 := Same.new (o := .lst [.ref t0, .ref t0, .ref t0, .ref t1, .ref t2, .ref t3, .ref t4, .ref t5]) fl3
    have hl3 := @upd_same G9 l3 (.lst [.ref t0, .ref t0, .ref t0, .ref t1, .ref t2, .ref t3, .ref t4, .ref t5])
    have ht0 := kl3 _ _ ht0
    have hl1 := kl3 _ _ hl1
    have ht1 := kl3 _ _ ht1
    have ht2 := kl3 _ _ ht2
    have ht3 := kl3 _ _ ht3
    have ht4 := kl3 _ _ ht4
    have ht5 := kl3 _ _ ht5
    have hl2 := kl3 _ _ hl2
    have G := G.trans (Go.of_same G.pool kl3)
    generalize upd G9 l3 (.lst [.ref t0, .ref t0, .ref t0, .ref t1, .ref t2, .ref t3, .ref t4, .ref t5]) = G10 at *
    clear kl3 fl3
    clear hl1 hl2
    wtm_at "rd"
    intro t6 ft6
    have kt6 := Same.new (o := .lst [.str x, .int k]) ft6
    have ht6 := @upd_same G10 t6 (.lst [.str x, .int k])
    have ht0 := kt6 _ _ ht0
    have ht1 := kt6 _ _ ht1
    have ht2 := kt6 _ _ ht2
    have ht3 := kt6 _ _ ht3
    have ht4 := kt6 _ _ ht4
    have ht5 := kt6 _ _ ht5
    have hl3 := kt6 _ _ hl3
    have G := G.trans (Go.of_same G.pool kt6)
    generalize upd G10 t6 (.lst [.str x, .int k]) = G11 at *
    clear kt6 ft6
    wtm_at "rd"
    intro t7 ft7
    have kt7 := Same.new (o := .tup [.str x, .int k, .int k]) ft7
    have ht7 := @upd_same G11 t7 (.tup [.str x, .int k, .int k])
    have ht0 := kt7 _ _ ht0
    have ht1 := kt7 _ _ ht1
    have ht2 := kt7 _ _ ht2
    have ht3 := kt7 _ _ ht3
    have ht4 := kt7 _ _ ht4
    have ht5 := kt7 _ _ ht5
    have hl3 := kt7 _ _ hl3
    have ht6 := kt7 _ _ ht6
    have G := G.trans (Go.of_same G.pool kt7)
    generalize upd G11 t7 (.tup [.str x, .int k, .int k]) = G12 at *
    clear kt7 ft7
    wtm_at "rd"
    refine rd_addS (Nat.le_trans (Nat.add_le_add nmx.hi (by decide : (Str.ofString "A").length ≤ 1)) (by decide)) ?_
    wtm_at "rd"
    intro t8 ft8
    have kt8 := Same.new (o := .tup [.str (x ++ Str.ofString "A"), .int k]) ft8
    have ht8 := @upd_same G12 t8 (.tup [.str (x ++ Str.ofString "A"), .int k])
    have ht0 := kt8 _ _ ht0
    have ht1 := kt8 _ _ ht1
    have ht2 := kt8 _ _ ht2
    have ht3 := kt8 _ _ ht3
    have ht4 := kt8 _ _ ht4
    have ht5 := kt8 _ _ ht5
    have hl3 := kt8 _ _ hl3
    have ht6 := kt8 _ _ ht6
    have ht7 := kt8 _ _ ht7
    have G := G.trans (Go.of_same G.pool kt8)
    generalize upd G12 t8 (.tup [.str (x ++ Str.ofString "A"), .int k]) = G13 at *
    clear kt8 ft8
    wtm_at "rd"
    intro t9 ft9
    have kt9 := Same.new (o := .tup [.non, .int k]) ft9
    have ht9 := @upd_same G13 t9 (.tup [.non, .int k])
    have ht0 := kt9 _ _ ht0
    have ht1 := kt9 _ _ ht1
    have ht2 := kt9 _ _ ht2
    have ht3 := kt9 _ _ ht3
    have ht4 := kt9 _ _ ht4
    have ht5 := kt9 _ _ ht5
    have hl3 := kt9 _ _ hl3
    have ht6 := kt9 _ _ ht6
    have ht7 := kt9 _ _ ht7
    have ht8 := kt9 _ _ ht8
    have G := G.trans (Go.of_same G.pool kt9)
    generalize upd G13 t9 (.tup [.non, .int k]) = G14 at *
    clear kt9 ft9
    wtm_at "rd"
    intro l4 fl4
    have kl4 := Same.new (o := .lst [.ref t6, .ref t7, .str x, .non, .ref t8, .ref t9]) fl4
    have hl4 := @upd_same G14 l4 (.lst [.ref t6, .ref t7, .str x, .non, .ref t8, .ref t9])
    have ht0 := kl4 _ _ ht0
    have ht1 := kl4 _ _ ht1
    have ht2 := kl4 _ _ ht2
    have ht3 := kl4 _ _ ht3
    have ht4 := kl4 _ _ ht4
    have ht5 := kl4 _ _ ht5
    have hl3 := kl4 _ _ hl3
    have ht6 := kl4 _ _ ht6
    have ht7 := kl4 _ _ ht7
    have ht8 := kl4 _ _ ht8
    have ht9 := kl4 _ _ ht9
    have G := G.trans (Go.of_same G.pool kl4)
    generalize upd G14 l4 (.lst [.ref t6, .ref t7, .str x, .non, .ref t8, .ref t9]) = G15 at *
    clear kl4 fl4
    refine rd_catL hl3 hl4 (by show 8 + 6 ≤ 100000; decide) ?_
    simp only [List.cons_append, List.nil_append]
    intro l5 fl5
    have kl5 := Same.new (o := .lst [.ref t0, .ref t0, .ref t0, .ref t1, .ref t2, .ref t3, .ref t4, .ref t5, .ref t6, .ref t7, .str x, .non, .ref t8, .ref t9]) fl5
    have hl5 := @upd_same G15 l5 (.lst [.ref t0, .ref t0, .ref t0, .ref t1, .ref t2, .ref t3, .ref t4, .ref t5, .ref t6, .ref t7, .str x, .non, .ref t8, .ref t9])
    have ht0 := kl5 _ _ ht0
    have ht1 := kl5 _ _ ht1
    have ht2 := kl5 _ _ ht2
    have ht3 := kl5 _ _ ht3
    have ht4 := kl5 _ _ ht4
    have ht5 := kl5 _ _ ht5
    have hl3 := kl5 _ _ hl3
    have ht6 := kl5 _ _ ht6
    have ht7 := kl5 _ _ ht7
    have ht8 := kl5 _ _ ht8
    have ht9 := kl5 _ _ ht9
    have hl4 := kl5 _ _ hl4
    have G := G.trans (Go.of_same G.pool kl5)
    generalize upd G15 l5 (.lst [.ref t0, .ref t0, .ref t0, .ref t1, .ref t2, .ref t3, .ref t4, .ref t5, .ref t6, .ref t7, .str x, .non, .ref t8, .ref t9]) = G16 at *
    clear kl5 fl5
    clear hl3 hl4
    wtm_at "rd"
    intro t10 ft10
    have kt10 := Same.new (o := .lst [.str "a"]) ft10
    have ht10 := @upd_same G16 t10 (.lst [.str "a"])
    have ht0 := kt10 _ _ ht0
    have ht1 := kt10 _ _ ht1
    have ht2 := kt10 _ _ ht2
    have ht3 := kt10 _ _ ht3
    have ht4 := kt10 _ _ ht4
    have ht5 := kt10 _ _ ht5
    have ht6 := kt10 _ _ ht6
    have ht7 := kt10 _ _ ht7
    have ht8 := kt10 _ _ ht8
    have ht9 := kt10 _ _ ht9
    have hl5 := kt10 _ _ hl5
    have G := G.trans (Go.of_same G.pool kt10)
    generalize upd G16 t10 (.lst [.str "a"]) = G17 at *
    clear kt10 ft10
    wtm_at "rd"
    intro t11 ft11
    have kt11 := Same.new (o := .tup [.ref t10, .int 0]) ft11
    have ht11 := @upd_same G17 t11 (.tup [.ref t10, .int 0])
    have ht0 := kt11 _ _ ht0
    have ht1 := kt11 _ _ ht1
    have ht2 := kt11 _ _ ht2
    have ht3 := kt11 _ _ ht3
    have ht4 := kt11 _ _ ht4
    have ht5 := kt11 _ _ ht5
    have ht6 := kt11 _ _ ht6
    have ht7 := kt11 _ _ ht7
    have ht8 := kt11 _ _ ht8
    have ht9 := kt11 _ _ ht9
    have hl5 := kt11 _ _ hl5
    have ht10 := kt11 _ _ ht10
    have G := G.trans (Go.of_same G.pool kt11)
    generalize upd G17 t11 (.tup [.ref t10, .int 0]) = G18 at *
    clear kt11 ft11
    wtm_at "rd"
    intro t12 ft12
    have kt12 := Same.new (o := .dK []) ft12
    have ht12 := @upd_same G18 t12 (.dK [])
    have ht0 := kt12 _ _ ht0
    have ht1 := kt12 _ _ ht1
    have ht2 := kt12 _ _ ht2
    have ht3 := kt12 _ _ ht3
    have ht4 := kt12 _ _ ht4
    have ht5 := kt12 _ _ ht5
    have ht6 := kt12 _ _ ht6
    have ht7 := kt12 _ _ ht7
    have ht8 := kt12 _ _ ht8
    have ht9 := kt12 _ _ ht9
    have hl5 := kt12 _ _ hl5
    have ht10 := kt12 _ _ ht10
    have ht11 := kt12 _ _ ht11
    have G := G.trans (Go.of_same G.pool kt12)
    generalize upd G18 t12 (.dK []) = G19 at *
    clear kt12 ft12
    wtm_at "rd"
    intro t13 ft13
    have kt13 := Same.new (o := .tup [.int k, .str x]) ft13
    have ht13 := @upd_same G19 t13 (.tup [.int k, .str x])
    have ht0 := kt13 _ _ ht0
    have ht1 := kt13 _ _ ht1
    have ht2 := kt13 _ _ ht2
    have ht3 := kt13 _ _ ht3
    have ht4 := kt13 _ _ ht4
    have ht5 := kt13 _ _ ht5
    have ht6 := kt13 _ _ ht6
    have ht7 := kt13 _ _ ht7
    have ht8 := kt13 _ _ ht8
    have ht9 := kt13 _ _ ht9
    have hl5 := kt13 _ _ hl5
    have ht10 := kt13 _ _ ht10
    have ht11 := kt13 _ _ ht11
    have ht12 := kt13 _ _ ht12
    have G := G.trans (Go.of_same G.pool kt13)
    generalize upd G19 t13 (.tup [.int k, .str x]) = G20 at *
    clear kt13 ft13
    wtm_at "rd"
    intro t14 ft14
    have kt14 := Same.new (o := .tup [.str x, .str "0"]) ft14
    have ht14 := @upd_same G20 t14 (.tup [.str x, .str "0"])
    have ht0 := kt14 _ _ ht0
    have ht1 := kt14 _ _ ht1
    have ht2 := kt14 _ _ ht2
    have ht3 := kt14 _ _ ht3
    have ht4 := kt14 _ _ ht4
    have ht5 := kt14 _ _ ht5
    have ht6 := kt14 _ _ ht6
    have ht7 := kt14 _ _ ht7
    have ht8 := kt14 _ _ ht8
    have ht9 := kt14 _ _ ht9
    have hl5 := kt14 _ _ hl5
    have ht10 := kt14 _ _ ht10
    have ht11 := kt14 _ _ ht11
    have ht12 := kt14 _ _ ht12
    have ht13 := kt14 _ _ ht13
    have G := G.trans (Go.of_same G.pool kt14)
    generalize upd G20 t14 (.tup [.str x, .str "0"]) = G21 at *
    clear kt14 ft14
    wtm_at "rd"
    intro t15 ft15
    have kt15 := Same.new (o := .tup [.str x, .non]) ft15
    have ht15 := @upd_same G21 t15 (.tup [.str x, .non])
    have ht0 := kt15 _ _ ht0
    have ht1 := kt15 _ _ ht1
    have ht2 := kt15 _ _ ht2
    have ht3 := kt15 _ _ ht3
    have ht4 := kt15 _ _ ht4
    have ht5 := kt15 _ _ ht5
    have ht6 := kt15 _ _ ht6
    have ht7 := kt15 _ _ ht7
    have ht8 := kt15 _ _ ht8
    have ht9 := kt15 _ _ ht9
    have hl5 := kt15 _ _ hl5
    have ht10 := kt15 _ _ ht10
    have ht11 := kt15 _ _ ht11
    have ht12 := kt15 _ _ ht12
    have ht13 := kt15 _ _ ht13
    have ht14 := kt15 _ _ ht14
    have G := G.trans (Go.of_same G.pool kt15)
    generalize upd G21 t15 (.tup [.str x, .non]) = G22 at *
    clear kt15 ft15
    wtm_at "rd"
    intro t16 ft16
    have kt16 := Same.new (o := .tup []) ft16
    have ht16 := @upd_same G22 t16 (.tup [])
    have ht0 := kt16 _ _ ht0
    have ht1 := kt16 _ _ ht1
    have ht2 := kt16 _ _ ht2
    have ht3 := kt16 _ _ ht3
    have ht4 := kt16 _ _ ht4
    have ht5 := kt16 _ _ ht5
    have ht6 := kt16 _ _ ht6
    have ht7 := kt16 _ _ ht7
    have ht8 := kt16 _ _ ht8
    have ht9 := kt16 _ _ ht9
    have hl5 := kt16 _ _ hl5
    have ht10 := kt16 _ _ ht10
    have ht11 := kt16 _ _ ht11
    have ht12 := kt16 _ _ ht12
    have ht13 := kt16 _ _ ht13
    have ht14 := kt16 _ _ ht14
    have ht15 := kt16 _ _ ht15
    have G := G.trans (Go.of_same G.pool kt16)
    generalize upd G22 t16 (.tup []) = G23 at *
    clear kt16 ft16
    wtm_at "rd"
    intro l6 fl6
    have kl6 := Same.new (o := .lst [.ref t11, .ref t12, .ref t13, .ref t14, .ref t15, .ref t16]) fl6
    have hl6 := @upd_same G23 l6 (.lst [.ref t11, .ref t12, .ref t13, .ref t14, .ref t15, .ref t16])
    have ht0 := kl6 _ _ ht0
    have ht1 := kl6 _ _ ht1
    have ht2 := kl6 _ _ ht2
    have ht3 := kl6 _ _ ht3
    have ht4 := kl6 _ _ ht4
    have ht5 := kl6 _ _ ht5
    have ht6 := kl6 _ _ ht6
    have ht7 := kl6 _ _ ht7
    have ht8 := kl6 _ _ ht8
    have ht9 := kl6 _ _ ht9
    have hl5 := kl6 _ _ hl5
    have ht10 := kl6 _ _ ht10
    have ht11 := kl6 _ _ ht11
    have ht12 := kl6 _ _ ht12
    have ht13 := kl6 _ _ ht13
    have ht14 := kl6 _ _ ht14
    have ht15 := kl6 _ _ ht15
    have ht16 := kl6 _ _ ht16
    have G := G.trans (Go.of_same G.pool kl6)
    generalize upd G23 l6 (.lst [.ref t11, .ref t12, .ref t13, .ref t14, .ref t15, .ref t16]) = G24 at *
    clear kl6 fl6
    refine rd_catL hl5 hl6 (by show 14 + 6 ≤ 100000; decide) ?_
    simp only [List.cons_append, List.nil_append]
    intro l7 fl7
    have kl7 := Same.new (o := .lst [.ref t0, .ref t0, .ref t0, .ref t1, .ref t2, .ref t3, .ref t4, .ref t5, .ref t6, .ref t7, .str x, .non, .ref t8, .ref t9, .ref t11, .ref t12, .ref t13, .ref t14, .ref t15, .ref t16]) fl7
    have hl7 := @upd_same G24 l7 (.lst [.ref t0, .ref t0, .ref t0, .ref t1, .ref t2, .ref t3, .ref t4, .ref t5, .ref t6, .ref t7, .str x, .non, .ref t8, .ref t9, .ref t11, .ref t12, .ref t13, .ref t14, .ref t15, .ref t16])
    have ht0 := kl7 _ _ ht0
    have ht1 := kl7 _ _ ht1
    have ht2 := kl7 _ _ ht2
    have ht3 := kl7 _ _ ht3
    have ht4 := kl7 _ _ ht4
    have ht5 := kl7 _ _ ht5
    have ht6 := kl7 _ _ ht6
    have ht7 := kl7 _ _ ht7
    have ht8 := kl7 _ _ ht8
    have ht9 := kl7 _ _ ht9
    have hl5 := kl7 _ _ hl5
    have ht10 := kl7 _ _ ht10
    have ht11 := kl7 _ _ ht11
    have ht12 := kl7 _ _ ht12
    have ht13 := kl7 _ _ ht13
    have ht14 := kl7 _ _ ht14
    have ht15 := kl7 _ _ ht15
    have ht16 := kl7 _ _ ht16
    have hl6 := kl7 _ _ hl6
    have G := G.trans (Go.of_same G.pool kl7)
    generalize upd G24 l7 (.lst [.ref t0, .ref t0, .ref t0, .ref t1, .ref t2, .ref t3, .ref t4, .ref t5, .ref t6, .ref t7, .str x, .non, .ref t8, .ref t9, .ref t11, .ref t12, .ref t13, .ref t14, .ref t15, .ref t16]) = G25 at *
    clear kl7 fl7
    clear hl5 hl6
    have nl7 := l7
    wtm_at "rd"
    refine use_draw G.pool (by decide) (by decide) fun r HX r0 r1 gb => ?_
    have ht0 := gb.tup G.pool ht0
    have ht1 := gb.tup G.pool ht1
    have ht2 := gb.tup G.pool ht2
    have ht3 := gb.tup G.pool ht3
    have ht4 := gb.tup G.pool ht4
    have ht5 := gb.tup G.pool ht5
    have ht7 := gb.tup G.pool ht7
    have ht8 := gb.tup G.pool ht8
    have ht9 := gb.tup G.pool ht9
    have ht11 := gb.tup G.pool ht11
    have ht12 := gb.dK G.pool ht12
    have ht13 := gb.tup G.pool ht13
    have ht14 := gb.tup G.pool ht14
    have ht15 := gb.tup G.pool ht15
    have ht16 := gb.tup G.pool ht16
    have ht6 := gb.at ht6 (ne8 G.pool ht6 fun b s e => by cases e)
    have ht10 := gb.at ht10 (G.pool.off (xs := ["a"]) ht10)
    have hl7 := gb.at hl7 (ne8 G.pool hl7 fun b s e => by cases e)
    have G := G.trans gb
    have fin : ∃ v o, atI [V.ref t0, .ref t0, .ref t0, .ref t1, .ref t2, .ref t3, .ref t4, .ref t5, .ref t6, .ref t7, .str x, .non, .ref t8, .ref t9, .ref t11, .ref t12, .ref t13, .ref t14, .ref t15, .ref t16] r = some v ∧ CandX K HX v o := by
      have c0 : CandX K HX (.ref t0) (some (x, k)) := cand_mv ht0 nmx (by omega)
      have : r = 0 ∨ r = 1 ∨ r = 2 ∨ r = 3 ∨ r = 4 ∨ r = 5 ∨ r = 6 ∨ r = 7 ∨ r = 8 ∨ r = 9 ∨ r = 10 ∨ r = 11 ∨ r = 12 ∨ r = 13 ∨ r = 14 ∨ r = 15 ∨ r = 16 ∨ r = 17 ∨ r = 18 ∨ r = 19 := by omega
      rcases this with rfl | rfl | rfl | rfl | rfl | rfl | rfl | rfl | rfl | rfl | rfl | rfl | rfl | rfl | rfl | rfl | rfl | rfl | rfl | rfl
      · exact ⟨_, _, rfl, c0⟩
      · exact ⟨_, _, rfl, c0⟩
      · exact ⟨_, _, rfl, c0⟩
      · exact ⟨_, _, rfl, cand_mv ht1 nmx (by decide)⟩
      · exact ⟨_, _, rfl, cand_mv ht2 nmx (by decide)⟩
      · exact ⟨_, _, rfl, .dat (.tup (SqT.of ht3) (.cons (.str x) (.cons (.bl true) .nil))) (sm_two nmx (sm_bl true)) (.val ht3 ty_bl nofun) (fit_pair lx (dig_no (by decide +kernel)))⟩
      · exact ⟨_, _, rfl, .dat (.tup (SqT.of ht4) (.cons (.str x) (.cons (.bl false) .nil))) (sm_two nmx (sm_bl false)) (.val ht4 ty_bl nofun) (fit_pair lx (dig_no (by decide +kernel)))⟩
      · exact ⟨_, _, rfl, .dat (.tup (SqT.of ht5) (.cons (.str x) .nil)) ((SmD.tup (SmDs.cons (SmD.name nmx) .nil)).mono (by decide) (by decide)) (.len ht5 (by simp)) (fit_one lx)⟩
      · exact ⟨_, _, rfl, .dat (.lst (SqL.of ht6) (.cons (.str x) (.cons (.int k) .nil))) ((SmD.lst (SmDs.cons (SmD.name nmx) (SmDs.cons (sm_int (by omega)) .nil))).mono (by decide) (by decide)) (.odd (ty_lst ht6) rfl) fit_list⟩
      · exact ⟨_, _, rfl, .dat (.tup (SqT.of ht7) (.cons (.str x) (.cons (.int k) (.cons (.int k) .nil)))) ((SmD.tup (SmDs.cons (SmD.name nmx) (SmDs.cons (sm_int (by omega)) (SmDs.cons (sm_int (by omega)) .nil)))).mono (by decide) (by decide)) (.len ht7 (by simp)) (fit_thr lx (by omega))⟩
      · exact ⟨_, _, rfl, .dat (.str x) ((SmD.name nmx).mono (by decide) (by decide)) (.odd ty_str rfl) (fit_name lx)⟩
      · exact ⟨_, _, rfl, .dat .non (sm_non.mono (by decide) (by decide)) (.odd ty_non rfl) (fit_head (by decide +kernel))⟩
      · exact ⟨_, _, rfl, .dat (.tup (SqT.of ht8) (.cons (.str _) (.cons (.int k) .nil))) (sm_plus nmx (by omega)) (.mv ht8) (fit_mv (plus_let lx) (by omega))⟩
      · exact ⟨_, _, rfl, .dat (.tup (SqT.of ht9) (.cons .non (.cons (.int k) .nil))) ((SmD.tup (SmDs.cons sm_non (SmDs.cons (sm_int (by omega)) .nil))).mono (by decide) (by decide)) (.node ht9 ty_non rfl) fit_nonp⟩
      · exact ⟨_, _, rfl, .dat (.tup (SqT.of ht11) (.cons (.lst (SqL.of ht10) (.cons (.str "a") .nil)) (.cons (.int 0) .nil))) ((SmD.tup (SmDs.cons (SmD.lst (SmDs.cons (SmD.name isa8) .nil)) (SmDs.cons (sm_int (by decide)) .nil))).mono (by decide) (by decide)) (.node ht11 (ty_lst ht10) rfl) (fit_second (c := 91) (r := (PyData.tuple [.list [.str "a"], .int 0]).shown.cps.toList.drop 2) (by decide +kernel) (by decide))⟩
      · exact ⟨_, _, rfl, .emp ht12⟩
      · exact ⟨_, _, rfl, .dat (.tup (SqT.of ht13) (.cons (.int k) (.cons (.str x) .nil))) ((SmD.tup (SmDs.cons (sm_int (by omega)) (SmDs.cons (SmD.name nmx) .nil))).mono (by decide) (by decide)) (.node ht13 ty_int rfl) (fit_intp (by omega))⟩
      · exact ⟨_, _, rfl, .dat (.tup (SqT.of ht14) (.cons (.str x) (.cons (.str "0") .nil))) (sm_two nmx sm_zero) (.val ht14 ty_str nofun) (fit_pair lx (dig_no (by decide +kernel)))⟩
      · exact ⟨_, _, rfl, .dat (.tup (SqT.of ht15) (.cons (.str x) (.cons .non .nil))) (sm_two nmx (sm_non.mono (by decide) (by decide))) (.val ht15 ty_non nofun) (fit_pair lx (dig_no (by decide +kernel)))⟩
      · exact ⟨_, _, rfl, .dat (.tup (SqT.of ht16) .nil) ((SmD.tup .nil).mono (by decide) (by decide)) (.len ht16 (by decide)) (fit_second (c := 41) (r := []) (by decide +kernel) (by decide))⟩
    obtain ⟨v, o, ev, cv⟩ := fin
    refine rd_ixL (SqL.of hl7) ev ?_
    exact q v o _ G cv
end
end Law

/-! data: parts of lists; a heap without one place -/
namespace U
open PySem PySem.Spec PyProof.Rows L2
theorem dpaApp {K : PySem.W.Frag} {H : Hp} : ∀ {vs ws : List V} {ds es : List PyData}, DpAll K H vs ds → DpAll K H ws es → DpAll K H (vs ++ ws) (ds ++ es)
  | _, _, _, _, .nil, b => b
  | _, _, _, _, .cons a r, b => .cons a (dpaApp r b)
theorem shaped_of {d : PyData} (a : d.canLay0 = true) (b : d.depth ≤ 64) : SeqAt.shaped d = true := by
  unfold SeqAt.shaped
  rw [a, decide_eq_true b]
  rfl
end U

/-! k08's law -/
namespace Law
open PySem PySem.Spec PyProof.Rows L2 U
local macro_rules | `(tactic| wtm_at "rd1") => `(tactic| first
  | with_reducible refine rd_seq ?_
  | ((with_reducible refine rd_var (v := ?vv) ?hv ?_); (case hv => exact rfl))
  | with_reducible refine rd_c ?_
  | with_reducible refine rd_cons ?_
  | with_reducible refine rd_nil ?_
  | with_reducible refine rd_op ?_
  | with_reducible refine rd_asg ?_
  | with_reducible refine rd_name ?_
  | with_reducible refine rd_c1 ?_
  | with_reducible refine rd_cb ?_
  | with_reducible refine rd_test ?_
  | with_reducible refine rd_B ?_
  | with_reducible refine rd_bl ?_
  | with_reducible refine rd_if ?_
  | with_reducible refine rd_ret ?_
  | with_reducible refine rd_drop ?_
  | with_reducible refine rd_next ?_
  | with_reducible refine rd_addI ?_
  | with_reducible refine rd_ltI ?_
  | with_reducible refine rd_eqI ?_
  | with_reducible refine rd_neI ?_
  | with_reducible refine rd_eqS ?_
  | with_reducible refine rd_neS ?_
  | with_reducible refine rd_gtI ?_
  | with_reducible refine rd_geI ?_
  | with_reducible refine rd_leI ?_
  | with_reducible refine rd_ltS ?_
  | with_reducible refine rd_subI ?_
  | ((with_reducible refine rd_modI ?hc ?_); (case hc => first | decide | omega))
  | ((with_reducible refine rd_mulI ?hc ?_); (case hc => first | exact mul_bI | exact .inl (.inr (by decide)) | exact .inl (.inl (by decide)) | exact .inl (.inr (by omega)) | exact .inl (.inl (by omega))))
  | ((with_reducible refine rd_divI ?hc ?_); (case hc => first | decide | omega))
  | ((with_reducible refine rd_powI ?hc ?_); (case hc => exact ⟨by decide, by decide, by decide⟩))
  | with_reducible refine rd_lst ?_
  | with_reducible refine rd_tup ?_
  | ((with_reducible refine rd_sz ?hv ?_); (case hv => exact rfl))
  | with_reducible refine rd_and ?_
  | with_reducible refine rd_or ?_
  | with_reducible refine rd_not ?_
  | with_reducible refine rd_andV ?_
  | with_reducible refine rd_orV ?_
  | with_reducible refine rd_notV ?_
  | with_reducible refine rd_ifE ?_
  | with_reducible refine rd_T ?_
  | with_reducible refine rd_F ?_
  | with_reducible refine rd_chain ?_
  | with_reducible refine rd_is ?_
  | with_reducible refine rd_isNot ?_
  | with_reducible refine rd_absI ?_
  | with_reducible refine rd_maxI ?_
  | with_reducible refine rd_minI ?_
  | with_reducible refine rd_intI ?_
  | with_reducible refine rd_intB ?_
  | with_reducible refine rd_sub ?_
  | with_reducible refine rd_sl ?_
  | with_reducible refine rd_noPart ?_
  | with_reducible refine rd_part ?_
  | with_reducible refine rd_exI ?_
  | with_reducible refine rd_bm ?_
  | with_reducible refine rd_bm0 ?_
  | with_reducible refine rd_un ?_
  | with_reducible refine rd_neg ?_
  | with_reducible refine rd_c2 ?_
  | with_reducible refine rd_retN ?_
  | with_reducible refine rd_break ?_
  | with_reducible refine rd_cont ?_
  | with_reducible refine rd_for ?_
  | with_reducible refine rd_rng1 ?_
  | with_reducible refine rd_rng2 ?_
  | with_reducible refine rd_iList ?_
  | with_reducible refine rd_iTup ?_
  | with_reducible refine rd_iEnum ?_
  | ((with_reducible refine rd_forR ?h0 ?h1 ?_); (case h0 => omega); (case h1 => omega))
  | with_reducible refine rd_lc ?_
  | with_reducible refine rd_gcons ?_
  | with_reducible refine rd_gnil ?_
  | with_reducible refine rd_dget ?_
  | with_reducible refine rd_dput ?_
  | with_reducible refine rd_dnew ?_
  | with_reducible refine rd_dc ?_
  | with_reducible refine rd_iItems ?_
  | with_reducible refine rd_iKeys ?_
  | with_reducible refine rd_din ?_
  | with_reducible refine rd_lc2 ?_
  | with_reducible refine rd_cd ?_
  | with_reducible refine rd_par ?_
  | with_reducible refine rd_two ?_
  | with_reducible refine rd_reprB ?_
  | with_reducible refine rd_ck ?_
  | ((with_reducible refine rd_len ?hl ?_); (case hl => exact rfl))
  | with_reducible refine rd_nT ?_
  | with_reducible refine rd_nF ?_
  | with_reducible refine rd_dnin ?_
  | with_reducible refine rd_isB ?_
  | with_reducible refine rd_isNotB ?_
  | with_reducible refine rd_daug ?_
  | with_reducible refine rd_yesT ?_
  | ((with_reducible refine rd_wp ?hw ?_); (case hw => exact rfl)))
local macro_rules | `(tactic| wtm_at "rd") => `(tactic| repeat wtm_at "rd1")

theorem runs_ex {ns : List Str} {es : List (Str × Str)} {pn : List Str} : ∀ (os : List (Option (Str × Int))) (f : Str → Int), ∃ ms, Runs ns es f pn os ms
  | [], f => ⟨[], (fun i h => nomatch h), .inl rfl⟩
  | none :: r, f => ⟨[], (fun i h => nomatch h), .inr ⟨none, r, rfl, fun ⟨m, e, _⟩ => nomatch e⟩⟩
  | some m :: r, f => by
    by_cases l : Legal ns es f pn m
    · obtain ⟨ms, l2, h⟩ := runs_ex r (updf f m.1 m.2)
      refine ⟨m :: ms, seq_cons.mpr ⟨l, l2⟩, ?_⟩
      rcases h with h | ⟨o, t, h, no⟩
      · exact .inl (by rw [h, List.map_cons])
      · exact .inr ⟨o, t, by rw [h, List.map_cons, List.cons_append], no⟩
    · refine ⟨[], (fun i h => nomatch h), .inr ⟨some m, r, rfl, fun ⟨m2, e, l2⟩ => ?_⟩⟩
      rw [← Option.some.inj e] at l2
      exact l l2
open Classical in noncomputable def resF (f : Str → Int) (os : List (Option (Str × Int))) (ms : List (Str × Int)) : Sum (Option Nat) (Str → Int) := if os = ms.map some then .inr (playF f ms) else .inl (some ms.length)
theorem use_cal8 {K : PySem.W.Frag} {H : Hp} {g n e st ps c : Addr} {ns ord pn : List Str} {es : List (Addr × Str × Str)} {f : Str → Int} {Q : VK} {E : XK} {its : List (V × Option (Str × Int))} {ms : List (Str × Int)} (gs : GSt H g n e st ns ord es f) (hps : SqT K H ps (pn.map V.str))
    (hc : H c = some (.lst (its.map (·.1)))) (cd : ∀ x ∈ its, CandX K H x.1 x.2) (rn : Runs ns (es.map (·.2)) f pn (its.map (·.2)) ms) (q : ∀ (u : V) (H' : Hp), Same H H' → RsW H' ord u (resF f (its.map (·.2)) ms) → Q u H') : spCal8 K [.ref g, .ref st, .ref ps, .ref c] H Q E := by
  refine ⟨g, n, e, st, ps, .ref c, ns, ord, pn, es, f, rfl, gs, hps, .inr ⟨c, its.map (·.1), its.map (·.2), ms, rfl, hc, by rw [List.length_map, List.length_map], fun i h h' => ?_, rn, fun eo u H' s r => q u H' s ?_, fun no u H' s r => q u H' s ?_⟩⟩
  · rw [List.getElem_map, List.getElem_map]
    exact cd _ (List.getElem_mem _)
  · unfold resF
    rw [if_pos eo]
    exact r
  · unfold resF
    rw [if_neg no]
    exact r
def psD : Option Nat → PyData
  | none => .none
  | some i => .int (i : Int)
theorem dp_ps {K : PySem.W.Frag} {H : Hp} (p : Option Nat) : Dp K H (psV p) (psD p) := by
  cases p with
  | none => exact .non
  | some i => exact .int _
theorem shp_ps {p : Option Nat} : SeqAt.shaped (.tuple [psD p]) = true := by
  refine shaped_of ?_ ?_
  · cases p <;> simp [psD, PyData.canLay0, PyData.canLayAll0]
  · cases p <;> simp [psD, PyData.depth, PyData.depthAll]
theorem rd_neW {K : PySem.W.Frag} {H : Hp} {Q : VK} {ord : List Str} {u v : V} {r : Sum (Option Nat) (Str → Int)} (h1 : RsW H ord u r) (h2 : RsW H ord v r) (h : Q (.bl false) H) : rNeW K u v H Q := by
  cases r with
  | inl p =>
    obtain ⟨a, rfl, ha⟩ := h1
    obtain ⟨b, rfl, hb⟩ := h2
    exact .inl (rd_neSame (.tup (SqT.of ha) (.cons (dp_ps p) .nil)) (.tup (SqT.of hb) (.cons (dp_ps p) .nil)) shp_ps h)
  | inr g =>
    obtain ⟨a, rfl, ha⟩ := h1
    obtain ⟨b, rfl, hb⟩ := h2
    exact .inr (rd_neKF ha hb (fun _ _ => rfl) h)
def mvD (m : Str × Int) : PyData := .tuple [.str m.1, .int m.2]
theorem bulks {n m : Nat} : ∀ {ds : List PyData}, (∀ d ∈ ds, d.leavesShort 13 = true ∧ d.showable = true ∧ d.bulk ≤ n ∧ d.depth ≤ m) →
    PyData.leavesShortAll 13 ds = true ∧ PyData.showableAll ds = true ∧ PyData.bulkAll ds ≤ (n + 1) * ds.length ∧ PyData.depthAll ds ≤ m
  | [], _ => ⟨by simp [PyData.leavesShortAll], by simp [PyData.showableAll], by simp [PyData.bulkAll], by simp [PyData.depthAll]⟩
  | d :: ds, h => by
    obtain ⟨a1, a2, a3, a4⟩ := h d List.mem_cons_self
    obtain ⟨b1, b2, b3, b4⟩ := bulks (n := n) (m := m) fun y hy => h y (List.mem_cons_of_mem _ hy)
    refine ⟨by rw [PyData.leavesShortAll, a1, b1]; rfl, by rw [PyData.showableAll, a2, b2]; rfl, ?_, ?_⟩
    · rw [PyData.bulkAll, List.length_cons, Nat.mul_succ]
      omega
    · rw [PyData.depthAll]
      omega
theorem sm_four {d : PyData} (h : SmD 60 3 d) : d.leavesShort 13 = true ∧ d.showable = true ∧ d.bulk ≤ 60 ∧ d.depth ≤ 3 := ⟨h.lv, h.sh, h.bk, h.dp⟩
theorem di_mvs {K : PySem.W.Frag} {H : Hp} {vs : List V} {ds : List PyData} (h : DiAll K H vs ds) : ∀ {ms : List (Addr × Str × Int)}, TupsAt H ms → DiAll K H (ms.map (fun m => V.ref m.1) ++ vs) (ms.map (fun m => mvD m.2) ++ ds)
  | [], _ => h
  | m :: ms, t => by
    rw [List.map_cons, List.map_cons, List.cons_append, List.cons_append]
    exact .cons (.of (.tup (SqT.of (t m List.mem_cons_self)) (.cons (.str _) (.cons (.int _) .nil))) (by simp [mvD, tupOnly, tupOnlyAll])) (di_mvs h fun x hx => t x (List.mem_cons_of_mem _ hx))
/-- the candidate's text, now and later -/
theorem cand_rp {K : PySem.W.Frag} {H : Hp} {m1 m2 : List (Addr × Str × Int)} {v : V} {o : Option (Str × Int)} (cx : CandX K H v o) (t1 : TupsAt H m1) (t2 : TupsAt H m2) (ok1 : ∀ m ∈ m1, IsName m.2.1 ∧ -1 ≤ m.2.2 ∧ m.2.2 ≤ 3) (ok2 : ∀ m ∈ m2, IsName m.2.1 ∧ -1 ≤ m.2.2 ∧ m.2.2 ≤ 3) (l1 : m1.length ≤ 1000) (l2 : m2.length ≤ 1000) :
    ∃ S : Str, ∀ (c : Addr) (H' : Hp) (Q : VK), Same H H' → H' c = some (.lst (m1.map (fun m => V.ref m.1) ++ [v] ++ m2.map (fun m => V.ref m.1))) → (c == sysModules) = false → Q (.str S) H' → rReprL K [.ref c] H' Q := by
  have sm : ∀ {ms : List (Addr × Str × Int)}, (∀ m ∈ ms, IsName m.2.1 ∧ -1 ≤ m.2.2 ∧ m.2.2 ≤ 3) → ∀ d ∈ ms.map (fun m => mvD m.2), SmD 60 3 d := fun h d hd => by
    obtain ⟨m, hm, rfl⟩ := List.mem_map.mp hd
    exact sm_mv (h m hm).1 (h m hm).2
  have shows : ∀ {d : PyData}, (d.leavesShort 13 = true ∧ d.showable = true ∧ d.bulk ≤ 60 ∧ d.depth ≤ 3) → Shows (.list (m1.map (fun m => mvD m.2) ++ [d] ++ m2.map (fun m => mvD m.2))) := fun {d} hd => by
    obtain ⟨a, b, c, e⟩ := bulks (n := 60) (m := 3) (ds := m1.map (fun m => mvD m.2) ++ [d] ++ m2.map (fun m => mvD m.2)) fun x hx => by
      rcases List.mem_append.mp hx with hx | hx
      · rcases List.mem_append.mp hx with hx | hx
        · exact sm_four (sm ok1 x hx)
        · rw [List.mem_singleton.mp hx]
          exact hd
      · exact sm_four (sm ok2 x hx)
    refine ⟨by rw [PyData.showable]; exact b, by rw [PyData.leavesShort]; exact a, ?_, ?_⟩
    · rw [PyData.bulk]
      refine Nat.le_trans c ?_
      rw [List.length_append, List.length_append, List.length_map, List.length_map, List.length_singleton]
      omega
    · rw [PyData.depth]
      omega
  have mvs : ∀ {H' : Hp}, Same H H' → ∀ {ms : List (Addr × Str × Int)}, TupsAt H ms → DpAll K H' (ms.map fun m => V.ref m.1) (ms.map fun m => mvD m.2) := fun s _ t => moves_dp (t.same s)
  cases cx with
  | @dat _ d _ a b _ _ =>
    refine ⟨_, fun c H' Q s hc nc q => .inr ⟨.list (m1.map (fun m => mvD m.2) ++ [d] ++ m2.map (fun m => mvD m.2)), .lst (SqL.of hc) (dpaApp (dpaApp (mvs s t1) (.cons (Dp.same a s) .nil)) (mvs s t2)), ?_, shows (sm_four b), q⟩⟩
    have := (SmDs.of (n := 60) (m := 3) (ds := m1.map (fun m => mvD m.2) ++ [d] ++ m2.map (fun m => mvD m.2)) fun x hx => by
      rcases List.mem_append.mp hx with hx | hx
      · rcases List.mem_append.mp hx with hx | hx
        · exact sm ok1 x hx
        · rw [List.mem_singleton.mp hx]
          exact b
      · exact sm ok2 x hx).nd
    rw [PyData.hasDict]
    exact this
  | @emp a ha =>
    refine ⟨_, fun c H' Q s hc nc q => .inl ⟨_, m1.map (fun m => mvD m.2) ++ [.dict []] ++ m2.map (fun m => mvD m.2), hc, nc, ?_, shows ⟨by decide +kernel, by decide +kernel, by decide +kernel, by decide +kernel⟩, q⟩⟩
    have e2 := di_mvs (K := K) (H := H') .nil (t2.same s)
    rw [List.append_nil, List.append_nil] at e2
    rw [List.append_assoc, List.append_assoc]
    exact di_mvs (.cons (.dct (ns := []) (f := fun _ => 0) (s _ _ ha)) e2) (t1.same s)
section
variable {P : Program} {w : World} {K : PySem.W.Frag} {mg : Str → Option Value} {base : Heap}
structure N8c (P : Program) (w : World) (K : PySem.W.Frag) (mg : Str → Option Value) (base : Heap) : Prop where
  _law_pool : Cal P w K mg base CX0 1 "_law_pool" (spPool K)
  _law_draw : Cal P w K mg base CX0 1 "_law_draw" spDraw
  _law_draw_graph : Cal P w K mg base CX0 3 "_law_draw_graph" spGraph
  _law_draw_pins : Cal P w K mg base CX0 2 "_law_draw_pins" spPins
  _law_draw_moves : Cal P w K mg base CX0 3 "_law_draw_moves" (spDrawMoves K)
  _law_invalid : Cal P w K mg base CX0 2 "_law_invalid" (spInv8 K)
  _law_call : Cal P w K mg base CX0 5 "_law_call" (spCal8 K)
  _law_compute_expected : Cal P w K mg base CX0 3 "_law_compute_expected" (spCal8 K)
theorem ok_law8 {f : Addr} {fd : FuncData} (F : Fun K "law" "law" s_law f fd) (B : Bt mg) (C : N8c P w K mg base) : FnG P w K mg base CX0 6 f fd ["_law_script"] (spLaw K) := by
  refine fnG0 F sc_law (fun vs H Q E h => ?_) (fun cdv A outer s H vs Q E hr h => ?_)
  · obtain ⟨a, nums, rfl, _⟩ := h
    rfl
  · obtain ⟨a, nums, rfl, hs, hl, q⟩ := h
    have nd := sc_law.nd
    have hu := hr.u1
    refine ⟨_, (pss_cons (ps_for PassesOwn.never rfl (pi_range1 rfl B.range (pa_cons (pe_callB (cMax rfl) (by rfl) B.max bb_max (pa_cons pe_int (pa_cons (pe_callB (cMin rfl) (by rfl) B.min bb_min (pa_cons pe_int (pa_cons (pe_callB (kLen K rfl) (by rfl) B.len bb_len (pa_cons (pv 0) pa_nil)) pa_nil))) pa_nil))) pa_nil)) (pg_name (i := 1) nd rfl (by first | exact Or.inl rfl | exact Or.inr rfl)) (pss_cons (ps_set (i := 2) nd rfl (by first | exact Or.inl rfl | exact Or.inr rfl) (pe_c C._law_pool hr (by decide) rfl (pa_cons (pv 0) (pa_cons (pv 1) pa_nil))))
  (pss_cons (ps_asg (pe_c C._law_draw_graph hr (by decide) rfl (pa_cons (pv 2) (pa_cons pe_int pa_nil))) (kg_tup (n := 2) K rfl rfl (pgs_cons (pg_name (i := 3) nd rfl (by first | exact Or.inl rfl | exact Or.inr rfl)) (pgs_cons (pg_name (i := 4) nd rfl (by first | exact Or.inl rfl | exact Or.inr rfl)) pgs_nil))))
  (pss_cons (ps_set (i := 5) nd rfl (by first | exact Or.inl rfl | exact Or.inr rfl) (pe_c C._law_draw_pins hr (by decide) rfl (pa_cons (pv 2) (pa_cons (pv 3) pa_nil))))
  (pss_cons (ps_set (i := 6) nd rfl (by first | exact Or.inl rfl | exact Or.inr rfl) (pe_callB (kReprL K rfl hr.g hr.u64) (by rfl) B.repr bb_repr (pa_cons (pe_lstS (pa_cons (pv 3) (pa_cons (pv 4) (pa_cons (pv 5) pa_nil)))) pa_nil)))
  (pss_cons (ps_asg (pe_c C._law_draw_moves hr (by decide) rfl (pa_cons (pv 2) (pa_cons (pv 3) (pa_cons (pv 4) (pa_cons (pv 5) (pa_cons pe_int pa_nil)))))) (kg_tup (n := 2) K rfl rfl (pgs_cons (pg_name (i := 7) nd rfl (by first | exact Or.inl rfl | exact Or.inr rfl)) (pgs_cons (pg_name (i := 8) nd rfl (by first | exact Or.inl rfl | exact Or.inr rfl)) pgs_nil))))
  (pss_cons (ps_for PassesOwn.never rfl (pi_range1 rfl B.range (pa_cons pe_int pa_nil)) (pg_name (i := 9) nd rfl (by first | exact Or.inl rfl | exact Or.inr rfl)) (pss_cons (ps_set (i := 10) nd rfl (by first | exact Or.inl rfl | exact Or.inr rfl) (pe_c C._law_draw hr (by decide) rfl (pa_cons (pv 2) (pa_cons (pe_op (kAdd K rfl) (pe_callB (kLen K rfl) (by rfl) B.len bb_len (pa_cons (pv 7) pa_nil)) pe_int) pa_nil))))
  (pss_cons (ps_set (i := 11) nd rfl (by first | exact Or.inl rfl | exact Or.inr rfl) (pe_op kCatS (pe_op (kAdd K rfl) (pe_slice (kSl K rfl) (pv 7) po_none (po_some (pv 10))) (pe_lst (pa_cons (pe_c C._law_invalid hr (by decide) rfl (pa_cons (pv 2) (pa_cons (pv 3) pa_nil))) pa_nil))) (pe_slice (kSl K rfl) (pv 7) (po_some (pv 10)) po_none)))
  (pss_cons (ps_set (i := 12) nd rfl (by first | exact Or.inl rfl | exact Or.inr rfl) (pe_callB (kReprL K rfl hr.g hr.u64) (by rfl) B.repr bb_repr (pa_cons (pv 11) pa_nil)))
  (pss_cons (ps_if (pt_cmpR (kNeW K rfl hr.u64 hr.u0) (pe_c C._law_call hr (by decide) rfl (pa_cons (pv 3) (pa_cons (pv 4) (pa_cons (pv 5) (pa_cons (pv 11) pa_nil))))) (pe_c C._law_compute_expected hr (by decide) rfl (pa_cons (pv 3) (pa_cons (pv 4) (pa_cons (pv 5) (pa_cons (pv 11) pa_nil))))) (nomark _)) (pss_one (ps_ret pe_bl)) pss_nil)
  (pss_one (ps_if (pt_cmpR (kNe K rfl hr.u64) (pe_callB (kReprL K rfl hr.g hr.u64) (by rfl) B.repr bb_repr (pa_cons (pv 11) pa_nil)) (pv 12) (nomark _)) (pss_one (ps_ret pe_bl)) pss_nil)))))))
  (pss_cons (ps_for PassesOwn.never rfl (ki_list K rfl (pe_lst (pa_cons pe_non (pa_cons (pe_tup pa_nil) (pa_cons (pe_callTy (kTuple K rfl) (by rfl) B.tuple bb_tuple (pa_cons (pv 7) pa_nil)) (pa_cons pe_str (pa_cons pe_dnewK (pa_cons pe_int pa_nil)))))))) (pg_name (i := 11) nd rfl (by first | exact Or.inl rfl | exact Or.inr rfl)) (pss_one (ps_if (pt_cmpR (kNeW K rfl hr.u64 hr.u0) (pe_c C._law_call hr (by decide) rfl (pa_cons (pv 3) (pa_cons (pv 4) (pa_cons (pv 5) (pa_cons (pv 11) pa_nil))))) (pe_tup (pa_cons pe_non pa_nil)) (nomark _)) (pss_one (ps_ret pe_bl)) pss_nil)))
  (pss_cons (ps_for PassesOwn.never rfl (ki_tup K rfl (pv 5)) (pg_name (i := 13) nd rfl (by first | exact Or.inl rfl | exact Or.inr rfl)) (pss_one (ps_for PassesOwn.never rfl (pi_range1 rfl B.range (pa_cons pe_int pa_nil)) (pg_name (i := 14) nd rfl (by first | exact Or.inl rfl | exact Or.inr rfl)) (pss_one (ps_if (pt_cmpR (kNeW K rfl hr.u64 hr.u0) (pe_c C._law_call hr (by decide) rfl (pa_cons (pv 3) (pa_cons (pv 4) (pa_cons (pv 5) (pa_cons (pe_lst (pa_cons (pe_tup (pa_cons (pv 13) (pa_cons (pv 14) pa_nil))) pa_nil)) pa_nil))))) (pe_tup (pa_cons pe_int pa_nil)) (nomark _)) (pss_one (ps_ret pe_bl)) pss_nil)))))
  (pss_one (ps_if (pt_cmpR (kNe K rfl hr.u64) (pe_callB (kReprL K rfl hr.g hr.u64) (by rfl) B.repr bb_repr (pa_cons (pe_lstS (pa_cons (pv 3) (pa_cons (pv 4) (pa_cons (pv 5) pa_nil)))) pa_nil)) (pv 6) (nomark _)) (pss_one (ps_ret pe_bl)) pss_nil)))))))))))
  (pss_one (ps_ret pe_bl))), ?_⟩
    wtm_at "rd"
    refine rd_lenL hs ?_
    rw [List.length_map]
    wtm_at "rd"
    refine turnsR (fun i σ H' => (∃ us : List (Option V), us.length = 14 ∧ σ = some (.ref a) :: us) ∧ SqL K H' a (nums.map V.int)) ⟨⟨_, rfl, rfl⟩, hs⟩ ?_ ?_
    · rintro i σ H0 hi ⟨⟨us, lu, rfl⟩, hs⟩
      have hi : i < 64 := by omega
      obtain ⟨u1, u2, u3, u4, u5, u6, u7, u8, u9, u10, u11, u12, u13, u14, rfl⟩ : ∃ u1 u2 u3 u4 u5 u6 u7 u8 u9 u10 u11 u12 u13 u14, us = [u1, u2, u3, u4, u5, u6, u7, u8, u9, u10, u11, u12, u13, u14] := by
        match us, lu with
        | [u1, u2, u3, u4, u5, u6, u7, u8, u9, u10, u11, u12, u13, u14], _ => exact ⟨_, _, _, _, _, _, _, _, _, _, _, _, _, _, rfl⟩
      wtm_at "rd"
      refine ⟨a, nums, i, by rw [Int.zero_add], hs, by omega, fun p big seed np pok => ?_⟩
      have hp : PoolAt (upd H0 p (poolO big seed)) p := ⟨big, seed, upd_same, pok⟩
      have keep : ∀ {H' : Hp}, Go p (upd H0 p (poolO big seed)) H' → SqL K H' a (nums.map V.int) := fun {H'} g => seqL_keep hs np ((But.new np).trans g.but)
      generalize upd H0 p (poolO big seed) = H1 at hp keep
      wtm_at "rd"
      refine use_graph hp (by decide) (by decide) fun t g n e st ns ord es f H2 g2 ht gs n1 _ _ _ => ?_
      refine rd_unp (SqT.of ht) rfl ?_
      wtm_at "rd"
      refine ⟨p, g, n, e, st, ns, ord, es, f, rfl, g2.pool, gs, fun ps pn H3 g3 _ hps pin pl => ?_⟩
      have gs3 := gs.go g2.pool g3
      have g3 := g2.trans g3
      wtm_at "rd"
      refine rd_lstS ?_
      wtm_at "rd"
      intro l4 f4 n4
      have g4 := g3.new (o := .lst [.ref g, .ref st, .ref ps]) f4
      have s4 := Same.new (o := .lst [.ref g, .ref st, .ref ps]) f4
      wtm_at "rd"
      refine rd_reprAll (gs3.same s4) (s4 _ _ hps) upd_same n4 pin pl ?_
      have gs4 := gs3.same s4
      have hps4 := s4 _ _ hps
      generalize upd H3 l4 (.lst [.ref g, .ref st, .ref ps]) = H4 at g4 gs4 hps4
      generalize hS : (PyData.list [dGr ns (es.map (·.2)), dSt ord f, dStrs pn]).shown = S
      wtm_at "rd"
      refine ⟨p, g, n, e, st, ps, 6, ns, ord, pn, es, f, rfl, g4.pool, gs4, by decide, by decide, SqT.of hps4, fun t5 mv lc ms fL H5 ga _ nmv _ ht5 hmv tm hlc len _ pl' => ?_⟩
      have g5 := g4.trans ga
      have gs5 := gs4.go g4.pool ga
      have hps5 := ga.tup g4.pool hps4
      have nmv : mv ≠ p := Ne.symm (g4.pool.ne nmv)
      obtain ⟨lq, _⟩ := plays_seq pl'
      have nm := gs5.ok.names.ok
      have mok : ∀ m ∈ ms, IsName m.2.1 ∧ -1 ≤ m.2.2 ∧ m.2.2 ≤ 3 := fun m hm => by
        obtain ⟨j, hj, e⟩ := List.mem_iff_getElem.mp (List.mem_map_of_mem (f := (·.2)) hm)
        have l := lq j hj
        have e : (ms.map (·.2))[j] = m.2 := e
        rw [e] at l
        have := l.val
        exact ⟨nm _ l.mem, by omega, by omega⟩
      have hp5 := g5.pool
      have keep5 : ∀ {H' : Hp}, Go p H5 H' → SqL K H' a (nums.map V.int) := fun {H'} s => keep (g5.trans s)
      have l2 := gs5.l2
      refine rd_unp (SqT.of ht5) rfl ?_
      clear keep g2 g3 s4 gs3 gs4 hps4 g4 ga g5 gs hp ht ht5 hlc pl' hps
      wtm_at "rd"
      refine turnsR (fun j σ H' => ∃ v9 v10 v11 v12 v13 v14 : Option V, σ = [some (.ref a), some (.int (0 + (i : Int))), some (.ref p), some (.ref g), some (.ref st), some (.ref ps), some (.str S), some (.ref mv), some (.ref lc), v9, v10, v11, v12, v13, v14] ∧ Go p H5 H') ⟨_, _, _, _, _, _, rfl, Go.refl hp5⟩ ?_ ?_
      · rintro j σ H6 hj ⟨v9, v10, v11, v12, v13, v14, rfl, go⟩
        have hmv6 := go.at hmv nmv
        have gs6 := gs5.go hp5 go
        have tm6 := tm.go hp5 go
        wtm_at "rd"
        refine rd_lenL (SqL.of hmv6) ?_
        rw [List.length_map]
        wtm_at "rd"
        refine use_draw go.pool (by omega) (by omega) fun b H7 b0 b1 g7 => ?_
        obtain ⟨k, rfl⟩ : ∃ k : Nat, b = (k : Int) := ⟨b.toNat, by omega⟩
        have hk : k ≤ ms.length := by omega
        have go7 := go.trans g7
        have hmv7 := g7.at hmv6 nmv
        wtm_at "rd"
        refine rd_slL (SqL.of hmv7) ?_
        rw [cutV_to (by rw [List.length_map]; exact hk), ← List.map_take]
        intro x1 fx1
        have go8 := go7.new (o := .lst ((ms.take k).map fun m => V.ref m.1)) fx1
        have nx1 : x1 ≠ p := Ne.symm (go7.pool.ne fx1)
        have hx1 := @upd_same H7 x1 (.lst ((ms.take k).map fun m => V.ref m.1))
        generalize upd H7 x1 (.lst ((ms.take k).map fun m => V.ref m.1)) = H8 at *
        wtm_at "rd"
        refine ⟨p, g, n, e, ns, es, rfl, go8.pool, (gs5.go hp5 go8).gr, n1, l2, nm, fun v o H9 g9 cx => ?_⟩
        have go9 := go8.trans g9
        have hx1 := g9.at hx1 nx1
        wtm_at "rd"
        intro x2 fx2
        have kx2 := Same.new (o := .lst [v]) fx2
        have hx2 := @upd_same H9 x2 (.lst [v])
        have hx1 := kx2 _ _ hx1
        have cx := cx.same kx2
        have go := go9.trans (Go.of_same go9.pool kx2)
        generalize upd H9 x2 (.lst [v]) = HA at *
        refine rd_catL hx1 hx2 (by rw [List.length_map, List.length_take]; show _ + 1 ≤ _; omega) ?_
        intro x3 fx3
        have kx3 := Same.new (o := .lst ((ms.take k).map (fun m => V.ref m.1) ++ [v])) fx3
        have hx3 := @upd_same HA x3 (.lst ((ms.take k).map (fun m => V.ref m.1) ++ [v]))
        have cx := cx.same kx3
        have go := go.trans (Go.of_same go.pool kx3)
        generalize upd HA x3 (.lst ((ms.take k).map (fun m => V.ref m.1) ++ [v])) = HB at *
        have hmvB := go.at hmv nmv
        wtm_at "rd"
        refine rd_slL (SqL.of hmvB) ?_
        rw [cutV_from (by rw [List.length_map]; exact hk), ← List.map_drop]
        intro x4 fx4
        have kx4 := Same.new (o := .lst ((ms.drop k).map fun m => V.ref m.1)) fx4
        have hx4 := @upd_same HB x4 (.lst ((ms.drop k).map fun m => V.ref m.1))
        have hx3 := kx4 _ _ hx3
        have cx := cx.same kx4
        have go := go.trans (Go.of_same go.pool kx4)
        generalize upd HB x4 (.lst ((ms.drop k).map fun m => V.ref m.1)) = HC at *
        refine ⟨x3, x4, _, _, rfl, rfl, hx3, hx4, by rw [List.length_append, List.length_map, List.length_map, List.length_take, List.length_drop]; show _ + 1 + _ ≤ _; omega, fun c fc nc => ?_⟩
        have kc := Same.new (o := .lst ((ms.take k).map (fun m => V.ref m.1) ++ [v] ++ (ms.drop k).map fun m => V.ref m.1)) fc
        have hc := @upd_same HC c (.lst ((ms.take k).map (fun m => V.ref m.1) ++ [v] ++ (ms.drop k).map fun m => V.ref m.1))
        have cx := cx.same kc
        have go := go.trans (Go.of_same go.pool kc)
        generalize upd HC c (.lst ((ms.take k).map (fun m => V.ref m.1) ++ [v] ++ (ms.drop k).map fun m => V.ref m.1)) = HD at *
        have tmD := tm.go hp5 go
        have gsD := gs5.go hp5 go
        have hpsD := go.seqT hp5 (K := K) (SqT.of hps5)
        have t1 : TupsAt HD (ms.take k) := fun m hm => tmD m (List.mem_of_mem_take hm)
        have t2 : TupsAt HD (ms.drop k) := fun m hm => tmD m (List.mem_of_mem_drop hm)
        obtain ⟨T, rp⟩ := cand_rp cx t1 t2 (fun m hm => mok m (List.mem_of_mem_take hm)) (fun m hm => mok m (List.mem_of_mem_drop hm)) (by rw [List.length_take]; omega) (by rw [List.length_drop]; omega)
        wtm_at "rd"
        refine rp c HD _ (fun _ _ h => h) hc nc ?_
        let its : List (V × Option (Str × Int)) := (ms.take k).map (fun m => (V.ref m.1, some m.2)) ++ [(v, o)] ++ (ms.drop k).map fun m => (V.ref m.1, some m.2)
        have e1 : its.map (·.1) = (ms.take k).map (fun m => V.ref m.1) ++ [v] ++ (ms.drop k).map fun m => V.ref m.1 := by
          show List.map _ (_ ++ _ ++ _) = _
          rw [List.map_append, List.map_append, List.map_map, List.map_map]
          rfl
        have mem : ∀ {H' : Hp}, Same HD H' → ∀ x ∈ its, CandX K H' x.1 x.2 := fun {H'} s x hx => by
          have hx : x ∈ (ms.take k).map (fun m => (V.ref m.1, some m.2)) ++ [(v, o)] ++ (ms.drop k).map fun m => (V.ref m.1, some m.2) := hx
          rcases List.mem_append.mp hx with hx | hx
          · rcases List.mem_append.mp hx with hx | hx
            · obtain ⟨m, hm, rfl⟩ := List.mem_map.mp hx
              have := mok m (List.mem_of_mem_take hm)
              exact cand_mv (s _ _ (t1 m hm)) this.1 this.2
            · rw [List.mem_singleton.mp hx]
              exact cx.same s
          · obtain ⟨m, hm, rfl⟩ := List.mem_map.mp hx
            have := mok m (List.mem_of_mem_drop hm)
            exact cand_mv (s _ _ (t2 m hm)) this.1 this.2
        generalize its = its at *
        obtain ⟨mr, rn⟩ := runs_ex (ns := ns) (es := es.map (·.2)) (pn := pn) (its.map (·.2)) f
        wtm_at "rd"
        refine use_cal8 gsD hpsD (by rw [e1]; exact hc) (mem fun _ _ h => h) rn fun u HE sE ru => ?_
        wtm_at "rd"
        refine use_cal8 (gsD.same sE) (Same.seqT sE hpsD) (by rw [e1]; exact sE _ _ hc) (mem sE) rn fun u2 HF sF ru2 => ?_
        have ru := ru.same sF
        have sF := sE.trans sF
        refine rd_neW ru ru2 ?_
        wtm_at "rd"
        try refine rd_F ?_
        wtm_at "rd"
        refine rp c HF _ sF (sF _ _ hc) nc ?_
        wtm_at "rd"
        refine rd_nno rfl ?_
        exact ⟨_, _, _, _, _, _, rfl, go.trans (Go.of_same go.pool sF)⟩
      rintro σ H6 ⟨v9, v10, v11, v12, v13, v14, rfl, go⟩
      have hmv6 := go.at hmv nmv
      wtm_at "rd"
      intro x1 fx1
      have kx1 := Same.new (o := .tup []) fx1
      have hx1 := @upd_same H6 x1 (.tup [])
      have go := go.trans (Go.of_same go.pool kx1)
      have hmv6 := kx1 _ _ hmv6
      generalize upd H6 x1 (.tup []) = H7 at *
      clear kx1 fx1
      wtm_at "rd"
      refine rd_tupleL (SqL.of hmv6) ?_
      intro x2 fx2
      have kx2 := Same.new (o := .tup (ms.map fun m => V.ref m.1)) fx2
      have hx2 := @upd_same H7 x2 (.tup (ms.map fun m => V.ref m.1))
      have go := go.trans (Go.of_same go.pool kx2)
      have hx1 := kx2 _ _ hx1
      generalize upd H7 x2 (.tup (ms.map fun m => V.ref m.1)) = H8 at *
      clear kx2 fx2
      wtm_at "rd"
      intro x3 fx3
      have kx3 := Same.new (o := .dK []) fx3
      have hx3 := @upd_same H8 x3 (.dK [])
      have go := go.trans (Go.of_same go.pool kx3)
      have hx1 := kx3 _ _ hx1
      have hx2 := kx3 _ _ hx2
      generalize upd H8 x3 (.dK []) = H9 at *
      clear kx3 fx3
      wtm_at "rd"
      intro x4 fx4
      have kx4 := Same.new (o := .lst [.non, .ref x1, .ref x2, .str "", .ref x3, .int 5]) fx4
      have hx4 := @upd_same H9 x4 (.lst [.non, .ref x1, .ref x2, .str "", .ref x3, .int 5])
      have go := go.trans (Go.of_same go.pool kx4)
      have hx1 := kx4 _ _ hx1
      have hx2 := kx4 _ _ hx2
      have hx3 := kx4 _ _ hx3
      generalize upd H9 x4 (.lst [.non, .ref x1, .ref x2, .str "", .ref x3, .int 5]) = HA at *
      clear kx4 fx4
      have gsA := gs5.go hp5 go
      have hpsA := go.seqT hp5 (K := K) (SqT.of hps5)
      have six : ∀ v ∈ [V.non, .ref x1, .ref x2, .str "", .ref x3, .int 5], ∃ t, TyIs K HA v t ∧ isT t .lst = false := fun v hv => by
        simp only [List.mem_cons, List.not_mem_nil, or_false] at hv
        rcases hv with rfl | rfl | rfl | rfl | rfl | rfl
        · exact ⟨_, ty_non, rfl⟩
        · exact ⟨_, ty_tup hx1, rfl⟩
        · exact ⟨_, ty_tup hx2, rfl⟩
        · exact ⟨_, ty_str, rfl⟩
        · exact ⟨_, ty_dK hx3, rfl⟩
        · exact ⟨_, ty_int, rfl⟩
      generalize [V.non, .ref x1, .ref x2, .str "", .ref x3, .int 5] = six0 at *
      refine rd_forL (SqL.of hx4) ?_
      refine turnsL (K := K) (xs := six0) (fun j σ H' => ∃ v9 v10 v11 v12 v13 v14 : Option V, σ = [some (.ref a), some (.int (0 + (i : Int))), some (.ref p), some (.ref g), some (.ref st), some (.ref ps), some (.str S), some (.ref mv), some (.ref lc), v9, v10, v11, v12, v13, v14] ∧ Same HA H') ⟨_, _, _, _, _, _, rfl, fun _ _ h => h⟩ ?_ ?_ ?_
      · rintro j σ H' hj ⟨v9, v10, v11, v12, v13, v14, rfl, s⟩
        exact SqL.of (s _ _ hx4)
      · rintro j y σ H' hy ⟨v9, v10, v11, v12, v13, v14, rfl, s⟩
        obtain ⟨ty, tyi, nl⟩ := six y (List.mem_of_getElem? hy)
        wtm_at "rd"
        refine ⟨g, n, e, st, ps, y, ns, ord, pn, es, f, rfl, gsA.same s, Same.seqT s hpsA, .inl ⟨ty, tyx_same tyi s, nl, fun u HB sB ru => ?_⟩⟩
        wtm_at "rd"
        intro t ft
        refine rd_neW (r := .inl none) (ru.same (Same.new ft)) ⟨t, rfl, upd_same⟩ ?_
        wtm_at "rd"
        exact ⟨_, _, _, _, _, _, rfl, (s.trans sB).trans (Same.new ft)⟩
      rintro σ HB ⟨v9, v10, v11, v12, v13, v14, rfl, s⟩
      have go := go.trans (Go.of_same go.pool s)
      have gsB := gsA.same s
      have hpsB := Same.seqT s hpsA
      clear six gsA hpsA hx1 hx2 hx3 hx4 s
      wtm_at "rd"
      refine rd_forT hpsB ?_
      refine turnsT (K := K) (xs := pn.map V.str) (fun j σ H' => ∃ v9 v10 v11 v12 v13 v14 : Option V, σ = [some (.ref a), some (.int (0 + (i : Int))), some (.ref p), some (.ref g), some (.ref st), some (.ref ps), some (.str S), some (.ref mv), some (.ref lc), v9, v10, v11, v12, v13, v14] ∧ Same HB H') ⟨_, _, _, _, _, _, rfl, fun _ _ h => h⟩ ?_ ?_ ?_
      · rintro j σ H' hj ⟨v9, v10, v11, v12, v13, v14, rfl, s⟩
        exact Same.seqT s hpsB
      · rintro j y σ H' hy ⟨v9, v10, v11, v12, v13, v14, rfl, s⟩
        obtain ⟨hj, rfl⟩ := map_at hy
        have hz := List.getElem_mem hj
        generalize pn[j] = z at *
        wtm_at "rd"
        refine turnsR (fun j σ H' => ∃ v14 : Option V, σ = [some (.ref a), some (.int (0 + (i : Int))), some (.ref p), some (.ref g), some (.ref st), some (.ref ps), some (.str S), some (.ref mv), some (.ref lc), v9, v10, v11, v12, some (.str z), v14] ∧ Same HB H') ⟨_, rfl, s⟩ ?_ ?_
        · rintro k σ H' hk ⟨v14, rfl, s⟩
          have gsC := gsB.same s
          have hpsC := Same.seqT s hpsB
          wtm_at "rd"
          intro t1 ft1
          have kt1 := Same.new (o := .tup [.str z, .int (0 + (k : Int))]) ft1
          have ht1 := @upd_same H' t1 (.tup [.str z, .int (0 + (k : Int))])
          have s := s.trans kt1
          generalize upd H' t1 (.tup [.str z, .int (0 + (k : Int))]) = HC at *
          wtm_at "rd"
          intro t2 ft2
          have kt2 := Same.new (o := .lst [.ref t1]) ft2
          have ht2 := @upd_same HC t2 (.lst [.ref t1])
          have ht1 := kt2 _ _ ht1
          have s := s.trans kt2
          generalize upd HC t2 (.lst [.ref t1]) = HD at *
          wtm_at "rd"
          have hk3 : k < 3 := by omega
          have nl : ¬ IsMv ns (es.map (·.2)) f pn (some (z, 0 + (k : Int))) := fun ⟨m, e, l⟩ => by
            have e := Option.some.inj e
            rw [← e] at l
            exact l.pin hz
          refine use_cal8 (its := [(V.ref t1, some (z, 0 + (k : Int)))]) (ms := []) (gsB.same s) (Same.seqT s hpsB) ht2 (fun x hx => ?_) ⟨(fun i h => nomatch h), .inr ⟨_, [], rfl, nl⟩⟩ fun u HE sE ru => ?_
          · rw [List.mem_singleton.mp hx]
            exact cand_mv ht1 (nm _ (pin _ hz)) ⟨by omega, by omega⟩
          have er : resF f (List.map (·.2) [(V.ref t1, some (z, 0 + (k : Int)))]) [] = .inl (some 0) := by
            unfold resF
            rw [if_neg (fun z => nomatch z)]
            rfl
          rw [er] at ru
          wtm_at "rd"
          intro t3 ft3
          refine rd_neW (r := .inl (some 0)) (ru.same (Same.new ft3)) ⟨t3, rfl, upd_same⟩ ?_
          wtm_at "rd"
          exact ⟨_, rfl, (s.trans sE).trans (Same.new ft3)⟩
        · rintro σ H'' ⟨v14, rfl, s⟩
          exact ⟨_, _, _, _, _, _, rfl, s⟩
      rintro σ HC ⟨v9, v10, v11, v12, v13, v14, rfl, s⟩
      have go := go.trans (Go.of_same go.pool s)
      have gsC := gsB.same s
      wtm_at "rd"
      refine rd_lstS ?_
      wtm_at "rd"
      intro x9 fx9 nx9
      have k9 := Same.new (o := .lst [.ref g, .ref st, .ref ps]) fx9
      wtm_at "rd"
      refine rd_reprAll (gsC.same k9) (k9 _ _ (go.tup hp5 hps5)) upd_same nx9 pin pl ?_
      rw [hS]
      wtm_at "rd"
      refine rd_nno rfl ?_
      exact ⟨⟨_, rfl, rfl⟩, keep5 (go.trans (Go.of_same go.pool k9))⟩
    · rintro σ H' ⟨⟨us, lu, rfl⟩, hs⟩
      wtm_at "rd"
      exact q H'
end
end Law

/-! a lambda with parameters and without captured names: entered -/
namespace U
open PySem PySem.Spec PyProof.Rows L2
end U
namespace U
open PySem PySem.Spec PyProof.Rows L2 PySem.W
end U
namespace U
open PySem PySem.Spec PyProof.Rows L2 PySem.W
/-- no more than new things, the callers' frames but for their slots -/
def Jm (X : Cx) (s0 s' : Shared) : Prop := s'.os = s0.os ∧ AllBare s'.gens ∧ Un (frs X.stack) [] (fun _ => none) (fun _ => none) s0.heap s'.heap
section
variable {X : Cx} {pins : List (Addr × Obj)} {σ : L2.St} {H : Hp} {s0 s : Shared}
theorem Jm.refl (I : Inv X pins σ H s0) : Jm X s0 s0 := ⟨rfl, I.bare, Un.refl⟩
variable {A : Around} {q : Str} {params : Arguments} {body : Expr} {scope : Scope} {pm ctv : Value} {f c' l : Addr} {items : List (Addr × List Str)} {its : List Value} {N : List Str} {p : Str} {tb : TE} {k : Nat}
end
end U
namespace U
open PySem PySem.Spec PyProof.Rows L2 PySem.W LamX
end U

/-! a def whose code object is known (its table of lambdas is tracked) -/
namespace U
open PySem PySem.Spec PyProof.Rows L2 LamX
section
variable {P : Program} {w : World} {K : PySem.W.Frag} {mg : Str → Option Value} {base : Heap}
end
end U

/-! the law's own head, one table of code objects tracked -/
namespace U
open PySem PySem.Spec PyProof.Rows L2 LamX
end U
namespace U
open PySem PySem.Spec PyProof.Rows L2
end U

namespace Law
open PySem PySem.Spec PyProof.Rows L2 U
local macro_rules | `(tactic| wtm_at "rd1") => `(tactic| first
  | with_reducible refine rd_seq ?_
  | ((with_reducible refine rd_var (v := ?vv) ?hv ?_); (case hv => exact rfl))
  | with_reducible refine rd_c ?_
  | with_reducible refine rd_cons ?_
  | with_reducible refine rd_nil ?_
  | with_reducible refine rd_op ?_
  | with_reducible refine rd_asg ?_
  | with_reducible refine rd_name ?_
  | with_reducible refine rd_c1 ?_
  | with_reducible refine rd_cb ?_
  | with_reducible refine rd_test ?_
  | with_reducible refine rd_B ?_
  | with_reducible refine rd_bl ?_
  | with_reducible refine rd_if ?_
  | with_reducible refine rd_ret ?_
  | with_reducible refine rd_drop ?_
  | with_reducible refine rd_next ?_
  | with_reducible refine rd_addI ?_
  | with_reducible refine rd_ltI ?_
  | with_reducible refine rd_eqI ?_
  | with_reducible refine rd_neI ?_
  | with_reducible refine rd_eqS ?_
  | with_reducible refine rd_neS ?_
  | with_reducible refine rd_gtI ?_
  | with_reducible refine rd_geI ?_
  | with_reducible refine rd_leI ?_
  | with_reducible refine rd_ltS ?_
  | with_reducible refine rd_subI ?_
  | ((with_reducible refine rd_modI ?hc ?_); (case hc => first | decide | omega))
  | ((with_reducible refine rd_mulI ?hc ?_); (case hc => first | exact mul_bI | exact .inl (.inr (by decide)) | exact .inl (.inl (by decide)) | exact .inl (.inr (by omega)) | exact .inl (.inl (by omega))))
  | ((with_reducible refine rd_divI ?hc ?_); (case hc => first | decide | omega))
  | ((with_reducible refine rd_powI ?hc ?_); (case hc => exact ⟨by decide, by decide, by decide⟩))
  | with_reducible refine rd_lst ?_
  | with_reducible refine rd_tup ?_
  | ((with_reducible refine rd_sz ?hv ?_); (case hv => exact rfl))
  | with_reducible refine rd_and ?_
  | with_reducible refine rd_or ?_
  | with_reducible refine rd_not ?_
  | with_reducible refine rd_andV ?_
  | with_reducible refine rd_orV ?_
  | with_reducible refine rd_notV ?_
  | with_reducible refine rd_ifE ?_
  | with_reducible refine rd_T ?_
  | with_reducible refine rd_F ?_
  | with_reducible refine rd_chain ?_
  | with_reducible refine rd_is ?_
  | with_reducible refine rd_isNot ?_
  | with_reducible refine rd_absI ?_
  | with_reducible refine rd_maxI ?_
  | with_reducible refine rd_minI ?_
  | with_reducible refine rd_intI ?_
  | with_reducible refine rd_intB ?_
  | with_reducible refine rd_sub ?_
  | with_reducible refine rd_sl ?_
  | with_reducible refine rd_noPart ?_
  | with_reducible refine rd_part ?_
  | with_reducible refine rd_exI ?_
  | with_reducible refine rd_bm ?_
  | with_reducible refine rd_bm0 ?_
  | with_reducible refine rd_un ?_
  | with_reducible refine rd_neg ?_
  | with_reducible refine rd_c2 ?_
  | with_reducible refine rd_retN ?_
  | with_reducible refine rd_break ?_
  | with_reducible refine rd_cont ?_
  | with_reducible refine rd_for ?_
  | with_reducible refine rd_rng1 ?_
  | with_reducible refine rd_rng2 ?_
  | with_reducible refine rd_iList ?_
  | with_reducible refine rd_iTup ?_
  | with_reducible refine rd_iEnum ?_
  | ((with_reducible refine rd_forR ?h0 ?h1 ?_); (case h0 => omega); (case h1 => omega))
  | with_reducible refine rd_lc ?_
  | with_reducible refine rd_gcons ?_
  | with_reducible refine rd_gnil ?_
  | with_reducible refine rd_dget ?_
  | with_reducible refine rd_dput ?_
  | with_reducible refine rd_dnew ?_
  | with_reducible refine rd_dc ?_
  | with_reducible refine rd_iItems ?_
  | with_reducible refine rd_iKeys ?_
  | with_reducible refine rd_din ?_
  | with_reducible refine rd_lc2 ?_
  | with_reducible refine rd_cd ?_
  | with_reducible refine rd_par ?_
  | with_reducible refine rd_two ?_
  | with_reducible refine rd_reprB ?_
  | with_reducible refine rd_ck ?_
  | ((with_reducible refine rd_len ?hl ?_); (case hl => exact rfl))
  | with_reducible refine rd_nT ?_
  | with_reducible refine rd_nF ?_
  | with_reducible refine rd_dnin ?_
  | with_reducible refine rd_isB ?_
  | with_reducible refine rd_isNotB ?_
  | with_reducible refine rd_daug ?_
  | with_reducible refine rd_yesT ?_
  | ((with_reducible refine rd_wp ?hw ?_); (case hw => exact rfl)))
local macro_rules | `(tactic| wtm_at "rd") => `(tactic| repeat wtm_at "rd1")

section
variable {P : Program} {w : World} {K : PySem.W.Frag} {mg : Str → Option Value} {base : Heap}
theorem ok_initM {f : Addr} {fd : FuncData} {C CB : Addr} {x : Str} (F : Fun K "__init__" "InvalidMove.__init__" s_InvalidMove_init f fd) (T : OwnX K mg x "position" C CB f) : FnOk P w K mg base CX0 1 f fd ["self", "position"] (spInit1 C "position") := by
  refine F.ok sc_InvalidMove_init (fun vs H Q E h => ?_) (fun cdv A outer s H vs Q E hr h => ?_)
  · obtain ⟨a, v, rfl, _⟩ := h
    rfl
  · obtain ⟨a, v, rfl, ha, q⟩ := h
    refine ⟨_, pss_cons (ps_expr (pe_binit (x := "InputError") rfl T.gB T.bi (pa_cons (pv 0) (pa_cons pe_str pa_nil)))) (pss_one (ps_ost (pv 0) (pv 1))), ?_⟩
    wtm_at "rd"
    refine rd_vei (v := v) ?_
    wtm_at "rd"
    refine ⟨a, C, _, rfl, by decide, T.ox, ha, ?_⟩
    dsimp only
    refine rd_ost ?_
    wtm_at "rd"
    exact ⟨a, C, rfl, T.ox, T.no, .inl ⟨ha, fun dx n1 n2 => q dx n1 n2⟩⟩
end
end Law

namespace Law
open PySem PySem.Spec PyProof.Rows L2 U
theorem all_mk {l : PySem.W.OpenLaw} {w : World} {K : PySem.W.Frag} {h : Heap} {mg : Str → Option Value} {fa : Addr} (X : K.In h) (G : h.Ns mainGlobals mg) (hfa : mg "law" = some (.ref fa))
    {od0 an0 : Option Addr} {sl0 : Array (Option Value)} {f0 : Addr} {oc0 kV0 dc0 pm0 cd0 ct0 : Value}
    {od1 an1 : Option Addr} {sl1 : Array (Option Value)} {f1 : Addr} {oc1 kV1 dc1 pm1 cd1 ct1 : Value}
    {od2 an2 : Option Addr} {sl2 : Array (Option Value)} {f2 : Addr} {oc2 kV2 dc2 pm2 cd2 ct2 : Value}
    {od3 an3 : Option Addr} {sl3 : Array (Option Value)} {f3 : Addr} {oc3 kV3 dc3 pm3 cd3 ct3 : Value}
    {od4 an4 : Option Addr} {sl4 : Array (Option Value)} {f4 : Addr} {oc4 kV4 dc4 pm4 cd4 ct4 : Value}
    {od5 an5 : Option Addr} {sl5 : Array (Option Value)} {f5 : Addr} {oc5 kV5 dc5 pm5 cd5 ct5 : Value}
    {D6 T6 : Addr} {odT6 : Option Addr} {nT6 : Nat} {slT6 : Array (Option Value)}
    {od6 an6 : Option Addr} {sl6 : Array (Option Value)} {f6 : Addr} {oc6 dc6 pm6 cd6 ct6 : Value}
    {od7 an7 : Option Addr} {sl7 : Array (Option Value)} {f7 : Addr} {oc7 kV7 dc7 pm7 cd7 ct7 : Value}
    {od8 an8 : Option Addr} {sl8 : Array (Option Value)} {f8 : Addr} {oc8 kV8 dc8 pm8 cd8 ct8 : Value}
    {od9 an9 : Option Addr} {sl9 : Array (Option Value)} {f9 : Addr} {oc9 kV9 dc9 pm9 cd9 ct9 : Value}
    {od10 an10 : Option Addr} {sl10 : Array (Option Value)} {f10 : Addr} {oc10 kV10 dc10 pm10 cd10 ct10 : Value}
    {od11 an11 : Option Addr} {sl11 : Array (Option Value)} {f11 : Addr} {oc11 kV11 dc11 pm11 cd11 ct11 : Value}
    {od12 an12 : Option Addr} {sl12 : Array (Option Value)} {f12 : Addr} {oc12 kV12 dc12 pm12 cd12 ct12 : Value}
    {od13 an13 : Option Addr} {sl13 : Array (Option Value)} {f13 : Addr} {oc13 kV13 dc13 pm13 cd13 ct13 : Value}
    {od14 an14 : Option Addr} {sl14 : Array (Option Value)} {f14 : Addr} {oc14 kV14 dc14 pm14 cd14 ct14 : Value}
    {od15 an15 : Option Addr} {sl15 : Array (Option Value)} {f15 : Addr} {oc15 kV15 dc15 pm15 cd15 ct15 : Value}
    {od16 an16 : Option Addr} {sl16 : Array (Option Value)} {f16 : Addr} {oc16 kV16 dc16 pm16 cd16 ct16 : Value}
    {od17 an17 : Option Addr} {sl17 : Array (Option Value)} {f17 : Addr} {oc17 kV17 dc17 pm17 cd17 ct17 : Value}
    {od18 an18 : Option Addr} {sl18 : Array (Option Value)} {f18 : Addr} {oc18 kV18 dc18 pm18 cd18 ct18 : Value}
    {od19 an19 : Option Addr} {sl19 : Array (Option Value)} {f19 : Addr} {oc19 kV19 dc19 pm19 cd19 ct19 : Value}
    {od20 an20 : Option Addr} {sl20 : Array (Option Value)} {f20 : Addr} {oc20 kV20 dc20 pm20 cd20 ct20 : Value}
    {od21 an21 : Option Addr} {sl21 : Array (Option Value)} {f21 : Addr} {oc21 kV21 dc21 pm21 cd21 ct21 : Value}
    {va : Addr} {odV : Option Addr} {nV : Nat} {slV : Array (Option Value)} {q0 q1 q2 : Tok}
    {CB : Addr}
    {CE0 fE0 : Addr} {nmE0 qE0 : Str} {NE0 : Addr} {bsE0 : List Value} {snE0 : List Str} {subE0 : List Value} {abE0 : Bool} {colE0 : Option Bool} {ddE0 : Option Addr} {mA0 mB0 mC0 mD0 mE0 : Option Value} {odE0 anE0 : Option Addr} {slE0 : Array (Option Value)} {ocE0 kVE0 dcE0 pmE0 cdE0 ctE0 : Value}
    (a0 : PySem.W.nsIn K mainGlobals "has_node" = some (some (.ref f0))) (l0 : K.lookup f0 = some ⟨oc0, od0, .func (PySem.W.fnOf "has_node" "has_node" (defArgs s_has_node) (defBody s_has_node) (defScope s_has_node) .none kV0 dc0 pm0 an0 cd0 ct0), sl0⟩) (c0 : PySem.W.codeIn K cd0 "has_node" = true) (k0 : PySem.W.keepIn K (.ref f0) = true)
    (a1 : PySem.W.nsIn K mainGlobals "adjacency" = some (some (.ref f1))) (l1 : K.lookup f1 = some ⟨oc1, od1, .func (PySem.W.fnOf "adjacency" "adjacency" (defArgs s_adjacency) (defBody s_adjacency) (defScope s_adjacency) .none kV1 dc1 pm1 an1 cd1 ct1), sl1⟩) (c1 : PySem.W.codeIn K cd1 "adjacency" = true) (k1 : PySem.W.keepIn K (.ref f1) = true)
    (a2 : PySem.W.nsIn K mainGlobals "is_integer" = some (some (.ref f2))) (l2 : K.lookup f2 = some ⟨oc2, od2, .func (PySem.W.fnOf "is_integer" "is_integer" (defArgs s_is_integer) (defBody s_is_integer) (defScope s_is_integer) .none kV2 dc2 pm2 an2 cd2 ct2), sl2⟩) (c2 : PySem.W.codeIn K cd2 "is_integer" = true) (k2 : PySem.W.keepIn K (.ref f2) = true)
    (a3 : PySem.W.nsIn K mainGlobals "is_value" = some (some (.ref f3))) (l3 : K.lookup f3 = some ⟨oc3, od3, .func (PySem.W.fnOf "is_value" "is_value" (defArgs s_is_value) (defBody s_is_value) (defScope s_is_value) .none kV3 dc3 pm3 an3 cd3 ct3), sl3⟩) (c3 : PySem.W.codeIn K cd3 "is_value" = true) (k3 : PySem.W.keepIn K (.ref f3) = true)
    (a4 : PySem.W.nsIn K mainGlobals "values_for" = some (some (.ref f4))) (l4 : K.lookup f4 = some ⟨oc4, od4, .func (PySem.W.fnOf "values_for" "values_for" (defArgs s_values_for) (defBody s_values_for) (defScope s_values_for) .none kV4 dc4 pm4 an4 cd4 ct4), sl4⟩) (c4 : PySem.W.codeIn K cd4 "values_for" = true) (k4 : PySem.W.keepIn K (.ref f4) = true)
    (a5 : PySem.W.nsIn K mainGlobals "is_move" = some (some (.ref f5))) (l5 : K.lookup f5 = some ⟨oc5, od5, .func (PySem.W.fnOf "is_move" "is_move" (defArgs s_is_move) (defBody s_is_move) (defScope s_is_move) .none kV5 dc5 pm5 an5 cd5 ct5), sl5⟩) (c5 : PySem.W.codeIn K cd5 "is_move" = true) (k5 : PySem.W.keepIn K (.ref f5) = true)
    (a6 : PySem.W.nsIn K mainGlobals "apply_moves" = some (some (.ref f6))) (l6 : K.lookup f6 = some ⟨oc6, od6, .func (PySem.W.fnOf "apply_moves" "apply_moves" (defArgs s_apply_moves) (defBody s_apply_moves) (defScope s_apply_moves) .none (.ref D6) dc6 pm6 an6 cd6 ct6), sl6⟩) (c6 : PySem.W.codeIn K cd6 "apply_moves" = true) (k6 : PySem.W.keepIn K (.ref f6) = true)
    (d6 : PySem.W.nsIn K D6 "pinned" = some (some (.ref T6))) (t6 : K.lookup T6 = some ⟨.type "tuple", odT6, .seq #[] nT6, slT6⟩)
    (a7 : PySem.W.nsIn K mainGlobals "_law_pool" = some (some (.ref f7))) (l7 : K.lookup f7 = some ⟨oc7, od7, .func (PySem.W.fnOf "_law_pool" "_law_pool" (defArgs s__law_pool) (defBody s__law_pool) (defScope s__law_pool) .none kV7 dc7 pm7 an7 cd7 ct7), sl7⟩) (c7 : PySem.W.codeIn K cd7 "_law_pool" = true) (k7 : PySem.W.keepIn K (.ref f7) = true)
    (a8 : PySem.W.nsIn K mainGlobals "_law_draw" = some (some (.ref f8))) (l8 : K.lookup f8 = some ⟨oc8, od8, .func (PySem.W.fnOf "_law_draw" "_law_draw" (defArgs s__law_draw) (defBody s__law_draw) (defScope s__law_draw) .none kV8 dc8 pm8 an8 cd8 ct8), sl8⟩) (c8 : PySem.W.codeIn K cd8 "_law_draw" = true) (k8 : PySem.W.keepIn K (.ref f8) = true)
    (a9 : PySem.W.nsIn K mainGlobals "_law_draw_names" = some (some (.ref f9))) (l9 : K.lookup f9 = some ⟨oc9, od9, .func (PySem.W.fnOf "_law_draw_names" "_law_draw_names" (defArgs s__law_draw_names) (defBody s__law_draw_names) (defScope s__law_draw_names) .none kV9 dc9 pm9 an9 cd9 ct9), sl9⟩) (c9 : PySem.W.codeIn K cd9 "_law_draw_names" = true) (k9 : PySem.W.keepIn K (.ref f9) = true)
    (a10 : PySem.W.nsIn K mainGlobals "_law_shuffle" = some (some (.ref f10))) (l10 : K.lookup f10 = some ⟨oc10, od10, .func (PySem.W.fnOf "_law_shuffle" "_law_shuffle" (defArgs s__law_shuffle) (defBody s__law_shuffle) (defScope s__law_shuffle) .none kV10 dc10 pm10 an10 cd10 ct10), sl10⟩) (c10 : PySem.W.codeIn K cd10 "_law_shuffle" = true) (k10 : PySem.W.keepIn K (.ref f10) = true)
    (a11 : PySem.W.nsIn K mainGlobals "_law_edge_of" = some (some (.ref f11))) (l11 : K.lookup f11 = some ⟨oc11, od11, .func (PySem.W.fnOf "_law_edge_of" "_law_edge_of" (defArgs s__law_edge_of) (defBody s__law_edge_of) (defScope s__law_edge_of) .none kV11 dc11 pm11 an11 cd11 ct11), sl11⟩) (c11 : PySem.W.codeIn K cd11 "_law_edge_of" = true) (k11 : PySem.W.keepIn K (.ref f11) = true)
    (a12 : PySem.W.nsIn K mainGlobals "_law_wants_edge" = some (some (.ref f12))) (l12 : K.lookup f12 = some ⟨oc12, od12, .func (PySem.W.fnOf "_law_wants_edge" "_law_wants_edge" (defArgs s__law_wants_edge) (defBody s__law_wants_edge) (defScope s__law_wants_edge) .none kV12 dc12 pm12 an12 cd12 ct12), sl12⟩) (c12 : PySem.W.codeIn K cd12 "_law_wants_edge" = true) (k12 : PySem.W.keepIn K (.ref f12) = true)
    (a13 : PySem.W.nsIn K mainGlobals "_law_draw_graph" = some (some (.ref f13))) (l13 : K.lookup f13 = some ⟨oc13, od13, .func (PySem.W.fnOf "_law_draw_graph" "_law_draw_graph" (defArgs s__law_draw_graph) (defBody s__law_draw_graph) (defScope s__law_draw_graph) .none kV13 dc13 pm13 an13 cd13 ct13), sl13⟩) (c13 : PySem.W.codeIn K cd13 "_law_draw_graph" = true) (k13 : PySem.W.keepIn K (.ref f13) = true)
    (a14 : PySem.W.nsIn K mainGlobals "_law_draw_pins" = some (some (.ref f14))) (l14 : K.lookup f14 = some ⟨oc14, od14, .func (PySem.W.fnOf "_law_draw_pins" "_law_draw_pins" (defArgs s__law_draw_pins) (defBody s__law_draw_pins) (defScope s__law_draw_pins) .none kV14 dc14 pm14 an14 cd14 ct14), sl14⟩) (c14 : PySem.W.codeIn K cd14 "_law_draw_pins" = true) (k14 : PySem.W.keepIn K (.ref f14) = true)
    (a15 : PySem.W.nsIn K mainGlobals "_law_neighbors_of" = some (some (.ref f15))) (l15 : K.lookup f15 = some ⟨oc15, od15, .func (PySem.W.fnOf "_law_neighbors_of" "_law_neighbors_of" (defArgs s__law_neighbors_of) (defBody s__law_neighbors_of) (defScope s__law_neighbors_of) .none kV15 dc15 pm15 an15 cd15 ct15), sl15⟩) (c15 : PySem.W.codeIn K cd15 "_law_neighbors_of" = true) (k15 : PySem.W.keepIn K (.ref f15) = true)
    (a16 : PySem.W.nsIn K mainGlobals "_law_moves_of" = some (some (.ref f16))) (l16 : K.lookup f16 = some ⟨oc16, od16, .func (PySem.W.fnOf "_law_moves_of" "_law_moves_of" (defArgs s__law_moves_of) (defBody s__law_moves_of) (defScope s__law_moves_of) .none kV16 dc16 pm16 an16 cd16 ct16), sl16⟩) (c16 : PySem.W.codeIn K cd16 "_law_moves_of" = true) (k16 : PySem.W.keepIn K (.ref f16) = true)
    (a17 : PySem.W.nsIn K mainGlobals "_law_draw_moves" = some (some (.ref f17))) (l17 : K.lookup f17 = some ⟨oc17, od17, .func (PySem.W.fnOf "_law_draw_moves" "_law_draw_moves" (defArgs s__law_draw_moves) (defBody s__law_draw_moves) (defScope s__law_draw_moves) .none kV17 dc17 pm17 an17 cd17 ct17), sl17⟩) (c17 : PySem.W.codeIn K cd17 "_law_draw_moves" = true) (k17 : PySem.W.keepIn K (.ref f17) = true)
    (a18 : PySem.W.nsIn K mainGlobals "_law_compute_expected" = some (some (.ref f18))) (l18 : K.lookup f18 = some ⟨oc18, od18, .func (PySem.W.fnOf "_law_compute_expected" "_law_compute_expected" (defArgs s__law_compute_expected) (defBody s__law_compute_expected) (defScope s__law_compute_expected) .none kV18 dc18 pm18 an18 cd18 ct18), sl18⟩) (c18 : PySem.W.codeIn K cd18 "_law_compute_expected" = true) (k18 : PySem.W.keepIn K (.ref f18) = true)
    (a19 : PySem.W.nsIn K mainGlobals "_law_call" = some (some (.ref f19))) (l19 : K.lookup f19 = some ⟨oc19, od19, .func (PySem.W.fnOf "_law_call" "_law_call" (defArgs s__law_call) (defBody s__law_call) (defScope s__law_call) .none kV19 dc19 pm19 an19 cd19 ct19), sl19⟩) (c19 : PySem.W.codeIn K cd19 "_law_call" = true) (k19 : PySem.W.keepIn K (.ref f19) = true)
    (a20 : PySem.W.nsIn K mainGlobals "_law_invalid" = some (some (.ref f20))) (l20 : K.lookup f20 = some ⟨oc20, od20, .func (PySem.W.fnOf "_law_invalid" "_law_invalid" (defArgs s__law_invalid) (defBody s__law_invalid) (defScope s__law_invalid) .none kV20 dc20 pm20 an20 cd20 ct20), sl20⟩) (c20 : PySem.W.codeIn K cd20 "_law_invalid" = true) (k20 : PySem.W.keepIn K (.ref f20) = true)
    (a21 : PySem.W.nsIn K mainGlobals "law" = some (some (.ref f21))) (l21 : K.lookup f21 = some ⟨oc21, od21, .func (PySem.W.fnOf "law" "law" (defArgs s_law) (defBody s_law) (defScope s_law) .none kV21 dc21 pm21 an21 cd21 ct21), sl21⟩) (c21 : PySem.W.codeIn K cd21 "law" = true) (k21 : PySem.W.keepIn K (.ref f21) = true)
    (z0 : PySem.W.nsIn K mainGlobals "len" = some none)
    (z1 : PySem.W.nsIn K mainGlobals "abs" = some none)
    (z2 : PySem.W.nsIn K mainGlobals "max" = some none)
    (z3 : PySem.W.nsIn K mainGlobals "min" = some none)
    (z4 : PySem.W.nsIn K mainGlobals "sorted" = some none)
    (z5 : PySem.W.nsIn K mainGlobals "isinstance" = some none)
    (z6 : PySem.W.nsIn K mainGlobals "int" = some none)
    (z7 : PySem.W.nsIn K mainGlobals "list" = some none)
    (z8 : PySem.W.nsIn K mainGlobals "tuple" = some none)
    (z9 : PySem.W.nsIn K mainGlobals "str" = some none)
    (z10 : PySem.W.nsIn K mainGlobals "range" = some none)
    (z11 : PySem.W.nsIn K mainGlobals "enumerate" = some none)
    (z12 : PySem.W.nsIn K mainGlobals "dict" = some none)
    (z13 : PySem.W.nsIn K mainGlobals "sum" = some none)
    (z14 : PySem.W.nsIn K mainGlobals "all" = some none)
    (z15 : PySem.W.nsIn K mainGlobals "any" = some none)
    (z16 : PySem.W.nsIn K mainGlobals "repr" = some none)
    (z17 : PySem.W.nsIn K mainGlobals "set" = some none)
    (z18 : PySem.W.nsIn K mainGlobals "zip" = some none)
    (z19 : PySem.W.nsIn K mainGlobals "reversed" = some none)
    (z20 : PySem.W.nsIn K mainGlobals "bool" = some none)
    (v0 : PySem.W.nsIn K mainGlobals "VALUES" = some (some (.ref va))) (v1 : K.lookup va = some ⟨.type "tuple", odV, .seq #[.int 0 q0, .int 1 q1, .int 2 q2] nV, slV⟩)
    (y0 : PySem.W.nsIn K mainGlobals "InputError" = some (some (.ref CB))) (y1 : PySem.W.keepIn K (.ref CB) = true) (y2 : PySem.W.subIn K (.ref CB) (.type "BaseException") = some true) (y3 : PySem.W.typeIn K (.ref CB) = some (.type "type")) (y4 : PySem.W.isClsIn K CB = true)
    (y5 : PySem.W.specialIn K (.ref CB) "__getattribute__" = some (some (.builtin "type.__getattribute__"))) (y6 : PySem.W.readsIn K CB (.type "type") = true) (y7 : PySem.W.findCls K (.ref CB) (.type "type") "__init__" = some (.val (.builtin "ValueError.__init__")))
    (xa0 : PySem.W.nsIn K mainGlobals "InvalidMove" = some (some (.ref CE0))) (xb0 : K.lookup CE0 = some (excClassObj nmE0 qE0 CE0 NE0 bsE0 [.ref CB, .type "ValueError", .type "Exception", .type "BaseException", .type "object"] true snE0 subE0 abE0 colE0 ddE0 mA0 mB0 mC0 mD0 mE0 "ValueError.__new__")) (xc0 : PySem.W.findIn K (.ref CE0) "__setattr__" = some (some (.builtin "object.__setattr__"))) (xd0 : PySem.W.findIn K (.ref CE0) "__getattribute__" = some (some (.builtin "BaseException.__getattribute__"))) (xe0 : PySem.W.findIn K (.ref CE0) "__getattr__" = some none) (xf0 : PySem.W.findIn K (.ref CE0) "position" = some none) (xg0 : PySem.W.findIn K (.ref CE0) "__init__" = some (some (.ref fE0))) (xh0 : PySem.W.typeIn K (.ref fE0) = some (.type "function")) (xi0 : K.lookup fE0 = some ⟨ocE0, odE0, .func (PySem.W.fnOf "__init__" "InvalidMove.__init__" (defArgs s_InvalidMove_init) (defBody s_InvalidMove_init) (defScope s_InvalidMove_init) .none kVE0 dcE0 pmE0 anE0 cdE0 ctE0), slE0⟩) (xj0 : PySem.W.codeIn K cdE0 "InvalidMove.__init__" = true) (xk0 : PySem.W.keepIn K (.ref fE0) = true) (xl0 : PySem.W.keepIn K (.ref CE0) = true) (xm0 : PySem.W.subIn K (.ref CE0) (.type "BaseException") = some true) (xn0 : PySem.W.typeIn K (.ref CE0) = some (.type "type")) (xo0 : PySem.W.hasDictIn K CE0 = true) (xp0 : PySem.W.isClsIn K CE0 = true) (xq0 : PySem.W.subIn K (.ref CE0) (.ref CE0) = some true) (xr0 : PySem.W.subIn K (.ref CE0) (.ref CB) = some true)
    (xu0 : PySem.W.findIn K (.ref CE0) "__class__" = some (some (.builtin "object.__class__"))) (xv0 : PySem.W.specialIn K (.builtin "object.__class__") "__get__" = some (some (.builtin "getset_descriptor.__get__"))) (xw0 : PySem.W.takesIn K (.builtin "object.__class__") = some true) (xx0 : PySem.W.mroIn K CE0 (.type "object") = some true) :
    ∃ fd : FuncData, (∀ (s : Shared) (u : Value), BindsTo s fd ⟨[u], []⟩ [("_law_script", u)]) ∧ ∀ base : Heap, K.In base → base.Ns mainGlobals mg → FnG l.prog w K mg base CX0 6 fa fd ["_law_script"] (spLaw K) := by
  have e := hfa.symm.trans (PySem.W.mg_of X G a21)
  cases e
  have n_len := PySem.W.mg_none_of X G z0
  have n_abs := PySem.W.mg_none_of X G z1
  have n_max := PySem.W.mg_none_of X G z2
  have n_min := PySem.W.mg_none_of X G z3
  have n_sorted := PySem.W.mg_none_of X G z4
  have n_isinstance := PySem.W.mg_none_of X G z5
  have n_int := PySem.W.mg_none_of X G z6
  have n_list := PySem.W.mg_none_of X G z7
  have n_tuple := PySem.W.mg_none_of X G z8
  have n_str := PySem.W.mg_none_of X G z9
  have n_range := PySem.W.mg_none_of X G z10
  have n_enumerate := PySem.W.mg_none_of X G z11
  have n_dict := PySem.W.mg_none_of X G z12
  have n_sum := PySem.W.mg_none_of X G z13
  have n_all := PySem.W.mg_none_of X G z14
  have n_any := PySem.W.mg_none_of X G z15
  have n_repr := PySem.W.mg_none_of X G z16
  have n_set := PySem.W.mg_none_of X G z17
  have n_zip := PySem.W.mg_none_of X G z18
  have n_reversed := PySem.W.mg_none_of X G z19
  have n_bool := PySem.W.mg_none_of X G z20
  have B : Bt mg := { len := n_len, abs := n_abs, max := n_max, min := n_min, sorted := n_sorted, isinstance := n_isinstance, int := n_int, list := n_list, tuple := n_tuple, str := n_str, range := n_range, enumerate := n_enumerate, dict := n_dict, sum := n_sum, all := n_all, any := n_any, repr := n_repr, set := n_set, zip := n_zip, reversed := n_reversed }
  have hV := PySem.W.mg_of X G v0
  have sV : ∀ H, SqT K H va ([0, 1, 2].map V.int) := fun H => .inr ⟨_, _, _, v1, rfl, rfl, (by show 3 ≤ sizeLine; decide), .cons ⟨_, rfl⟩ (.cons ⟨_, rfl⟩ (.cons ⟨_, rfl⟩ .nil))⟩
  have F0 := fun_mk (st := s_has_node) l0 c0 k0
  have b0 := F0.binds (ps := ["graph", "candidate"]) fun _ _ _ _ _ _ us hl => match us, hl with | [_, _], _ => rfl
  have F1 := fun_mk (st := s_adjacency) l1 c1 k1
  have b1 := F1.binds (ps := ["graph"]) fun _ _ _ _ _ _ us hl => match us, hl with | [_], _ => rfl
  have F2 := fun_mk (st := s_is_integer) l2 c2 k2
  have b2 := F2.binds (ps := ["candidate"]) fun _ _ _ _ _ _ us hl => match us, hl with | [_], _ => rfl
  have F3 := fun_mk (st := s_is_value) l3 c3 k3
  have b3 := F3.binds (ps := ["candidate"]) fun _ _ _ _ _ _ us hl => match us, hl with | [_], _ => rfl
  have F4 := fun_mk (st := s_values_for) l4 c4 k4
  have b4 := F4.binds (ps := ["state", "node", "adjacent", "pinned"]) fun _ _ _ _ _ _ us hl => match us, hl with | [_, _, _, _], _ => rfl
  have F5 := fun_mk (st := s_is_move) l5 c5 k5
  have b5 := F5.binds (ps := ["graph", "state", "adjacent", "candidate", "pinned"]) fun _ _ _ _ _ _ us hl => match us, hl with | [_, _, _, _, _], _ => rfl
  have sT6 : ∀ H, SqT K H T6 [] := fun H => .inr ⟨_, _, _, t6, rfl, rfl, (by show 0 ≤ sizeLine; decide), .nil⟩
  have FD6 : FunD K "apply_moves" "apply_moves" (defArgs s_apply_moves) (defBody s_apply_moves) (defScope s_apply_moves) [] [("pinned", .ref T6)] f6 _ := ⟨⟨_, _, _, _, _, _, _, _, _, _, rfl, l6, c6, .inl ⟨rfl, rfl⟩, .inr ⟨D6, rfl, fun q hq => by
    rw [List.mem_singleton] at hq
    subst hq
    exact ⟨_, d6, rfl⟩⟩⟩, k6⟩
  obtain ⟨ds6, vd6, bd6⟩ := FD6.binds0 (ps := ["graph", "state", "moves", "pinned"]) 3 (by simp) rfl fun D doc pm an cdv ct us ks hu hk => match us, ks, hu, hk with | [_, _, _], [_], _, _ => ⟨_, _, _, _, _, _, rfl, rfl, rfl⟩
  have F6 := fun_mk (st := s_apply_moves) l6 c6 k6
  have F7 := fun_mk (st := s__law_pool) l7 c7 k7
  have b7 := F7.binds (ps := ["_law_script", "_law_k"]) fun _ _ _ _ _ _ us hl => match us, hl with | [_, _], _ => rfl
  have F8 := fun_mk (st := s__law_draw) l8 c8 k8
  have b8 := F8.binds (ps := ["_law_pool_here", "_law_many"]) fun _ _ _ _ _ _ us hl => match us, hl with | [_, _], _ => rfl
  have F9 := fun_mk (st := s__law_draw_names) l9 c9 k9
  have b9 := F9.binds (ps := ["_law_pool_here", "_law_many"]) fun _ _ _ _ _ _ us hl => match us, hl with | [_, _], _ => rfl
  have F10 := fun_mk (st := s__law_shuffle) l10 c10 k10
  have b10 := F10.binds (ps := ["_law_pool_here", "_law_some"]) fun _ _ _ _ _ _ us hl => match us, hl with | [_, _], _ => rfl
  have F11 := fun_mk (st := s__law_edge_of) l11 c11 k11
  have b11 := F11.binds (ps := ["_law_one", "_law_other"]) fun _ _ _ _ _ _ us hl => match us, hl with | [_, _], _ => rfl
  have F12 := fun_mk (st := s__law_wants_edge) l12 c12 k12
  have b12 := F12.binds (ps := ["_law_pool_here", "_law_kind", "_law_at", "_law_position", "_law_many"]) fun _ _ _ _ _ _ us hl => match us, hl with | [_, _, _, _, _], _ => rfl
  have F13 := fun_mk (st := s__law_draw_graph) l13 c13 k13
  have b13 := F13.binds (ps := ["_law_pool_here", "_law_most"]) fun _ _ _ _ _ _ us hl => match us, hl with | [_, _], _ => rfl
  have F14 := fun_mk (st := s__law_draw_pins) l14 c14 k14
  have b14 := F14.binds (ps := ["_law_pool_here", "_law_graph"]) fun _ _ _ _ _ _ us hl => match us, hl with | [_, _], _ => rfl
  have F15 := fun_mk (st := s__law_neighbors_of) l15 c15 k15
  have b15 := F15.binds (ps := ["_law_graph", "_law_node"]) fun _ _ _ _ _ _ us hl => match us, hl with | [_, _], _ => rfl
  have F16 := fun_mk (st := s__law_moves_of) l16 c16 k16
  have b16 := F16.binds (ps := ["_law_graph", "_law_state", "_law_pins"]) fun _ _ _ _ _ _ us hl => match us, hl with | [_, _, _], _ => rfl
  have F17 := fun_mk (st := s__law_draw_moves) l17 c17 k17
  have b17 := F17.binds (ps := ["_law_pool_here", "_law_graph", "_law_state", "_law_pins", "_law_most"]) fun _ _ _ _ _ _ us hl => match us, hl with | [_, _, _, _, _], _ => rfl
  have F18 := fun_mk (st := s__law_compute_expected) l18 c18 k18
  have b18 := F18.binds (ps := ["_law_graph", "_law_state", "_law_pins", "_law_candidate"]) fun _ _ _ _ _ _ us hl => match us, hl with | [_, _, _, _], _ => rfl
  have F19 := fun_mk (st := s__law_call) l19 c19 k19
  have b19 := F19.binds (ps := ["_law_graph", "_law_state", "_law_pins", "_law_candidate"]) fun _ _ _ _ _ _ us hl => match us, hl with | [_, _, _, _], _ => rfl
  have F20 := fun_mk (st := s__law_invalid) l20 c20 k20
  have b20 := F20.binds (ps := ["_law_pool_here", "_law_graph"]) fun _ _ _ _ _ _ us hl => match us, hl with | [_, _], _ => rfl
  have F21 := fun_mk (st := s_law) l21 c21 k21
  have b21 := F21.binds (ps := ["_law_script"]) fun _ _ _ _ _ _ us hl => match us, hl with | [_], _ => rfl
  have own0 := own_mk (x := "InvalidMove") (f := "position") (PySem.W.mg_of X G xa0) (PySem.W.mg_of X G y0) xb0 xc0 xd0 xe0 xf0 xg0 xh0 xl0 xm0 xn0 xo0 xp0 xq0 y1 y2 y3 y4 xr0 y5 y6 y7
  have FE0 := fun_mk (st := s_InvalidMove_init) xi0 xj0 xk0
  have bE0 := FE0.binds (ps := ["self", "position"]) fun _ _ _ _ _ _ us hl => match us, hl with | [_, _], _ => rfl
  have isM0 : IsM K mg CE0 CB := ⟨⟨xd0, xe0, xm0, xo0, xu0, xv0, xw0, xx0⟩, PySem.W.mg_of X G y0, PySem.W.mg_of X G xa0, kit_refT xp0 xn0 xq0, exm_sub xm0 y2 y4 y3 xr0⟩
  refine ⟨PySem.W.fnOf "law" "law" (defArgs s_law) (defBody s_law) (defScope s_law) .none kV21 dc21 pm21 an21 cd21 ct21, fun s v => .of_eq rfl, fun base _ _ => ?_⟩
  have err0 : ErrX l.prog w K mg base "InvalidMove" "position" CE0 CB := ⟨⟨_, _, own0, ok_initM FE0 own0, bE0⟩⟩
  have c_has_node : Cal l.prog w K mg base (CX0) 1 "has_node" (spHasV K) := ⟨⟨_, _, _, ok_hasV F0 B, PySem.W.mg_of X G a0, k0, b0⟩⟩
  have c_adjacency : Cal l.prog w K mg base (CX0) 1 "adjacency" (spAdj) := ⟨⟨_, _, _, ok_adj F1 B, PySem.W.mg_of X G a1, k1, b1⟩⟩
  have c_is_integer : Cal l.prog w K mg base (CX0) 1 "is_integer" (spIsInt K) := ⟨⟨_, _, _, ok_is_integer F2 B n_bool, PySem.W.mg_of X G a2, k2, b2⟩⟩
  have c_is_value : Cal l.prog w K mg base (CX0) 2 "is_value" (spIsValV K) := ⟨⟨_, _, _, ok_is_valueV F3 B ⟨c_is_integer⟩, PySem.W.mg_of X G a3, k3, b3⟩⟩
  have c_values_for : Cal l.prog w K mg base (CX0) 1 "values_for" (spVals K) := ⟨⟨_, _, _, ok_vals F4 B hV sV, PySem.W.mg_of X G a4, k4, b4⟩⟩
  have c_is_move : Cal l.prog w K mg base (CX0) 3 "is_move" (spIsMoveV K) := ⟨⟨_, _, _, ok_is_moveV F5 B ⟨c_has_node, c_is_value, c_values_for⟩, PySem.W.mg_of X G a5, k5, b5⟩⟩
  have c_apply_moves : CalK l.prog w K mg base (L2.CX l.prog w) 4 "apply_moves" 3 ["pinned"] (spApplyX K CE0) := ⟨⟨_, _, ["graph", "state", "moves", "pinned"], ok_applyX F6 B ⟨c_adjacency, c_is_move⟩ err0, PySem.W.mg_of X G a6, k6, fun us ws hu hw => match us, ws, hu, hw with | [_, _, _], [_], _, _ => rfl⟩⟩
  have e_apply_moves : CalD l.prog w K mg base (L2.CX l.prog w) 4 "apply_moves" [.ref T6] (spApplyX K CE0) := ⟨⟨_, _, _, ds6, ok_applyX F6 B ⟨c_adjacency, c_is_move⟩ err0, PySem.W.mg_of X G a6, k6, vd6, bd6⟩⟩
  have c__law_pool : Cal l.prog w K mg base (CX0) 1 "_law_pool" (spPool K) := ⟨⟨_, _, _, ok_pool F7 B, PySem.W.mg_of X G a7, k7, b7⟩⟩
  have c__law_draw : Cal l.prog w K mg base (CX0) 1 "_law_draw" (spDraw) := ⟨⟨_, _, _, ok_draw F8 B, PySem.W.mg_of X G a8, k8, b8⟩⟩
  have c__law_draw_names : Cal l.prog w K mg base (CX0) 2 "_law_draw_names" (spNames) := ⟨⟨_, _, _, ok_names F9 B ⟨c__law_draw⟩, PySem.W.mg_of X G a9, k9, b9⟩⟩
  have c__law_shuffle : Cal l.prog w K mg base (CX0) 2 "_law_shuffle" (spShuf K) := ⟨⟨_, _, _, ok_shuffle F10 B ⟨c__law_draw⟩, PySem.W.mg_of X G a10, k10, b10⟩⟩
  have c__law_edge_of : Cal l.prog w K mg base (CX0) 1 "_law_edge_of" (spEdgeOf) := ⟨⟨_, _, _, ok_edge_of F11 B, PySem.W.mg_of X G a11, k11, b11⟩⟩
  have c__law_wants_edge : Cal l.prog w K mg base (CX0) 2 "_law_wants_edge" (spWants) := ⟨⟨_, _, _, ok_wants F12 B ⟨c__law_draw⟩, PySem.W.mg_of X G a12, k12, b12⟩⟩
  have c__law_draw_graph : Cal l.prog w K mg base (CX0) 3 "_law_draw_graph" (spGraph) := ⟨⟨_, _, _, ok_draw_graph F13 B ⟨c__law_draw, c__law_draw_names, c__law_shuffle, c__law_edge_of, c__law_wants_edge⟩, PySem.W.mg_of X G a13, k13, b13⟩⟩
  have c__law_draw_pins : Cal l.prog w K mg base (CX0) 2 "_law_draw_pins" (spPins) := ⟨⟨_, _, _, ok_pins F14 B ⟨c__law_draw⟩, PySem.W.mg_of X G a14, k14, b14⟩⟩
  have c__law_neighbors_of : Cal l.prog w K mg base (CX0) 1 "_law_neighbors_of" (spNbr) := ⟨⟨_, _, _, ok_nbr F15 B, PySem.W.mg_of X G a15, k15, b15⟩⟩
  have c__law_moves_of : Cal l.prog w K mg base (CX0) 2 "_law_moves_of" (spMoves K) := ⟨⟨_, _, _, ok_moves F16 B ⟨c__law_neighbors_of⟩, PySem.W.mg_of X G a16, k16, b16⟩⟩
  have c__law_draw_moves : Cal l.prog w K mg base (CX0) 3 "_law_draw_moves" (spDrawMoves K) := ⟨⟨_, _, _, ok_draw_moves F17 B ⟨c__law_draw, c__law_moves_of⟩, PySem.W.mg_of X G a17, k17, b17⟩⟩
  have c__law_compute_expected : Cal l.prog w K mg base (CX0) 3 "_law_compute_expected" (spCal8 K) := ⟨⟨_, _, _, ok_exp8 F18 B ⟨c__law_moves_of⟩, PySem.W.mg_of X G a18, k18, b18⟩⟩
  have c__law_call : Cal l.prog w K mg base (CX0) 5 "_law_call" (spCal8 K) := ⟨⟨_, _, _, ok_cal8 F19 B ⟨c_apply_moves⟩ own0 isM0, PySem.W.mg_of X G a19, k19, b19⟩⟩
  have c__law_invalid : Cal l.prog w K mg base (CX0) 2 "_law_invalid" (spInv8 K) := ⟨⟨_, _, _, ok_inv8 F20 B ⟨c__law_draw⟩, PySem.W.mg_of X G a20, k20, b20⟩⟩
  exact ok_law8 F21 B ⟨c__law_pool, c__law_draw, c__law_draw_graph, c__law_draw_pins, c__law_draw_moves, c__law_invalid, c__law_call, c__law_compute_expected⟩
theorem walk {l : PySem.W.OpenLaw} {q : Program} {loose : List Str} {XP : (Str → Option Value) → Heap → Prop} {YP : World → Heap → Prop} {d : DefRec} {K : Params → PySem.W.Frag} (hn : l.most = some 63) (hdf : d.params.defaults = [])
    (hY : ∀ (w : World) (h : Heap), YP w h → (K w.params).In h)
    (F : ∀ (w : World) (mg : Str → Option Value) (fa : Addr) (h : Heap), (K w.params).In h → h.Ns mainGlobals mg → mg d.name = some (.ref fa) →
      ∃ fd : FuncData, (∀ (s : Shared) (u : Value), BindsTo s fd ⟨[u], []⟩ [("_law_script", u)]) ∧ ∀ base : Heap, (K w.params).In base → base.Ns mainGlobals mg → FnG l.prog w (K w.params) mg base CX0 6 fa fd ["_law_script"] (spLaw (K w.params))) :
    PySem.W.WalkO q loose XP YP l.row.toRowW d [] (fun f vs => PySem.call f vs) :=
  walk_G (n := 63) (k := 6) (x := "_law_script") (sp := spLaw) hn (by decide) hdf ⟨rfl, by decide, by decide⟩ hY F fun K H a ns hl _ _ hS => ⟨a, ns, rfl, hS, hl, fun _ => rfl⟩
end Law
open PySem PySem.W PyProof.Rows
set_option maxRecDepth 100000 in
set_option maxHeartbeats 0 in
theorem PySem.Challenge.cw_threeturned_k08_impossible_moves_holds : PySem.Challenge.rw_threeturned_k08_impossible_moves.Holds := by
  w_on; o_law; k_head; (case hw => w_witness2)
  k_fill
  refine Law.walk (l := PySem.Challenge.rw_threeturned_k08_impossible_moves) rfl rfl (fun w h Y => PySem.W.kIn_of Y) ?F
  case F =>
    intro w mg fa h KX G hmg
    refine' Law.all_mk KX G hmg ?a0 ?l0 ?c0 ?k0 ?a1 ?l1 ?c1 ?k1 ?a2 ?l2 ?c2 ?k2 ?a3 ?l3 ?c3 ?k3 ?a4 ?l4 ?c4 ?k4 ?a5 ?l5 ?c5 ?k5 ?a6 ?l6 ?c6 ?k6 ?d6 ?t6 ?a7 ?l7 ?c7 ?k7 ?a8 ?l8 ?c8 ?k8 ?a9 ?l9 ?c9 ?k9 ?a10 ?l10 ?c10 ?k10 ?a11 ?l11 ?c11 ?k11 ?a12 ?l12 ?c12 ?k12 ?a13 ?l13 ?c13 ?k13 ?a14 ?l14 ?c14 ?k14 ?a15 ?l15 ?c15 ?k15 ?a16 ?l16 ?c16 ?k16 ?a17 ?l17 ?c17 ?k17 ?a18 ?l18 ?c18 ?k18 ?a19 ?l19 ?c19 ?k19 ?a20 ?l20 ?c20 ?k20 ?a21 ?l21 ?c21 ?k21 ?z0 ?z1 ?z2 ?z3 ?z4 ?z5 ?z6 ?z7 ?z8 ?z9 ?z10 ?z11 ?z12 ?z13 ?z14 ?z15 ?z16 ?z17 ?z18 ?z19 ?z20 ?v0 ?v1 ?y0 ?y1 ?y2 ?y3 ?y4 ?y5 ?y6 ?y7 ?xa0 ?xb0 ?xc0 ?xd0 ?xe0 ?xf0 ?xg0 ?xh0 ?xi0 ?xj0 ?xk0 ?xl0 ?xm0 ?xn0 ?xo0 ?xp0 ?xq0 ?xr0 ?xu0 ?xv0 ?xw0 ?xx0
    (case a0 => k_is); (case l0 => k_is); (case c0 => k_is); (case k0 => k_is)
    (case a1 => k_is); (case l1 => k_is); (case c1 => k_is); (case k1 => k_is)
    (case a2 => k_is); (case l2 => k_is); (case c2 => k_is); (case k2 => k_is)
    (case a3 => k_is); (case l3 => k_is); (case c3 => k_is); (case k3 => k_is)
    (case a4 => k_is); (case l4 => k_is); (case c4 => k_is); (case k4 => k_is)
    (case a5 => k_is); (case l5 => k_is); (case c5 => k_is); (case k5 => k_is)
    (case a6 => k_is); (case l6 => k_is); (case c6 => k_is); (case k6 => k_is)
    (case d6 => k_is); (case t6 => k_is); (case a7 => k_is); (case l7 => k_is)
    (case c7 => k_is); (case k7 => k_is); (case a8 => k_is); (case l8 => k_is)
    (case c8 => k_is); (case k8 => k_is); (case a9 => k_is); (case l9 => k_is)
    (case c9 => k_is); (case k9 => k_is); (case a10 => k_is); (case l10 => k_is)
    (case c10 => k_is); (case k10 => k_is); (case a11 => k_is); (case l11 => k_is)
    (case c11 => k_is); (case k11 => k_is); (case a12 => k_is); (case l12 => k_is)
    (case c12 => k_is); (case k12 => k_is); (case a13 => k_is); (case l13 => k_is)
    (case c13 => k_is); (case k13 => k_is); (case a14 => k_is); (case l14 => k_is)
    (case c14 => k_is); (case k14 => k_is); (case a15 => k_is); (case l15 => k_is)
    (case c15 => k_is); (case k15 => k_is); (case a16 => k_is); (case l16 => k_is)
    (case c16 => k_is); (case k16 => k_is); (case a17 => k_is); (case l17 => k_is)
    (case c17 => k_is); (case k17 => k_is); (case a18 => k_is); (case l18 => k_is)
    (case c18 => k_is); (case k18 => k_is); (case a19 => k_is); (case l19 => k_is)
    (case c19 => k_is); (case k19 => k_is); (case a20 => k_is); (case l20 => k_is)
    (case c20 => k_is); (case k20 => k_is); (case a21 => k_is); (case l21 => k_is)
    (case c21 => k_is); (case k21 => k_is); (case z0 => k_is); (case z1 => k_is)
    (case z2 => k_is); (case z3 => k_is); (case z4 => k_is); (case z5 => k_is)
    (case z6 => k_is); (case z7 => k_is); (case z8 => k_is); (case z9 => k_is)
    (case z10 => k_is); (case z11 => k_is); (case z12 => k_is); (case z13 => k_is)
    (case z14 => k_is); (case z15 => k_is); (case z16 => k_is); (case z17 => k_is)
    (case z18 => k_is); (case z19 => k_is); (case z20 => k_is); (case v0 => k_is)
    (case v1 => k_is); (case y0 => k_is); (case y1 => k_is); (case y2 => k_is)
    (case y3 => k_is); (case y4 => k_is); (case y5 => k_is); (case y6 => k_is)
    (case y7 => k_is); (case xa0 => k_is); (case xb0 => k_is); (case xc0 => k_is)
    (case xd0 => k_is); (case xe0 => k_is); (case xf0 => k_is); (case xg0 => k_is)
    (case xh0 => k_is); (case xi0 => k_is); (case xj0 => k_is); (case xk0 => k_is)
    (case xl0 => k_is); (case xm0 => k_is); (case xn0 => k_is); (case xo0 => k_is)
    (case xp0 => k_is); (case xq0 => k_is); (case xr0 => k_is); (case xu0 => k_is)
    (case xv0 => k_is); (case xw0 => k_is); (case xx0 => k_is)

