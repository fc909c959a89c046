import PyProof.Rows.All
import Wide.All
import OpenK.AllK
import Wide.FinOn
import HandS.ForMost
import HandS.Exc
import HandS.EndBits
import HandS.Wide
import HandS.Codes
import HandS.TupAny
import HandS.IsInst
import HandS.Walk
import HandS.Flow
import HandS.SetKeys
import HandS.SortKw
import HandS.Style
import KE.SortData
import HandS.More
import HandS.DictComp
import HandS.ExcInit
import HandS.ExcIs
import HandS.ExcField
import HandS.Nested
import HandS.Defaults
import HandS.Deep
import PyProof.RowDictHeap
import PyProof.ReprRoads
import PyProof.ReprBulk
import HandS.Lambda
import KE.DataMinKey
import KE.GoesEnum
import KE.GoesMore
import HandS.Finally
import PyProof.DictUpdate
import PyProof.P3In
import KE.DataCmp
import PySem.Challenge.RW_threeturned_k01_graphs_checked
import HandS.Iter
import HandS.Steps
import HandS.RaiseMore
import HandS.WordsExc
import KE.KExcInit
import HandS.EndTab
set_option Elab.async false
set_option linter.all false
set_option maxRecDepth 100000
set_option maxHeartbeats 4000000
/-! calls with room and with nothing being shown (guards known) -/
namespace U
open PySem PySem.Spec PyProof.Rows L2

/-- room for k calls, and no repr is under way -/
structure Rm (k : Nat) (A : Around) : Prop where
  r : Room k A
  g : A.guards = some []
theorem Rm.mono {j k : Nat} {A : Around} (h : Rm k A) (hj : j ≤ k) : Rm j A := ⟨h.r.mono hj, h.g⟩
theorem Rm.deeper {k : Nat} {A : Around} (h : Rm (k + 1) A) (env : Env) : Rm k (A.deeper env) := ⟨h.r.deeper env, h.g⟩
theorem Rm.u1 {k : Nat} {A : Around} (h : Rm k A) : A.units + 1 < cLine := by
  have z := h.r.un
  omega
theorem Rm.u64 {k : Nat} {A : Around} (h : Rm k A) : A.units + 64 < cLine := h.r.units
theorem Rm.u0 {k : Nat} {A : Around} (h : Rm k A) : A.units < cLine := by
  have z := h.r.un
  omega
theorem Rm.u100 {k : Nat} {A : Around} (h : Rm k A) : A.units + 150 < cLine := by
  have z := h.r.un
  omega

/-- the def at f keeps the promise sp -/
structure FnG (P : Program) (w : World) (K : PySem.W.Frag) (mg : Str → Option Value) (base : Heap) (CX : CXT) (k : Nat) (f : Addr) (fd : FuncData) (ps : List Str) (sp : Sp) : Prop where
  len : ∀ vs H Q E, sp vs H Q E → vs.length = ps.length
  go : ∀ (A : Around) (outer : List Env) (s : Shared) (H : Hp) (args : Args) (us : List Value) (vs : List V) (Q : VK) (E : XK), Rm k A →
    Env0 P w K mg base A outer s H → BindsTo s fd args (ps.zip us) → Vals vs us → sp vs H Q E → codeAny (model P w) A (.call (.ref f) args) (CR CX outer P w H s Q E) s
/-- room ran out of is no way: L2's own promise serves -/
theorem FnG.of {P : Program} {w : World} {K : PySem.W.Frag} {mg : Str → Option Value} {base : Heap} {CX : CXT} {k : Nat} {f : Addr} {fd : FuncData} {ps : List Str} {sp : Sp} (F : FnOk P w K mg base CX k f fd ps sp) : FnG P w K mg base CX k f fd ps sp :=
  ⟨F.len, fun A outer s H args us vs Q E hr => F.run A outer s H args us vs Q E hr.r⟩

section
variable {P : Program} {w : World} {K : PySem.W.Frag} {mg : Str → Option Value} {base : Heap} {CX : CXT}
/-- a def by its body -/
theorem fnG {x qual : Str} {st : Stmt} {f : Addr} {fd : FuncData} {N ps : List Str} {k : Nat} {sp : Sp} (F : Fun K x qual st f fd) (S : FnScope N ps (defScope st)) (len : ∀ vs H Q E, sp vs H Q E → vs.length = ps.length)
    (body : ∀ (cdv : Value) (A : Around) (outer : List Env) (s : Shared) (H : Hp) (vs : List V) (Q : VK) (E : XK), Rm k (A.deeper (envOfC qual (defScope st) s.heap.objs.size f cdv)) → sp vs H Q E →
      ∃ t, PSs (cxOf CX P w K mg base N qual (defScope st) f cdv A outer s H E) (defBody st) t ∧ t { nx := fun _ H' => Q .non H', rt := Q } (start N vs) H) :
    FnG P w K mg base CX (k + 1) f fd ps sp := by
  obtain ⟨oc, od, kV, doc, pm, an, cdv, ct, osl, rfl, lk, hcd⟩ := F.ex
  refine ⟨len, fun A outer s H args us vs Q E room e0 bd rel want => ?_⟩
  have count := len _ _ _ _ want
  have kin : K.In s.heap := e0.mod.kin.keeps fun b o e => (e0.bs b o e).1
  have kinds : ∀ y ∈ ps.zip us, (defScope st).names.lookup y.1 = some .local ∨ ((defScope st).names.lookup y.1 = some .cell ∧ ((cellsFrom (s.heap.objs.size + 1) (defScope st).names []).lookup y.1).isSome = true) := by
    rintro ⟨n, v⟩ hy
    cases S.par n (List.of_mem_zip hy).1 with
    | inl q => exact .inl q
    | inr q => exact .inr ⟨q, PySem.W.cellsFrom_some _ _ _ (.inl q)⟩
  apply codeAny_call_function room.r.depth (kin _ _ lk) rfl S.co S.gen rfl (PySem.W.codeRec_of kin hcd) (bd _ _ _ _ _)
  apply wpAny_newFunctionEnv_cells S.kind kinds
  intro env he s1 x
  subst he
  have lim : s.heap.NoLimit := e0.mod.nolimit.keeps fun b o e => (e0.bs b o e).1
  refine ⟨lim.keeps x.toInCall.keep, codeAny_func ?_⟩
  obtain ⟨t, ht, want'⟩ := body cdv A outer s H vs Q E (room.deeper _) want
  have I := inv_start (CX := CX) (P := P) (w := w) (K := K) (mg := mg) (base := base) (E := E) S room.r.hd e0 count rel x
  refine wpAny_mono (ht.run [] s1 (start N vs) H _ I want') ?_ fun e s' hs => hs
  intro fl s' hs
  cases fl with
  | ret u =>
    obtain ⟨v, σ', H', J, rv, q⟩ := hs
    exact ⟨v, H', J.os, J.bare, J.base, J.hok, rv, q⟩
  | next =>
    obtain ⟨σ', H', J, q⟩ := hs
    exact ⟨V.non, H', J.os, J.bare, J.base, J.hok, rfl, q⟩
  | brk => exact hs.elim fun _ z => z.elim fun _ z => z.2.elim
  | cont => exact hs.elim fun _ z => z.elim fun _ z => z.2.elim
/-- a def that no exception leaves -/
theorem fnG0 {x qual : Str} {st : Stmt} {f : Addr} {fd : FuncData} {N ps : List Str} {k : Nat} {sp : Sp} (F : Fun K x qual st f fd) (S : FnScope N ps (defScope st)) (len : ∀ vs H Q E, sp vs H Q E → vs.length = ps.length)
    (body : ∀ (cdv : Value) (A : Around) (outer : List Env) (s : Shared) (H : Hp) (vs : List V) (Q : VK) (E : XK), Rm k (A.deeper (envOfC qual (defScope st) s.heap.objs.size f cdv)) → sp vs H Q E →
      ∃ t, PSs (cxOf CX0 P w K mg base N qual (defScope st) f cdv A outer s H E).nox (defBody st) t ∧ t { nx := fun _ H' => Q .non H', rt := Q } (start N vs) H) :
    FnG P w K mg base CX0 (k + 1) f fd ps sp := fnG F S len fun cdv A outer s H vs Q E hr h => by
  obtain ⟨t, p, q⟩ := body cdv A outer s H vs Q E hr h
  exact ⟨t, p.nox, q⟩
/-- a def that may be called by its global name -/
structure Cal (P : Program) (w : World) (K : PySem.W.Frag) (mg : Str → Option Value) (base : Heap) (CX : CXT) (k : Nat) (x : Str) (sp : Sp) : Prop where
  ex : ∃ (f : Addr) (fd : FuncData) (ps : List Str), FnG P w K mg base CX k f fd ps sp ∧ mg x = some (.ref f) ∧ PySem.W.keepIn K (.ref f) = true ∧ Binds K fd ps []
end

section
variable {X : Cx} {CX : L2.CXT} {k j : Nat} {f : Addr} {fd : FuncData} {ps : List Str} {sp : Sp} {E : XK} {x : Str} {p pos : Pos} {e : Expr} {es : List Expr} {t : TA}
theorem callG {pins : List (Addr × Obj)} {σ : L2.St} {H : Hp} {s : Shared} {Q : VK} {us : List Value} {vs : List V} (F : FnG X.prog X.w X.K X.mg X.base CX k f fd ps sp) (hr : Rm k X.A) (hb : Binds X.K fd ps []) (hx : Passes CX X E)
    (I : Inv X pins σ H s) (r : Vals vs us) (h : sp vs H Q E) : wpAny (model X.prog X.w) X.A (call (.ref f) us) (EP X pins σ Q) X.xe s := by
  have count : us.length = ps.length := r.length ▸ F.len _ _ _ _ h
  have bd := hb s us I.kIn (by rw [List.append_nil]; exact count)
  rw [List.append_nil] at bd
  refine wpAny_call (codeAny_mono (F.go X.A X.stack s H ⟨us, []⟩ us vs Q E hr I.env0 bd r h) ?_)
  intro res s' hq
  cases res with
  | error er => exact hx pins σ H s er s' I hq
  | ok fl =>
    cases fl with
    | ret u => exact I.after hq
    | next => exact hq.elim
    | brk => exact hq.elim
    | cont => exact hq.elim
/-- f(..): the promise -/
def tC1 (sp : Sp) (E : XK) (t : TA) : TE := fun σ H Q => t σ H fun vs H1 => sp vs H1 Q E
theorem pe_cG (c : Cal X.prog X.w X.K X.mg X.base CX k x sp) (hr : Rm j X.A) (hk : k ≤ j) (hg : Gl X x) (hx : Passes CX X E) (ha : PA X (e :: es) t)
    (hdb : (x == ("__debug__" : Str)) = false := by decide) (he : starEach (e :: es) X.env = (false, eval e X.env) :: starEach es X.env := by rfl) (hpl : (backTo pos (starEach es X.env)).any (·.1) = false := by rfl) :
    PE X (.Call (.Name x p) (e :: es) [] pos) (tC1 sp E t) := by
  obtain ⟨f, fd, ps, F, hm, kp, b⟩ := c.ex
  refine ⟨fun pins s σ H Q I h => wpAny_Call_Name_kw (ld_glob I hg hm ?_ hdb)⟩
  refine PySem.W.callWith_K (h₀ := X.base) I.ok.mod.kin kp (thn (ha.run pos pins s σ H _ I h) ?_) he hpl
  rintro us s1 ⟨vs, H1, I1, r, q⟩
  exact ⟨I1.kIn, callG F (hr.mono hk) b hx I1 r q⟩
/-- f() -/
theorem pe_cG0 (c : Cal X.prog X.w X.K X.mg X.base CX k x sp) (hr : Rm j X.A) (hk : k ≤ j) (hg : Gl X x) (hx : Passes CX X E)
    (hdb : (x == ("__debug__" : Str)) = false := by decide) : PE X (.Call (.Name x p) [] [] pos) (tC1 sp E tNil) := by
  obtain ⟨f, fd, ps, F, hm, kp, b⟩ := c.ex
  refine ⟨fun pins s σ H Q I h => wpAny_Call_Name_kw (ld_glob I hg hm ?_ hdb)⟩
  exact PySem.W.callWith_K0 I.kIn kp (callG (us := []) F (hr.mono hk) b hx I .nil h)
theorem pe_c (c : Cal X.prog X.w X.K X.mg X.base CX0 k x sp) (hr : Rm j X.A) (hk : k ≤ j) (hg : Gl X x) (ha : PA X (e :: es) t)
    (hdb : (x == ("__debug__" : Str)) = false := by decide) (he : starEach (e :: es) X.env = (false, eval e X.env) :: starEach es X.env := by rfl) (hpl : (backTo pos (starEach es X.env)).any (·.1) = false := by rfl) :
    PE X (.Call (.Name x p) (e :: es) [] pos) (tC1 sp E0 t) := pe_cG c hr hk hg pass0 ha hdb he hpl
/-- .. what is raised is wished for at the caller's slots -/
def tC2 (sp : Sp) (W : WX) (t : TA) : TE := fun σ H Q => t σ H fun vs H1 => sp vs H1 Q fun cls d H' => W cls d σ H'
theorem pe_cX {W : WX} (c : Cal X.prog X.w X.K X.mg X.base (L2.CX X.prog X.w) k x sp) (hr : Rm j X.A) (hk : k ≤ j) (hg : Gl X x) (tk : Takes X W) (ha : PA X (e :: es) t)
    (hdb : (x == ("__debug__" : Str)) = false := by decide) (he : starEach (e :: es) X.env = (false, eval e X.env) :: starEach es X.env := by rfl) (hpl : (backTo pos (starEach es X.env)).any (·.1) = false := by rfl) :
    PE X (.Call (.Name x p) (e :: es) [] pos) (tC2 sp W t) := by
  obtain ⟨f, fd, ps, F, hm, kp, b⟩ := c.ex
  refine ⟨fun pins s σ H Q I h => wpAny_Call_Name_kw (ld_glob I hg hm ?_ hdb)⟩
  refine PySem.W.callWith_K (h₀ := X.base) I.ok.mod.kin kp (thn (ha.run pos pins s σ H _ I h) ?_) he hpl
  rintro us s1 ⟨vs, H1, I1, r, q⟩
  refine ⟨I1.kIn, ?_⟩
  have count : us.length = ps.length := r.length ▸ F.len _ _ _ _ q
  have bd := b s1 us I1.kIn (by rw [List.append_nil]; exact count)
  rw [List.append_nil] at bd
  refine wpAny_call (codeAny_mono (F.go X.A X.stack s1 H1 ⟨us, []⟩ us vs _ _ (hr.mono hk) I1.env0 bd r q) ?_)
  intro res s' hq
  cases res with
  | error er => exact tk er s' (XE.of_call I1 (fun cls d H' z => z) hq)
  | ok fl =>
    cases fl with
    | ret u => exact I1.after hq
    | next => exact hq.elim
    | brk => exact hq.elim
    | cont => exact hq.elim
end

/-! ### the law's own head -/
end U

/-! operators by the values that come: one rule an operator -/
namespace U
open PySem PySem.Spec PyProof.Rows L2
section
variable {X : Cx}

/-! ### names of the world -/
theorem bb_len : bootBuiltins "len" = some (.builtin "len") := by decide +kernel
theorem bb_abs : bootBuiltins "abs" = some (.builtin "abs") := by decide +kernel
theorem bb_max : bootBuiltins "max" = some (.builtin "max") := by decide +kernel
theorem bb_min : bootBuiltins "min" = some (.builtin "min") := by decide +kernel
theorem bb_sorted : bootBuiltins "sorted" = some (.builtin "sorted") := by decide +kernel
theorem bb_all : bootBuiltins "all" = some (.builtin "all") := by decide +kernel
theorem bb_isinstance : bootBuiltins "isinstance" = some (.builtin "isinstance") := by decide +kernel
theorem bb_repr : bootBuiltins "repr" = some (.builtin "repr") := by decide +kernel
theorem bb_int : bootBuiltins "int" = some (.type "int") := by decide +kernel
theorem bb_list : bootBuiltins "list" = some (.type "list") := by decide +kernel
theorem bb_tuple : bootBuiltins "tuple" = some (.type "tuple") := by decide +kernel
theorem bb_str : bootBuiltins "str" = some (.type "str") := by decide +kernel
theorem pe_ty {x : Str} {T : String} {pos : Pos} (hg : Gl X x) (hm : X.mg x = none) (hv : bootBuiltins x = some (.type T)) (hn : x ≠ "__name__" := by decide) (hd : (x == ("__debug__" : Str)) = false := by decide) :
    PE X (.Name x pos) (tC (.ty T)) := pe_bltn hg hm hv rfl hn hd
theorem pe_gl {x : Str} {v : V} {pos : Pos} (hg : Gl X x) (h : ∃ u, X.mg x = some u ∧ RelV v u) (hd : (x == ("__debug__" : Str)) = false := by decide) : PE X (.Name x pos) (tC v) := by
  obtain ⟨u, hm, r⟩ := h
  exact pe_glob hg hm r hd

/-! ### + - * % // ** -/
/-- what is wanted where a new list, a new tuple comes -/
def nL (xs : List V) (H : Hp) (Q : VK) : Prop := ∀ p, H p = none → Q (.ref p) (upd H p (.lst xs))
def nT (xs : List V) (H : Hp) (Q : VK) : Prop := ∀ p, H p = none → Q (.ref p) (upd H p (.tup xs))
def rAddU (K : PySem.W.Frag) : R2 := fun x y H Q => match x, y with
  | .int i, .int j => Q (.int (i + j)) H
  | .str a, .str b => a.length + b.length ≤ sizeLine ∧ Q (.str (a ++ b)) H
  | .ref a, .ref b => (∃ xs ys, H a = some (.lst xs) ∧ H b = some (.lst ys) ∧ xs.length + ys.length ≤ sizeLine ∧ nL (xs ++ ys) H Q) ∨ rCatA K (.ref a) (.ref b) H Q
  | _, _ => False
theorem uAdd : OpR X (binaryOp .Add) (rAddU X.K) := by
  intro pins s σ H x y v u Q I rx ry h
  cases x <;> cases y <;> first | exact h.elim | skip
  · exact op_add pins s σ H _ _ v u Q I rx ry ⟨_, _, rfl, rfl, h⟩
  · exact op_add_str pins s σ H _ _ v u Q I rx ry ⟨_, _, rfl, rfl, h⟩
  · rcases h with ⟨xs, ys, h1, h2, h3, h4⟩ | h
    · exact op_cat pins s σ H _ _ v u Q I rx ry ⟨_, _, _, _, rfl, rfl, h1, h2, h3, h4⟩
    · exact op_catA pins s σ H _ _ v u Q I rx ry h
def rSubU : R2 := fun x y H Q => match x, y with
  | .int i, .int j => Q (.int (i - j)) H
  | _, _ => False
theorem uSub : OpR X (binaryOp .Sub) rSubU := by
  intro pins s σ H x y v u Q I rx ry h
  cases x <;> cases y <;> first | exact h.elim | exact op_sub pins s σ H _ _ v u Q I rx ry ⟨_, _, rfl, rfl, h⟩
/-- a text k times -/
def timesS (z : Str) (k : Int) : Str := ⟨((List.replicate k.toNat z.cps.toList).flatten).toArray⟩
theorem timesS_one (z : Str) : timesS z 1 = z := by
  unfold timesS
  simp
theorem timesS_neg {z : Str} {k : Int} (h : k < 1) : timesS z k = Str.empty := by
  unfold timesS
  have e : k.toNat = 0 := by omega
  rw [e]
  rfl
theorem fold_rep (a : Array Nat) : ∀ (n : Nat) (acc : Array Nat), (List.replicate n a).foldl (· ++ ·) acc = acc ++ ((List.replicate n a.toList).flatten).toArray
  | 0, acc => by simp
  | n + 1, acc => by
    rw [List.replicate_succ, List.foldl_cons, fold_rep a n, List.replicate_succ, List.flatten_cons]
    apply Array.ext'
    simp
theorem timesS_nil {z : Str} {k : Int} (h : z.length = 0) : timesS z k = z := by
  obtain ⟨a⟩ := z
  have e : a = #[] := Array.size_eq_zero_iff.mp h
  subst e
  unfold timesS
  have : (List.replicate k.toNat ([] : List Nat)).flatten = [] := by
    rw [List.flatten_eq_nil_iff]
    intro l hl
    exact List.eq_of_mem_replicate hl
  show (⟨((List.replicate k.toNat ([] : List Nat)).flatten).toArray⟩ : Str) = ⟨#[]⟩
  rw [this]
def rMulU : R2 := fun x y H Q => match x, y with
  | .int i, .int j => (CMul i j ∨ CMulW i j) ∧ Q (.int (i * j)) H
  | .str z, .int k => (0 ≤ k ∧ k ≤ 1000 ∧ z.length ≤ 1000) ∧ Q (.str (timesS z k)) H
  | .ref l, .int k => rRep (.ref l) (.int k) H Q
  | _, _ => False
theorem uMul : OpR X (binaryOp .Mult) rMulU := by
  intro pins s σ H x y v u Q I rx ry h
  cases x <;> cases y <;> first | exact h.elim | skip
  · obtain ⟨c | c, h⟩ := h
    · exact op_mul pins s σ H _ _ v u Q I rx ry ⟨_, _, rfl, rfl, c, h⟩
    · exact op_mulW pins s σ H _ _ v u Q I rx ry ⟨_, _, rfl, rfl, c, h⟩
  · rename_i z k
    obtain ⟨⟨h0, h1, hz⟩, q⟩ := h
    obtain ⟨t, rfl⟩ := rx
    obtain ⟨t', rfl⟩ := ry
    have hl : z.length * k.toNat ≤ 1000 * 1000 := Nat.mul_le_mul hz (by omega)
    refine P.mul_str ?_ ?_ ?_ ?_
    · have a : ¬ k < -(2 ^ 63) := by omega
      have b : ¬ k ≥ 2 ^ 63 := by omega
      rw [decide_eq_false a, decide_eq_false b]
      rfl
    · intro _ _ bad
      have : (z.length : Int) ≤ 1000 := by omega
      have e : (1000 : Int) ≤ (2 ^ 63 - 1) / k := by
        rw [Int.le_ediv_iff_mul_le (by omega)]
        have : (1000 : Int) * k ≤ 1000 * 1000 := Int.mul_le_mul_of_nonneg_left h1 (by decide)
        omega
      omega
    · intro _ _
      unfold Builtin.Str.tooLong
      have : z.length * k.toNat ≤ sizeLine := Nat.le_trans hl (by decide)
      simp
      exact this
    · split
      · rename_i hk
        rw [timesS_neg hk] at q
        exact ⟨by decide, ⟨.str Str.empty, H, I.tok _, ⟨_, rfl⟩, q⟩⟩
      · split
        · rename_i hk hc
          have e : timesS z k = z := by
            rcases (Bool.or_eq_true _ _).mp hc with c | c
            · have : k = 1 := by simpa using c
              rw [this, timesS_one]
            · exact timesS_nil (by simpa using c)
          rw [e] at q
          exact ⟨.str z, H, I.tok _, ⟨_, rfl⟩, q⟩
        · have e : (⟨(List.replicate k.toNat z.cps).foldl (· ++ ·) #[]⟩ : Str) = timesS z k := by
            rw [fold_rep]
            unfold timesS
            congr 1
            simp
          rw [e]
          refine ⟨?_, ⟨.str (timesS z k), H, I.tok _, ⟨_, rfl⟩, q⟩⟩
          have : (timesS z k).length = k.toNat * z.length := by
            unfold timesS Str.length
            simp
          rw [this, Nat.mul_comm]
          exact Nat.le_trans hl (by decide)
  · exact op_rep pins s σ H _ _ v u Q I rx ry h
def rModU : R2 := fun x y H Q => match x, y with
  | .int i, .int j => 0 < j ∧ Q (.int (i % j)) H
  | _, _ => False
theorem uMod : OpR X (binaryOp .Mod) rModU := by
  intro pins s σ H x y v u Q I rx ry h
  cases x <;> cases y <;> first | exact h.elim | exact op_mod pins s σ H _ _ v u Q I rx ry ⟨_, _, rfl, rfl, h.1, h.2⟩
def rDivU : R2 := fun x y H Q => match x, y with
  | .int i, .int j => (0 < j ∧ j < 1073741824) ∧ Q (.int (i / j)) H
  | _, _ => False
theorem uDiv : OpR X (binaryOp .FloorDiv) rDivU := by
  intro pins s σ H x y v u Q I rx ry h
  cases x <;> cases y <;> first | exact h.elim | exact op_fdiv pins s σ H _ _ v u Q I rx ry ⟨_, _, rfl, rfl, h.1, h.2⟩
def rPowU : R2 := fun x y H Q => match x, y with
  | .int i, .int j => CPow i j ∧ Q (.int (i ^ j.toNat)) H
  | _, _ => False
theorem uPow : OpR X (binaryOp .Pow) rPowU := by
  intro pins s σ H x y v u Q I rx ry h
  cases x <;> cases y <;> first | exact h.elim | exact op_pow pins s σ H _ _ v u Q I rx ry ⟨_, _, rfl, rfl, h.1, h.2⟩

/-! ### < <= > >= -/
def rLtU : R2 := fun x y H Q => match x, y with
  | .int i, .int j => Q (.bl (decide (i < j))) H
  | .str a, .str b => Q (.bl (decide (a.cps.toList < b.cps.toList))) H
  | _, _ => False
theorem uLt : OpR X (compareOp .Lt) rLtU := by
  intro pins s σ H x y v u Q I rx ry h
  cases x <;> cases y <;> first | exact h.elim | exact op_lt pins s σ H _ _ v u Q I rx ry ⟨_, _, rfl, rfl, h⟩ | exact op_lt_str pins s σ H _ _ v u Q I rx ry ⟨_, _, rfl, rfl, h⟩
def rLeU : R2 := fun x y H Q => match x, y with
  | .int i, .int j => Q (.bl (decide (i ≤ j))) H
  | _, _ => False
theorem uLe : OpR X (compareOp .LtE) rLeU := by
  intro pins s σ H x y v u Q I rx ry h
  cases x <;> cases y <;> first | exact h.elim | exact op_le pins s σ H _ _ v u Q I rx ry ⟨_, _, rfl, rfl, h⟩
def rGtU : R2 := fun x y H Q => match x, y with
  | .int i, .int j => Q (.bl (decide (j < i))) H
  | _, _ => False
theorem uGt : OpR X (compareOp .Gt) rGtU := by
  intro pins s σ H x y v u Q I rx ry h
  cases x <;> cases y <;> first | exact h.elim | exact op_gt pins s σ H _ _ v u Q I rx ry ⟨_, _, rfl, rfl, h⟩
def rGeU : R2 := fun x y H Q => match x, y with
  | .int i, .int j => Q (.bl (decide (j ≤ i))) H
  | _, _ => False
theorem uGe : OpR X (compareOp .GtE) rGeU := by
  intro pins s σ H x y v u Q I rx ry h
  cases x <;> cases y <;> first | exact h.elim | exact op_ge pins s σ H _ _ v u Q I rx ry ⟨_, _, rfl, rfl, h⟩

/-! ### == != is, is not -/
/-- == of any two: what is told of them is data -/
def eqB (x y : V) : Option Bool := match x, y with
  | .int i, .int j => some (decide (i = j))
  | .str a, .str b => some (decide (a = b))
  | .bl a, .bl b => some (decide (a = b))
  | .non, .non => some true
  | .int _, .str _ => some false
  | .str _, .int _ => some false
  | .non, .str _ => some false
  | .str _, .non => some false
  | .non, .int _ => some false
  | .int _, .non => some false
  | .bl _, .str _ => some false
  | .str _, .bl _ => some false
  | .bl _, .non => some false
  | .non, .bl _ => some false
  | _, _ => none
theorem eqB_scal {x y : V} {b : Bool} (h : eqB x y = some b) : scal x y = true ∧ decide (x = y) = b := by
  cases x <;> cases y <;> simp_all [eqB, scal]
def rEqU (K : PySem.W.Frag) : R2 := fun x y H Q => match eqB x y with
  | some b => Q (.bl b) H
  | none => rEqD K x y H Q
def rNeU (K : PySem.W.Frag) : R2 := fun x y H Q => match eqB x y with
  | some b => Q (.bl (!b)) H
  | none => rNeD K x y H Q
theorem uEq' (hu : X.A.units + 64 < cLine) : OpR X (compareOp .Eq) (rEqU X.K) := by
  intro pins s σ H x y v u Q I rx ry h
  unfold rEqU at h
  cases e : eqB x y with
  | some b =>
    rw [e] at h
    obtain ⟨z1, z2⟩ := eqB_scal e
    exact op_eq pins s σ H _ _ v u Q I rx ry ⟨z1, by rw [z2]; exact h⟩
  | none =>
    rw [e] at h
    exact op_eqD hu pins s σ H _ _ v u Q I rx ry h
theorem uNe' (hu : X.A.units + 64 < cLine) : OpR X (compareOp .NotEq) (rNeU X.K) := by
  intro pins s σ H x y v u Q I rx ry h
  unfold rNeU at h
  cases e : eqB x y with
  | some b =>
    rw [e] at h
    obtain ⟨z1, z2⟩ := eqB_scal e
    exact op_ne pins s σ H _ _ v u Q I rx ry ⟨z1, by rw [z2]; exact h⟩
  | none =>
    rw [e] at h
    exact op_neD hu pins s σ H _ _ v u Q I rx ry h
def rIsU : R2 := fun x y H Q => match y with
  | .non => Q (.bl (decide (x = .non))) H
  | .bl b => ∃ a, x = .bl a ∧ Q (.bl (decide (a = b))) H
  | _ => False
theorem uIs : OpR X (compareOp .Is) rIsU := by
  intro pins s σ H x y v u Q I rx ry h
  cases y <;> first | exact h.elim | exact op_isN pins s σ H _ _ v u Q I rx ry ⟨rfl, h⟩ | skip
  obtain ⟨a, rfl, h⟩ := h
  exact op_isBl pins s σ H _ _ v u Q I rx ry ⟨_, _, rfl, rfl, h⟩
def rIsNotU : R2 := fun x y H Q => match y with
  | .non => Q (.bl (!decide (x = .non))) H
  | .bl b => ∃ a, x = .bl a ∧ Q (.bl (!decide (a = b))) H
  | _ => False
theorem uIsNot : OpR X (compareOp .IsNot) rIsNotU := by
  intro pins s σ H x y v u Q I rx ry h
  cases y <;> first | exact h.elim | exact op_notN pins s σ H _ _ v u Q I rx ry ⟨rfl, h⟩ | skip
  obtain ⟨a, rfl, h⟩ := h
  exact op_notBl pins s σ H _ _ v u Q I rx ry ⟨_, _, rfl, rfl, h⟩

/-! ### in, not in: lists and tuples -/
def rInU (K : PySem.W.Frag) : R2 := fun x y H Q => match y with
  | .ref p => ∃ xs, (SqL K H p xs ∨ SqT K H p xs) ∧ ((flatV x = true ∧ xs.all flatV = true ∧ Q (.bl (inV x xs)) H))
  | _ => False
theorem uIn : OpR X (compareOp .In) (rInU X.K) := by
  intro pins s σ H x y v u Q I rx ry h
  cases y <;> first | exact h.elim | skip
  obtain ⟨xs, h1, h2, h3, h4⟩ := h
  exact op_in_seq pins s σ H _ _ v u Q I rx ry ⟨_, xs, rfl, h1, h2, h3, h4⟩
/-! ### o[i], o[a:b] -/
def rIxU (K : PySem.W.Frag) : R2 := fun x y H Q => match x, y with
  | .str z, .int i => z.length ≤ sizeLine ∧ ∃ c, atI z.cps.toList i = some c ∧ Q (.str ⟨#[c]⟩) H
  | .ref p, .int i => ∃ xs, (SqL K H p xs ∨ SqT K H p xs) ∧ ∃ v, atI xs i = some v ∧ Q v H
  | _, _ => False
theorem uIx : IxR X (rIxU X.K) := by
  intro a b pins s σ H x y v u Q I rx ry h hs
  cases x <;> cases y <;> first | exact h.elim | skip
  · obtain ⟨h1, c, h2, h3⟩ := h
    exact ix_str a b pins s σ H _ _ v u Q I rx ry ⟨_, _, c, rfl, rfl, h1, h2, h3⟩ hs
  · obtain ⟨xs, h1 | h1, w', h2, h3⟩ := h
    · exact ix_list a b pins s σ H _ _ v u Q I rx ry ⟨_, xs, _, w', rfl, rfl, h1, h2, h3⟩ hs
    · exact ix_tup a b pins s σ H _ _ v u Q I rx ry ⟨_, xs, _, w', rfl, rfl, h1, h2, h3⟩ hs
end
end U

/-! slices, built-in functions by the values that come -/
namespace U
open PySem PySem.Spec PyProof.Rows L2
section
variable {X : Cx}
/-! ### slices -/
def rSlU (K : PySem.W.Frag) : V → Option Int → Option Int → Hp → VK → Prop := fun x lo hi H Q => match x with
  | .str z => z.length ≤ sizeLine ∧ Q (.str (cutS z lo hi)) H
  | .ref a => (∃ xs, SqL K H a xs ∧ nL (cutV xs lo hi) H Q) ∨ rSlA K (.ref a) lo hi H Q
  | _ => False
theorem uSl : SlR X (rSlU X.K) := by
  intro pins s σ H x v vl vu lo hi sl Q I rx hs pl pu h
  cases x <;> first | exact h.elim | skip
  · exact sl_str pins s σ H _ v vl vu lo hi sl Q I rx hs pl pu ⟨_, rfl, h.1, h.2⟩
  · rcases h with ⟨xs, h1, h2⟩ | h
    · exact sl_list pins s σ H _ v vl vu lo hi sl Q I rx hs pl pu ⟨_, xs, rfl, h1, h2⟩
    · exact sl_tupA pins s σ H _ v vl vu lo hi sl Q I rx hs pl pu h

/-! ### len, abs, max, min, int, list, tuple -/
def rLenU (K : PySem.W.Frag) : List V → Hp → VK → Prop := fun xs H Q => match xs with
  | [.str z] => z.length ≤ sizeLine ∧ Q (.int z.length) H
  | [.ref p] => (∃ ys, (SqL K H p ys ∨ SqT K H p ys) ∧ Q (.int ys.length) H) ∨ ∃ kvs, H p = some (.dK kvs) ∧ Q (.int kvs.length) H
  | _ => False
theorem cLen : CallR X (.builtin "len") (rLenU X.K) := by
  intro pins s σ H xs us Q I r h
  match xs, h with
  | [.str z], h => exact call_len_str pins s σ H _ us Q I r ⟨z, rfl, h.1, h.2⟩
  | [.ref p], .inl ⟨ys, h1, h2⟩ => exact call_len_seq pins s σ H _ us Q I r ⟨p, ys, rfl, h1, h2⟩
  | [.ref p], .inr ⟨kvs, h1, h2⟩ => exact call_lenD pins s σ H _ us Q I r ⟨p, kvs, rfl, h1, h2⟩
def rAbsU : List V → Hp → VK → Prop := fun xs H Q => match xs with
  | [.int i] => Q (.int (i.natAbs : Int)) H
  | _ => False
theorem cAbs : CallR X (.builtin "abs") rAbsU := by
  intro pins s σ H xs us Q I r h
  match xs, h with
  | [.int i], h =>
    refine call_abs pins s σ H _ us Q I r ⟨i, rfl, ?_⟩
    have e : (if i < 0 then -i else i) = (i.natAbs : Int) := by split <;> omega
    rw [e]
    exact h
def rMaxU : List V → Hp → VK → Prop := fun xs H Q => match xs with
  | [.int i, .int j] => Q (.int (max i j)) H
  | _ => False
theorem cMax (hc : X.calm = true) : CallR X (.builtin "max") rMaxU := by
  intro pins s σ H xs us Q I r h
  match xs, h with
  | [.int i, .int j], h =>
    refine call_max2 hc pins s σ H _ us Q I r ⟨i, j, rfl, ?_⟩
    have e : (if j > i then j else i) = max i j := by split <;> omega
    rw [e]
    exact h
def rMinU : List V → Hp → VK → Prop := fun xs H Q => match xs with
  | [.int i, .int j] => Q (.int (min i j)) H
  | _ => False
theorem cMin (hc : X.calm = true) : CallR X (.builtin "min") rMinU := by
  intro pins s σ H xs us Q I r h
  match xs, h with
  | [.int i, .int j], h =>
    refine call_min2 hc pins s σ H _ us Q I r ⟨i, j, rfl, ?_⟩
    have e : (if j < i then j else i) = min i j := by split <;> omega
    rw [e]
    exact h
def bToI (k : Bool) : Int := if k then 1 else 0
def rIntU : List V → Hp → VK → Prop := fun xs H Q => match xs with
  | [.int i] => Q (.int i) H
  | [.bl k] => Q (.int (bToI k)) H
  | _ => False
theorem cInt : CallR X (.type "int") rIntU := by
  intro pins s σ H xs us Q I r h
  match xs, h with
  | [.int i], h => exact call_int1 pins s σ H _ us Q I r (.inl ⟨i, rfl, h⟩)
  | [.bl k], h => exact call_int1 pins s σ H _ us Q I r (.inr ⟨k, rfl, h⟩)
def rListU (K : PySem.W.Frag) : List V → Hp → VK → Prop := fun xs H Q => match xs with
  | [.ref p] => (∃ ys, (SqL K H p ys ∨ SqT K H p ys) ∧ nL ys H Q) ∨ ∃ kvs : List (Key × V), Rd H p (.dK kvs) ∧ nL (kvs.map fun kv => kV kv.1) H Q
  | _ => False
theorem cList (hc : X.calm = true) : CallR X (.type "list") (rListU X.K) := by
  intro pins s σ H xs us Q I r h
  match xs, h with
  | [.ref p], .inl ⟨ys, h1, h2⟩ => exact call_list_of pins s σ H _ us Q I r ⟨p, ys, rfl, h1, h2⟩
  | [.ref p], .inr ⟨kvs, h1, h2⟩ => exact call_listD hc pins s σ H _ us Q I r ⟨p, kvs, rfl, h1, h2⟩
def rTupleU (K : PySem.W.Frag) : List V → Hp → VK → Prop := fun xs H Q => match xs with
  | [.ref p] => (∃ ys, SqL K H p ys ∧ nT ys H Q) ∨ ((∃ ys, SqT K H p ys) ∧ Q (.ref p) H)
  | _ => False
theorem cTuple : CallR X (.type "tuple") (rTupleU X.K) := by
  intro pins s σ H xs us Q I r h
  match xs, h with
  | [.ref p], .inl ⟨ys, h1, h2⟩ => exact call_tuple_of pins s σ H _ us Q I r ⟨p, ys, rfl, .inl ⟨h1, h2⟩⟩
  | [.ref p], .inr ⟨⟨ys, h1⟩, h2⟩ => exact call_tuple_of pins s σ H _ us Q I r ⟨p, ys, rfl, .inr ⟨h1, h2⟩⟩
def rAllU (K : PySem.W.Frag) : List V → Hp → VK → Prop := fun xs H Q => match xs with
  | [.ref p] => ∃ bs : List Bool, SqL K H p (bs.map V.bl) ∧ Q (.bl (bs.all id)) H
  | _ => False
theorem cAll (hc : X.calm = true) : CallR X (.builtin "all") (rAllU X.K) := by
  intro pins s σ H xs us Q I r h
  match xs, h with
  | [.ref p], ⟨bs, h1, h2⟩ => exact cr_all hc pins s σ H _ us Q I r ⟨p, bs, rfl, h1, h2⟩
/-! ### sorted -/
/-- a < b, of data -/
abbrev dLt (a b : PyData) : Bool := PySem.W.dataLt a b
/-- a list of what may be sorted -/
structure Sorts (K : PySem.W.Frag) (H : Hp) (bs : List (V × PyData)) : Prop where
  dat : ∀ b ∈ bs, Dp K H b.1 b.2
  alk : PySem.W.AllAlike (bs.map (·.2))
  srt : PySem.W.Sortable (bs.map (·.2))
  dep : ∀ b ∈ bs, b.2.depth ≤ 50
  len : bs.length ≤ 100000
def rSortU (K : PySem.W.Frag) : List V → Hp → VK → Prop := fun xs H Q => match xs with
  | [.ref p] => ∃ bs : List (V × PyData), SqL K H p (bs.map (·.1)) ∧ Sorts K H bs ∧
      ∀ cs : List (V × PyData), cs.Perm bs → cs.Pairwise (fun a b => dLt b.2 a.2 = false) → nL (cs.map (·.1)) H Q
  | _ => False
theorem each_vals : ∀ {bs : List (V × PyData)} {us : List Value}, Vals (bs.map (·.1)) us → PySem.W.EachIs (fun u b => RelV b.1 u) us bs
  | [], _, r => by
    cases r
    exact .nil
  | b :: bs, _, r => by
    cases r with
    | cons r1 r2 => exact .cons r1 (each_vals r2)
theorem vals_each : ∀ {bs : List (V × PyData)} {us : List Value}, PySem.W.EachIs (fun u b => RelV b.1 u) us bs → Vals (bs.map (·.1)) us
  | [], _, r => by
    cases r
    exact .nil
  | b :: bs, _, r => by
    cases r with
    | cons r1 r2 => exact .cons r1 (vals_each r2)
theorem each_reads {pins : List (Addr × Obj)} {σ : L2.St} {H : Hp} {s : Shared} (I : Inv X pins σ H s) : ∀ {bs : List (V × PyData)} {us : List Value}, (∀ b ∈ bs, Dp X.K H b.1 b.2) → Vals (bs.map (·.1)) us → PySem.W.EachIs (fun u b => ∃ as, Reads s.heap u b.2 as) us bs
  | [], _, _, r => by
    cases r
    exact .nil
  | b :: bs, _, h, r => by
    cases r with
    | cons r1 r2 => exact .cons (Dp.reads I _ _ _ (h b List.mem_cons_self) r1) (each_reads I (fun c hc => h c (List.mem_cons_of_mem _ hc)) r2)
theorem cSorted (hu : X.A.units + 64 < cLine) : CallR X (.builtin "sorted") (rSortU X.K) := by
  intro pins s σ H xs us Q I r h
  match xs, h with
  | [.ref p], ⟨bs, hs, S, q⟩ =>
    cases r with
    | cons r rr =>
      cases rr
      cases r
      obtain ⟨its, rv, pl, hz⟩ := I.list hs
      have e1 := each_vals rv
      have hb : ∀ b, b ∈ bs → X.A.units + 2 + b.2.depth < cLine := fun b hb => by
        have := S.dep b hb
        omega
      refine PySem.W.sorted_data (vs := its) (bs := bs) (enc := fun b : V × PyData => b.2) (R := fun u b => RelV b.1 u) pl.isList e1 (each_reads I S.dat rv) S.alk S.srt ?_ hb ?_
      · rw [List.length_map] at hz
        exact hz
      · intro out ol oe
        have perm : (bs.mergeSort (PySem.W.dataLe false fun b : V × PyData => b.2)).Perm bs := List.mergeSort_perm _ _
        have srt : (bs.mergeSort (PySem.W.dataLe false fun b : V × PyData => b.2)).Pairwise (fun a b => dLt b.2 a.2 = false) :=
          (PySem.W.sort_pairwise (PySem.W.sortLe_total _ _ _) bs).imp fun {a b} z => by
            have z' : (!dLt b.2 a.2) = true := z
            simpa using z'
        generalize bs.mergeSort (PySem.W.dataLe false fun b : V × PyData => b.2) = cs at perm srt oe
        have rv2 := vals_each oe
        have hfr : s.heap.objs.size ≤ s.heap.objs.size + 1 := Nat.le_succ _
        obtain ⟨e, he⟩ := sortedAll_at s.heap its out.toArray
        have new : ObjOk X.prog X.w (upd H (s.heap.objs.size + 1) (.lst (cs.map (·.1)))) (sortedAll s.heap its out.toArray) (s.heap.objs.size + 1) (.lst (cs.map (·.1))) :=
          ⟨by rw [List.length_map, perm.length_eq]; rw [List.length_map] at hz; exact hz, out, e, rv2, he⟩
        exact ⟨.ref (s.heap.objs.size + 1), _, I.laid (t' := s.toks) (fun b u z => sortedAll_old z) hfr new, rfl, q cs perm srt _ (I.hok.fresh hfr)⟩

/-! ### isinstance of built-in classes -/
inductive Ty where
  | non | bl | int | str | lst | tup | dct
  deriving DecidableEq
def Ty.nm : Ty → String
  | .non => "NoneType"
  | .bl => "bool"
  | .int => "int"
  | .str => "str"
  | .lst => "list"
  | .tup => "tuple"
  | .dct => "dict"
def isT (a b : Ty) : Bool := decide (a = b) || (decide (a = .bl) && decide (b = .int))
theorem isT_ok (a b : Ty) (hb : b ≠ .non) : kitB a.nm b.nm = some (isT a b) := by
  cases a <;> cases b <;> first | exact absurd rfl hb | decide +kernel
/-- a value's class -/
def TyIs (K : PySem.W.Frag) (H : Hp) (x : V) (a : Ty) : Prop := TyX K H x (.type a.nm)
def tyOf : String → Option Ty
  | "bool" => some .bl
  | "int" => some .int
  | "str" => some .str
  | "list" => some .lst
  | "tuple" => some .tup
  | "dict" => some .dct
  | _ => none
theorem tyOf_ok {n : String} {t : Ty} (h : tyOf n = some t) : n = t.nm ∧ t ≠ .non := by
  unfold tyOf at h
  split at h <;> first | (cases h; exact ⟨rfl, by decide⟩) | cases h
def rIsiU (K : PySem.W.Frag) : List V → Hp → VK → Prop := fun xs H Q => match xs with
  | [x, .ty n] => ∃ a t, TyIs K H x a ∧ tyOf n = some t ∧ Q (.bl (isT a t)) H
  | _ => False
theorem cIsi : CallR X (.builtin "isinstance") (rIsiU X.K) := by
  intro pins s σ H xs us Q I r h
  match xs, h with
  | [x, .ty n], ⟨a, t, h1, h2, h3⟩ =>
    obtain ⟨e, hn⟩ := tyOf_ok h2
    exact call_isi pins s σ H _ us Q I r ⟨x, _, _, _, _, rfl, .ty n, h1, kit_ty (by rw [e]; exact isT_ok a t hn), h3⟩
theorem ty_str {K : PySem.W.Frag} {H : Hp} {x : Str} : TyIs K H (.str x) .str := .base (.str x)
theorem ty_int {K : PySem.W.Frag} {H : Hp} {x : Int} : TyIs K H (.int x) .int := .base (.int x)
theorem ty_bl {K : PySem.W.Frag} {H : Hp} {x : Bool} : TyIs K H (.bl x) .bl := .base (.bl x)
theorem ty_non {K : PySem.W.Frag} {H : Hp} : TyIs K H .non .non := .base .non
theorem ty_lst {K : PySem.W.Frag} {H : Hp} {a : Addr} {xs : List V} (h : H a = some (.lst xs)) : TyIs K H (.ref a) .lst := .base (.lst h)
theorem ty_tup {K : PySem.W.Frag} {H : Hp} {a : Addr} {xs : List V} (h : H a = some (.tup xs)) : TyIs K H (.ref a) .tup := .base (.tup h)
theorem ty_dK {K : PySem.W.Frag} {H : Hp} {a : Addr} {kvs : List (Key × V)} (h : H a = some (.dK kvs)) : TyIs K H (.ref a) .dct := .base (.dK h)
end
end U
namespace U
open PySem PySem.Spec PyProof.Rows L2
/-! the rules with the fragment told: they serve within a comprehension's block -/
section
variable {X : Cx} (K : PySem.W.Frag) (hK : X.K = K)
include hK
theorem kAdd : OpR X (binaryOp .Add) (rAddU K) := hK ▸ uAdd
theorem kEq (hu : X.A.units + 64 < cLine) : OpR X (compareOp .Eq) (rEqU K) := hK ▸ uEq' hu
theorem kNe (hu : X.A.units + 64 < cLine) : OpR X (compareOp .NotEq) (rNeU K) := hK ▸ uNe' hu
theorem kIn : OpR X (compareOp .In) (rInU K) := hK ▸ uIn
theorem kIx : IxR X (rIxU K) := hK ▸ uIx
theorem kSl : SlR X (rSlU K) := hK ▸ uSl
theorem kLen : CallR X (.builtin "len") (rLenU K) := hK ▸ cLen
theorem kList (hc : X.calm = true) : CallR X (.type "list") (rListU K) := hK ▸ cList hc
theorem kTuple : CallR X (.type "tuple") (rTupleU K) := hK ▸ cTuple
theorem kAll (hc : X.calm = true) : CallR X (.builtin "all") (rAllU K) := hK ▸ cAll hc
theorem kSorted (hu : X.A.units + 64 < cLine) : CallR X (.builtin "sorted") (rSortU K) := hK ▸ cSorted hu
theorem kIsi : CallR X (.builtin "isinstance") (rIsiU K) := hK ▸ cIsi
theorem ki_list {tg l : Expr} {tl : TE} (hl : PE X l tl) : PI X tg l (iList K tl) := hK ▸ pi_list hl
theorem ki_tup {tg l : Expr} {tl : TE} (hl : PE X l tl) : PI X tg l (iTup K tl) := hK ▸ pi_tup hl
theorem kg_tup {pos : Pos} {es : List Expr} {k : Nat} {t : TGs} {n : Nat} (hc : X.calm = true) (h : PGs X es t)
    (hn : (assignEach es X.env).length = n := by rfl) (hst : (assignEach es X.env).findIdx? (·.1) = none := by rfl) : PG X (.Tuple es k pos) (gTup K n t) := hK ▸ pg_tup hc h hn hst
end
end U

/-! the readings, step by step: one lemma a form, one word for all that need no thought -/
namespace U
open PySem PySem.Spec PyProof.Rows L2
section
variable {σ : L2.St} {H : Hp} {Q : VK} {D : Ends} {v x y : V} {i j : Int} {a b : Str} {ta tb tc te : TE} {t u : TS} {K : PySem.W.Frag}
theorem rd_seq (h : t { D with nx := u D } σ H) : tSeq t u D σ H := h
theorem rd_var {n : Nat} (e : σ[n]? = some (some v)) (h : Q v H) : tVar n σ H Q := ⟨v, e, h⟩
theorem rd_c (h : Q v H) : tC v σ H Q := h
theorem rd_asg {g : TG} (h : te σ H fun x H1 => g x σ H1 D.nx) : tAsg te g D σ H := h
theorem rd_name {n : Nat} {Q : L2.St → Hp → Prop} (h : Q (σ.set n (some v)) H) : gName n v σ H Q := h
theorem rd_ret (h : te σ H D.rt) : tRet te D σ H := h
theorem rd_retN (h : D.rt .non H) : tRetN D σ H := h
theorem rd_drop (h : te σ H fun _ H1 => D.nx σ H1) : tDrop te D σ H := h
theorem rd_next (h : D.nx σ H) : tNext D σ H := h
theorem rd_if {c : TT} (h : c σ H fun b H1 => if b = true then t D σ H1 else u D σ H1) : tIfS c t u D σ H := h
theorem rd_break (h : D.bk σ H) : tBreak D σ H := h
theorem rd_cont (h : D.ct σ H) : tCont D σ H := h
theorem rd_op {r : R2} (h : ta σ H fun x H1 => tb σ H1 fun y H2 => r x y H2 Q) : tOp r ta tb σ H Q := h
theorem rd_test {Q : Bool → Hp → Prop} (h : te σ H fun x H1 => ∃ k, x = .bl k ∧ Q k H1) : tTest te σ H Q := h
theorem rd_B {Q : Bool → Hp → Prop} (h : te σ H fun x H1 => ∃ k, x = .bl k ∧ Q k H1) : tB te σ H Q := h
theorem rd_bl {Q : Bool → Prop} {k : Bool} (h : Q k) : ∃ c, V.bl k = .bl c ∧ Q c := ⟨k, rfl, h⟩
theorem rd_chain {r r' : R2} (h : ta σ H fun x H1 => tb σ H1 fun y H2 => r x y H2 fun z H3 => ∃ k, z = .bl k ∧ (if k = true then tc σ H3 fun w' H4 => r' y w' H4 Q else Q (.bl false) H3)) : tChain r r' ta tb tc σ H Q := h
theorem rd_nil {Q : List V → Hp → Prop} (h : Q [] H) : tNil σ H Q := h
theorem rd_cons {tr : TA} {Q : List V → Hp → Prop} (h : ta σ H fun x H1 => tr σ H1 fun xs H2 => Q (x :: xs) H2) : tCons ta tr σ H Q := h
theorem rd_cb {r : List V → Hp → VK → Prop} {tr : TA} (h : tr σ H fun vs H1 => r vs H1 Q) : tCB r tr σ H Q := h
theorem rd_c1 {sp : Sp} {E : XK} {tr : TA} (h : tr σ H fun vs H1 => sp vs H1 Q E) : tC1 sp E tr σ H Q := h
theorem rd_c2 {sp : Sp} {W : WX} {tr : TA} (h : tr σ H fun vs H1 => sp vs H1 Q fun cls d H' => W cls d σ H') : tC2 sp W tr σ H Q := h
theorem rd_lst {tr : TA} (h : tr σ H fun xs H1 => xs.length ≤ sizeLine ∧ nL xs H1 Q) : tLst tr σ H Q := h
theorem rd_tup {tr : TA} (h : tr σ H fun xs H1 => xs.length ≤ sizeLine ∧ nT xs H1 Q) : tTup tr σ H Q := h
theorem rd_sz {xs : List V} {P : Prop} (h : Nat.ble xs.length 1000 = true) (q : P) : xs.length ≤ sizeLine ∧ P :=
  ⟨Nat.le_trans (Nat.le_of_ble_eq_true h) (by decide), q⟩
theorem rd_addI (h : Q (.int (i + j)) H) : rAddU K (.int i) (.int j) H Q := h
theorem rd_subI (h : Q (.int (i - j)) H) : rSubU (.int i) (.int j) H Q := h
theorem rd_mulI (c : CMul i j ∨ CMulW i j) (h : Q (.int (i * j)) H) : rMulU (.int i) (.int j) H Q := ⟨c, h⟩
theorem rd_modI (c : 0 < j) (h : Q (.int (i % j)) H) : rModU (.int i) (.int j) H Q := ⟨c, h⟩
theorem rd_divI (c : 0 < j ∧ j < 1073741824) (h : Q (.int (i / j)) H) : rDivU (.int i) (.int j) H Q := ⟨c, h⟩
theorem rd_addS (c : a.length + b.length ≤ sizeLine) (h : Q (.str (a ++ b)) H) : rAddU K (.str a) (.str b) H Q := ⟨c, h⟩
theorem rd_ltI (h : Q (.bl (decide (i < j))) H) : rLtU (.int i) (.int j) H Q := h
theorem rd_ltS (h : Q (.bl (decide (a.cps.toList < b.cps.toList))) H) : rLtU (.str a) (.str b) H Q := h
theorem rd_leI (h : Q (.bl (decide (i ≤ j))) H) : rLeU (.int i) (.int j) H Q := h
theorem rd_gtI (h : Q (.bl (decide (j < i))) H) : rGtU (.int i) (.int j) H Q := h
theorem rd_geI (h : Q (.bl (decide (j ≤ i))) H) : rGeU (.int i) (.int j) H Q := h
theorem rd_eqI (h : Q (.bl (decide (i = j))) H) : rEqU K (.int i) (.int j) H Q := h
theorem rd_eqS (h : Q (.bl (decide (a = b))) H) : rEqU K (.str a) (.str b) H Q := h
theorem rd_neI (h : Q (.bl (!decide (i = j))) H) : rNeU K (.int i) (.int j) H Q := h
theorem rd_neS (h : Q (.bl (!decide (a = b))) H) : rNeU K (.str a) (.str b) H Q := h
theorem rd_is (h : Q (.bl (decide (x = .non))) H) : rIsU x .non H Q := h
theorem rd_isNot (h : Q (.bl (!decide (x = .non))) H) : rIsNotU x .non H Q := h
theorem rd_absI (h : Q (.int (i.natAbs : Int)) H) : rAbsU [.int i] H Q := h
theorem rd_maxI (h : Q (.int (max i j)) H) : rMaxU [.int i, .int j] H Q := h
theorem rd_minI (h : Q (.int (min i j)) H) : rMinU [.int i, .int j] H Q := h
theorem rd_intI (h : Q (.int i) H) : rIntU [.int i] H Q := h
theorem rd_intB {k : Bool} (h : Q (.int (bToI k)) H) : rIntU [.bl k] H Q := h
theorem rd_neg {g : Int → Int} (h : Q (.int (g i)) H) : rU (fun i => .int (g i)) (.int i) H Q := ⟨i, rfl, h⟩
theorem rd_sub {to ti : TE} {t : TSet} {Q : L2.St → Hp → Prop} (h : to σ H fun o H1 => ti σ H1 fun i H2 => t o i v H2 fun H3 => Q σ H3) : gSub to ti t v σ H Q := h
theorem rd_and {t u : TT} {Q : Bool → Hp → Prop} (h : t σ H fun c H1 => if c = true then u σ H1 Q else Q false H1) : tAnd t u σ H Q := h
theorem rd_or {t u : TT} {Q : Bool → Hp → Prop} (h : t σ H fun c H1 => if c = true then Q true H1 else u σ H1 Q) : tOr t u σ H Q := h
theorem rd_not {t : TT} {Q : Bool → Hp → Prop} (h : t σ H fun c H1 => Q (!c) H1) : tNot t σ H Q := h
theorem rd_andV (h : ta σ H fun x H1 => ∃ c, x = .bl c ∧ if c = true then tb σ H1 Q else Q (.bl false) H1) : tAndV ta tb σ H Q := h
theorem rd_orV (h : ta σ H fun x H1 => ∃ c, x = .bl c ∧ if c = true then Q (.bl true) H1 else tb σ H1 Q) : tOrV ta tb σ H Q := h
theorem rd_notV (h : ta σ H fun x H1 => ∃ c, x = .bl c ∧ Q (.bl (!c)) H1) : tNotV ta σ H Q := h
theorem rd_ifE {t : TT} (h : t σ H fun c H1 => if c = true then ta σ H1 Q else tb σ H1 Q) : tIf t ta tb σ H Q := h
theorem rd_T {A B : Prop} (h : A) : if true = true then A else B := by
  rw [if_pos rfl]
  exact h
theorem rd_F {A B : Prop} (h : B) : if false = true then A else B := by
  rw [if_neg Bool.false_ne_true]
  exact h
/-- a test that is known -/
theorem rd_yes {c : Prop} {_ : Decidable c} {A B : Prop} (hc : c) (h : A) : if decide c = true then A else B := by
  rw [if_pos (decide_eq_true hc)]
  exact h
theorem rd_no {c : Prop} {_ : Decidable c} {A B : Prop} (hc : ¬ c) (h : B) : if decide c = true then A else B := by
  rw [if_neg (by rw [decide_eq_false hc]; exact Bool.false_ne_true)]
  exact h
theorem rd_nyes {c : Prop} {_ : Decidable c} {A B : Prop} (hc : ¬ c) (h : A) : if (!decide c) = true then A else B := by
  rw [if_pos (by rw [decide_eq_false hc]; rfl)]
  exact h
theorem rd_nno {c : Prop} {_ : Decidable c} {A B : Prop} (hc : c) (h : B) : if (!decide c) = true then A else B := by
  rw [if_neg (by rw [decide_eq_true hc]; exact Bool.false_ne_true)]
  exact h
theorem rd_split {c : Prop} {_ : Decidable c} {A B : Prop} (h1 : c → A) (h2 : ¬ c → B) : if decide c = true then A else B := by
  by_cases h : c
  · exact rd_yes h (h1 h)
  · exact rd_no h (h2 h)
theorem rd_nsplit {c : Prop} {_ : Decidable c} {A B : Prop} (h1 : ¬ c → A) (h2 : c → B) : if (!decide c) = true then A else B := by
  by_cases h : c
  · exact rd_nno h (h2 h)
  · exact rd_nyes h (h1 h)
theorem rd_b {c : Bool} {A B : Prop} (h1 : c = true → A) (h2 : c = false → B) : if c = true then A else B := by
  cases c with
  | true => exact rd_T (h1 rfl)
  | false => exact rd_F (h2 rfl)
/-- an item of a list, a tuple -/
theorem rd_ixL {p : Addr} {xs : List V} (hs : SqL K H p xs) (hv : atI xs i = some v) (h : Q v H) : rIxU K (.ref p) (.int i) H Q := ⟨xs, .inl hs, v, hv, h⟩
theorem rd_ixT {p : Addr} {xs : List V} (hs : SqT K H p xs) (hv : atI xs i = some v) (h : Q v H) : rIxU K (.ref p) (.int i) H Q := ⟨xs, .inr hs, v, hv, h⟩
theorem rd_ixS {c : Nat} (hz : a.length ≤ 100000) (hv : atI a.cps.toList i = some c) (h : Q (.str ⟨#[c]⟩) H) : rIxU K (.str a) (.int i) H Q := ⟨Nat.le_trans hz (by decide), c, hv, h⟩
theorem rd_lenL {p : Addr} {xs : List V} (hs : SqL K H p xs) (h : Q (.int xs.length) H) : rLenU K [.ref p] H Q := .inl ⟨xs, .inl hs, h⟩
theorem rd_lenT {p : Addr} {xs : List V} (hs : SqT K H p xs) (h : Q (.int xs.length) H) : rLenU K [.ref p] H Q := .inl ⟨xs, .inr hs, h⟩
theorem rd_lenS (hz : a.length ≤ 100000) (h : Q (.int a.length) H) : rLenU K [.str a] H Q := ⟨Nat.le_trans hz (by decide), h⟩
theorem rd_setL {p : Addr} {xs : List V} {n : Nat} {Q : Hp → Prop} (hs : H p = some (.lst xs)) (hi : ixN xs.length i = some n) (h : Q (upd H p (.lst (xs.set n v)))) : rSetL (.ref p) (.int i) v H Q := ⟨p, xs, i, n, rfl, rfl, hs, hi, h⟩
theorem rd_listL {p : Addr} {xs : List V} (hs : SqL K H p xs) (h : nL xs H Q) : rListU K [.ref p] H Q := .inl ⟨xs, .inl hs, h⟩
theorem rd_listT {p : Addr} {xs : List V} (hs : SqT K H p xs) (h : nL xs H Q) : rListU K [.ref p] H Q := .inl ⟨xs, .inr hs, h⟩
theorem rd_tupleL {p : Addr} {xs : List V} (hs : SqL K H p xs) (h : nT xs H Q) : rTupleU K [.ref p] H Q := .inl ⟨xs, hs, h⟩
theorem rd_slS {lo hi : Option Int} (hz : a.length ≤ 100000) (h : Q (.str (cutS a lo hi)) H) : rSlU K (.str a) lo hi H Q := ⟨Nat.le_trans hz (by decide), h⟩
theorem rd_slL {lo hi : Option Int} {p : Addr} {xs : List V} (hs : SqL K H p xs) (h : nL (cutV xs lo hi) H Q) : rSlU K (.ref p) lo hi H Q := .inl ⟨xs, hs, h⟩
theorem rd_sl {tl th : TO} {r : V → Option Int → Option Int → Hp → VK → Prop} (h : te σ H fun x H1 => tl σ H1 fun lo H2 => th σ H2 fun hi H3 => r x lo hi H3 Q) : tSl r te tl th σ H Q := h
theorem rd_noPart {Q : Option Int → Hp → Prop} (h : Q none H) : tNoPart σ H Q := h
theorem rd_part {Q : Option Int → Hp → Prop} (h : te σ H fun x H1 => ∃ i, x = .int i ∧ Q (some i) H1) : tPart te σ H Q := h
theorem rd_exI {Q : Int → Prop} (h : Q i) : ∃ k, V.int i = .int k ∧ Q k := ⟨i, rfl, h⟩
theorem rd_bm {T : String} {r : V → List V → Hp → VK → Prop} {tr : TA} (h : te σ H fun x H1 => tyV K T x H1 ∧ tr σ H1 fun xs H2 => r x xs H2 Q) : tBM K T r te tr σ H Q := h
theorem rd_bm0 {T : String} {r : V → List V → Hp → VK → Prop} (h : te σ H fun x H1 => tyV K T x H1 ∧ r x [] H1 Q) : tBM0 K T r te σ H Q := h
theorem rd_tyL {p : Addr} {xs : List V} {P : Prop} (hs : H p = some (.lst xs)) (h : P) : tyV K "list" (.ref p) H ∧ P := ⟨.inl ⟨rfl, xs, .inl (.inl hs)⟩, h⟩
theorem rd_append {p : Addr} {xs : List V} (hs : H p = some (.lst xs)) (hz : xs.length < 100000) (h : Q .non (upd H p (.lst (xs ++ [v])))) : rAppend (.ref p) [v] H Q :=
  ⟨p, xs, v, rfl, rfl, hs, Nat.lt_of_lt_of_le hz (by decide), h⟩
theorem mul_bI {i : Int} {b : Bool} : CMul i (bToI b) ∨ CMulW i (bToI b) := .inl (.inr (by cases b <;> decide))
theorem rd_powI (c : CPow i j) (h : Q (.int (i ^ j.toNat)) H) : rPowU (.int i) (.int j) H Q := ⟨c, h⟩
/-! heaps -/
theorem new_ne {p q : Addr} {o : HO} (h : upd H p o q = none) : q ≠ p := fun e => by
  rw [e, upd_same] at h
  cases h
theorem new_old {p q : Addr} {o : HO} (h : upd H p o q = none) : H q = none := by
  rw [upd_ne (new_ne h)] at h
  exact h
theorem at_upd {p q : Addr} {o u : HO} (n : q ≠ p) (h : H q = some u) : upd H p o q = some u := (upd_ne n).trans h
theorem no_upd {p q : Addr} {o : HO} (n : q ≠ p) (h : H q = none) : upd H p o q = none := (upd_ne n).trans h
/-- all that is tracked stays, but the object at p -/
def But (p : Addr) (H H' : Hp) : Prop := ∀ b o, b ≠ p → H b = some o → H' b = some o
theorem But.refl {p : Addr} : But p H H := fun _ _ _ h => h
theorem But.trans {p : Addr} {H1 H2 : Hp} (a : But p H H1) (b : But p H1 H2) : But p H H2 := fun c o n h => b c o n (a c o n h)
theorem But.of_same {p : Addr} {H1 : Hp} (a : Same H H1) : But p H H1 := fun c o _ h => a c o h
theorem But.upd {p : Addr} {o : HO} : But p H (upd H p o) := fun _ _ n h => at_upd n h
theorem But.new {p q : Addr} {o : HO} (h : H q = none) : But p H (L2.upd H q o) := fun _ _ _ e => at_upd (ne_of_none e h) e
theorem Same.new {q : Addr} {o : HO} (h : H q = none) : Same H (L2.upd H q o) := fun _ _ e => at_upd (ne_of_none e h) e
theorem But.free {p q : Addr} {H1 : Hp} (a : But p H H1) (n : q ≠ p) (h : H1 q = none) : H q = none := by
  cases e : H q with
  | none => rfl
  | some o =>
    rw [a q o n e] at h
    cases h
theorem new_of_same {q : Addr} {H1 : Hp} (a : Same H H1) (h : H1 q = none) : H q = none := a.free h
theorem Same.seqT {H' : Hp} {a : Addr} {xs : List V} (e : Same H H') (h : SqT K H a xs) : SqT K H' a xs := by
  rcases h with (h | ⟨o, h⟩) | h
  · exact .inl (.inl (e _ _ h))
  · exact .inl (.inr ⟨o, e _ _ h⟩)
  · exact .inr h
theorem But.seqT {p : Addr} {H' : Hp} {a : Addr} {xs : List V} (e : But p H H') (n : ∃ ys, H p = some (.lst ys)) (h : SqT K H a xs) : SqT K H' a xs := by
  obtain ⟨ys, hy⟩ := n
  rcases h with (h | ⟨o, h⟩) | h
  · exact .inl (.inl (e _ _ (ne_of h hy (by intro z; cases z)) h))
  · exact .inl (.inr ⟨o, e _ _ (ne_of h hy (by intro z; cases z)) h⟩)
  · exact .inr h
theorem rd_un {r : V → Hp → VK → Prop} (h : ta σ H fun x H1 => r x H1 Q) : tUn r ta σ H Q := h
end
local macro_rules | `(tactic| wtm_at "rd1") => `(tactic| first
  | with_reducible refine rd_seq ?_
  | ((with_reducible refine rd_var (v := ?vv) ?hv ?_); (case hv => exact rfl))
  | with_reducible refine rd_c ?_
  | with_reducible refine rd_cons ?_
  | with_reducible refine rd_nil ?_
  | with_reducible refine rd_op ?_
  | with_reducible refine rd_asg ?_
  | with_reducible refine rd_name ?_
  | with_reducible refine rd_c1 ?_
  | with_reducible refine rd_cb ?_
  | with_reducible refine rd_test ?_
  | with_reducible refine rd_B ?_
  | with_reducible refine rd_bl ?_
  | with_reducible refine rd_if ?_
  | with_reducible refine rd_ret ?_
  | with_reducible refine rd_drop ?_
  | with_reducible refine rd_next ?_
  | with_reducible refine rd_addI ?_
  | with_reducible refine rd_ltI ?_
  | with_reducible refine rd_eqI ?_
  | with_reducible refine rd_neI ?_
  | with_reducible refine rd_eqS ?_
  | with_reducible refine rd_neS ?_
  | with_reducible refine rd_gtI ?_
  | with_reducible refine rd_geI ?_
  | with_reducible refine rd_leI ?_
  | with_reducible refine rd_ltS ?_
  | with_reducible refine rd_subI ?_
  | ((with_reducible refine rd_modI ?hc ?_); (case hc => first | decide | omega))
  | ((with_reducible refine rd_mulI ?hc ?_); (case hc => first | exact mul_bI | exact .inl (.inr (by decide)) | exact .inl (.inl (by decide)) | exact .inl (.inr (by omega)) | exact .inl (.inl (by omega))))
  | ((with_reducible refine rd_divI ?hc ?_); (case hc => first | decide | omega))
  | ((with_reducible refine rd_powI ?hc ?_); (case hc => exact ⟨by decide, by decide, by decide⟩))
  | with_reducible refine rd_lst ?_
  | with_reducible refine rd_tup ?_
  | ((with_reducible refine rd_sz ?hv ?_); (case hv => exact rfl))
  | with_reducible refine rd_and ?_
  | with_reducible refine rd_or ?_
  | with_reducible refine rd_not ?_
  | with_reducible refine rd_andV ?_
  | with_reducible refine rd_orV ?_
  | with_reducible refine rd_notV ?_
  | with_reducible refine rd_ifE ?_
  | with_reducible refine rd_T ?_
  | with_reducible refine rd_F ?_
  | with_reducible refine rd_chain ?_
  | with_reducible refine rd_is ?_
  | with_reducible refine rd_isNot ?_
  | with_reducible refine rd_absI ?_
  | with_reducible refine rd_maxI ?_
  | with_reducible refine rd_minI ?_
  | with_reducible refine rd_intI ?_
  | with_reducible refine rd_intB ?_
  | with_reducible refine rd_sub ?_
  | with_reducible refine rd_sl ?_
  | with_reducible refine rd_noPart ?_
  | with_reducible refine rd_part ?_
  | with_reducible refine rd_exI ?_
  | with_reducible refine rd_bm ?_
  | with_reducible refine rd_bm0 ?_
  | with_reducible refine rd_un ?_
  | with_reducible refine rd_neg ?_
  | with_reducible refine rd_c2 ?_
  | with_reducible refine rd_retN ?_
  | with_reducible refine rd_break ?_
  | with_reducible refine rd_cont ?_)
local macro_rules | `(tactic| wtm_at "rd") => `(tactic| repeat wtm_at "rd1")
end U

/-! texts in order, names -/
namespace U
open PySem PySem.Spec PyProof.Rows L2
/-- the order of texts -/
def sLt (a b : Str) : Prop := a.cps.toList < b.cps.toList
instance (a b : Str) : Decidable (sLt a b) := inferInstanceAs (Decidable (a.cps.toList < b.cps.toList))
theorem str_ext {a b : Str} (h : a.cps.toList = b.cps.toList) : a = b := by
  obtain ⟨x⟩ := a
  obtain ⟨y⟩ := b
  have e : x = y := Array.toList_inj.mp h
  rw [e]
theorem sLt_irrefl (a : Str) : ¬ sLt a a := List.lt_irrefl _
theorem sLt_trans {a b c : Str} (h : sLt a b) (h' : sLt b c) : sLt a c := List.lt_trans h h'
theorem sLt_asymm {a b : Str} (h : sLt a b) : ¬ sLt b a := fun h' => sLt_irrefl a (sLt_trans h h')
theorem sLt_total {a b : Str} (h : ¬ sLt b a) (n : a ≠ b) : sLt a b := by
  have h1 : a.cps.toList ≤ b.cps.toList := List.not_lt.mp h
  rcases List.le_iff_lt_or_eq.mp h1 with z | z
  · exact z
  · exact absurd (str_ext z) n
theorem sLt_tri (a b : Str) : sLt a b ∨ a = b ∨ sLt b a := by
  by_cases h : sLt b a
  · exact .inr (.inr h)
  · by_cases e : a = b
    · exact .inr (.inl e)
    · exact .inl (sLt_total h e)
/-- strictly upwards -/
abbrev Asc (xs : List Str) : Prop := xs.Pairwise sLt
theorem asc_nodup {xs : List Str} (h : Asc xs) : xs.Nodup := by
  refine List.Pairwise.imp ?_ h
  intro a b z e
  subst e
  exact sLt_irrefl _ z
/-- two lists upwards with the same members are one -/
theorem asc_unique : ∀ {xs ys : List Str}, Asc xs → Asc ys → (∀ z, z ∈ xs ↔ z ∈ ys) → xs = ys
  | [], [], _, _, _ => rfl
  | [], y :: ys, _, _, h => absurd ((h y).mpr List.mem_cons_self) List.not_mem_nil
  | x :: xs, [], _, _, h => absurd ((h x).mp List.mem_cons_self) List.not_mem_nil
  | x :: xs, y :: ys, hx, hy, h => by
    rw [Asc, List.pairwise_cons] at hx hy
    have e : x = y := by
      rcases List.mem_cons.mp ((h x).mp List.mem_cons_self) with z | z
      · exact z
      · rcases List.mem_cons.mp ((h y).mpr List.mem_cons_self) with z2 | z2
        · exact z2.symm
        · exact absurd (hx.1 _ z2) (sLt_asymm (hy.1 _ z))
    subst e
    have t : xs = ys := asc_unique hx.2 hy.2 fun z => by
      constructor
      · intro hz
        rcases List.mem_cons.mp ((h z).mp (List.mem_cons_of_mem _ hz)) with e | e
        · subst e
          exact absurd (hx.1 _ hz) (sLt_irrefl _)
        · exact e
      · intro hz
        rcases List.mem_cons.mp ((h z).mpr (List.mem_cons_of_mem _ hz)) with e | e
        · subst e
          exact absurd (hy.1 _ hz) (sLt_irrefl _)
        · exact e
    rw [t]
theorem asc_of_sorted {xs : List Str} (h : xs.Pairwise fun a b => ¬ sLt b a) (n : xs.Nodup) : Asc xs := by
  have z : xs.Pairwise fun a b => ¬ sLt b a ∧ a ≠ b := List.Pairwise.and h n
  exact z.imp fun {a b} q => sLt_total q.1 q.2
/-- an edge's order -/
def eLt (a b : Str × Str) : Prop := sLt a.1 b.1 ∨ (a.1 = b.1 ∧ sLt a.2 b.2)
instance (a b : Str × Str) : Decidable (eLt a b) := inferInstanceAs (Decidable (_ ∨ _))
theorem eLt_irrefl (a : Str × Str) : ¬ eLt a a := fun h => h.elim (sLt_irrefl _) fun z => sLt_irrefl _ z.2
theorem eLt_total {a b : Str × Str} (h : ¬ eLt b a) (n : a ≠ b) : eLt a b := by
  rcases sLt_tri a.1 b.1 with z | z | z
  · exact .inl z
  · rcases sLt_tri a.2 b.2 with y | y | y
    · exact .inr ⟨z, y⟩
    · exact absurd (Prod.ext z y) n
    · exact absurd (.inr ⟨z.symm, y⟩) h
  · exact absurd (.inl z) h
abbrev AscE (xs : List (Str × Str)) : Prop := xs.Pairwise eLt
theorem ascE_nodup {xs : List (Str × Str)} (h : AscE xs) : xs.Nodup := by
  refine List.Pairwise.imp ?_ h
  intro a b z e
  subst e
  exact eLt_irrefl _ z
theorem ascE_of_sorted {xs : List (Str × Str)} (h : xs.Pairwise fun a b => ¬ eLt b a) (n : xs.Nodup) : AscE xs := by
  have z : xs.Pairwise fun a b => ¬ eLt b a ∧ a ≠ b := List.Pairwise.and h n
  exact z.imp fun {a b} q => eLt_total q.1 q.2

section
variable {K : PySem.W.Frag} {H : Hp} {Q : VK} {p : Addr}
theorem perm_of_map {α β : Type} {f : α → β} : ∀ {l : List β} {xs : List α}, l.Perm (xs.map f) → ∃ ys : List α, ys.Perm xs ∧ l = ys.map f := by
  intro l xs h
  generalize hm : xs.map f = m at h
  induction h generalizing xs with
  | nil =>
    cases xs with
    | nil => exact ⟨[], .nil, rfl⟩
    | cons _ _ => cases hm
  | cons x hp ih =>
    cases xs with
    | nil => cases hm
    | cons a as =>
      injection hm with h1 h2
      obtain ⟨ys, py, e⟩ := ih h2
      exact ⟨a :: ys, py.cons a, by rw [e, List.map_cons, h1]⟩
  | swap x y l =>
    cases xs with
    | nil => cases hm
    | cons a as =>
      cases as with
      | nil => cases hm
      | cons b bs =>
        injection hm with h1 h2
        injection h2 with h2 h3
        exact ⟨b :: a :: bs, .swap a b bs, by rw [List.map_cons, List.map_cons, h1, h2, h3]⟩
  | trans _ _ ih1 ih2 =>
    obtain ⟨ys, py, e⟩ := ih2 hm
    obtain ⟨zs, pz, e'⟩ := ih1 e.symm
    exact ⟨zs, pz.trans py, e'⟩
/-- sorted(a list of texts) -/
theorem rd_sortS {xs : List Str} (hs : SqL K H p (xs.map V.str)) (hl : xs.length ≤ 100000) (k : ∀ ys : List Str, ys.Perm xs → ys.Pairwise (fun a b => ¬ sLt b a) → nL (ys.map V.str) H Q) : rSortU K [.ref p] H Q := by
  refine ⟨xs.map fun x => (V.str x, PyData.str x), ?_, ⟨?_, ?_, ?_, ?_, ?_⟩, ?_⟩
  · rw [List.map_map]
    exact hs
  · intro b hb
    obtain ⟨x, _, rfl⟩ := List.mem_map.mp hb
    exact .str x
  · rw [List.map_map]
    exact PySem.W.AllAlike.of (enc := PyData.str) fun a b => by simp [PySem.W.alike]
  · rw [List.map_map]
    exact PySem.W.Sortable.others (enc := PyData.str) fun b => ⟨by simp, by simp⟩
  · intro b hb
    obtain ⟨x, _, rfl⟩ := List.mem_map.mp hb
    simp [PyData.depth]
  · rw [List.length_map]
    omega
  · intro cs pc sc
    obtain ⟨ys, py, rfl⟩ := perm_of_map pc
    rw [List.map_map]
    refine k ys py ?_
    rw [List.pairwise_map] at sc
    refine sc.imp fun {a b} z h => ?_
    have z' : PySem.W.dataLt (PyData.str b) (PyData.str a) = false := z
    rw [PySem.W.dataLt_str] at z'
    exact of_decide_eq_false z' h
/-- sorted(a list of pairs of texts): e is the pair's place, then the two -/
theorem rd_sortE {xs : List (Addr × Str × Str)} (hs : SqL K H p (xs.map fun e => V.ref e.1)) (ht : ∀ e ∈ xs, SqT K H e.1 [.str e.2.1, .str e.2.2]) (hl : xs.length ≤ 100000)
    (k : ∀ ys : List (Addr × Str × Str), ys.Perm xs → ys.Pairwise (fun a b => ¬ eLt b.2 a.2) → nL (ys.map fun e => V.ref e.1) H Q) : rSortU K [.ref p] H Q := by
  refine ⟨xs.map fun e => (V.ref e.1, PyData.tuple [.str e.2.1, .str e.2.2]), ?_, ⟨?_, ?_, ?_, ?_, ?_⟩, ?_⟩
  · rw [List.map_map]
    exact hs
  · intro b hb
    obtain ⟨x, hx, rfl⟩ := List.mem_map.mp hb
    exact .tup (ht x hx) (.cons (.str _) (.cons (.str _) .nil))
  · rw [List.map_map]
    exact PySem.W.AllAlike.of (enc := fun e : Addr × Str × Str => PyData.tuple [.str e.2.1, .str e.2.2]) fun a b => by simp [PySem.W.alike, PySem.W.alikeAll]
  · rw [List.map_map]
    exact PySem.W.Sortable.tuples (enc := fun e : Addr × Str × Str => PyData.tuple [.str e.2.1, .str e.2.2]) fun b => ⟨_, _, rfl⟩
  · intro b hb
    obtain ⟨x, _, rfl⟩ := List.mem_map.mp hb
    simp [PyData.depth, PyData.depthAll]
  · rw [List.length_map]
    omega
  · intro cs pc sc
    obtain ⟨ys, py, rfl⟩ := perm_of_map pc
    rw [List.map_map]
    refine k ys py ?_
    rw [List.pairwise_map] at sc
    refine sc.imp fun {a b} z h => ?_
    have z' : PySem.W.dataLt (PyData.tuple [.str b.2.1, .str b.2.2]) (PyData.tuple [.str a.2.1, .str a.2.2]) = false := z
    rw [PySem.W.dataLt_pair (by simp [PySem.W.alike]) (by simp [PySem.W.alike]), PySem.W.dataLt_str, PySem.W.dataLt_str] at z'
    simp only [PyData.eqv, beq_iff_eq] at z'
    rcases h with h | ⟨e, h⟩
    · have n : ¬ b.2.1 = a.2.1 := fun e => sLt_irrefl _ (by rw [e] at h; exact h)
      rw [if_neg n] at z'
      exact of_decide_eq_false z' h
    · rw [if_pos e] at z'
      have n : ¬ b.2.2 = a.2.2 := fun e => sLt_irrefl _ (by rw [e] at h; exact h)
      rw [if_neg n] at z'
      exact of_decide_eq_false z' h
end
end U

/-! names as the laws draw them -/
namespace U
open PySem PySem.Spec PyProof.Rows L2
/-- 1 to 8 small letters -/
structure IsName (z : Str) : Prop where
  lo : 1 ≤ z.length
  hi : z.length ≤ 8
  ch : ∀ c ∈ z.cps.toList, 97 ≤ c ∧ c ≤ 122
theorem letters_at {i : Int} (h0 : 0 ≤ i) (h1 : i < 26) : atI (Str.ofString "abcdefghijklmnopqrstuvwxyz").cps.toList i = some (97 + i.toNat) := by
  obtain ⟨n, rfl⟩ : ∃ n : Nat, i = (n : Int) := ⟨i.toNat, by omega⟩
  have all : ∀ n : Fin 26, (Str.ofString "abcdefghijklmnopqrstuvwxyz").cps.toList[(n : Nat)]? = some (97 + (n : Nat)) := by decide +kernel
  have hn : n < 26 := by omega
  rw [Int.toNat_natCast]
  exact atI_nat (all ⟨n, hn⟩)
theorem letters_len : (Str.ofString "abcdefghijklmnopqrstuvwxyz").length ≤ 100000 := by decide +kernel
theorem pick4 {a b c d r : Int} (h0 : 0 ≤ r) (h1 : r < 4) : ∃ v, atI [V.int a, .int b, .int c, .int d] r = some (.int v) ∧ (v = a ∨ v = b ∨ v = c ∨ v = d) := by
  have : r = 0 ∨ r = 1 ∨ r = 2 ∨ r = 3 := by omega
  rcases this with rfl | rfl | rfl | rfl
  · exact ⟨a, rfl, .inl rfl⟩
  · exact ⟨b, rfl, .inr (.inl rfl)⟩
  · exact ⟨c, rfl, .inr (.inr (.inl rfl))⟩
  · exact ⟨d, rfl, .inr (.inr (.inr rfl))⟩
theorem bToI_pick {x y : V} (b : Bool) : atI [x, y] (bToI b) = some (if b = true then y else x) := by cases b <;> rfl
/-- the letter c put into the text t at place a -/
def putIn (t : List Nat) (a c : Nat) : List Nat := t.take a ++ [c] ++ t.drop a
theorem putIn_len (t : List Nat) (a c : Nat) (h : a ≤ t.length) : (putIn t a c).length = t.length + 1 := by
  unfold putIn
  simp
  omega
theorem putIn_inj {t : List Nat} {a c d : Nat} (h : a ≤ t.length) (e : putIn t a c = putIn t a d) : c = d := by
  unfold putIn at e
  rw [List.append_assoc, List.append_assoc] at e
  have e2 := List.append_cancel_left e
  injection e2
theorem mem_putIn {t : List Nat} {a c x : Nat} (h : x ∈ putIn t a c) : x = c ∨ x ∈ t := by
  unfold putIn at h
  rw [List.mem_append, List.mem_append, List.mem_singleton] at h
  rcases h with (h | h) | h
  · exact .inr (List.mem_of_mem_take h)
  · exact .inl h
  · exact .inr (List.mem_of_mem_drop h)
/-- the k-th name: begin b, step s, the tail's letter and times, its place, whether mixed -/
def nameK (b s : Int) (t : List Nat) (a : Nat) (m : Bool) (k : Nat) : Str :=
  if m = true ∧ k % 2 = 1 then ⟨#[97 + ((b + s * (k : Int)) % 26).toNat]⟩ else ⟨(putIn t a (97 + ((b + s * (k : Int)) % 26).toNat)).toArray⟩
theorem nameK_ok {b s : Int} {n d a : Nat} {m : Bool} {k : Nat} (hn : n ≤ 7) (ha : a ≤ n) (hd : 97 ≤ d ∧ d ≤ 122) : IsName (nameK b s (List.replicate n d) a m k) := by
  have hc : 97 ≤ 97 + ((b + s * (k : Int)) % 26).toNat ∧ 97 + ((b + s * (k : Int)) % 26).toNat ≤ 122 := by omega
  unfold nameK
  generalize 97 + ((b + s * (k : Int)) % 26).toNat = c at hc
  split
  · exact ⟨by simp [Str.length], by simp [Str.length], fun x hx => by
      have : x = c := by simpa using hx
      rw [this]
      exact hc⟩
  · have hl : (putIn (List.replicate n d) a c).length = n + 1 := by rw [putIn_len _ _ _ (by rw [List.length_replicate]; exact ha), List.length_replicate]
    refine ⟨by simp [Str.length, hl], by simp [Str.length, hl]; omega, fun x hx => ?_⟩
    have hx' : x ∈ putIn (List.replicate n d) a c := by simpa using hx
    rcases mem_putIn hx' with e | e
    · rw [e]; exact hc
    · rw [List.eq_of_mem_replicate e]; exact hd
theorem nameK_inj {b s : Int} {n d a : Nat} {m : Bool} {j k : Nat} (ha : a ≤ n) (hs : s = 1 ∨ s = 3 ∨ s = 5 ∨ s = 7) (hj : j < 26) (hk : k < 26)
    (e : nameK b s (List.replicate n d) a m j = nameK b s (List.replicate n d) a m k) : j = k := by
  have core : ∀ {x y : Nat}, x = 97 + ((b + s * (j : Int)) % 26).toNat → y = 97 + ((b + s * (k : Int)) % 26).toNat → x = y → j = k := by
    intro x y hx hy q
    rcases hs with rfl | rfl | rfl | rfl <;> omega
  have hl : ∀ c, (putIn (List.replicate n d) a c).length = n + 1 := fun c => by rw [putIn_len _ _ _ (by rw [List.length_replicate]; exact ha), List.length_replicate]
  unfold nameK at e
  split at e <;> split at e
  · injection e with e
    have e2 := congrArg Array.toList e
    simp only [List.cons.injEq, and_true] at e2
    exact core rfl rfl e2
  · rename_i h1 h2
    exfalso
    injection e with e
    have e2 := congrArg Array.size e
    simp only [List.size_toArray, hl] at e2
    have hn : n = 0 := by simpa using e2.symm
    subst hn
    obtain rfl : a = 0 := by omega
    have e3 := congrArg Array.toList e
    simp only [putIn, List.replicate_zero, List.take_nil, List.nil_append, List.drop_nil, List.append_nil, List.cons.injEq, and_true] at e3
    have := core rfl rfl e3
    subst this
    exact h2 h1
  · rename_i h1 h2
    exfalso
    injection e with e
    have e2 := congrArg Array.size e
    simp only [List.size_toArray, hl] at e2
    have hn : n = 0 := by simpa using e2
    subst hn
    obtain rfl : a = 0 := by omega
    have e3 := congrArg Array.toList e
    simp only [putIn, List.replicate_zero, List.take_nil, List.nil_append, List.drop_nil, List.append_nil, List.cons.injEq, and_true] at e3
    have := core rfl rfl e3
    subst this
    exact h1 h2
  · injection e with e
    have e2 := congrArg Array.toList e
    exact core rfl rfl (putIn_inj (by rw [List.length_replicate]; exact ha) e2)
theorem names_nodup {b s : Int} {n d a : Nat} {m : Bool} (ha : a ≤ n) (hs : s = 1 ∨ s = 3 ∨ s = 5 ∨ s = 7) {many : Nat} (hm : many ≤ 26) : ((List.range many).map (nameK b s (List.replicate n d) a m)).Nodup := by
  rw [List.nodup_iff_pairwise_ne, List.pairwise_map]
  have h : (List.range many).Pairwise fun x y => x ≠ y := List.nodup_range
  refine (List.Pairwise.and_mem.mp h).imp ?_
  intro x y ⟨hx, hy, n⟩ e
  exact n (nameK_inj ha hs (by have := List.mem_range.mp hx; omega) (by have := List.mem_range.mp hy; omega) e)
/-- names, strictly upwards -/
structure Names (ys : List Str) : Prop where
  asc : Asc ys
  ok : ∀ y ∈ ys, IsName y
/-- names, each once, in any order -/
structure NamesU (ys : List Str) : Prop where
  nd : ys.Nodup
  ok : ∀ y ∈ ys, IsName y
theorem Names.u {ys : List Str} (h : Names ys) : NamesU ys := ⟨asc_nodup h.asc, h.ok⟩
theorem NamesU.perm {xs ys : List Str} (h : NamesU xs) (p : ys.Perm xs) : NamesU ys := ⟨p.nodup_iff.mpr h.nd, fun y hy => h.ok y (p.mem_iff.mp hy)⟩
/-! slices of a text -/
theorem cutS_to {z : Str} {i : Int} (h0 : 0 ≤ i) : cutS z none (some i) = ⟨(z.cps.toList.take i.toNat).toArray⟩ := by
  unfold cutS HT.sIx
  simp only [Nat.sub_zero, List.drop_zero]
  rw [if_neg (by omega)]
  congr 2
  have : z.cps.toList.length = z.length := by simp [Str.length]
  by_cases h : i.toNat ≤ z.length
  · rw [Nat.min_eq_left h]
  · rw [Nat.min_eq_right (by omega), List.take_of_length_le (by omega), List.take_of_length_le (by omega)]
theorem cutS_from {z : Str} {i : Int} (h0 : 0 ≤ i) : cutS z (some i) none = ⟨(z.cps.toList.drop i.toNat).toArray⟩ := by
  unfold cutS HT.sIx
  simp only
  rw [if_neg (by omega)]
  congr 1
  have hl : z.cps.toList.length = z.length := by simp [Str.length]
  by_cases h : i.toNat ≤ z.length
  · rw [Nat.min_eq_left h, List.take_of_length_le (by rw [List.length_drop]; omega)]
  · rw [Nat.min_eq_right (by omega), List.drop_of_length_le (by omega), List.drop_of_length_le (by omega), List.take_nil]
theorem str_app {a b : List Nat} : (⟨a.toArray⟩ : Str) ++ ⟨b.toArray⟩ = ⟨(a ++ b).toArray⟩ := str_ext (TL.tl_append _ _)
end U

/-! loops, dictionaries, unpacking: their readings by steps -/
namespace U
open PySem PySem.Spec PyProof.Rows L2
/-- what a loop over J asks -/
def ForB (J : It) (g : TG) (tb : TS) (D : Ends) (σ : L2.St) (H : Hp) : Prop := ∃ W : Nat → Nat → L2.St → Hp → Prop, (∃ m, W 0 m σ H) ∧ ∀ i m σ H, W i m σ H →
  (J.stop i H ∧ D.nx σ H) ∨ (J.go i H ∧ ∃ N : L2.St → Hp → Prop, (∀ σ' H', N σ' H' → ∃ m', m' < m ∧ W (i + 1) m' σ' H') ∧ ∀ x H', J.yld i H x H' → g x σ H' fun σ2 H2 => tb { D with nx := N, ct := N, bk := D.nx } σ2 H2)
def LcB (J : It) (g : TG) (tt : TT) (te : TE) (vs : List Nat) (σ : L2.St) (H1 : Hp) (D : Addr) (Qd : Hp → Prop) : Prop := ∃ W : Nat → Nat → Hp → Prop, (∃ m, W 0 m (upd H1 D (.lst []))) ∧ ∀ i m H, W i m H →
  (J.stop i H ∧ Qd H) ∨ (J.go i H ∧ ∃ Nx : Hp → Prop, (∀ H', Nx H' → ∃ m', m' < m ∧ W (i + 1) m' H') ∧ ∀ x H', J.yld i H x H' → g x (wipe σ vs) H' fun σ2 H2 => wipe σ2 vs = wipe σ vs ∧ tt σ2 H2 fun b H3 =>
    if b = true then te σ2 H3 fun y H4 => ∃ acc, H4 D = some (.lst acc) ∧ acc.length < sizeLine ∧ Nx (upd H4 D (.lst (acc ++ [y]))) else Nx H3)
section
variable {σ : L2.St} {H : Hp} {Q : VK} {D : Ends} {v x y : V} {i j : Int} {ta tb tc te td ty tv : TE} {t u : TS} {K : PySem.W.Frag} {g : TG} {wi : TI} {R : It → Hp → Prop} {tr : TA}
theorem rd_for (h : wi σ H fun J H1 => ForB J g t D σ H1) : tFor wi g t D σ H := h
theorem rd_rng1 (h : tr σ H fun vs H1 => ∃ j : Int, vs = [.int j] ∧ -(2 ^ 62) ≤ j ∧ j < 2 ^ 62 ∧ R (Itr 0 j.toNat) H1) : iRng1 tr σ H R := h
theorem rd_rng2 (h : tr σ H fun vs H1 => ∃ i j : Int, vs = [.int i, .int j] ∧ (-(2 ^ 62) ≤ i ∧ i < 2 ^ 62 ∧ -(2 ^ 62) ≤ j ∧ j < 2 ^ 62) ∧ R (Itr i (j - i).toNat) H1) : iRng2 tr σ H R := h
theorem rd_iList (h : te σ H fun x H1 => ∃ a, x = .ref a ∧ (∃ xs, SqL K H1 a xs) ∧ R (Itl K a) H1) : iList K te σ H R := h
theorem rd_iTup (h : te σ H fun x H1 => ∃ a, x = .ref a ∧ (∃ xs, SqT K H1 a xs) ∧ R (Itt K a) H1) : iTup K te σ H R := h
theorem rd_iEnum (h : tr σ H fun vs H1 => ∃ a xs, vs = [.ref a] ∧ SqL K H1 a xs ∧ R (Ite K a) H1) : iEnum K tr σ H R := h
theorem rd_forL {p : Addr} {xs : List V} {R : Addr → Prop} (hs : SqL K H p xs) (h : R p) : ∃ a, V.ref p = .ref a ∧ (∃ xs, SqL K H a xs) ∧ R a := ⟨p, rfl, ⟨xs, hs⟩, h⟩
theorem rd_forT {p : Addr} {xs : List V} {R : Addr → Prop} (hs : SqT K H p xs) (h : R p) : ∃ a, V.ref p = .ref a ∧ (∃ xs, SqT K H a xs) ∧ R a := ⟨p, rfl, ⟨xs, hs⟩, h⟩
theorem rd_forR {R : Int → Prop} (h0 : -(2 ^ 62) ≤ j) (h1 : j < 2 ^ 62) (h : R j) : ∃ k : Int, [V.int j] = [.int k] ∧ -(2 ^ 62) ≤ k ∧ k < 2 ^ 62 ∧ R k := ⟨j, rfl, h0, h1, h⟩
theorem rd_forE {p : Addr} {xs : List V} {R : Addr → Prop} (hs : SqL K H p xs) (h : R p) : ∃ a xs, [V.ref p] = [.ref a] ∧ SqL K H a xs ∧ R a := ⟨p, xs, rfl, hs, h⟩
theorem turnsR {lo : Int} {n : Nat} (Pv : Nat → L2.St → Hp → Prop) (h0 : Pv 0 σ H) (hs : ∀ i σ H, i < n → Pv i σ H → g (.int (lo + i)) σ H fun σ2 H2 => t { D with nx := Pv (i + 1), ct := Pv (i + 1), bk := D.nx } σ2 H2)
    (hd : ∀ σ H, Pv n σ H → D.nx σ H) : ForB (Itr lo n) g t D σ H := for_range Pv h0 hs hd
theorem turnsL {a : Addr} {xs : List V} (Pv : Nat → L2.St → Hp → Prop) (h0 : Pv 0 σ H) (hl : ∀ i σ H, i ≤ xs.length → Pv i σ H → SqL K H a xs)
    (hs : ∀ i x σ H, xs[i]? = some x → Pv i σ H → g x σ H fun σ2 H2 => t { D with nx := Pv (i + 1), ct := Pv (i + 1), bk := D.nx } σ2 H2) (hd : ∀ σ H, Pv xs.length σ H → D.nx σ H) : ForB (Itl K a) g t D σ H := for_list Pv h0 hl hs hd
theorem turnsT {a : Addr} {xs : List V} (Pv : Nat → L2.St → Hp → Prop) (h0 : Pv 0 σ H) (hl : ∀ i σ H, i ≤ xs.length → Pv i σ H → SqT K H a xs)
    (hs : ∀ i x σ H, xs[i]? = some x → Pv i σ H → g x σ H fun σ2 H2 => t { D with nx := Pv (i + 1), ct := Pv (i + 1), bk := D.nx } σ2 H2) (hd : ∀ σ H, Pv xs.length σ H → D.nx σ H) : ForB (Itt K a) g t D σ H := for_tup Pv h0 hl hs hd
theorem turnsW {J : It} {n : Nat} {G : Hp → Prop} {Y : Nat → Hp → V → Hp → Prop} (w : Walk J n G Y) (Pv : Nat → L2.St → Hp → Prop) (h0 : Pv 0 σ H) (hG : ∀ i σ H, i ≤ n → Pv i σ H → G H)
    (hs : ∀ i x σ H H', i < n → Pv i σ H → Y i H x H' → g x σ H' fun σ2 H2 => t { D with nx := Pv (i + 1), ct := Pv (i + 1), bk := D.nx } σ2 H2) (hd : ∀ σ H, Pv n σ H → D.nx σ H) : ForB J g t D σ H := for_it w Pv h0 hG hs hd
theorem rd_lc {tt : TT} {vs : List Nat} (h : wi σ H fun J H1 => ∀ D, H1 D = none → LcB J g tt te vs σ H1 D fun H2 => Q (.ref D) H2) : tLc wi g tt te vs σ H Q := h
theorem lcR {lo : Int} {n : Nat} {tt : TT} {vs : List Nat} {D : Addr} {Qd : Hp → Prop} (Pv : Nat → Hp → Prop) (h0 : Pv 0 (upd H D (.lst [])))
    (hs : ∀ i H, i < n → Pv i H → g (.int (lo + i)) (wipe σ vs) H fun σ2 H2 => wipe σ2 vs = wipe σ vs ∧ tt σ2 H2 fun b H3 =>
      if b = true then te σ2 H3 fun y H4 => ∃ acc, H4 D = some (.lst acc) ∧ acc.length < sizeLine ∧ Pv (i + 1) (upd H4 D (.lst (acc ++ [y]))) else Pv (i + 1) H3) (hd : ∀ H, Pv n H → Qd H) : LcB (Itr lo n) g tt te vs σ H D Qd := lc_range Pv h0 hs hd
/-- unpacking -/
theorem rd_unp {n : Nat} {ts : TGs} {p : Addr} {xs : List V} {Q : L2.St → Hp → Prop} (hs : SqT K H p xs) (hl : xs.length = n) (h : ts xs σ H Q) : gTup K n ts (.ref p) σ H Q := ⟨p, xs, rfl, hs, hl, h⟩
theorem rd_gcons {tg : TG} {u : TGs} {vr : List V} {Q : L2.St → Hp → Prop} (h : tg v σ H fun σ1 H1 => u vr σ1 H1 Q) : gCons tg u (v :: vr) σ H Q := ⟨v, vr, rfl, h⟩
theorem rd_gnil {Q : L2.St → Hp → Prop} (h : Q σ H) : gNil [] σ H Q := ⟨rfl, h⟩
/-- dictionaries -/
theorem rd_dget (h : td σ H fun x H1 => ty σ H1 fun y H2 => ∃ a v, x = .ref a ∧ DGet H2 a y (some v) ∧ Q v H2) : tDGet td ty σ H Q := h
theorem rd_dat {p : Addr} {kvs : List (Key × V)} {k : Key} (hs : Rd H p (.dK kvs)) (hv : valV kvs k = some v) {R : V → Prop} (hy : y = kV k) (h : R v) : ∃ a v, V.ref p = .ref a ∧ DGet H a y (some v) ∧ R v := ⟨p, v, rfl, .inl ⟨kvs, k, hs, hy, hv.symm⟩, h⟩
theorem rd_dput (h : tv σ H fun v H1 => td σ H1 fun x H2 => ty σ H2 fun y H3 => ∃ a H4, x = .ref a ∧ DPut H3 a y v H4 ∧ D.nx σ H4) : sDPut td ty tv D σ H := h
end
end U

/-! lists of texts as data -/
namespace U
open PySem PySem.Spec PyProof.Rows L2
theorem IsName.sok {z : Str} (h : IsName z) : PyData.strOk z = true := by
  unfold PyData.strOk
  rw [Array.all_eq_true_iff_forall_mem]
  intro x hx
  have := h.ch x (by simpa using hx)
  rw [decide_eq_true_eq]
  omega
theorem erase_map {α β : Type} {f : α → β} : ∀ {xs : List α} {i : Nat}, (xs.map f).eraseIdx i = (xs.eraseIdx i).map f
  | [], _ => by simp
  | _ :: _, 0 => rfl
  | x :: xs, i + 1 => by
    show f x :: (xs.map f).eraseIdx i = f x :: (xs.eraseIdx i).map f
    rw [erase_map]
theorem erase_perm {α : Type} : ∀ {xs : List α} {i : Nat} (h : i < xs.length), (xs[i] :: xs.eraseIdx i).Perm xs
  | _ :: _, 0, _ => .refl _
  | x :: xs, i + 1, h => by
    have h' : i < xs.length := Nat.lt_of_succ_lt_succ h
    show (xs[i] :: x :: xs.eraseIdx i).Perm (x :: xs)
    exact (List.Perm.swap x xs[i] _).trans ((erase_perm h').cons x)
section
variable {K : PySem.W.Frag} {H : Hp} {Q : VK} {p q : Addr}
theorem dp_strs : ∀ (xs : List Str), DpAll K H (xs.map V.str) (xs.map PyData.str)
  | [] => .nil
  | x :: xs => .cons (.str x) (dp_strs xs)
theorem can_strs : ∀ {xs : List Str}, (∀ x ∈ xs, PyData.strOk x = true) → PyData.canLayAll0 (xs.map PyData.str) = true
  | [], _ => by simp [PyData.canLayAll0]
  | x :: xs, h => by
    rw [List.map_cons, PyData.canLayAll0, PyData.canLay0, h x List.mem_cons_self, can_strs fun y hy => h y (List.mem_cons_of_mem _ hy)]
    rfl
theorem dep_strs : ∀ {xs : List Str}, PyData.depthAll (xs.map PyData.str) = 0
  | [] => by simp [PyData.depthAll]
  | x :: xs => by
    rw [List.map_cons, PyData.depthAll, dep_strs, PyData.depth]
    rfl
theorem shp_strs {xs : List Str} (h : ∀ x ∈ xs, PyData.strOk x = true) : SeqAt.shaped (.list (xs.map PyData.str)) = true := by
  unfold SeqAt.shaped
  rw [PyData.canLay0, can_strs h, PyData.depth, dep_strs]
  rfl
theorem eqv_nil {xs : List Str} : PyData.eqv (.list (xs.map PyData.str)) (.list []) = xs.isEmpty := by
  cases xs with
  | nil => simp [PyData.eqv, PyData.eqvAll]
  | cons _ _ => simp [PyData.eqv, PyData.eqvAll]
/-- xs != [] -/
theorem rd_neNil {xs : List Str} (hp : SqL K H p (xs.map V.str)) (hq : SqL K H q []) (ok : ∀ x ∈ xs, PyData.strOk x = true) (h : Q (.bl (!xs.isEmpty)) H) : rNeU K (.ref p) (.ref q) H Q := by
  refine ⟨_, _, .lst hp (dp_strs xs), .lst hq .nil, shp_strs ok, by decide, ?_⟩
  rw [eqv_nil]
  exact h
theorem rd_popAt {xs : List V} {i : Int} {v : V} {k : Nat} (hs : H p = some (.lst xs)) (h0 : 0 ≤ i) (hk : i.toNat = k) (hl : xs.length < 100000) (hv : xs[k]? = some v) (h : Q v (upd H p (.lst (xs.eraseIdx k)))) : rPopAt (.ref p) [.int i] H Q := by
  obtain ⟨hlt, _⟩ := List.getElem?_eq_some_iff.mp hv
  refine ⟨p, xs, i, k, v, rfl, rfl, hs, by omega, by omega, ?_, hv, h⟩
  rw [seqIndex_of h0 (by omega), hk]
end
end U

/-! graphs and states as the laws draw them -/
namespace U
open PySem PySem.Spec PyProof.Rows L2
/-- the two names, the lower first -/
def eOf (a b : Str) : Str × Str := if sLt a b then (a, b) else (b, a)
theorem eOf_cases (a b : Str) : eOf a b = (a, b) ∨ eOf a b = (b, a) := by
  unfold eOf
  split
  · exact .inl rfl
  · exact .inr rfl
theorem eOf_lt {a b : Str} (n : a ≠ b) : sLt (eOf a b).1 (eOf a b).2 := by
  unfold eOf
  split
  · assumption
  · rename_i h
    exact sLt_total h (Ne.symm n)
theorem eOf_inj {a b c d : Str} (h : eOf a b = eOf c d) : (a = c ∧ b = d) ∨ (a = d ∧ b = c) := by
  rcases eOf_cases a b with e | e <;> rcases eOf_cases c d with e' | e' <;> rw [e, e'] at h <;> injection h with h1 h2
  · exact .inl ⟨h1, h2⟩
  · exact .inr ⟨h1, h2⟩
  · exact .inr ⟨h2, h1⟩
  · exact .inl ⟨h2, h1⟩
/-- the state's pairs -/
abbrev kvsOf (ws : List (Str × Int)) : List (Key × V) := ws.map fun p => (Sum.inr p.1, V.int p.2)
/-- the number of the node n -/
def numOf (ws : List (Str × Int)) (n : Str) : Int := (ws.lookup n).getD 0
theorem val_kvs : ∀ {ws : List (Str × Int)} {n : Str}, n ∈ ws.map (·.1) → valV (kvsOf ws) (.inr n) = some (.int (numOf ws n))
  | p :: ws, n, h => by
    by_cases e : n = p.1
    · subst e
      rw [kvsOf, List.map_cons, valV_pos rfl]
      unfold numOf
      rw [List.lookup_cons_self]
      rfl
    · have e' : ¬ (Sum.inr p.1 : Key) = Sum.inr n := fun z => e (Sum.inr.inj z).symm
      rw [kvsOf, List.map_cons, valV_neg e']
      have : n ∈ ws.map (·.1) := by
        rcases List.mem_cons.mp h with z | z
        · exact absurd z e
        · exact z
      have r := val_kvs this
      rw [kvsOf] at r
      rw [r]
      unfold numOf
      rw [List.lookup_cons, show (n == p.1) = false from beq_eq_false_iff_ne.mpr e]
theorem val_none : ∀ {ws : List (Str × Int)} {n : Str}, n ∉ ws.map (·.1) → valV (kvsOf ws) (.inr n) = none
  | [], _, _ => rfl
  | p :: ws, n, h => by
    have e' : ¬ (Sum.inr p.1 : Key) = Sum.inr n := fun z => h (by rw [← Sum.inr.inj z]; exact List.mem_cons_self)
    rw [kvsOf, List.map_cons, valV_neg e']
    exact val_none fun z => h (List.mem_cons_of_mem _ z)
theorem put_kvs {ws : List (Str × Int)} {n : Str} {v : Int} (h : n ∉ ws.map (·.1)) : putK (kvsOf ws) (.inr n) (.int v) = kvsOf (ws ++ [(n, v)]) := by
  rw [putK_new _ (val_none h), kvsOf, kvsOf, List.map_append]
  rfl
theorem num_mem : ∀ {ws : List (Str × Int)} {n : Str}, n ∈ ws.map (·.1) → (n, numOf ws n) ∈ ws
  | p :: ws, n, h => by
    unfold numOf
    rw [List.lookup_cons]
    by_cases e : n = p.1
    · rw [show (n == p.1) = true from beq_iff_eq.mpr e]
      subst e
      exact List.mem_cons_self
    · rw [show (n == p.1) = false from beq_eq_false_iff_ne.mpr e]
      have : n ∈ ws.map (·.1) := by
        rcases List.mem_cons.mp h with z | z
        · exact absurd z e
        · exact z
      exact List.mem_cons_of_mem _ (num_mem this)
/-- a state: each name once, in the order ord, a number of 0, 1, 2 -/
structure StOk (ord : List Str) (ws : List (Str × Int)) : Prop where
  key : ws.map (·.1) = ord
  num : ∀ p ∈ ws, 0 ≤ p.2 ∧ p.2 < 3
theorem StOk.at {ord : List Str} {ws : List (Str × Int)} (h : StOk ord ws) {n : Str} (hn : n ∈ ord) : 0 ≤ numOf ws n ∧ numOf ws n < 3 := h.num _ (num_mem (by rw [h.key]; exact hn))
theorem StOk.val {ord : List Str} {ws : List (Str × Int)} (h : StOk ord ws) {n : Str} (hn : n ∈ ord) : valV (kvsOf ws) (.inr n) = some (.int (numOf ws n)) := val_kvs (by rw [h.key]; exact hn)
/-- the edges as they are found: at turn i, j -/
structure EdgesIn (ord : List Str) (f : Str → Int) (i j : Nat) (es : List (Addr × Str × Str)) : Prop where
  nd : (es.map (·.2)).Nodup
  of : ∀ e ∈ es, ∃ i' j', ∃ (hi : i' < ord.length) (hj : j' < ord.length), j' < i' ∧ (i' < i ∨ (i' = i ∧ j' < j)) ∧ e.2 = eOf ord[i'] ord[j'] ∧ f ord[i'] ≠ f ord[j']
theorem EdgesIn.step {ord : List Str} {f : Str → Int} {i j i2 j2 : Nat} {es : List (Addr × Str × Str)} (h : EdgesIn ord f i j es) (c : i < i2 ∨ (i = i2 ∧ j ≤ j2)) : EdgesIn ord f i2 j2 es :=
  ⟨h.nd, fun e he => by
    obtain ⟨i', j', hi, hj, h1, h2, h3⟩ := h.of e he
    exact ⟨i', j', hi, hj, h1, by omega, h3⟩⟩
theorem EdgesIn.add {ord : List Str} {f : Str → Int} {i j : Nat} {es : List (Addr × Str × Str)} {t : Addr} (h : EdgesIn ord f i j es) (nd : ord.Nodup) (hij : j < i) (hi : i < ord.length) (hj : j < ord.length) (hf : f ord[i] ≠ f ord[j]) :
    EdgesIn ord f i (j + 1) (es ++ [(t, eOf ord[i] ord[j])]) := by
  have inj : ∀ {a b : Nat} (ha : a < ord.length) (hb : b < ord.length), ord[a] = ord[b] → a = b := by
    intro a b ha hb e
    have z := List.pairwise_iff_getElem.mp (List.nodup_iff_pairwise_ne.mp nd)
    rcases Nat.lt_trichotomy a b with h | h | h
    · exact absurd e (z a b ha hb h)
    · exact h
    · exact absurd e.symm (z b a hb ha h)
  refine ⟨?_, ?_⟩
  · rw [List.map_append, List.nodup_append]
    refine ⟨h.nd, by simp, ?_⟩
    intro x hx y hy e
    obtain ⟨z, hz, rfl⟩ := List.mem_map.mp hx
    have : y = eOf ord[i] ord[j] := by simpa using hy
    subst this
    obtain ⟨i', j', hi', hj', h1, h2, h3, _⟩ := h.of z hz
    rw [h3] at e
    rcases eOf_inj e with ⟨e1, e2⟩ | ⟨e1, e2⟩
    · have := inj _ _ e1
      have := inj _ _ e2
      omega
    · have := inj _ _ e1
      have := inj _ _ e2
      omega
  · intro e he
    rcases List.mem_append.mp he with he | he
    · obtain ⟨i', j', hi', hj', h1, h2, h3⟩ := h.of e he
      exact ⟨i', j', hi', hj', h1, by omega, h3⟩
    · have : e = (t, eOf ord[i] ord[j]) := by simpa using he
      subst this
      exact ⟨i, j, hi, hj, hij, by omega, rfl, hf⟩
/-- a graph: names upwards, edges upwards, each with its lower name first -/
structure GrOk (ns : List Str) (es : List (Str × Str)) : Prop where
  names : Names ns
  asc : AscE es
  lt : ∀ e ∈ es, sLt e.1 e.2
  mem : ∀ e ∈ es, e.1 ∈ ns ∧ e.2 ∈ ns
/-- the graph stands at g -/
structure GrAt (H : Hp) (g n e : Addr) (ns : List Str) (es : List (Addr × Str × Str)) : Prop where
  top : H g = some (.tup [.ref n, .ref e])
  nodes : H n = some (.tup (ns.map V.str))
  edges : H e = some (.tup (es.map fun x => V.ref x.1))
  pairs : ∀ x ∈ es, H x.1 = some (.tup [.str x.2.1, .str x.2.2])
theorem cutV_to {xs : List V} {i : Nat} (h : i ≤ xs.length) : cutV xs none (some (i : Int)) = xs.take i := by
  unfold cutV HT.sIx
  simp only [Nat.sub_zero, List.drop_zero]
  rw [if_neg (by omega), Int.toNat_natCast, Nat.min_eq_left h]
theorem map_at {α : Type} {f : α → V} {xs : List α} {i : Nat} {x : V} (h : (xs.map f)[i]? = some x) : ∃ hi : i < xs.length, x = f xs[i] := by
  rw [List.getElem?_map] at h
  by_cases hi : i < xs.length
  · rw [List.getElem?_eq_getElem hi] at h
    exact ⟨hi, (Option.some.inj h).symm⟩
  · rw [List.getElem?_eq_none (by omega)] at h
    cases h
theorem StOk.nil : StOk [] [] := ⟨rfl, fun _ h => nomatch h⟩
theorem StOk.add {ord : List Str} {ws : List (Str × Int)} {i : Nat} {v : Int} (h : StOk (ord.take i) ws) (hi : i < ord.length) (h0 : 0 ≤ v) (h1 : v < 3) : StOk (ord.take (i + 1)) (ws ++ [(ord[i], v)]) := by
  refine ⟨?_, ?_⟩
  · rw [List.map_append, h.key, List.take_succ, List.getElem?_eq_getElem hi]
    rfl
  · intro p hp
    rcases List.mem_append.mp hp with hp | hp
    · exact h.num p hp
    · have : p = (ord[i], v) := by simpa using hp
      subst this
      exact ⟨h0, h1⟩
theorem StOk.not {ord : List Str} {ws : List (Str × Int)} {i : Nat} (h : StOk (ord.take i) ws) (nd : ord.Nodup) (hi : i < ord.length) : ord[i] ∉ ws.map (·.1) := by
  rw [h.key]
  intro hm
  obtain ⟨j, hj, e⟩ := List.mem_iff_getElem.mp hm
  rw [List.length_take] at hj
  have e' : ord[j] = ord[i] := by rw [← e, List.getElem_take]
  have z := List.pairwise_iff_getElem.mp (List.nodup_iff_pairwise_ne.mp nd)
  exact z j i (by omega) hi (by omega) e'
theorem eOf_pair {a b : Str} : (if sLt a b then [V.str a, V.str b] else [V.str b, V.str a]) = [V.str (eOf a b).1, V.str (eOf a b).2] := by
  unfold eOf
  split <;> rfl
section
variable {K : PySem.W.Frag} {H : Hp} {Q : VK} {p q : Addr} {σ : L2.St}
theorem rd_dnew (h : ∀ d, H d = none → Q (.ref d) (upd H d (.dK []))) : tDNewK σ H Q := h
theorem rd_dset {kvs : List (Key × V)} {k : Key} {y v : V} {R : Hp → Prop} (hs : H p = some (.dK kvs)) (hy : y = kV k) (hl : kvs.length < 100000) (h : R (upd H p (.dK (putK kvs k v)))) :
    ∃ a H4, V.ref p = .ref a ∧ DPut H a y v H4 ∧ R H4 := ⟨p, _, rfl, .inl ⟨kvs, k, hs, hy, Nat.lt_of_lt_of_le hl (by decide), rfl⟩, h⟩
end
end U

/-! comprehensions, locks, statements that are never reached: their readings -/
namespace U
open PySem PySem.Spec PyProof.Rows L2
def tCK (sp : Sp) (np nk : Nat) (E : XK) (t tk : TA) : TE := fun σ H Q => t σ H fun vs H1 => vs.length = np ∧ tk σ H1 fun zs H2 => zs.length = nk ∧ sp (vs ++ zs) H2 Q E
def DcB (J : It) (g : TG) (tt : TT) (tk tv : TE) (vs : List Nat) (σ : L2.St) (H1 : Hp) (D : Addr) (Qd : Hp → Prop) : Prop := ∃ W : Nat → Nat → Hp → Prop, (∃ m, W 0 m (upd H1 D (.dK []))) ∧ ∀ i m H, W i m H →
  (J.stop i H ∧ Qd H) ∨ (J.go i H ∧ ∃ Nx : Hp → Prop, (∀ H', Nx H' → ∃ m', m' < m ∧ W (i + 1) m' H') ∧ ∀ x H', J.yld i H x H' → g x (wipe σ vs) H' fun σ2 H2 => wipe σ2 vs = wipe σ vs ∧ tt σ2 H2 fun b H3 =>
    if b = true then tk σ2 H3 fun y H4 => tv σ2 H4 fun z H5 => ∃ kvs k, y = kV k ∧ H5 D = some (.dK kvs) ∧ kvs.length < sizeLine ∧ Nx (upd H5 D (.dK (putK kvs k z))) else Nx H3)
section
variable {σ : L2.St} {H : Hp} {Q : VK} {D : Ends} {te td ty tv : TE} {t : TS} {g : TG} {wi : TI} {R : It → Hp → Prop} {tt : TT} {vs : List Nat} {L : Addr} {Qd : Hp → Prop} {J : It} {n : Nat} {G : Hp → Prop} {Y : Nat → Hp → V → Hp → Prop} {K : PySem.W.Frag}
theorem rd_dc {tk : TE} (h : wi σ H fun J H1 => ∀ D, H1 D = none → DcB J g tt tk tv vs σ H1 D fun H2 => Q (.ref D) H2) : tDc wi g tt tk tv vs σ H Q := h
theorem rd_iItems (h : td σ H fun x H1 => ∃ d o kvs, x = .ref d ∧ H1 d = some (.frz o (.dK kvs)) ∧ R (Iti d o kvs) H1) : iItems td σ H R := h
theorem rd_iKeys (h : td σ H fun x H1 => ∃ d o, x = .ref d ∧ ((∃ kvs, H1 d = some (.frz o (.dK kvs)) ∧ R (Itk d o kvs) H1) ∨ ∃ kvs, H1 d = some (.frz o (.dT kvs)) ∧ R (Itkt d o kvs) H1)) : iKeys td σ H R := h
theorem rd_wp {vs : List Nat} {σ1 σ2 : L2.St} {P : Prop} (e : wipe σ1 vs = wipe σ2 vs) (h : P) : wipe σ1 vs = wipe σ2 vs ∧ P := ⟨e, h⟩
theorem rd_yesT {Q : Bool → Hp → Prop} (h : Q true H) : tYes σ H Q := h
theorem rd_acc {L : Addr} {acc : List V} {R : List V → Prop} (hL : H L = some (.lst acc)) (hz : acc.length < 100000) (h : R acc) : ∃ acc, H L = some (.lst acc) ∧ acc.length < sizeLine ∧ R acc := ⟨acc, hL, Nat.lt_of_lt_of_le hz (by decide), h⟩
theorem rd_catL {p q : Addr} {xs ys : List V} (h1 : H p = some (.lst xs)) (h2 : H q = some (.lst ys)) (hz : xs.length + ys.length ≤ 100000) (h : nL (xs ++ ys) H Q) : rAddU K (.ref p) (.ref q) H Q := .inl ⟨xs, ys, h1, h2, Nat.le_trans hz (by decide), h⟩
theorem GrAt.same {H' : Hp} {g n e : Addr} {ns : List Str} {es : List (Addr × Str × Str)} (h : GrAt H g n e ns es) (s : Same H H') : GrAt H' g n e ns es :=
  ⟨s _ _ h.top, s _ _ h.nodes, s _ _ h.edges, fun x hx => s _ _ (h.pairs x hx)⟩
theorem GrAt.but {H' : Hp} {p g n e : Addr} {ys : List V} {ns : List Str} {es : List (Addr × Str × Str)} (h : GrAt H g n e ns es) (hp : H p = some (.lst ys)) (b : But p H H') : GrAt H' g n e ns es := by
  have k : ∀ {a : Addr} {xs : List V}, H a = some (.tup xs) → H' a = some (.tup xs) := fun {a xs} ha => b _ _ (ne_of ha hp (by intro z; cases z)) ha
  exact ⟨k h.top, k h.nodes, k h.edges, fun x hx => k (h.pairs x hx)⟩
theorem But.dK {H' : Hp} {p d : Addr} {ys : List V} {kvs : List (Key × V)} (b : But p H H') (hp : H p = some (.lst ys)) (h : H d = some (.dK kvs)) : H' d = some (.dK kvs) := b _ _ (ne_of h hp (by intro z; cases z)) h
theorem But.tup {H' : Hp} {p d : Addr} {ys xs : List V} (b : But p H H') (hp : H p = some (.lst ys)) (h : H d = some (.tup xs)) : H' d = some (.tup xs) := b _ _ (ne_of h hp (by intro z; cases z)) h
theorem same_put {H1 : Hp} {a : Addr} {o : HO} (s : Same H H1) (n : H a = none) : Same H (upd H1 a o) := fun c u h => at_upd (ne_of_none h n) (s c u h)
theorem same_add {H1 : Hp} {a : Addr} {o : HO} (s : Same H H1) (n : H1 a = none) : Same H (upd H1 a o) := fun c u h => at_upd (ne_of_none (s c u h) n) (s c u h)
theorem rd_isi {x : V} {n : String} {a t : Ty} (h1 : TyIs K H x a) (h2 : tyOf n = some t) (h : Q (.bl (isT a t)) H) : rIsiU K [x, .ty n] H Q := ⟨a, t, h1, h2, h⟩
theorem rd_din (h : ty σ H fun y H1 => td σ H1 fun x H2 => ∃ a o, x = .ref a ∧ DGet H2 a y o ∧ Q (.bl o.isSome) H2) : tDIn ty td σ H Q := h
theorem rd_dnin (h : ty σ H fun y H1 => td σ H1 fun x H2 => ∃ a o, x = .ref a ∧ DGet H2 a y o ∧ Q (.bl (!o.isSome)) H2) : tDNotIn ty td σ H Q := h
theorem rd_nT {A B : Prop} (h : B) : if (!true) = true then A else B := h
theorem rd_nF {A B : Prop} (h : A) : if (!false) = true then A else B := h
/-- repr of a truth value -/
def shB (b : Bool) : Str := if b then "True" else "False"
def rReprU : List V → Hp → VK → Prop := fun xs H Q => match xs with
  | [.bl b] => Q (.str (shB b)) H
  | _ => False
theorem cRepr {X : Cx} : CallR X (.builtin "repr") rReprU := by
  intro pins s σ H xs us Q I r h
  match xs, h with
  | [.bl b], h =>
    cases r with
    | cons r rr =>
      cases rr
      cases r
      exact PySem.P.repr_of_bool ⟨.str _, H, I.tok _, ⟨_, rfl⟩, h⟩
theorem rd_reprB {b : Bool} (h : Q (.str (shB b)) H) : rReprU [.bl b] H Q := h
theorem rd_ck {sp : Sp} {E : XK} {np nk : Nat} {t tk : TA} (h : t σ H fun vs H1 => vs.length = np ∧ tk σ H1 fun zs H2 => zs.length = nk ∧ sp (vs ++ zs) H2 Q E) : tCK sp np nk E t tk σ H Q := h
theorem rd_len {vs : List V} {k : Nat} {P : Prop} (e : vs.length = k) (h : P) : vs.length = k ∧ P := ⟨e, h⟩
theorem rd_par {i j : Nat} {ta : TA} (h : ta σ H fun vs H1 => ∃ v w, vs = [v, w] ∧ D.nx ((σ.set i (some v)).set j (some w)) H1) : tPar i j ta D σ H := h
theorem rd_two {v w' : V} {R : V → V → Prop} (h : R v w') : ∃ x y, [v, w'] = [x, y] ∧ R x y := ⟨v, w', rfl, h⟩
theorem rd_allL {p : Addr} {bs : List Bool} (hs : SqL K H p (bs.map V.bl)) (h : Q (.bl (bs.all id)) H) : rAllU K [.ref p] H Q := ⟨bs, hs, h⟩
theorem rd_isB {a b : Bool} (h : Q (.bl (decide (a = b))) H) : rIsU (.bl a) (.bl b) H Q := ⟨a, rfl, h⟩
theorem rd_isNotB {a b : Bool} (h : Q (.bl (!decide (a = b))) H) : rIsNotU (.bl a) (.bl b) H Q := ⟨a, rfl, h⟩
theorem rd_daug {rd : V → V → Hp → VK → Prop} (h : td σ H fun x H1 => ty σ H1 fun y H2 => ∃ a v, x = .ref a ∧ DGet H2 a y (some v) ∧
  tv σ H2 fun y2 H3 => rd v y2 H3 fun z H4 => ∃ H5, DPut H4 a y z H5 ∧ D.nx σ H5) : sDAug td ty tv rd D σ H := h
end
end U

/-! exceptions that outlive their handler; own classes over own classes -/
namespace U
open PySem PySem.Spec PyProof.Rows L2
/-- at a: an exception of the class cls, its dict at d -/
def exk (a : Addr) (cls : Value) (d : Option Addr) : HO := .ext fun h => ∃ oe vs, h.get? a = some oe ∧ Zc cls d oe ∧ oe.data = .fields vs
theorem exk_ok {P : Program} {w : World} {H : Hp} {h : Heap} {a : Addr} {cls : Value} {d : Option Addr} {oe : Obj} {vs : Array Value} (e : h.get? a = some oe) (z : Zc cls d oe) (f : oe.data = .fields vs) : ObjOk P w H h a (exk a cls d) := by
  refine ⟨⟨oe, vs, e, z, f⟩, ⟨_, e⟩, fun h1 h2 t k => ?_⟩
  obtain ⟨o2, v2, e2, z2, f2⟩ := t
  exact ⟨o2, v2, k _ e2, z2, f2⟩
theorem exk_at {P : Program} {w : World} {H : Hp} {h : Heap} {a : Addr} {cls : Value} {d : Option Addr} (hok : HOk P w H h) (e : H a = some (exk a cls d)) : ∃ oe vs, h.get? a = some oe ∧ Zc cls d oe ∧ oe.data = .fields vs := by
  have t : ObjOk P w H h a (.ext fun h => ∃ oe vs, h.get? a = some oe ∧ Zc cls d oe ∧ oe.data = .fields vs) := hok a _ e
  exact t.1
section
variable {X : Cx} {pins : List (Addr × Obj)} {σ : L2.St} {H : Hp} {sI s' : Shared} {B : Heap} {a : Addr} {cls : Value} {d : Option Addr} {oe : Obj} {vs : Array Value}
/-- back on the ground, the exception tracked -/
theorem landed_k (I : Inv X pins σ H sI) (nb : ∀ b o, sI.heap.get? b = some o → b ∉ frs X.stack → B.get? b = some o) (st : B.StaysIn s'.heap) (up : sI.heap.UpToSlots s'.heap) (os : s'.os = sI.os) (ag : AllBare s'.gens)
    (hB : B.get? a = none) (nfr : a ∉ frs X.stack) (na : H a = none) (he : s'.heap.get? a = some oe) (hz : Zc cls d oe) (hd : oe.data = .fields vs) : Inv X pins σ (upd H a (exk a cls d)) s' := by
  have fr : ∀ b ∈ frs X.stack, ∀ o, sI.heap.get? b = some o → ∃ sl, s'.heap.get? b = some { o with slots := sl } := by
    intro b hb o e
    obtain ⟨_, o1, e1, h1⟩ := I.stack.mem hb
    rw [e] at e1
    cases e1
    exact up b o e h1
  have sIa : ∀ o, sI.heap.get? a ≠ some o := fun o e => by
    rw [nb a o e nfr] at hB
    cases hB
  have ok1 : HOk X.prog X.w H s'.heap := (I.inGround nb).kept st
  have ok2 : HOk X.prog X.w (upd H a (exk a cls d)) s'.heap := by
    intro b o e
    by_cases hb : b = a
    · subst hb
      rw [upd_same] at e
      cases e
      exact exk_ok he hz hd
    · rw [upd_ne hb] at e
      exact (ok1 b o e).stay (fun c v _ q => q) (fun c q => at_upd (ne_of_none q na) q) fun c xs q => at_upd (ne_of_none q na) q
  have J := I.call (ch := []) (h' := s'.heap) (g' := s'.gens) (t' := s'.toks) (d' := s'.drawn) (H' := upd H a (exk a cls d))
    { keep := fun b o e _ hb _ => st b o (nb b o e hb)
      slot := fun b o e _ hb _ => fr b hb o e
      free := fun b o e n _ => no_upd (fun z => sIa o (by rw [← z]; exact e)) n
      there := fun b o e _ => by
        by_cases hb : b ∈ frs X.stack
        · obtain ⟨sl, q⟩ := fr b hb o e
          exact ⟨_, q⟩
        · exact ⟨o, st b o (nb b o e hb)⟩
      tups := fun _ _ e => at_upd (ne_of_none e na) e
      frzs := fun _ _ _ e => at_upd (ne_of_none e na) e
      tbls := fun b ps e => ⟨#[], by rw [at_upd (ne_of_none e na) e]; simp⟩ } ok2 ag (fun _ z => nomatch z)
  obtain ⟨b1, b2, b3, b4, b5⟩ := s'
  have e5 : b5 = sI.os := os
  subst e5
  exact J
end
/-- the wish of 'except x as n', the exception tracked: slot i is n's -/
def wKeep (K : PySem.W.Frag) (c : Value) (i : Nat) (ts : TS) (Wout : WX) (D : Ends) : WX := fun cls d σ H =>
  ∃ b, PySem.W.exmOne K cls c = some b ∧ (b = false → Wout cls d σ H) ∧
    (b = true → ∀ a, H a = none → ts { nx := fun σ1 H1 => D.nx (σ1.set i none) H1, rt := D.rt, bk := fun σ1 H1 => D.bk (σ1.set i none) H1, ct := fun σ1 H1 => D.ct (σ1.set i none) H1 } (σ.set i (some (.ref a))) (upd H a (exk a cls d)))
section
variable {X : Cx} {x n : Str} {c : Value} {i : Nat} {body suite : List Stmt} {b₀ : Stmt} {np pos pos' : Pos} {tb : WX → TS} {ts : TS} {Wout : WX}
theorem ps_try_keep (hs : X.stack = X.env :: X.outer) (hf : X.env.frame = some X.env.locals) (hN : X.N.Nodup) (hi : X.N[i]? = some n) (hln : X.env.kindOf n = some .local) (hc : L2.Names X x c) (tk : Takes X Wout)
    (hb : ∀ (W : WX) (pn : List (Addr × Obj)) (xe : Value → Shared → Prop), Takes (X.tr pn xe) W → PassesOwn (model X.prog X.w) X.A X.env xe → PSs (X.tr pn xe) body (tb W))
    (hsu : ∀ (a : Addr) (pn : List (Addr × Obj)), PSs (X.suite a pn) (b₀ :: suite) ts) :
    PS X (.Try body [.ExceptHandler (some (.Name x np)) (some n) (b₀ :: suite) pos'] [] [] pos) (fun D σ H => tb (wKeep X.K c i ts Wout D) D σ H) := by
  refine ⟨fun pins s σ H D I want => ?_⟩
  have okX := I.ok
  have frX : X.A.frames = some (X.env :: X.outer) := by rw [okX.frames, hs]
  refine wpAny_Try_except ?_
  have run := (hb (wKeep X.K c i ts Wout D) (X.pn ++ pins) (fun e t1 => wpAny (model X.prog X.w) X.A (noteFrame e X.env) (fun _ t2 => wpAny (model X.prog X.w) X.A (setFlight e none) (fun _ t3 =>
    wpAny (model X.prog X.w) X.A (handleBy e X.env [.ExceptHandler (some (.Name x np)) (some n) (b₀ :: suite) pos']) (SP X pins D) X.xe t3) X.xe t2) X.xe t1) ?_ PassesOwn.looking).run [] s σ H D (I.toTry _) want
  · refine wpAny_mono run (fun f t1 h => ?_) fun _ _ z => z
    cases f with
    | next =>
      obtain ⟨σ1, H1, J, q⟩ := h
      exact wpAny_execs_nil ⟨σ1, H1, J.ofTry okX, q⟩
    | brk =>
      obtain ⟨σ1, H1, J, q⟩ := h
      exact ⟨σ1, H1, J.ofTry okX, q⟩
    | cont =>
      obtain ⟨σ1, H1, J, q⟩ := h
      exact ⟨σ1, H1, J.ofTry okX, q⟩
    | ret v =>
      obtain ⟨v1, σ1, H1, J, r, q⟩ := h
      exact ⟨v1, σ1, H1, J.ofTry okX, r, q⟩
  · intro u t0 xx
    obtain ⟨a, B, sI, pins1, σ1, H1, cls, d, rfl, J1, nb, up, sky, na, os, ag, b, hb1, hno, hyes⟩ := xx
    have J : Inv X pins σ1 H1 sI := J1.ofTry okX
    have sky1 : Sky B (X.env :: X.outer) a (Zc cls d) X.env.locals t0.heap := by rw [← hs]; exact sky
    show wpAny (model X.prog X.w) X.A (noteFrame (.ref a) X.env) _ _ _
    refine Sky.land Zc.steady frX hf sky1 fun h3 fl3 up3 => ?_
    have J3 : Inv X pins σ1 H1 { t0 with heap := h3 } := J.landed nb fl3.1 (up.trans up3) os ag
    obtain ⟨oe3, vs3, he3, hz3, hd3⟩ := fl3.there
    have off : ∀ {h : Heap} {o : Obj} {vs : Array Value}, h.FunFrames B (X.env :: X.outer) → h.get? a = some o → o.data = .fields vs → a ∉ frs (X.env :: X.outer) := by
      intro h o vs ff e dd hm
      obtain ⟨_, o1, e1, hnf⟩ := ff.mem hm
      rw [e] at e1
      cases e1
      exact hnf _ dd
    have nfr := off fl3.2.2.1 he3 hd3
    have nL : a ≠ X.env.locals := fun z => nfr (List.mem_filterMap.mpr ⟨X.env, List.mem_cons_self, by rw [hf, z]⟩)
    have nF : a ∉ X.fs := by
      intro hm
      obtain ⟨e, he, q⟩ := List.mem_filterMap.mp hm
      exact nfr (List.mem_filterMap.mpr ⟨e, List.mem_cons_of_mem _ he, q⟩)
    have S3 := J3.suite he3 hd3 na nL nF
    refine wpAny_handleBy_cons (codeAny_handlers_test ?_) (by intro q; cases q)
    have LT : PySem.W.Looks (model X.prog X.w) h3 (typeOf (.ref a)) cls := fun A Q E s k q => wpAny_typeOf_ref (k _ _ he3) (by rw [hz3.1]; exact q)
    have LM := PySem.W.exm_one (M := model X.prog X.w) (J3.kIn) LT hb1
    have named : ∀ {Q E : Value → Shared → Prop}, Q c { t0 with heap := h3 } → wpAny (model X.prog X.w) (X.A.mark (some (.ref a))) (eval (.Name x np) X.env) Q E { t0 with heap := h3 } := by
      intro Q E q
      obtain ⟨hg, hdbg, hm | ⟨hm, hv, hnn⟩⟩ := hc
      · exact ld_glob (X := X.suite a ((a, oe3) :: (X.pn ++ pins))) S3 hg hm q hdbg
      · exact ld_blt (X := X.suite a ((a, oe3) :: (X.pn ++ pins))) S3 hg hm hv q hnn hdbg
    refine named (LM.here ?_)
    cases b with
    | false =>
      show wpAny _ X.A (handleBy (.ref a) X.env []) _ _ _
      refine wpAny_handleBy_nil ?_
      obtain ⟨k1, k2, k3, oe, vs, T, oT, ts1, he, hz, hd, h1, hr⟩ := id fl3
      unfold PySem.passOn
      refine wpAny_bind (wpAny_field he hd h1 ?_)
      rw [if_neg (show ¬ ((Value.ref T == Value.none) = true) from by simp)]
      have onward : wpAny (model X.prog X.w) X.A (setFlight (.ref a) X.env.frame) (fun _ s4 => wpAny (model X.prog X.w) X.A (throw (.ref a) : Sem Flow) (SP X pins D) X.xe s4) X.xe { t0 with heap := h3 } := by
        rw [hf]
        refine HandSPX.setFlight_upZ fl3 fun h4 hh4 up4 => wpAny_throw (tk _ _ ?_)
        exact ⟨a, B, sI, pins, σ1, H1, cls, d, rfl, J, nb, (up.trans up3).trans up4, .inr (.inr (by rw [hs]; exact hh4)), na, os, ag, hno rfl⟩
      first
        | exact wpAny_bind (wpAny_pure (wpAny_bind onward))
        | exact wpAny_bind onward
    | true =>
      refine codeAny_handlers_suite_as ?_
      refine HandSPX.lands_againZ fl3 fun h4 fl4 up4 => ?_
      obtain ⟨oe4, vs4, he4, hz4, hd4⟩ := fl4.there
      have J4 : Inv X pins σ1 (upd H1 a (exk a cls d)) { t0 with heap := h4 } := landed_k J nb fl4.1 ((up.trans up3).trans up4) os ag fl4.2.1 (by rw [hs]; exact nfr) na he4 hz4 hd4
      have S4 : Inv (X.suite a (X.pn ++ pins)) [] σ1 (upd H1 a (exk a cls d)) { t0 with heap := h4 } :=
        ⟨J4.ok.suite _ _, J4.os, J4.bare, J4.base, J4.loc, J4.cell, J4.free, J4.freeC, fun p hp => J4.pin p (by rw [List.append_nil] at hp; exact hp), J4.hok, J4.len⟩
      refine store_ok (X := X.suite a (X.pn ++ pins)) (v := .ref a) S4 hN hi (.inl hln) rfl (fun s5 S5 => ?_) (.inr hln)
      refine wpAny_mono ((hsu a (X.pn ++ pins)).run [] s5 _ _ _ S5 (hyes rfl a na)) (fun f s6 hsp => ?_) (fun _ _ z => False.elim z)
      have back : ∀ {σ6 : L2.St} {H6 : Hp}, Inv (X.suite a (X.pn ++ pins)) [] σ6 H6 s6 → Inv X pins σ6 H6 s6 := fun S =>
        ⟨okX, S.os, S.bare, S.base, S.loc, S.cell, S.free, S.freeC, fun p hp => S.pin p (List.mem_append_left _ hp), S.hok, S.len⟩
      have over : ∀ {σ6 : L2.St} {H6 : Hp} {Q : Shared → Prop}, Inv (X.suite a (X.pn ++ pins)) [] σ6 H6 s6 → (∀ s7, Inv X pins (σ6.set i none) H6 s7 → Q s7) →
          wpAny (model X.prog X.w) X.A (do bindName X.env n .none; unbindBehindTheSuite X.env n pos') (fun _ s7 => Q s7) X.xe s6 := fun S6 hq => gone_ok (back S6) hN hi hln hq
      cases f with
      | next =>
        obtain ⟨σ6, H6, S6, q6⟩ := hsp
        exact over S6 fun s7 J7 => ⟨_, _, J7, q6⟩
      | brk =>
        obtain ⟨σ6, H6, S6, q6⟩ := hsp
        exact over S6 fun s7 J7 => ⟨_, _, J7, q6⟩
      | cont =>
        obtain ⟨σ6, H6, S6, q6⟩ := hsp
        exact over S6 fun s7 J7 => ⟨_, _, J7, q6⟩
      | ret v =>
        obtain ⟨v6, σ6, H6, S6, r6, q6⟩ := hsp
        exact over S6 fun s7 J7 => ⟨_, _, _, J7, r6, q6⟩
end
/-! e.f of a tracked exception -/
def tXk (K : PySem.W.Frag) (f : Str) (te : TE) : TE := fun σ H Q => te σ H fun x H1 => ∃ (a C dd : Addr) (fs : List (Str × V)) (v : V), x = .ref a ∧ H1 a = some (exk a (.ref C) (some dd)) ∧ XfC K C ∧ PySem.W.findIn K (.ref C) f = some none ∧ H1 dd = some (.xd fs) ∧ fs.lookup f = some v ∧ Q v H1
theorem pe_xk {X : Cx} {e : Expr} {te : TE} {pos : Pos} {n : Str} (he : PE X e te) (hb : attributeBase e n X.env (eval e X.env) = eval e X.env := by rfl) : PE X (.Attribute e n pos) (tXk X.K n te) := by
  refine ⟨fun pins s σ H Q I want => attr_of hb (thn (he.run pins s σ H _ I want) fun u s1 got => ?_)⟩
  obtain ⟨x, H1, I1, rx, a, C, dd, fs, v, rfl, hk, T, hno, hdd, hl, q⟩ := got
  obtain rfl : u = Value.ref a := rx
  obtain ⟨oe, vs, h1, hz, hd⟩ := exk_at I1.hok hk
  have hx : ObjOk X.prog X.w H1 s1.heap dd (.xd fs) := I1.hok dd _ hdd
  obtain ⟨mA, hns, hr⟩ := hx
  obtain ⟨od, ho, hl2⟩ := lookIn_ns hns
  obtain ⟨u2, hu, ru⟩ := RelO.some_of (v := v) (o := mA n) (by rw [← hl]; exact hr n)
  have J : PySem.W.InstAt s1.heap a oe C (some od) := by
    refine ⟨h1, hz.1, ?_, ?_⟩
    · unfold PySem.W.notCls
      rw [hd] <;> rfl
    · rw [hz.2]
      exact ho
  exact HandSPX.exc_get I1.kIn J T.ga T.gg T.exC (PySem.W.findObj_own T.hdC hno rfl (by rw [hl2, hu])) (handed_of ru) ⟨v, H1, I1.tok _, ru, q⟩
/-! Base.__init__(self, ..), Base an own class over ValueError with no __init__ of its own -/
structure BaseI (K : PySem.W.Frag) (CB : Addr) : Prop where
  kp : PySem.W.keepIn K (.ref CB) = true
  ga : PySem.W.specialIn K (.ref CB) "__getattribute__" = some (some (.builtin "type.__getattribute__"))
  rd : PySem.W.readsIn K CB (.type "type") = true
  at_ : PySem.W.findCls K (.ref CB) (.type "type") "__init__" = some (.val (.builtin "ValueError.__init__"))
theorem pe_binit {X : Cx} {x : Str} {CB : Addr} {e : Expr} {es : List Expr} {ta : TA} {p1 p2 pos : Pos} {pl : Sem Bool} (hg : Gl X x) (hm : X.mg x = some (.ref CB)) (T : BaseI X.K CB) (ha : PA X (e :: es) ta)
    (hc : eval (.Call (.Attribute (.Name x p1) "__init__" p2) (e :: es) [] pos) X.env = (do
      let ov ← eval (.Name x p1) X.env
      standAt p2.atName
      let (f, first) ← holding [ov] (getMethod ov "__init__" pl)
      callWith pos f first (backTo pos (starEach (e :: es) X.env)) (backToKw pos (keywordEach [] X.env))) := by rfl)
    (hdb : (x == ("__debug__" : Str)) = false := by decide)
    (he : starEach (e :: es) X.env = (false, eval e X.env) :: starEach es X.env := by rfl) (hpl : (backTo pos (starEach es X.env)).any (·.1) = false := by rfl) :
    PE X (.Call (.Attribute (.Name x p1) "__init__" p2) (e :: es) [] pos) (tVeI X.K ta) := by
  refine ⟨fun pins s σ H Q I want => ?_⟩
  refine PySem.W.methodCall_KW (ld_glob I hg hm ?_ hdb) hc
  refine PySem.W.method_cls I.kIn T.ga (PySem.W.cls_value I.kIn T.rd T.at_ (by decide +kernel) ?_)
  show wpAny _ _ (callWith pos (Value.builtin "ValueError.__init__") [] (backTo pos (starEach (e :: es) X.env)) []) _ _ _
  refine PyProof.Rows.callWith_method1 (thn (ha.run pos pins _ σ H _ (I.tok _) want) fun us s1 ⟨vs, H1, I1, r1, a, C, ws, ev, hl, O, ea, q⟩ => ?_) he hpl
  subst ev
  cases r1 with
  | @cons _ u0 _ ur ra rest =>
    obtain rfl : u0 = Value.ref a := ra
    have few : ur.length ≤ sizeLine := by
      rw [← Paired.length rest, sizeLine_eq]
      omega
    exact oinit_ok O I1 ea few fun s2 J => ⟨.non, H1, J, rfl, q⟩
end U

/-! functions handed on: promises that speak of the cells which a handed function captured -/
namespace U
open PySem PySem.Spec PyProof.Rows L2 LamX NdefX
/-- the def at f keeps the promise sp, which may speak of the caller's frames and of the heap at the call -/
structure FnH (P : Program) (w : World) (K : PySem.W.Frag) (mg : Str → Option Value) (base : Heap) (CX : CXT) (k : Nat) (f : Addr) (fd : FuncData) (ps : List Str) (sp : List Env → Heap → Sp) : Prop where
  len : ∀ l h vs H Q E, sp l h vs H Q E → vs.length = ps.length
  go : ∀ (A : Around) (outer : List Env) (s : Shared) (H : Hp) (args : Args) (us : List Value) (vs : List V) (Q : VK) (E : XK), Rm k A →
    Env0 P w K mg base A outer s H → BindsTo s fd args (ps.zip us) → Vals vs us → sp outer s.heap vs H Q E → codeAny (model P w) A (.call (.ref f) args) (CR CX outer P w H s Q E) s
section
variable {P : Program} {w : World} {K : PySem.W.Frag} {mg : Str → Option Value} {base : Heap} {CX : CXT}
theorem fnH {x qual : Str} {st : Stmt} {f : Addr} {fd : FuncData} {N ps : List Str} {k : Nat} {sp : List Env → Heap → Sp} (F : Fun K x qual st f fd) (S : FnScope N ps (defScope st)) (len : ∀ l h vs H Q E, sp l h vs H Q E → vs.length = ps.length)
    (body : ∀ (cdv : Value) (A : Around) (outer : List Env) (s : Shared) (H : Hp) (vs : List V) (Q : VK) (E : XK), Rm k (A.deeper (envOfC qual (defScope st) s.heap.objs.size f cdv)) → sp outer s.heap vs H Q E →
      ∃ t, PSs (cxOf CX P w K mg base N qual (defScope st) f cdv A outer s H E) (defBody st) t ∧ t { nx := fun _ H' => Q .non H', rt := Q } (start N vs) H) :
    FnH P w K mg base CX (k + 1) f fd ps sp := by
  obtain ⟨oc, od, kV, doc, pm, an, cdv, ct, osl, rfl, lk, hcd⟩ := F.ex
  refine ⟨len, fun A outer s H args us vs Q E room e0 bd rel want => ?_⟩
  have count := len _ _ _ _ _ _ want
  have kin : K.In s.heap := e0.mod.kin.keeps fun b o e => (e0.bs b o e).1
  have kinds : ∀ y ∈ ps.zip us, (defScope st).names.lookup y.1 = some .local ∨ ((defScope st).names.lookup y.1 = some .cell ∧ ((cellsFrom (s.heap.objs.size + 1) (defScope st).names []).lookup y.1).isSome = true) := by
    rintro ⟨n, v⟩ hy
    cases S.par n (List.of_mem_zip hy).1 with
    | inl q => exact .inl q
    | inr q => exact .inr ⟨q, PySem.W.cellsFrom_some _ _ _ (.inl q)⟩
  apply codeAny_call_function room.r.depth (kin _ _ lk) rfl S.co S.gen rfl (PySem.W.codeRec_of kin hcd) (bd _ _ _ _ _)
  apply wpAny_newFunctionEnv_cells S.kind kinds
  intro env he s1 x
  subst he
  have lim : s.heap.NoLimit := e0.mod.nolimit.keeps fun b o e => (e0.bs b o e).1
  refine ⟨lim.keeps x.toInCall.keep, codeAny_func ?_⟩
  obtain ⟨t, ht, want'⟩ := body cdv A outer s H vs Q E (room.deeper _) want
  have I := inv_start (CX := CX) (P := P) (w := w) (K := K) (mg := mg) (base := base) (E := E) S room.r.hd e0 count rel x
  refine wpAny_mono (ht.run [] s1 (start N vs) H _ I want') ?_ fun e s' hs => hs
  intro fl s' hs
  cases fl with
  | ret u =>
    obtain ⟨v, σ', H', J, rv, q⟩ := hs
    exact ⟨v, H', J.os, J.bare, J.base, J.hok, rv, q⟩
  | next =>
    obtain ⟨σ', H', J, q⟩ := hs
    exact ⟨V.non, H', J.os, J.bare, J.base, J.hok, rfl, q⟩
  | brk => exact hs.elim fun _ z => z.elim fun _ z => z.2.elim
  | cont => exact hs.elim fun _ z => z.elim fun _ z => z.2.elim
structure CalH (P : Program) (w : World) (K : PySem.W.Frag) (mg : Str → Option Value) (base : Heap) (CX : CXT) (k : Nat) (x : Str) (sp : List Env → Heap → Sp) : Prop where
  ex : ∃ (f : Addr) (fd : FuncData) (ps : List Str), FnH P w K mg base CX k f fd ps sp ∧ mg x = some (.ref f) ∧ PySem.W.keepIn K (.ref f) = true ∧ Binds K fd ps []
end
/-- the captured cells as the callee may know them -/
structure Held (cl : List (Str × Addr)) (fr : List Str) (ws : List (Option V)) (l : List Env) (h : Heap) (H : Hp) : Prop where
  at_ : CellsAt cl fr ws h H
  off : ∀ y c, cl.lookup y = some c → c ∉ frs l
section
variable {X : Cx} {pins : List (Addr × Obj)} {σ : L2.St} {H : Hp} {s : Shared} {cl : List (Str × Addr)} {fr : List Str} {ws : List (Option V)} {js : List Nat}
/-- the def's own cells -/
theorem held_of (I : Inv X pins σ H s) (c : Caps X cl fr js) (own : ∀ y a, cl.lookup y = some a → X.fn y = true) : Held cl fr (js.map (slotAt σ)) X.stack s.heap H := by
  refine ⟨cells_of I c, fun y a e hm => ?_⟩
  have ea := c.sub y a e
  rcases List.mem_cons.mp (I.stkSub a hm) with z | z
  · exact I.cne y a ea z
  · obtain ⟨_, o, ho, _⟩ := I.ok.funs.mem z
    exact absurd (I.ok.cab y a (own y a e) ea) (Nat.not_le.mpr (Heap.lt_size ho))
end
end U

/-! lifts: the plain laws -/
namespace U
open PySem PySem.Spec PyProof.Rows L2
/-- the dict of numbers over ns, in that order -/
abbrev kvF (ns : List Str) (f : Str → Int) : List (Key × V) := ns.map fun n => (Sum.inr n, V.int (f n))
def updf (f : Str → Int) (n : Str) (v : Int) : Str → Int := fun m => if m = n then v else f m
theorem kvs_F {ord : List Str} {ws : List (Str × Int)} (h : StOk ord ws) (nd : ord.Nodup) : kvsOf ws = kvF ord (numOf ws) := by
  obtain ⟨hk, _⟩ := h
  subst hk
  rw [kvF, List.map_map]
  refine List.map_congr_left fun p hp => ?_
  show ((Sum.inr p.1 : Key), V.int p.2) = (Sum.inr p.1, V.int (numOf ws p.1))
  have : (p.1, numOf ws p.1) ∈ ws := num_mem (List.mem_map_of_mem hp)
  congr 2
  -- one number a name
  have uniq : ∀ {ws : List (Str × Int)}, (ws.map (·.1)).Nodup → ∀ {x : Str} {a b : Int}, (x, a) ∈ ws → (x, b) ∈ ws → a = b := by
    intro ws
    induction ws with
    | nil => intro _ _ _ _ h; cases h
    | cons q ws ih =>
      intro nd x a b ha hb
      rw [List.map_cons, List.nodup_cons] at nd
      rcases List.mem_cons.mp ha with ea | ha <;> rcases List.mem_cons.mp hb with eb | hb
      · rw [← ea] at eb
        exact (Prod.mk.inj eb).2.symm
      · exact absurd (List.mem_map_of_mem (f := (·.1)) hb) (by rw [← ea] at nd; exact nd.1)
      · exact absurd (List.mem_map_of_mem (f := (·.1)) ha) (by rw [← eb] at nd; exact nd.1)
      · exact ih nd.2 ha hb
  exact uniq nd hp this

/-! ### neighbours, moves -/
def nbrF (es : List (Str × Str)) (x : Str) : List Str := es.flatMap fun e => (if e.1 = x then [e.2] else []) ++ (if e.2 = x then [e.1] else [])
theorem mem_nbrF {es : List (Str × Str)} {x z : Str} : z ∈ nbrF es x ↔ (x, z) ∈ es ∨ (z, x) ∈ es := by
  unfold nbrF
  rw [List.mem_flatMap]
  constructor
  · rintro ⟨e, he, h⟩
    rcases List.mem_append.mp h with h | h
    · split at h
      · rename_i c
        have : z = e.2 := by simpa using h
        subst this
        subst c
        exact .inl he
      · cases h
    · split at h
      · rename_i c
        have : z = e.1 := by simpa using h
        subst this
        subst c
        exact .inr he
      · cases h
  · rintro (h | h)
    · exact ⟨_, h, by simp⟩
    · exact ⟨_, h, by simp⟩
def freeB (es : List (Str × Str)) (f : Str → Int) (n : Str) (v : Int) : Bool := !decide (v ∈ (nbrF es n).map f ++ [f n])
def movesOf (es : List (Str × Str)) (f : Str → Int) (n : Str) : List (Str × Int) := (([0, 1, 2] : List Int).filter (freeB es f n)).map fun v => (n, v)
def movesF (ns : List Str) (es : List (Str × Str)) (f : Str → Int) (ps : List Str) : List (Str × Int) := ns.flatMap fun n => if n ∈ ps then [] else movesOf es f n
structure Legal (ns : List Str) (es : List (Str × Str)) (f : Str → Int) (ps : List Str) (m : Str × Int) : Prop where
  mem : m.1 ∈ ns
  pin : m.1 ∉ ps
  val : 0 ≤ m.2 ∧ m.2 < 3
  own : m.2 ≠ f m.1
  nbr : ∀ z, (m.1, z) ∈ es ∨ (z, m.1) ∈ es → m.2 ≠ f z
theorem legal_of {ns : List Str} {es : List (Str × Str)} {f : Str → Int} {ps : List Str} {m : Str × Int} (h : m ∈ movesF ns es f ps) : Legal ns es f ps m := by
  unfold movesF at h
  obtain ⟨n, hn, h⟩ := List.mem_flatMap.mp h
  split at h
  · cases h
  · rename_i hp
    unfold movesOf at h
    obtain ⟨v, hv, rfl⟩ := List.mem_map.mp h
    obtain ⟨h1, h2⟩ := List.mem_filter.mp hv
    unfold freeB at h2
    have h2 : v ∉ (nbrF es n).map f ++ [f n] := by simpa using h2
    have h3 : v = 0 ∨ v = 1 ∨ v = 2 := by simpa using h1
    refine ⟨hn, hp, by show 0 ≤ v ∧ v < 3; omega, fun e => h2 (List.mem_append_right _ (by rw [show v = f n from e]; exact List.mem_singleton_self _)), fun z hz e => h2 (List.mem_append_left _ ?_)⟩
    rw [show v = f z from e]
    exact List.mem_map_of_mem (mem_nbrF.mpr hz)
/-- one move after another -/
inductive Plays (ns : List Str) (es : List (Str × Str)) (ps : List Str) (f : Str → Int) : List (Str × Int) → (Str → Int) → Prop
  | nil : Plays ns es ps f [] f
  | snoc {ms : List (Str × Int)} {f' : Str → Int} {m : Str × Int} : Plays ns es ps f ms f' → Legal ns es f' ps m → Plays ns es ps f (ms ++ [m]) (updf f' m.1 m.2)
/-! ### counting -/
def dlt (d : Int) : Int := if d % 3 = 0 then 0 else if d % 3 = 1 then 1 else -1
def slp (f : Str → Int) (a b : Str) : Int := if (f b - f a) % 3 = 1 then 1 else -1
/-- the state and the numbers behind the moves -/
def countF (f h : Str → Int) : List (Str × Int) → (Str → Int) × (Str → Int)
  | [] => (f, h)
  | (n, v) :: r => countF (updf f n v) (updf h n (h n + dlt (f n - v))) r
theorem countF_snoc {n : Str} {v : Int} : ∀ {ms : List (Str × Int)} {f h : Str → Int}, countF f h (ms ++ [(n, v)]) = (updf (countF f h ms).1 n v, updf (countF f h ms).2 n ((countF f h ms).2 n + dlt ((countF f h ms).1 n - v)))
  | [], _, _ => rfl
  | (m, w) :: ms, _, _ => by
    rw [List.cons_append, countF, countF_snoc, countF]
structure EsOk (ns : List Str) (es : List (Str × Str)) (f : Str → Int) : Prop where
  ne : ∀ e ∈ es, e.1 ≠ e.2
  mem : ∀ e ∈ es, e.1 ∈ ns ∧ e.2 ∈ ns
  tri : ∀ n ∈ ns, 0 ≤ f n ∧ f n < 3
  pro : ∀ e ∈ es, f e.1 ≠ f e.2
theorem slp_pm (f : Str → Int) (a b : Str) : slp f a b = 1 ∨ slp f a b = -1 := by
  unfold slp
  split
  · exact .inl rfl
  · exact .inr rfl
theorem move_keeps {ns : List Str} {es : List (Str × Str)} {ps : List Str} {f0 f h : Str → Int} {m : Str × Int} (ok : EsOk ns es f) (l : Legal ns es f ps m) (t : ∀ e ∈ es, slp f0 e.1 e.2 - slp f e.1 e.2 = 2 * (h e.1 - h e.2)) :
    EsOk ns es (updf f m.1 m.2) ∧ ∀ e ∈ es, slp f0 e.1 e.2 - slp (updf f m.1 m.2) e.1 e.2 = 2 * (updf h m.1 (h m.1 + dlt (f m.1 - m.2)) e.1 - updf h m.1 (h m.1 + dlt (f m.1 - m.2)) e.2) := by
  obtain ⟨n, v⟩ := m
  have hv := l.val
  have ho := l.own
  have hm := l.mem
  simp only at hv ho hm
  refine ⟨⟨ok.ne, ok.mem, fun x hx => ?_, fun e he => ?_⟩, fun e he => ?_⟩
  · show 0 ≤ updf f n v x ∧ updf f n v x < 3
    unfold updf
    split
    · exact hv
    · exact ok.tri x hx
  · show updf f n v e.1 ≠ updf f n v e.2
    have hne := ok.ne e he
    have hp := ok.pro e he
    unfold updf
    by_cases h1 : e.1 = n
    · rw [if_pos h1, if_neg (fun z => hne (h1.trans z.symm))]
      exact l.nbr e.2 (.inl (by show (n, e.2) ∈ es; rw [← h1]; exact he))
    · by_cases h2 : e.2 = n
      · rw [if_neg h1, if_pos h2]
        exact Ne.symm (l.nbr e.1 (.inr (by show (e.1, n) ∈ es; rw [← h2]; exact he)))
      · rw [if_neg h1, if_neg h2]
        exact hp
  · show slp f0 e.1 e.2 - slp (updf f n v) e.1 e.2 = 2 * (updf h n (h n + dlt (f n - v)) e.1 - updf h n (h n + dlt (f n - v)) e.2)
    have hne := ok.ne e he
    have hp := ok.pro e he
    have t1 := ok.tri e.1 (ok.mem e he).1
    have t2 := ok.tri e.2 (ok.mem e he).2
    have te := t e he
    by_cases h1 : e.1 = n
    · have h2 : ¬ e.2 = n := fun z => hne (h1.trans z.symm)
      have nb := l.nbr e.2 (.inl (by show (n, e.2) ∈ es; rw [← h1]; exact he))
      simp only at nb
      have e1 : updf f n v e.1 = v := if_pos h1
      have e2 : updf f n v e.2 = f e.2 := if_neg h2
      have e3 : updf h n (h n + dlt (f n - v)) e.1 = h e.1 + dlt (f e.1 - v) := by rw [h1]; exact if_pos rfl
      have e4 : updf h n (h n + dlt (f n - v)) e.2 = h e.2 := if_neg h2
      rw [e3, e4]
      rw [← h1] at ho
      unfold slp dlt at *
      rw [e1, e2]
      generalize f e.1 = x at *
      generalize f e.2 = y at *
      generalize h e.1 = hx at *
      generalize h e.2 = hy at *
      generalize (if (f0 e.2 - f0 e.1) % 3 = 1 then (1 : Int) else -1) = s0 at *
      have : hx - hy + hx - hy = 2 * (hx - hy) := by omega
      split at te <;> split <;> split <;> try split
      all_goals omega
    · by_cases h2 : e.2 = n
      · have nb := l.nbr e.1 (.inr (by show (e.1, n) ∈ es; rw [← h2]; exact he))
        simp only at nb
        have e1 : updf f n v e.1 = f e.1 := if_neg h1
        have e2 : updf f n v e.2 = v := if_pos h2
        have e3 : updf h n (h n + dlt (f n - v)) e.1 = h e.1 := if_neg h1
        have e4 : updf h n (h n + dlt (f n - v)) e.2 = h e.2 + dlt (f e.2 - v) := by rw [h2]; exact if_pos rfl
        rw [e3, e4]
        rw [← h2] at ho
        unfold slp dlt at *
        rw [e1, e2]
        generalize f e.1 = x at *
        generalize f e.2 = y at *
        generalize h e.1 = hx at *
        generalize h e.2 = hy at *
        generalize (if (f0 e.2 - f0 e.1) % 3 = 1 then (1 : Int) else -1) = s0 at *
        split at te <;> split <;> split <;> try split
        all_goals omega
      · have e1 : updf f n v e.1 = f e.1 := if_neg h1
        have e2 : updf f n v e.2 = f e.2 := if_neg h2
        have e3 : updf h n (h n + dlt (f n - v)) e.1 = h e.1 := if_neg h1
        have e4 : updf h n (h n + dlt (f n - v)) e.2 = h e.2 := if_neg h2
        rw [e3, e4, ← te]
        unfold slp
        rw [e1, e2]
/-! ### fitting -/
def fitB (f h : Str → Int) (a b : Str) : Bool := if slp f a b = 1 then decide (0 ≤ h a - h b) && decide (h a - h b ≤ 1) else decide (0 ≤ h b - h a) && decide (h b - h a ≤ 1)
def Fits (es : List (Str × Str)) (f h : Str → Int) : Prop := ∀ e ∈ es, fitB f h e.1 e.2 = true
theorem fit_iff {f h : Str → Int} {a b : Str} : fitB f h a b = true ↔ (if slp f a b = 1 then 0 ≤ h a - h b ∧ h a - h b ≤ 1 else 0 ≤ h b - h a ∧ h b - h a ≤ 1) := by
  unfold fitB
  split <;> simp
end U

/-! medians, distances -/
namespace U
open PySem PySem.Spec PyProof.Rows L2
/-! ### distances -/
def ab (x y : Int) : Int := ((x - y).natAbs : Int)
end U

/-! dicts of references, double comprehensions, defaults, repr -/
namespace U
open PySem PySem.Spec PyProof.Rows L2
abbrev kvG (ns : List Str) (F : Str → V) : List (Key × V) := ns.map fun n => (Sum.inr n, F n)
def updV {α : Type} (f : Str → α) (n : Str) (v : α) : Str → α := fun m => if m = n then v else f m
theorem kvG_none : ∀ {ns : List Str} {F : Str → V} {n : Str}, n ∉ ns → valV (kvG ns F) (.inr n) = none
  | [], _, _, _ => rfl
  | m :: ns, F, n, h => by
    have e' : ¬ (Sum.inr m : Key) = Sum.inr n := fun z => h (by rw [← Sum.inr.inj z]; exact List.mem_cons_self)
    rw [kvG, List.map_cons, valV_neg e']
    exact kvG_none fun z => h (List.mem_cons_of_mem _ z)
theorem kvG_new {ns : List Str} {F : Str → V} {n : Str} {v : V} (h : n ∉ ns) : putK (kvG ns F) (.inr n) v = kvG (ns ++ [n]) (updV F n v) := by
  rw [putK_new _ (kvG_none h), kvG, kvG, List.map_append]
  congr 1
  · refine List.map_congr_left fun m hm => ?_
    unfold updV
    rw [if_neg (fun e => h (by rw [← e]; exact hm))]
  · show [((Sum.inr n : Key), v)] = [(Sum.inr n, updV F n v n)]
    unfold updV
    rw [if_pos rfl]
/-! f(e, ..) where defaults fill the rest -/
def tCD (sp : Sp) (dvs : List V) (E : XK) (t : TA) : TE := fun σ H Q => t σ H fun vs H1 => sp (vs ++ dvs) H1 Q E
/-! two fors in a comprehension -/
def In1 (J1 : It) (g1 : TG) (tt1 : TT) (te : TE) (vs1 : List Nat) (σ2 : L2.St) (D : Addr) (H4 : Hp) (R : Hp → Prop) : Prop := ∃ W1 : Nat → Nat → Hp → Prop, (∃ m, W1 0 m H4) ∧ ∀ j k H, W1 j k H →
  (J1.stop j H ∧ R H) ∨ (J1.go j H ∧ ∃ Nx1 : Hp → Prop, (∀ H', Nx1 H' → ∃ k', k' < k ∧ W1 (j + 1) k' H') ∧ ∀ x H', J1.yld j H x H' → g1 x (wipe σ2 vs1) H' fun σ3 H5 => wipe σ3 vs1 = wipe σ2 vs1 ∧ tt1 σ3 H5 fun b H6 =>
    if b = true then te σ3 H6 fun y H7 => ∃ acc, H7 D = some (.lst acc) ∧ acc.length < sizeLine ∧ Nx1 (upd H7 D (.lst (acc ++ [y]))) else Nx1 H6)
def Lc2B (J : It) (g : TG) (tt : TT) (wi1 : TI) (g1 : TG) (tt1 : TT) (te : TE) (vs vs1 : List Nat) (σ : L2.St) (H1 : Hp) (D : Addr) (Qd : Hp → Prop) : Prop := ∃ W : Nat → Nat → Hp → Prop, (∃ m, W 0 m (upd H1 D (.lst []))) ∧ ∀ i m H, W i m H →
  (J.stop i H ∧ Qd H) ∨ (J.go i H ∧ ∃ Nx : Hp → Prop, (∀ H', Nx H' → ∃ m', m' < m ∧ W (i + 1) m' H') ∧ ∀ x H', J.yld i H x H' → g x (wipe σ vs) H' fun σ2 H2 => wipe σ2 vs = wipe σ vs ∧ tt σ2 H2 fun b H3 =>
    if b = true then wi1 σ2 H3 fun J1 H4 => In1 J1 g1 tt1 te vs1 σ2 D H4 Nx else Nx H3)
section
variable {σ : L2.St} {H : Hp} {Q : VK} {te : TE} {g g1 : TG} {wi wi1 : TI} {tt tt1 : TT} {vs vs1 : List Nat} {L : Addr} {Qd R : Hp → Prop} {J J1 : It} {n : Nat} {G : Hp → Prop} {Y : Nat → Hp → V → Hp → Prop} {K : PySem.W.Frag}
theorem rd_lc2 (h : wi σ H fun J H1 => ∀ D, H1 D = none → Lc2B J g tt wi1 g1 tt1 te vs vs1 σ H1 D fun H2 => Q (.ref D) H2) : tLc2 wi g tt wi1 g1 tt1 te vs vs1 σ H Q := h
theorem rd_cd {sp : Sp} {dvs : List V} {E : XK} {t : TA} (h : t σ H fun vs H1 => sp (vs ++ dvs) H1 Q E) : tCD sp dvs E t σ H Q := h
end
/-! repr -/
section
variable {X : Cx} {pins : List (Addr × Obj)} {σ : L2.St} {H : Hp} {s : Shared}
def encK : Key → PyData
  | .inl i => .int i
  | .inr x => .str x
theorem kv_pairs {h : Heap} {f : Str → Int} : ∀ {ns : List Str} {vs : List (Key × Value)}, KV (kvF ns f) vs → PyProof.V.PairsRead h encK vs (ns.map fun n => (.str n, .int (f n))) []
  | [], vs, r => by
    cases r
    exact .nil
  | n :: ns, vs, r => by
    cases r with
    | @cons p q ps qs hpq t =>
      obtain ⟨h1, h2⟩ := hpq
      obtain ⟨k, v⟩ := q
      have h1' : (Sum.inr n : Key) = k := h1
      subst h1'
      obtain ⟨tk, rfl⟩ : ∃ t, v = Value.int (f n) t := h2
      exact .cons (k := .inr n) (as := []) (bs := []) (Reads.int _ _) (kv_pairs t)
theorem key_reads {h : Heap} {P : Program} {w : World} : ∀ (k : Key) (key : Value), (mixKind P w).is k key = true → Reads h key (encK k) [] := by
  intro k key hk
  rcases keyIs_shape hk with ⟨i, t, rfl, rfl⟩ | ⟨x, t, rfl, rfl⟩
  · exact Reads.int _ _
  · exact Reads.str _ _
end
end U
namespace U
open PySem PySem.Spec PyProof.Rows L2
/-! name = {k: v for ..}, the name a local -/
section
variable {X : Cx}
end
end U

/-! repr of a list of data, dicts among it -/
namespace U
open PySem PySem.Spec PyProof.Rows L2
mutual
def tupOnly : PyData → Bool
  | .none | .bool _ | .int _ | .str _ => true
  | .tuple xs => tupOnlyAll xs
  | .list _ | .dict _ => false
def tupOnlyAll : List PyData → Bool
  | [] => true
  | x :: xs => tupOnly x && tupOnlyAll xs
end
mutual
theorem reads_nil {h : Heap} : ∀ (d : PyData) (v : Value) (as : List Addr), Reads h v d as → tupOnly d = true → as = []
  | .none, _, _, r, _ => by cases r; rfl
  | .bool _, _, _, r, _ => by cases r; rfl
  | .int _, _, _, r, _ => by cases r; rfl
  | .str _, _, _, r, _ => by cases r; rfl
  | .tuple xs, _, _, r, t => by
    cases r with
    | tuple h1 h2 h3 h4 => exact readsAll_nil xs _ _ h4 (by simpa [tupOnly] using t)
  | .list _, _, _, _, t => by simp [tupOnly] at t
  | .dict _, _, _, _, t => by simp [tupOnly] at t
theorem readsAll_nil {h : Heap} : ∀ (ds : List PyData) (vs : List Value) (as : List Addr), ReadsAll h vs ds as → tupOnlyAll ds = true → as = []
  | [], _, _, r, _ => by cases r; rfl
  | d :: ds, _, _, r, t => by
    rw [tupOnlyAll, Bool.and_eq_true] at t
    cases r with
    | cons r1 r2 => rw [reads_nil d _ _ r1 t.1, readsAll_nil ds _ _ r2 t.2]; rfl
end
/-- an item of the list: data of tuples, or a dict of numbers -/
inductive Di (K : PySem.W.Frag) (H : Hp) : V → PyData → Prop
  | of {v : V} {d : PyData} : Dp K H v d → tupOnly d = true → Di K H v d
  | dct {a : Addr} {ns : List Str} {f : Str → Int} : H a = some (.dK (kvF ns f)) → Di K H (.ref a) (.dict (ns.map fun n => (.str n, .int (f n))))
inductive DiAll (K : PySem.W.Frag) (H : Hp) : List V → List PyData → Prop
  | nil : DiAll K H [] []
  | cons {v : V} {vs : List V} {d : PyData} {ds : List PyData} : Di K H v d → DiAll K H vs ds → DiAll K H (v :: vs) (d :: ds)
structure Shows (d : PyData) : Prop where
  sh : d.showable = true
  lv : d.leavesShort 13 = true
  bk : d.bulk ≤ 2 ^ 20
  dp : d.depth ≤ 50
section
variable {X : Cx} {pins : List (Addr × Obj)} {σ : L2.St} {H : Hp} {s : Shared}
theorem Di.reads (I : Inv X pins σ H s) {v : V} {d : PyData} {u : Value} (h : Di X.K H v d) (r : RelV v u) : ∃ as, Reads s.heap u d as ∧ sysModules ∉ as := by
  cases h with
  | of h t =>
    obtain ⟨as, q⟩ := Dp.reads I _ _ _ h r
    have := reads_nil _ _ _ q t
    subst this
    exact ⟨_, q, List.not_mem_nil⟩
  | dct h =>
    cases r
    obtain ⟨_, hd, vs, rel, dd⟩ := dk_of I.hok h
    refine ⟨_, PyProof.V.reads_dictOf key_reads dd (kv_pairs rel), ?_⟩
    intro z
    rw [List.mem_singleton] at z
    rw [z] at hd
    simp at hd
theorem DiAll.reads (I : Inv X pins σ H s) : ∀ {vs : List V} {ds : List PyData} {us : List Value}, DiAll X.K H vs ds → Vals vs us → ∃ as, ReadsAll s.heap us ds as ∧ sysModules ∉ as
  | [], _, _, h, r => by
    cases h
    cases r
    exact ⟨_, .nil, List.not_mem_nil⟩
  | v :: vs, _, _, h, r => by
    cases h with
    | cons h1 h2 =>
      cases r with
      | cons r1 r2 =>
        obtain ⟨as, q1, n1⟩ := h1.reads I r1
        obtain ⟨bs, q2, n2⟩ := DiAll.reads I h2 r2
        exact ⟨_, .cons q1 q2, fun z => (List.mem_append.mp z).elim n1 n2⟩
end
/-! the shapes -/
abbrev dStrs (ns : List Str) : PyData := .tuple (ns.map PyData.str)
abbrev dGr (ns : List Str) (es : List (Str × Str)) : PyData := .tuple [dStrs ns, .tuple (es.map fun e => .tuple [.str e.1, .str e.2])]
theorem IsName.lv {z : Str} (h : IsName z) : (PyData.str z).leavesShort 13 = true := by
  rw [PyData.leavesShort, List.all_eq_true]
  intro x hx
  have := h.ch x hx
  rw [decide_eq_true_eq]
  omega
theorem IsName.bk {z : Str} (h : IsName z) : (PyData.str z).bulk ≤ 8 := by
  rw [PyData.bulk]
  exact h.hi
theorem lvs_strs : ∀ {ns : List Str}, (∀ n ∈ ns, IsName n) → PyData.leavesShortAll 13 (ns.map PyData.str) = true ∧ PyData.showableAll (ns.map PyData.str) = true ∧ PyData.bulkAll (ns.map PyData.str) ≤ 9 * ns.length ∧ PyData.depthAll (ns.map PyData.str) = 0
  | [], _ => by simp [PyData.leavesShortAll, PyData.showableAll, PyData.bulkAll, PyData.depthAll]
  | n :: ns, h => by
    obtain ⟨a, b, c, d⟩ := lvs_strs (ns := ns) fun x hx => h x (List.mem_cons_of_mem _ hx)
    have hn := h n List.mem_cons_self
    have := hn.bk
    simp only [List.map_cons, PyData.leavesShortAll, PyData.showableAll, PyData.bulkAll, PyData.depthAll, List.length_cons, hn.lv, a, b, d, PyData.showable, Bool.and_self, PyData.depth, true_and]
    exact ⟨by omega, rfl⟩
theorem lvs_edges : ∀ {es : List (Str × Str)}, (∀ e ∈ es, IsName e.1 ∧ IsName e.2) → PyData.leavesShortAll 13 (es.map fun e => .tuple [.str e.1, .str e.2]) = true ∧ PyData.showableAll (es.map fun e => .tuple [.str e.1, .str e.2]) = true ∧
    PyData.bulkAll (es.map fun e => .tuple [.str e.1, .str e.2]) ≤ 19 * es.length ∧ PyData.depthAll (es.map fun e => .tuple [.str e.1, .str e.2]) ≤ 1
  | [], _ => by simp [PyData.leavesShortAll, PyData.showableAll, PyData.bulkAll, PyData.depthAll]
  | e :: es, h => by
    obtain ⟨a, b, c, d⟩ := lvs_edges (es := es) fun x hx => h x (List.mem_cons_of_mem _ hx)
    obtain ⟨h1, h2⟩ := h e List.mem_cons_self
    have := h1.bk
    have := h2.bk
    simp only [List.map_cons, PyData.leavesShortAll, PyData.showableAll, PyData.bulkAll, PyData.depthAll, List.length_cons, PyData.leavesShort, PyData.showable, PyData.bulk, PyData.depth, a, b] at *
    have l1 := h1.lv
    have l2 := h2.lv
    simp only [PyData.leavesShort] at l1 l2
    rw [l1, l2]
    refine ⟨rfl, rfl, ?_, ?_⟩
    · omega
    · omega
end U

/-! a lambda with parameters and without captured names: entered -/
namespace U
open PySem PySem.Spec PyProof.Rows L2
end U
namespace U
open PySem PySem.Spec PyProof.Rows L2 PySem.W
end U
namespace U
open PySem PySem.Spec PyProof.Rows L2 PySem.W
/-- no more than new things, the callers' frames but for their slots -/
def Jm (X : Cx) (s0 s' : Shared) : Prop := s'.os = s0.os ∧ AllBare s'.gens ∧ Un (frs X.stack) [] (fun _ => none) (fun _ => none) s0.heap s'.heap
section
variable {X : Cx} {pins : List (Addr × Obj)} {σ : L2.St} {H : Hp} {s0 s : Shared}
theorem Jm.refl (I : Inv X pins σ H s0) : Jm X s0 s0 := ⟨rfl, I.bare, Un.refl⟩
variable {A : Around} {q : Str} {params : Arguments} {body : Expr} {scope : Scope} {pm ctv : Value} {f c' l : Addr} {items : List (Addr × List Str)} {its : List Value} {N : List Str} {p : Str} {tb : TE} {k : Nat}
end
end U
namespace U
open PySem PySem.Spec PyProof.Rows L2 PySem.W LamX
end U

/-! a def whose code object is known (its table of lambdas is tracked) -/
namespace U
open PySem PySem.Spec PyProof.Rows L2 LamX
structure FunC (K : PySem.W.Frag) (x qual : Str) (st : Stmt) (f : Addr) (fd : FuncData) (c : Addr) : Prop where
  ex : ∃ (oc : Value) (od : Option Addr) (kV doc pm : Value) (an : Option Addr) (ct : Value) (osl : Array (Option Value)),
    fd = PySem.W.fnOf x qual (defArgs st) (defBody st) (defScope st) .none kV doc pm an (.ref c) ct ∧ K.lookup f = some ⟨oc, od, .func fd, osl⟩ ∧ PySem.W.codeIn K (.ref c) qual = true
section
variable {P : Program} {w : World} {K : PySem.W.Frag} {mg : Str → Option Value} {base : Heap}
end
end U

/-! functions handed on: one rule for a def of the module and for a def made within the caller -/
namespace U
open PySem PySem.Spec PyProof.Rows L2 LamX NdefX
/-- what a def made within another one promises, no repr being under way -/
structure NdR (P : Program) (w : World) (K : PySem.W.Frag) (mg : Str → Option Value) (base : Heap) (CX : CXT) (k : Nat) (f : Addr) (F : NF) (ps fr : List Str) (sp : List (Option V) → Sp) : Prop where
  ln : ∀ ws vs H Q E, sp ws vs H Q E → vs.length = ps.length
  rn : ∀ (A : Around) (out : List Env) (s : Shared) (H : Hp) (us : List Value) (vs : List V) (ws : List (Option V)) (Q : VK) (E : XK), Rm k A → Env0 P w K mg base A out s H → H f = some (FnO f F) →
    H F.c = some (CodeO F.c F.qual) → CellsAt F.cl fr ws s.heap H → Vals vs us → sp ws vs H Q E → codeAny (model P w) A (.call (.ref f) ⟨us, []⟩) (CR CX out P w H s Q E) s
section
variable {CX : CXT} {P : Program} {w : World} {K : PySem.W.Frag} {mg : Str → Option Value} {base : Heap} {N ps fr : List Str} {F : NF} {f : Addr} {k j : Nat} {sp : List (Option V) → Sp}
theorem ndR_of (S : NScope N ps fr F.scope) (bind : ∀ (d m t : Value) (us : List Value), us.length = ps.length → bindArgs (F.fd d m t) ⟨us, []⟩ = pure (ps.zip us)) (ln : ∀ ws vs H Q E, sp ws vs H Q E → vs.length = ps.length)
    (bd : ∀ (A : Around) (out : List Env) (s : Shared) (H : Hp) (vs : List V) (ws : List (Option V)) (Q : VK) (E : XK), Rm k (A.deeper (envF F f s.heap.objs.size)) → ws.length = fr.length → sp ws vs H Q E →
      ∃ t, PSs (ncx CX P w K mg base N F f A out s H E) F.body t ∧ t { nx := fun _ H' => Q .non H', rt := Q } (startF N vs ws) H) : NdR P w K mg base CX (k + 1) f F ps fr sp := by
  refine ⟨ln, fun A out s H us vs ws Q E rm e0 hf hc C r want => ?_⟩
  have count := ln _ _ _ _ _ want
  obtain ⟨od, sl, d, m, t0, obj⟩ := fnO_at e0.hok hf
  have lim : s.heap.NoLimit := e0.mod.nolimit.keeps fun b o e => (e0.bs b o e).1
  refine codeAny_call_function rm.r.depth obj rfl S.co S.gen rfl (codeO_at e0.hok hc) ?_
  rw [bind d m t0 us (r.length ▸ count)]
  refine wpAny_pure (wpAny_newFunctionEnv S.nocell (fun ⟨y, _⟩ hy => S.par y (List.of_mem_zip hy).1) (fun h1 ns1 sb1 => ⟨lim.fresh _ sb1, ?_⟩) S.kind)
  have old : ∀ b o, s.heap.get? b = some o → h1.get? b = some o := fun b o e => sb1.extBut b o (Nat.ne_of_lt (Heap.lt_size e)) (Heap.get?_push_of_some _ e)
  obtain ⟨t, run, q⟩ := bd A out s H vs ws Q E (rm.deeper _) C.len want
  have I0 : Inv (ncx CX P w K mg base N F f A out s H E) [] (startF N vs ws) H { s with heap := h1, toks := s.toks + (ps.zip us).length } := inv_startN S rm.r.hd e0 count r C ns1 old
  refine codeAny_func (wpAny_mono (run.run [] _ (startF N vs ws) H _ I0 q) (fun fl s' z => ?_) fun _ _ z => z)
  cases fl with
  | next =>
    obtain ⟨σ', H', J, z⟩ := z
    exact ⟨V.non, H', J.os, J.bare, J.base, J.hok, rfl, z⟩
  | ret u =>
    obtain ⟨v, σ', H', J, rv, z⟩ := z
    exact ⟨v, H', J.os, J.bare, J.base, J.hok, rv, z⟩
  | cont =>
    obtain ⟨_, _, _, z⟩ := z
    exact z.elim
  | brk =>
    obtain ⟨_, _, _, z⟩ := z
    exact z.elim
end
/-- f is a function that keeps the promise sp: a def of the module, or one made within a def that still runs; Pre: what must be known of its object -/
def Handed (P : Program) (w : World) (K : PySem.W.Frag) (mg : Str → Option Value) (base : Heap) (k : Nat) (l : List Env) (h : Heap) (H : Hp) (f : Addr) (Pre : Hp → Prop) (sp : Sp) : Prop :=
  (∃ (F : NF) (ps fr : List Str) (ws : List (Option V)) (spF : List (Option V) → Sp), NdR P w K mg base CX0 k f F ps fr spF ∧ Held F.cl fr ws l h H ∧ (∀ H1, Pre H1 → H1 f = some (FnO f F) ∧ H1 F.c = some (CodeO F.c F.qual)) ∧ ∀ vs H Q E, sp vs H Q E → spF ws vs H Q E) ∨
  ∃ (fd : FuncData) (ps : List Str), FnG P w K mg base CX0 k f fd ps sp ∧ PySem.W.keepIn K (.ref f) = true ∧ Binds K fd ps []
theorem Handed.mono {P : Program} {w : World} {K : PySem.W.Frag} {mg : Str → Option Value} {base : Heap} {k : Nat} {l : List Env} {h : Heap} {H : Hp} {f : Addr} {Pre Pre2 : Hp → Prop} {sp sp2 : Sp} (x : Handed P w K mg base k l h H f Pre sp) (a : ∀ H1, Pre2 H1 → Pre H1) (b : ∀ vs H Q E, sp2 vs H Q E → sp vs H Q E) : Handed P w K mg base k l h H f Pre2 sp2 := by
  rcases x with ⟨F, ps, fr, ws, spF, x1, x2, x3, x4⟩ | ⟨fd, ps, x1, x2, x3⟩
  · exact .inl ⟨F, ps, fr, ws, spF, x1, x2, fun H1 p => x3 H1 (a H1 p), fun vs H Q E z => x4 _ _ _ _ (b _ _ _ _ z)⟩
  · exact .inr ⟨fd, ps, ⟨fun vs H Q E z => x1.len _ _ _ _ (b _ _ _ _ z), fun A out s H args us vs Q E rm e0 bd r z => x1.go A out s H args us vs Q E rm e0 bd r (b _ _ _ _ z)⟩, x2, x3⟩
/-- a def of the module may be handed on at any time -/
theorem Cal.handed {P : Program} {w : World} {K : PySem.W.Frag} {mg : Str → Option Value} {base : Heap} {k : Nat} {x : Str} {f : Addr} {sp : Sp} (c : Cal P w K mg base CX0 k x sp) (e : mg x = some (.ref f)) (l : List Env) (h : Heap) (H : Hp) : Handed P w K mg base k l h H f (fun _ => True) sp := by
  obtain ⟨f', fd, ps, F, m, kp, b⟩ := c.ex
  rw [e] at m
  cases m
  exact .inr ⟨fd, ps, F, kp, b⟩
section
variable {X : Cx} {pins : List (Addr × Obj)} {σ : L2.St} {H : Hp} {s : Shared}
/-- what was handed to the running def it may hand on -/
theorem Handed.on {k : Nat} {f : Addr} {Pre : Hp → Prop} {sp : Sp} (x : Handed X.prog X.w X.K X.mg X.base k X.outer X.s_0.heap X.H_0 f Pre sp) (hex : X.ex = []) (own : ∀ c, c ∈ frs X.stack → c ∈ frs X.outer ∨ X.s_0.heap.get? c = none) (I : Inv X pins σ H s) : Handed X.prog X.w X.K X.mg X.base k X.stack s.heap H f Pre sp := by
  rcases x with ⟨F, ps, fr, ws, spF, x1, x2, x3, x4⟩ | x
  · refine .inl ⟨F, ps, fr, ws, spF, x1, ⟨x2.at_.later x2.off (fun _ _ _ z => by rw [hex] at z; cases z) I, fun y c e z => ?_⟩, x3, x4⟩
    rcases own c z with z | z
    · exact x2.off y c e z
    · obtain ⟨_, v, o, ho, _⟩ := x2.at_.all y c e
      rw [z] at ho
      cases ho
  · exact .inr x
/-- v(e, ..), v a slot that holds the handed function -/
def tHd (f : Addr) (Pre : Hp → Prop) (i : Nat) (sp : Sp) (E : XK) (t : TA) : TE := fun σ H Q => σ[i]? = some (some (.ref f)) ∧ Pre H ∧ t σ H fun vs H1 => Pre H1 ∧ sp vs H1 Q E
theorem pe_hd {f : Addr} {Pre : Hp → Prop} {i k j : Nat} {x : Str} {sp : Sp} {t : TA} {e : Expr} {es : List Expr} {p pos : Pos} (hw : Handed X.prog X.w X.K X.mg X.base k X.outer X.s_0.heap X.H_0 f Pre sp) (hex : X.ex = []) (hr : Rm j X.A) (hk : k ≤ j)
    (hN : X.N[i]? = some x) (hv : Vis X.env.scope x) (ha : PA X (e :: es) t) (hd : (x == ("__debug__" : Str)) = false := by decide) (hcd : (x == ("__classdict__" : Str)) = false := by decide)
    (he : starEach (e :: es) X.env = (false, eval e X.env) :: starEach es X.env := by rfl) (hpl : (backTo pos (starEach es X.env)).any (·.1) = false := by rfl) :
    PE X (.Call (.Name x p) (e :: es) [] pos) (tHd f Pre i sp E0 t) := by
  refine ⟨fun pins s σ H Q I want => ?_⟩
  obtain ⟨at_, pre, ht⟩ := want
  have look := (pe_var (pos := p) hN hv hd hcd).run pins s σ H (fun v H1 => v = .ref f ∧ H1 = H) I ⟨.ref f, at_, rfl, rfl⟩
  refine wpAny_Call_Name_kw (thn look fun u s1 got => ?_)
  obtain ⟨v, H1, I1, r1, e1, e2⟩ := got
  subst e1
  subst e2
  obtain rfl : u = Value.ref f := r1
  rcases hw with ⟨F, ps, fr, ws, spF, nd, held, obj, imp⟩ | ⟨fd, ps, G, kp, b⟩
  · refine PySem.W.callWith_F (first := []) (fnAt_of I1 (obj _ pre).1) (thn (ha.run pos pins s1 σ _ _ I1 ht) fun us s2 got2 => ?_) he hpl
    obtain ⟨vs, H2, I2, r, pre2, q⟩ := got2
    obtain ⟨o1, o2⟩ := obj _ pre2
    refine ⟨fnAt_of I2 o1, ?_⟩
    show wpAny _ _ (call (.ref f) us) _ _ _
    have cells : CellsAt F.cl fr ws s2.heap H2 := held.at_.later held.off (fun _ _ _ z => by rw [hex] at z; cases z) I2
    refine wpAny_call (codeAny_mono (nd.rn X.A X.stack s2 H2 us vs ws Q E0 (hr.mono hk) I2.env0 o1 o2 cells r (imp _ _ _ _ q)) fun res s' z => ?_)
    cases res with
    | error er => exact pass0 pins σ H2 s2 er s' I2 z
    | ok fl =>
      cases fl with
      | next => exact z.elim
      | ret u => exact I2.after z
      | cont => exact z.elim
      | brk => exact z.elim
  · refine PySem.W.callWith_K (h₀ := X.base) I1.ok.mod.kin kp (thn (ha.run pos pins s1 σ _ _ I1 ht) fun us s2 got2 => ?_) he hpl
    obtain ⟨vs, H2, I2, r, _, q⟩ := got2
    exact ⟨I2.kIn, callG G (hr.mono hk) b pass0 I2 r q⟩
/-- g(e, ..): the promise is told of the frames and of the heap at the call; R: what is known of them -/
def tCHd (sp : List Env → Heap → Sp) (l : List Env) (R : L2.St → Heap → Hp → Prop) (t : TA) : TE := fun σ H Q => t σ H fun vs H1 => ∀ h, R σ h H1 → sp l h vs H1 Q E0
theorem pe_cHd {k j : Nat} {sp : List Env → Heap → Sp} {R : L2.St → Heap → Hp → Prop} {x : Str} {p pos : Pos} {e : Expr} {es : List Expr} {t : TA} (c : CalH X.prog X.w X.K X.mg X.base CX0 k x sp) (hr : Rm j X.A) (hk : k ≤ j) (hg : Gl X x)
    (kn : ∀ pins σ H s, Inv X pins σ H s → R σ s.heap H) (ha : PA X (e :: es) t)
    (hdb : (x == ("__debug__" : Str)) = false := by decide) (he : starEach (e :: es) X.env = (false, eval e X.env) :: starEach es X.env := by rfl) (hpl : (backTo pos (starEach es X.env)).any (·.1) = false := by rfl) :
    PE X (.Call (.Name x p) (e :: es) [] pos) (tCHd sp X.stack R t) := by
  obtain ⟨f, fd, ps, F, hm, kp, b⟩ := c.ex
  refine ⟨fun pins s σ H Q I h => wpAny_Call_Name_kw (ld_glob I hg hm ?_ hdb)⟩
  refine PySem.W.callWith_K (h₀ := X.base) I.ok.mod.kin kp (thn (ha.run pos pins s σ H _ I h) ?_) he hpl
  rintro us s1 ⟨vs, H1, I1, r, q⟩
  have want := q s1.heap (kn _ _ _ _ I1)
  have bd := b s1 us I1.kIn (by rw [List.append_nil]; exact r.length ▸ F.len _ _ _ _ _ _ want)
  rw [List.append_nil] at bd
  refine ⟨I1.kIn, wpAny_call (codeAny_mono (F.go X.A X.stack s1 H1 ⟨us, []⟩ us vs Q E0 (hr.mono hk) I1.env0 bd r want) fun res s' z => ?_)⟩
  cases res with
  | error er => exact pass0 pins σ H1 s1 er s' I1 z
  | ok fl =>
    cases fl with
    | next => exact z.elim
    | ret u => exact I1.after z
    | cont => exact z.elim
    | brk => exact z.elim
/-- .. what is raised is wished for at the caller's slots -/
def tCHx (sp : List Env → Heap → Sp) (l : List Env) (R : L2.St → Heap → Hp → Prop) (W : WX) (t : TA) : TE := fun σ H Q => t σ H fun vs H1 => ∀ h, R σ h H1 → sp l h vs H1 Q fun cls d H' => W cls d σ H'
theorem pe_cHx {W : WX} {k j : Nat} {sp : List Env → Heap → Sp} {R : L2.St → Heap → Hp → Prop} {x : Str} {p pos : Pos} {e : Expr} {es : List Expr} {t : TA} (c : CalH X.prog X.w X.K X.mg X.base (L2.CX X.prog X.w) k x sp) (hr : Rm j X.A) (hk : k ≤ j) (hg : Gl X x) (tk : Takes X W)
    (kn : ∀ pins σ H s, Inv X pins σ H s → R σ s.heap H) (ha : PA X (e :: es) t)
    (hdb : (x == ("__debug__" : Str)) = false := by decide) (he : starEach (e :: es) X.env = (false, eval e X.env) :: starEach es X.env := by rfl) (hpl : (backTo pos (starEach es X.env)).any (·.1) = false := by rfl) :
    PE X (.Call (.Name x p) (e :: es) [] pos) (tCHx sp X.stack R W t) := by
  obtain ⟨f, fd, ps, F, hm, kp, b⟩ := c.ex
  refine ⟨fun pins s σ H Q I h => wpAny_Call_Name_kw (ld_glob I hg hm ?_ hdb)⟩
  refine PySem.W.callWith_K (h₀ := X.base) I.ok.mod.kin kp (thn (ha.run pos pins s σ H _ I h) ?_) he hpl
  rintro us s1 ⟨vs, H1, I1, r, q⟩
  have want := q s1.heap (kn _ _ _ _ I1)
  have bd := b s1 us I1.kIn (by rw [List.append_nil]; exact r.length ▸ F.len _ _ _ _ _ _ want)
  rw [List.append_nil] at bd
  refine ⟨I1.kIn, wpAny_call (codeAny_mono (F.go X.A X.stack s1 H1 ⟨us, []⟩ us vs _ _ (hr.mono hk) I1.env0 bd r want) fun res s' z => ?_)⟩
  cases res with
  | error er => exact tk er s' (XE.of_call I1 (fun cls d H' z => z) z)
  | ok fl =>
    cases fl with
    | next => exact z.elim
    | ret u => exact I1.after z
    | cont => exact z.elim
    | brk => exact z.elim
end
end U
namespace U
open PySem PySem.Spec PyProof.Rows L2 LamX NdefX
section
variable {X : Cx}
theorem pe_cHcx {W : WX} {k j : Nat} {sp : List Env → Heap → Sp} {cl : List (Str × Addr)} {fr : List Str} {js : List Nat} {x : Str} {p pos : Pos} {e : Expr} {es : List Expr} {t : TA} (c : CalH X.prog X.w X.K X.mg X.base (L2.CX X.prog X.w) k x sp) (hr : Rm j X.A) (hk : k ≤ j) (hg : Gl X x) (tk : Takes X W)
    (cp : X.Ok → Caps X cl fr js) (own : ∀ y a, cl.lookup y = some a → X.fn y = true) (ha : PA X (e :: es) t)
    (hdb : (x == ("__debug__" : Str)) = false := by decide) (he : starEach (e :: es) X.env = (false, eval e X.env) :: starEach es X.env := by rfl) (hpl : (backTo pos (starEach es X.env)).any (·.1) = false := by rfl) :
    PE X (.Call (.Name x p) (e :: es) [] pos) (tCHx sp X.stack (fun σ h H => Held cl fr (js.map (slotAt σ)) X.stack h H) W t) :=
  pe_cHx c hr hk hg tk (fun _ _ _ _ I => held_of I (cp I.ok) own) ha hdb he hpl
/-- .. the argument was handed to this def -/
theorem pe_cHo {k j k2 : Nat} {sp : List Env → Heap → Sp} {f : Addr} {Pre : Hp → Prop} {sp2 : Sp} {x : Str} {p pos : Pos} {e : Expr} {es : List Expr} {t : TA} (c : CalH X.prog X.w X.K X.mg X.base CX0 k x sp) (hr : Rm j X.A) (hk : k ≤ j) (hg : Gl X x)
    (hw : Handed X.prog X.w X.K X.mg X.base k2 X.outer X.s_0.heap X.H_0 f Pre sp2) (hex : X.ex = []) (own : ∀ c, c ∈ frs X.stack → c ∈ frs X.outer ∨ X.s_0.heap.get? c = none) (ha : PA X (e :: es) t)
    (hdb : (x == ("__debug__" : Str)) = false := by decide) (he : starEach (e :: es) X.env = (false, eval e X.env) :: starEach es X.env := by rfl) (hpl : (backTo pos (starEach es X.env)).any (·.1) = false := by rfl) :
    PE X (.Call (.Name x p) (e :: es) [] pos) (tCHd sp X.stack (fun _ h H => Handed X.prog X.w X.K X.mg X.base k2 X.stack h H f Pre sp2) t) :=
  pe_cHd c hr hk hg (fun _ _ _ _ I => hw.on hex own I) ha hdb he hpl
/-- .. nothing is to be known -/
theorem pe_cHmx {W : WX} {k j : Nat} {sp : List Env → Heap → Sp} {x : Str} {p pos : Pos} {e : Expr} {es : List Expr} {t : TA} (c : CalH X.prog X.w X.K X.mg X.base (L2.CX X.prog X.w) k x sp) (hr : Rm j X.A) (hk : k ≤ j) (hg : Gl X x) (tk : Takes X W) (ha : PA X (e :: es) t)
    (hdb : (x == ("__debug__" : Str)) = false := by decide) (he : starEach (e :: es) X.env = (false, eval e X.env) :: starEach es X.env := by rfl) (hpl : (backTo pos (starEach es X.env)).any (·.1) = false := by rfl) :
    PE X (.Call (.Name x p) (e :: es) [] pos) (tCHx sp X.stack (fun _ _ _ => True) W t) :=
  pe_cHx c hr hk hg tk (fun _ _ _ _ _ => True.intro) ha hdb he hpl
end
/-- a def whose code object is known, that may raise -/
theorem fnGC {P : Program} {w : World} {K : PySem.W.Frag} {mg : Str → Option Value} {base : Heap} {CX : CXT} {x qual : Str} {st : Stmt} {f c : Addr} {fd : FuncData} {N ps : List Str} {k : Nat} {sp : Sp} (F : FunC K x qual st f fd c) (S : FnScope N ps (defScope st)) (ln : ∀ vs H Q E, sp vs H Q E → vs.length = ps.length)
    (bd : ∀ (A : Around) (out : List Env) (s : Shared) (H : Hp) (vs : List V) (Q : VK) (E : XK), Rm k (A.deeper (envOfC qual (defScope st) s.heap.objs.size f (.ref c))) → sp vs H Q E →
      ∃ t, PSs (cxOf CX P w K mg base N qual (defScope st) f (.ref c) A out s H E) (defBody st) t ∧ t { nx := fun _ H' => Q .non H', rt := Q } (start N vs) H) :
    FnG P w K mg base CX (k + 1) f fd ps sp := by
  obtain ⟨oc, od, kV, doc, pm, an, ct, osl, rfl, lk, hcd⟩ := F.ex
  refine ⟨ln, fun A out s H args us vs Q E rm e0 b r want => ?_⟩
  have kin : K.In s.heap := e0.mod.kin.keeps fun b o e => (e0.bs b o e).1
  have lim : s.heap.NoLimit := e0.mod.nolimit.keeps fun b o e => (e0.bs b o e).1
  have count := ln _ _ _ _ want
  apply codeAny_call_function rm.r.depth (kin _ _ lk) rfl S.co S.gen rfl (PySem.W.codeRec_of kin hcd) (b _ _ _ _ _)
  apply wpAny_newFunctionEnv_cells S.kind fun ⟨y, v⟩ hy => (S.par y (List.of_mem_zip hy).1).elim .inl fun q => .inr ⟨q, PySem.W.cellsFrom_some _ _ _ (.inl q)⟩
  intro env he s1 x
  subst he
  refine ⟨lim.keeps x.toInCall.keep, codeAny_func ?_⟩
  obtain ⟨t, ht, q⟩ := bd A out s H vs Q E (rm.deeper _) want
  have I0 := inv_start (CX := CX) (P := P) (w := w) (K := K) (mg := mg) (base := base) (E := E) S rm.r.hd e0 count r x
  refine wpAny_mono (ht.run [] s1 (start N vs) H _ I0 q) (fun fl s' z => ?_) fun _ _ z => z
  cases fl with
  | next =>
    obtain ⟨σ', H', J, z⟩ := z
    exact ⟨V.non, H', J.os, J.bare, J.base, J.hok, rfl, z⟩
  | ret u =>
    obtain ⟨v, σ', H', J, rv, z⟩ := z
    exact ⟨v, H', J.os, J.bare, J.base, J.hok, rv, z⟩
  | cont => exact z.elim fun _ z => z.elim fun _ z => z.2.elim
  | brk => exact z.elim fun _ z => z.elim fun _ z => z.2.elim
/-- any object of the common kinds -/
def Ob (H : Hp) (v : V) : Prop := v = .non ∨ (∃ b, v = .bl b) ∨ (∃ i, v = .int i) ∨ (∃ s, v = .str s) ∨ ∃ a o, v = .ref a ∧ H a = some o ∧ ((∃ xs, o = .lst xs) ∨ (∃ xs, o = .tup xs) ∨ ∃ k, o = .dK k)
theorem Ob.ext {H H' : Hp} {v : V} (h : Ob H v) (e : ∀ a o, H a = some o → (∀ ps, o ≠ .tbl ps) → H' a = some o) : Ob H' v := by
  rcases h with h | h | h | h | ⟨a, o, rfl, h1, h2⟩
  · exact .inl h
  · exact .inr (.inl h)
  · exact .inr (.inr (.inl h))
  · exact .inr (.inr (.inr (.inl h)))
  · refine .inr (.inr (.inr (.inr ⟨a, o, rfl, e a o h1 fun ps z => ?_, h2⟩)))
    subst z
    rcases h2 with ⟨_, h2⟩ | ⟨_, h2⟩ | ⟨_, h2⟩ <;> cases h2
theorem Ob.same {H H' : Hp} {v : V} (h : Ob H v) (s : Same H H') : Ob H' v := h.ext fun a o x _ => s a o x
/-- its class -/
theorem Ob.ty {K : PySem.W.Frag} {H : Hp} {v : V} (h : Ob H v) : ∃ t, TyIs K H v t ∧ (isT t .str = true ↔ ∃ s, v = .str s) ∧ (isT t .tup = true ↔ ∃ a xs, v = .ref a ∧ H a = some (.tup xs)) := by
  rcases h with rfl | ⟨b, rfl⟩ | ⟨i, rfl⟩ | ⟨s, rfl⟩ | ⟨a, o, rfl, h1, ⟨xs, rfl⟩ | ⟨xs, rfl⟩ | ⟨k, rfl⟩⟩
  · exact ⟨.non, ty_non, ⟨fun z => absurd z (by decide +kernel), fun ⟨_, z⟩ => nomatch z⟩, ⟨fun z => absurd z (by decide +kernel), fun ⟨_, _, z, _⟩ => nomatch z⟩⟩
  · exact ⟨.bl, ty_bl, ⟨fun z => absurd z (by decide +kernel), fun ⟨_, z⟩ => nomatch z⟩, ⟨fun z => absurd z (by decide +kernel), fun ⟨_, _, z, _⟩ => nomatch z⟩⟩
  · exact ⟨.int, ty_int, ⟨fun z => absurd z (by decide +kernel), fun ⟨_, z⟩ => nomatch z⟩, ⟨fun z => absurd z (by decide +kernel), fun ⟨_, _, z, _⟩ => nomatch z⟩⟩
  · exact ⟨.str, ty_str, ⟨fun _ => ⟨s, rfl⟩, fun _ => by decide +kernel⟩, ⟨fun z => absurd z (by decide +kernel), fun ⟨_, _, z, _⟩ => nomatch z⟩⟩
  · exact ⟨.lst, ty_lst h1, ⟨fun z => absurd z (by decide +kernel), fun ⟨_, z⟩ => nomatch z⟩, ⟨fun z => absurd z (by decide +kernel), fun ⟨b, ys, z, z2⟩ => by cases z; rw [h1] at z2; cases z2⟩⟩
  · exact ⟨.tup, ty_tup h1, ⟨fun z => absurd z (by decide +kernel), fun ⟨_, z⟩ => nomatch z⟩, ⟨fun _ => ⟨a, xs, rfl, h1⟩, fun _ => by decide +kernel⟩⟩
  · exact ⟨.dct, ty_dK h1, ⟨fun z => absurd z (by decide +kernel), fun ⟨_, z⟩ => nomatch z⟩, ⟨fun z => absurd z (by decide +kernel), fun ⟨b, ys, z, z2⟩ => by cases z; rw [h1] at z2; cases z2⟩⟩
end U
namespace U
open PySem PySem.Spec PyProof.Rows L2 LamX NdefX
/-- a def that is told of the caller's frames and that no exception leaves -/
theorem fnH0 {P : Program} {w : World} {K : PySem.W.Frag} {mg : Str → Option Value} {base : Heap} {x qual : Str} {st : Stmt} {f : Addr} {fd : FuncData} {N ps : List Str} {k : Nat} {sp : List Env → Heap → Sp} (F : Fun K x qual st f fd) (S : FnScope N ps (defScope st)) (ln : ∀ l h vs H Q E, sp l h vs H Q E → vs.length = ps.length)
    (bd : ∀ (cdv : Value) (A : Around) (out : List Env) (s : Shared) (H : Hp) (vs : List V) (Q : VK) (E : XK), Rm k (A.deeper (envOfC qual (defScope st) s.heap.objs.size f cdv)) → sp out s.heap vs H Q E →
      ∃ t, PSs (cxOf CX0 P w K mg base N qual (defScope st) f cdv A out s H E).nox (defBody st) t ∧ t { nx := fun _ H' => Q .non H', rt := Q } (start N vs) H) :
    FnH P w K mg base CX0 (k + 1) f fd ps sp := fnH F S ln fun cdv A out s H vs Q E rm z => by
  obtain ⟨t, r, q⟩ := bd cdv A out s H vs Q E rm z
  exact ⟨t, r.nox, q⟩
end U

/-! enumerate(tuple) -/
namespace U
open PySem PySem.Spec PyProof.Rows L2
theorem meets_enumT (t : Addr) (items : Array Value) :
    Meets (Builtin.«enumerate.__new__» ⟨[.type "enumerate", .ref t], []⟩) (fun _ R s => s.heap.IsTuple t items ∧
      R (.ok (.ret (.ref (s.heap.push { cls := .type "tuple_iterator", data := .fields #[.ref t, .int 0 0] }).objs.size)))
        { s with heap := (s.heap.push { cls := .type "tuple_iterator", data := .fields #[.ref t, .int 0 0] }).push { cls := .type "enumerate", data := .fields #[.none, .bool false, .ref s.heap.objs.size, rawInt 0, .none, .none] } }) :=
  .of_wp fun prog w A R s want => by
    obtain ⟨hp, g, d, tk, os⟩ := s
    obtain ⟨ht, want⟩ := want
    have known := sub_enumerate
    have walkT : ∀ {A' : Around} {E Q : Value → Shared → Prop}, Q (.ref hp.objs.size) ⟨hp.push { cls := .type "tuple_iterator", data := .fields #[.ref t, .int 0 0] }, g, d, tk, os⟩ → wpAny (model prog w) A' (pyIter (.ref t)) Q E ⟨hp, g, d, tk, os⟩ :=
      fun q => wpAny_pyIter_tuple (s := ⟨hp, g, d, tk, os⟩) ht q
    obtain ⟨o, ho, hc, n, hd⟩ := id ht
    wp_walk using AutoSeq1.wpAny_loadPart' ho, walkT
    refine wpAny_stack_any fun st => wpAny_pure ?_
    split
    · rename_i c _ _ _ _ _
      cases (c == Value.type "enumerate")
      · wp_walk using AutoSeq1.wpAny_loadPart' ho, walkT
        exact ⟨_, rfl, want⟩
      · wp_walk using AutoSeq1.wpAny_loadPart' ho, walkT
        exact ⟨_, rfl, want⟩
    · wp_walk using AutoSeq1.wpAny_loadPart' ho, walkT
      exact ⟨_, rfl, want⟩
theorem call_enumT {prog : Program} {w : World} {A : Around} {E Q : Value → Shared → Prop} {s : Shared} {t : Addr} {items : Array Value} (ht : s.heap.IsTuple t items)
    (h : ∀ h', IsEnum h' (s.heap.objs.size + 1) s.heap.objs.size 0 .none → h'.IsTupleIter s.heap.objs.size t 0 → (∀ b o, s.heap.get? b = some o → h'.get? b = some o) → Q (.ref (s.heap.objs.size + 1)) { s with heap := h' }) :
    wpAny (model prog w) A (call (.type "enumerate") [.ref t]) Q E s := by
  refine callType_new F.called_enumerate (by decide) (F.typeCall_enumerate_1 _) (F.newCall_enumerate_1 _) (fun obj => F.args_object_init_2 obj _) F.entry_enumerate_new (meets_enumT t items) ⟨ht, ?_⟩
  have sz : (s.heap.push { cls := .type "tuple_iterator", data := .fields #[.ref t, .int 0 0] }).objs.size = s.heap.objs.size + 1 := Heap.size_push ..
  show _ ∧ _
  rw [sz]
  have made : IsEnum ((s.heap.push { cls := .type "tuple_iterator", data := .fields #[.ref t, .int 0 0] }).push
      { cls := .type "enumerate", data := .fields #[.none, .bool false, .ref s.heap.objs.size, rawInt 0, .none, .none] }) (s.heap.objs.size + 1) s.heap.objs.size 0 .none := by
    have z := Heap.get?_push_size (s.heap.push { cls := .type "tuple_iterator", data := .fields #[.ref t, .int 0 0] })
      (o := { cls := .type "enumerate", data := .fields #[.none, .bool false, .ref s.heap.objs.size, rawInt 0, .none, .none] }) rfl
    rw [sz] at z
    exact z
  exact ⟨⟨_, made, rfl⟩, h _ made ⟨_, Heap.get?_push_of_some _ (Heap.get?_push_size _ rfl), rfl, rfl⟩ fun b o x => Heap.get?_push_of_some _ (Heap.get?_push_of_some _ x)⟩
/-- the tuple at a, each item in a new pair -/
def Iet (K : PySem.W.Frag) (a : Addr) : It :=
  ⟨fun i H => ∃ (xs : List V) (x : V), SqT K H a xs ∧ xs[i]? = some x, fun i H v H' => ∃ T x, v = .ref T ∧ H T = none ∧ H' = upd H T (.tup [.int (i : Nat), x]) ∧ ∀ xs, SqT K H a xs → xs[i]? = some x, fun i H => ∃ xs : List V, SqT K H a xs ∧ xs.length = i⟩
theorem off_iter {h : Heap} {a it : Addr} {items : Array Value} {i : Nat} (ht : h.IsTuple a items) (hi : h.IsTupleIter it a i) : a ≠ it := by
  rintro rfl
  obtain ⟨o, ho, hc, _⟩ := ht
  obtain ⟨o2, ho2, hc2, _⟩ := hi
  rw [ho] at ho2
  cases ho2
  rw [hc] at hc2
  simp at hc2
theorem off_enum {h : Heap} {a e it : Addr} {items : Array Value} {c : Int} {old : Value} (ht : h.IsTuple a items) (he : IsEnum h e it c old) : e ≠ a := by
  rintro rfl
  obtain ⟨o, ho, hc, _⟩ := ht
  have he' : h.get? e = some _ := he
  rw [ho] at he'
  cases he'
  simp at hc
theorem turn_enumT {P : Program} {w : World} {K : PySem.W.Frag} {elts : List Expr} {kk : Nat} {tpos : Pos} (a e it : Addr) :
    Turn P w K (.Tuple elts kk tpos) (Iet K a) [e, it] e (fun i h => (∃ old, IsEnum h e it ((i : Nat) : Int) old) ∧ h.IsTupleIter it a i ∧ e ≠ it) where
  mem := by simp
  obj := fun i h st b hb => by
    obtain ⟨⟨old, he⟩, ⟨o, ho, hc, hd⟩, _⟩ := st
    rcases (by simpa using hb : b = e ∨ b = it) with z | z
    · subst z
      exact ⟨_, he, fun v q => nomatch q⟩
    · subst z
      exact ⟨o, ho, fun v q => by rw [hd] at q; cases q⟩
  keep := fun i h h' st k => by
    obtain ⟨⟨old, he⟩, hi, hne⟩ := st
    exact ⟨⟨old, k e (by simp) _ he⟩, hi.at fun o q => k it (by simp) o q, hne⟩
  item := by
    intro X hP hw hK hc i pins s σ H E I hf st hg
    subst hP hw hK
    obtain ⟨⟨old, he⟩, hit, hne⟩ := st
    obtain ⟨xs, x, hq, hx⟩ := hg
    obtain ⟨its, rv, p, hz⟩ := I.tuple hq
    obtain ⟨u, hu, ru⟩ := rv.get hx
    have ht : s.heap.IsTuple a its.toArray := p
    have lte : e < s.heap.objs.size := Heap.lt_size he
    have lti : it < s.heap.objs.size := by
      obtain ⟨_, q, _⟩ := hit
      exact Heap.lt_size q
    have hlt : i < its.toArray.size := by
      rw [List.size_toArray]
      exact (List.getElem?_eq_some_iff.mp hu).1
    have nea := off_enum ht he
    refine wpAny_pyNext_enum_itemD (Draws.tuple (A := X.A.in1) (I.ok.hd hc) it a (off_iter ht hit) its.toArray) he ⟨hit, ht⟩ hlt hne (by simp [hne, nea]) fun y h' tk hy ho st2 hT _ hk => ?_
    have hyu : y = u := by
      have hy' : its.toArray[i]? = some y := hy
      rw [List.getElem?_toArray, hu] at hy'
      exact (Option.some.inj hy').symm
    subst hyu
    refine ⟨_, rfl, wpAny_letOwnedTupleGo_enum (s := { s with heap := h', toks := tk + 1 }) ho fun h'' he' sb => ?_⟩
    have hT2 : h''.get? s.heap.objs.size = some { cls := .type "tuple", data := .seq #[.int i tk, y] } := (sb.2 _ (Nat.ne_of_gt lte)).trans hT
    have new : ObjOk X.prog X.w (upd H s.heap.objs.size (.tup [.int (i : Nat), x])) h'' s.heap.objs.size (.tup [.int (i : Nat), x]) :=
      ⟨by show 2 ≤ sizeLine; decide, [.int i tk, y], .cons ⟨_, rfl⟩ (.cons ru .nil), ⟨_, hT2, rfl, _, rfl⟩⟩
    have I1 : Inv X pins σ (upd H s.heap.objs.size (.tup [.int (i : Nat), x])) { s with heap := h'', toks := tk + 1 } :=
      I.turnedNew (ch := [e, it]) (fun b ob hb q => (sb.2 b (fun z => hb (by simp [z]))).trans (hk b ob (fun z => hb (by simp [z])) (fun z => hb (by simp [z])) q)) hf (Nat.le_refl _) new
    refine ⟨.ref s.heap.objs.size, _, I1, rfl, ⟨_, x, rfl, I.hok.fresh (Nat.le_refl _), rfl, fun ys hy => by rw [I.tuple_inj hy hq]; exact hx⟩, ⟨⟨y, ?_⟩, st2.1.at fun o q => (sb.2 it (Ne.symm hne)).trans q, hne⟩, fun b hb => ?_⟩
    · have e1 : ((i + 1 : Nat) : Int) = (i : Int) + 1 := by omega
      rw [e1]
      exact he'
    · have lb : b < s.heap.objs.size := by
        rcases (by simpa using hb : b = e ∨ b = it) with z | z
        · rw [z]; exact lte
        · rw [z]; exact lti
      rw [upd_ne (Nat.ne_of_lt lb)]
      exact (hf b hb).1
  done := by
    intro X hP hw hK hc i pins s σ H E I hf st hg
    subst hP hw hK
    obtain ⟨⟨old, he⟩, hit, hne⟩ := st
    obtain ⟨xs, hq, hx⟩ := hg
    obtain ⟨its, rv, p, hz⟩ := I.tuple hq
    have ht : s.heap.IsTuple a its.toArray := p
    obtain ⟨f0, f1, f2, f3, f4, f5⟩ := hf it (by simp)
    have hl := rv.length
    have hn : i = its.toArray.size := by
      rw [List.size_toArray, ← hl, hx]
    subst hn
    exact wpAny_pyNext_enum_endD (Draws.tuple (A := X.A.in1) (I.ok.hd hc) it a (off_iter ht hit) its.toArray) he ⟨hit, ht⟩ fun h' eb => ⟨rfl, I.turned (t' := s.toks) (fun b o hb q => eb b o hb q) f0 f1 f3 f4 f5⟩
  self := fun A i s Q E st h => by
    obtain ⟨⟨_, he⟩, _⟩ := st
    exact wpAny_pyIter_enum he h
def iEnumT (K : PySem.W.Frag) (ta : TA) : TI := fun σ H R => ta σ H fun vs H1 => ∃ a xs, vs = [.ref a] ∧ SqT K H1 a xs ∧ R (Iet K a) H1
theorem ki_enumT {X : Cx} (K : PySem.W.Frag) (hK : X.K = K) {e : Expr} {ta : TA} {p pos tpos : Pos} {elts : List Expr} {kk : Nat} (hg : Gl X "enumerate") (hm : X.mg "enumerate" = none) (ha : PA X [e] ta) (hs : starEach [e] X.env = [(false, eval e X.env)] := by rfl) :
    PI X (.Tuple elts kk tpos) (.Call (.Name "enumerate" p) [e] [] pos) (iEnumT K ta) := by
  subst hK
  refine ⟨fun pins s σ H R I want => ?_⟩
  refine Call_ (ld_blt I hg hm boot_enumerate (PyProof.Rows.callWith_type1 (thn (ha.run pos pins s σ H _ I want) fun us s1 ⟨vs, H1, I1, r1, q1⟩ => ?_) hs rfl))
  obtain ⟨a, xs, rfl, hq, q⟩ := q1
  cases r1 with
  | cons r rr =>
    cases rr
    cases r
    obtain ⟨its, rv, p', hz⟩ := I1.tuple hq
    refine call_enumT (show s1.heap.IsTuple a its.toArray from p') fun h' he hit hk => wpAny_pyIter_enum he ?_
    have I2 : Inv X pins σ H1 { s1 with heap := h' } := I1.kept (t' := s1.toks) hk
    refine ⟨s1.heap.objs.size + 1, [s1.heap.objs.size + 1, s1.heap.objs.size], _, _, H1, rfl, I2, turn_enumT a (s1.heap.objs.size + 1) s1.heap.objs.size, ⟨⟨.none, he⟩, hit, Nat.succ_ne_self _⟩, fun b hb => ?_, q⟩
    have up : s1.heap.objs.size ≤ b := by
      rcases (by simpa using hb : b = s1.heap.objs.size + 1 ∨ b = s1.heap.objs.size) with z | z
      · rw [z]; exact Nat.le_add_right _ _
      · rw [z]; exact Nat.le_refl _
    exact I1.fpOk up (I1.hok.fresh up)
theorem walk_enumT {K : PySem.W.Frag} {a : Addr} {xs : List V} : Walk (Iet K a) xs.length (fun H => SqT K H a xs) (YPair (fun i => some (.int (i : Nat))) (fun i => xs[i]?)) := by
  refine ⟨fun i _ hi q => ⟨xs, xs[i], q, by simp [hi]⟩, fun _ q => ⟨xs, q, rfl⟩, fun i H v H' _ q y => ?_⟩
  obtain ⟨T, x, h1, h2, h3, h4⟩ := y
  exact ⟨T, .int (i : Nat), x, h1, h2, h3, rfl, h4 xs q⟩
end U

/-! paths found level by level: the plain law -/
namespace U
open PySem PySem.Spec PyProof.Rows L2
/-- nodes found, each with its path, in the order in which they are found -/
abbrev keysF (kp : List (Str × List Str)) : List Str := kp.map (·.1)
def addF (ok : Str → Str → Bool) (c : Str × List Str) (kp : List (Str × List Str)) (o : Str) : List (Str × List Str) := if o ∉ keysF kp ∧ ok c.1 o = true then kp ++ [(o, c.2 ++ [o])] else kp
def addsF (ok : Str → Str → Bool) (c : Str × List Str) (os : List Str) (kp : List (Str × List Str)) : List (Str × List Str) := os.foldl (addF ok c) kp
def stF (adj : Str → List Str) (ok : Str → Str → Bool) (root : Str) : Nat → List (Str × List Str)
  | 0 => [(root, [root])]
  | i + 1 => match (stF adj ok root i)[i]? with
    | none => stF adj ok root i
    | some c => addsF ok c (adj c.1) (stF adj ok root i)
def pathsF (adj : Str → List Str) (ok : Str → Str → Bool) (root : Str) : List (Str × List Str) := stF adj ok root 1000
inductive Reach (adj : Str → List Str) (ok : Str → Str → Bool) (root : Str) : Str → Prop
  | refl : Reach adj ok root root
  | step {a b : Str} : Reach adj ok root a → b ∈ adj a → ok a b = true → Reach adj ok root b
theorem Reach.trans {adj : Str → List Str} {ok : Str → Str → Bool} {a b c : Str} (h : Reach adj ok a b) (k : Reach adj ok b c) : Reach adj ok a c := by
  induction k with
  | refl => exact h
  | step _ m o ih => exact .step ih m o
section
variable {adj : Str → List Str} {ok : Str → Str → Bool} {root : Str}
theorem addF_cases (c : Str × List Str) (kp : List (Str × List Str)) (o : Str) : (addF ok c kp o = kp ∧ (o ∈ keysF kp ∨ ok c.1 o = false)) ∨ (addF ok c kp o = kp ++ [(o, c.2 ++ [o])] ∧ o ∉ keysF kp ∧ ok c.1 o = true) := by
  unfold addF
  by_cases h : o ∉ keysF kp ∧ ok c.1 o = true
  · rw [if_pos h]
    exact .inr ⟨rfl, h⟩
  · rw [if_neg h]
    refine .inl ⟨rfl, ?_⟩
    by_cases m : o ∈ keysF kp
    · exact .inl m
    · refine .inr ?_
      cases e : ok c.1 o with
      | false => rfl
      | true => exact (h ⟨m, e⟩).elim
theorem addsF_pre {c : Str × List Str} : ∀ {os : List Str} {kp : List (Str × List Str)}, ∃ r, addsF ok c os kp = kp ++ r
  | [], kp => ⟨[], (List.append_nil kp).symm⟩
  | o :: os, kp => by
    obtain ⟨r, hr⟩ := addsF_pre (c := c) (os := os) (kp := addF ok c kp o)
    have e : addsF ok c (o :: os) kp = addsF ok c os (addF ok c kp o) := rfl
    rw [e, hr]
    rcases addF_cases c kp o with ⟨h, _⟩ | ⟨h, _⟩
    · rw [h]
      exact ⟨r, rfl⟩
    · rw [h, List.append_assoc]
      exact ⟨_, rfl⟩
/-- what is added: each a neighbour that may be gone to -/
theorem addsF_mem {c : Str × List Str} : ∀ {os : List Str} {kp : List (Str × List Str)} {x : Str × List Str}, x ∈ addsF ok c os kp → x ∈ kp ∨ (x.1 ∈ os ∧ ok c.1 x.1 = true ∧ x.2 = c.2 ++ [x.1])
  | [], kp, x, h => .inl h
  | o :: os, kp, x, h => by
    have e : addsF ok c (o :: os) kp = addsF ok c os (addF ok c kp o) := rfl
    rw [e] at h
    rcases addsF_mem h with h | ⟨h1, h2, h3⟩
    · rcases addF_cases c kp o with ⟨e, _⟩ | ⟨e, _, k⟩
      · rw [e] at h
        exact .inl h
      · rw [e] at h
        rcases List.mem_append.mp h with h | h
        · exact .inl h
        · rw [List.mem_singleton] at h
          subst h
          exact .inr ⟨List.mem_cons_self, k, rfl⟩
    · exact .inr ⟨List.mem_cons_of_mem _ h1, h2, h3⟩
theorem addsF_all {c : Str × List Str} : ∀ {os : List Str} {kp : List (Str × List Str)} {o : Str}, o ∈ os → ok c.1 o = true → o ∈ keysF (addsF ok c os kp)
  | o' :: os, kp, o, h, k => by
    have e : addsF ok c (o' :: os) kp = addsF ok c os (addF ok c kp o') := rfl
    rw [e]
    rcases List.mem_cons.mp h with rfl | h
    · obtain ⟨r, hr⟩ := addsF_pre (ok := ok) (c := c) (os := os) (kp := addF ok c kp o)
      rw [hr, keysF, List.map_append]
      refine List.mem_append_left _ ?_
      rcases addF_cases c kp o with ⟨e, m⟩ | ⟨e, _⟩
      · rw [e]
        rcases m with m | m
        · exact m
        · rw [k] at m
          cases m
      · rw [e, List.map_append]
        exact List.mem_append_right _ List.mem_cons_self
    · exact addsF_all h k
theorem addF_nodup {c : Str × List Str} {kp : List (Str × List Str)} {o : Str} (h : (keysF kp).Nodup) : (keysF (addF ok c kp o)).Nodup := by
  rcases addF_cases c kp o with ⟨e, _⟩ | ⟨e, m, _⟩
  · rw [e]
    exact h
  · rw [e, keysF, List.map_append, List.nodup_append]
    refine ⟨h, by simp, fun a ha b hb z => ?_⟩
    have : b = o := by simpa using hb
    rw [z, this] at ha
    exact m ha
theorem addsF_nodup {c : Str × List Str} : ∀ {os : List Str} {kp : List (Str × List Str)}, (keysF kp).Nodup → (keysF (addsF ok c os kp)).Nodup
  | [], _, h => h
  | o :: os, kp, h => addsF_nodup (os := os) (addF_nodup h)
theorem stF_at {i : Nat} {c : Str × List Str} (h : (stF adj ok root i)[i]? = some c) : stF adj ok root (i + 1) = addsF ok c (adj c.1) (stF adj ok root i) := by
  rw [stF, h]
theorem stF_end {i : Nat} (h : (stF adj ok root i)[i]? = none) : stF adj ok root (i + 1) = stF adj ok root i := by
  rw [stF, h]
theorem stF_pre (i : Nat) : ∃ r, stF adj ok root (i + 1) = stF adj ok root i ++ r := by
  cases h : (stF adj ok root i)[i]? with
  | none => rw [stF_end h]; exact ⟨[], (List.append_nil _).symm⟩
  | some c => rw [stF_at h]; exact addsF_pre
theorem stF_pre' (i : Nat) : ∀ k, ∃ r, stF adj ok root (i + k) = stF adj ok root i ++ r
  | 0 => ⟨[], (List.append_nil _).symm⟩
  | k + 1 => by
    obtain ⟨r, hr⟩ := stF_pre' i k
    obtain ⟨r2, h2⟩ := stF_pre (adj := adj) (ok := ok) (root := root) (i + k)
    exact ⟨r ++ r2, by rw [← Nat.add_assoc, h2, hr, List.append_assoc]⟩
theorem stF_nodup : ∀ i, (keysF (stF adj ok root i)).Nodup
  | 0 => by simp [stF]
  | i + 1 => by
    cases h : (stF adj ok root i)[i]? with
    | none => rw [stF_end h]; exact stF_nodup i
    | some c => rw [stF_at h]; exact addsF_nodup (stF_nodup i)
theorem stF_root (i : Nat) : ∃ r, stF adj ok root i = (root, [root]) :: r := by
  obtain ⟨r, h⟩ := stF_pre' (adj := adj) (ok := ok) (root := root) 0 i
  rw [Nat.zero_add] at h
  exact ⟨r, h⟩
/-- a path: from the first to the last, each step to a neighbour that may be gone to -/
inductive PathTo (adj : Str → List Str) (ok : Str → Str → Bool) (root : Str) : Str → List Str → Prop
  | one : PathTo adj ok root root [root]
  | snoc {a b : Str} {p : List Str} : PathTo adj ok root a p → b ∈ adj a → ok a b = true → PathTo adj ok root b (p ++ [b])
theorem PathTo.reach {a : Str} {p : List Str} (h : PathTo adj ok root a p) : Reach adj ok root a := by
  induction h with
  | one => exact .refl
  | snoc _ m o ih => exact .step ih m o
theorem stF_path : ∀ i x, x ∈ stF adj ok root i → PathTo adj ok root x.1 x.2
  | 0, x, h => by
    rw [stF, List.mem_singleton] at h
    subst h
    exact .one
  | i + 1, x, h => by
    cases e : (stF adj ok root i)[i]? with
    | none => rw [stF_end e] at h; exact stF_path i x h
    | some c =>
      rw [stF_at e] at h
      rcases addsF_mem h with h | ⟨h1, h2, h3⟩
      · exact stF_path i x h
      · have := stF_path i c (List.mem_of_getElem? e)
        rw [h3]
        exact .snoc this h1 h2
theorem stF_reach {i : Nat} {x : Str} (h : x ∈ keysF (stF adj ok root i)) : Reach adj ok root x := by
  obtain ⟨y, hy, rfl⟩ := List.mem_map.mp h
  exact (stF_path i y hy).reach
/-- those whose turn has been have their neighbours found -/
theorem stF_closed : ∀ (i j : Nat) (c : Str × List Str), j < i → (stF adj ok root i)[j]? = some c → ∀ b ∈ adj c.1, ok c.1 b = true → b ∈ keysF (stF adj ok root i)
  | i + 1, j, c, hj, hc, b, hb, hk => by
    cases e : (stF adj ok root i)[i]? with
    | none =>
      rw [stF_end e] at hc ⊢
      have : j < (stF adj ok root i).length := (List.getElem?_eq_some_iff.mp hc).1
      have := List.getElem?_eq_none_iff.mp e
      exact stF_closed i j c (by omega) hc b hb hk
    | some d =>
      have li : i < (stF adj ok root i).length := (List.getElem?_eq_some_iff.mp e).1
      obtain ⟨r, hr⟩ := stF_pre (adj := adj) (ok := ok) (root := root) i
      have hc2 : (stF adj ok root i)[j]? = some c := by
        rw [hr, List.getElem?_append_left (by omega)] at hc
        exact hc
      by_cases q : j < i
      · have := stF_closed i j c q hc2 b hb hk
        rw [hr, keysF, List.map_append]
        exact List.mem_append_left _ this
      · have : j = i := by omega
        subst this
        rw [hc2] at e
        cases e
        rw [stF_at hc2]
        exact addsF_all hb hk
theorem stF_all {i : Nat} (h : (stF adj ok root i).length ≤ i) {x : Str} (r : Reach adj ok root x) : x ∈ keysF (stF adj ok root i) := by
  induction r with
  | refl =>
    obtain ⟨r, e⟩ := stF_root (adj := adj) (ok := ok) (root := root) i
    rw [e]
    exact List.mem_cons_self
  | step _ m o ih =>
    obtain ⟨y, hy, rfl⟩ := List.mem_map.mp ih
    obtain ⟨j, hj, e⟩ := List.mem_iff_getElem.mp hy
    exact stF_closed i j y (by omega) (by rw [List.getElem?_eq_getElem hj, e]) _ m o
/-- nodes of ns alone -/
theorem reach_mem {ns : List Str} (cl : ∀ x ∈ ns, ∀ y ∈ adj x, y ∈ ns) (h0 : root ∈ ns) {x : Str} (r : Reach adj ok root x) : x ∈ ns := by
  induction r with
  | refl => exact h0
  | step _ m _ ih => exact cl _ ih _ m
theorem nodup_len {α : Type} [DecidableEq α] : ∀ {xs ys : List α}, xs.Nodup → (∀ x ∈ xs, x ∈ ys) → xs.length ≤ ys.length
  | [], _, _, _ => Nat.zero_le _
  | x :: xs, ys, nd, h => by
    rw [List.nodup_cons] at nd
    have hx := h x List.mem_cons_self
    have := nodup_len (xs := xs) (ys := ys.erase x) nd.2 fun y hy => by
      refine (List.mem_erase_of_ne ?_).mpr (h y (List.mem_cons_of_mem _ hy))
      rintro rfl
      exact nd.1 hy
    rw [List.length_erase_of_mem hx] at this
    have : 0 < ys.length := List.length_pos_of_mem hx
    rw [List.length_cons]
    omega
theorem stF_len {ns : List Str} (cl : ∀ x ∈ ns, ∀ y ∈ adj x, y ∈ ns) (h0 : root ∈ ns) (i : Nat) : (stF adj ok root i).length ≤ ns.length := by
  have := nodup_len (stF_nodup (adj := adj) (ok := ok) (root := root) i) (ys := ns) fun x hx => reach_mem cl h0 (stF_reach hx)
  rw [List.length_map] at this
  exact this
end

/-! ### neighbours in order -/
def sortS (xs : List Str) : List Str := xs.mergeSort fun a b => !decide (sLt b a)
theorem sortS_perm (xs : List Str) : (sortS xs).Perm xs := List.mergeSort_perm xs _
theorem nlt_trans {a b c : Str} (h : ¬ sLt b a) (k : ¬ sLt c b) : ¬ sLt c a := by
  intro z
  rcases sLt_tri a b with t | t | t
  · exact k (sLt_trans z t)
  · subst t
    exact k z
  · exact h t
theorem sortS_pw (xs : List Str) : (sortS xs).Pairwise fun a b => ¬ sLt b a := by
  have := List.pairwise_mergeSort (le := fun a b : Str => !decide (sLt b a)) (fun a b c h k => by
    simp only [Bool.not_eq_true', decide_eq_false_iff_not] at h k ⊢
    exact nlt_trans h k) (fun a b => by
    rw [Bool.or_eq_true]
    simp only [Bool.not_eq_true', decide_eq_false_iff_not]
    by_cases z : sLt b a
    · exact .inr (sLt_asymm z)
    · exact .inl z) xs
  exact this.imp fun h => by
    simp only [Bool.not_eq_true', decide_eq_false_iff_not] at h
    exact h
theorem sortS_asc {xs : List Str} (nd : xs.Nodup) : Asc (sortS xs) := asc_of_sorted (sortS_pw xs) ((sortS_perm xs).nodup_iff.mpr nd)
theorem sort_uniq {xs ys : List Str} (p : ys.Perm xs) (s : ys.Pairwise fun a b => ¬ sLt b a) (nd : xs.Nodup) : ys = sortS xs :=
  asc_unique (asc_of_sorted s (p.nodup_iff.mpr nd)) (sortS_asc nd) fun z => by rw [p.mem_iff, (sortS_perm xs).mem_iff]
theorem nbrF_nodup {ns : List Str} {es : List (Str × Str)} (ok : GrOk ns es) (x : Str) : (nbrF es x).Nodup := by
  unfold nbrF
  rw [List.nodup_iff_pairwise_ne, List.pairwise_flatMap]
  have m : ∀ {e : Str × Str} {z : Str}, z ∈ (if e.1 = x then [e.2] else []) ++ (if e.2 = x then [e.1] else []) → (e.1 = x ∧ z = e.2) ∨ (e.2 = x ∧ z = e.1) := by
    intro e z h
    rcases List.mem_append.mp h with h | h
    · split at h
      · rename_i c
        exact .inl ⟨c, by simpa using h⟩
      · cases h
    · split at h
      · rename_i c
        exact .inr ⟨c, by simpa using h⟩
      · cases h
  refine ⟨fun e he => ?_, ?_⟩
  · by_cases c : e.1 = x
    · have c2 : ¬ e.2 = x := fun z => by
        have := ok.lt e he
        rw [c, z] at this
        exact sLt_irrefl _ this
      rw [if_pos c, if_neg c2]
      simp
    · rw [if_neg c]
      split <;> simp
  · have nd := List.nodup_iff_pairwise_ne.mp (ascE_nodup ok.asc)
    refine List.Pairwise.imp_of_mem (fun {e d} he hd ne => ?_) nd
    intro z hz y hy zy
    subst zy
    have le := ok.lt e he
    have ld := ok.lt d hd
    rcases m hz with ⟨a1, a2⟩ | ⟨a1, a2⟩ <;> rcases m hy with ⟨b1, b2⟩ | ⟨b1, b2⟩
    · exact ne (Prod.ext (a1.trans b1.symm) (a2.symm.trans b2))
    · rw [a1, ← a2] at le
      rw [b1, ← b2] at ld
      exact sLt_asymm le ld
    · rw [a1, ← a2] at le
      rw [b1, ← b2] at ld
      exact sLt_asymm le ld
    · exact ne (Prod.ext (a2.symm.trans b2) (a1.trans b1.symm))
def nbS (es : List (Str × Str)) (x : Str) : List Str := sortS (nbrF es x)
theorem nbS_mem {es : List (Str × Str)} {x z : Str} : z ∈ nbS es x ↔ (x, z) ∈ es ∨ (z, x) ∈ es := by
  unfold nbS
  rw [(sortS_perm _).mem_iff]
  exact mem_nbrF
theorem nbS_of {ns : List Str} {es : List (Str × Str)} {x : Str} {ys : List Str} (ok : GrOk ns es) (p : ys.Perm (nbrF es x)) (s : ys.Pairwise fun a b => ¬ sLt b a) : ys = nbS es x := sort_uniq p s (nbrF_nodup ok x)
theorem nbS_in {ns : List Str} {es : List (Str × Str)} (ok : GrOk ns es) {x y : Str} (h : y ∈ nbS es x) : y ∈ ns := by
  rcases nbS_mem.mp h with h | h
  · exact (ok.mem _ h).2
  · exact (ok.mem _ h).1
end U

/-! d.update(e); lists of texts compared; the last but one -/
namespace U
open PySem PySem.Spec PyProof.Rows L2
/-! lists of texts compared -/
section
variable {K : PySem.W.Frag} {H : Hp} {Q : VK} {p q : Addr} {x y : V} {d : PyData} {xs ys : List Str}
/-- the same data twice -/
theorem rd_neSame (hp : Dp K H (.ref p) d) (hq : Dp K H (.ref q) d) (sh : SeqAt.shaped d = true) (h : Q (.bl false) H) : rNeU K (.ref p) (.ref q) H Q := by
  refine ⟨_, _, hp, hq, sh, sh, ?_⟩
  rw [SeqAt.eqv_refl _ (SeqAt.canLay_of_shaped sh)]
  exact h
end
end U

/-! small readings that many laws want -/
namespace U
open PySem PySem.Spec PyProof.Rows L2
section
variable {K : PySem.W.Frag} {H H' : Hp} {Q : VK} {p q a : Addr} {σ : L2.St} {te td : TE} {tr : TA} {xs : List V}
end
theorem cutV_from {xs : List V} {i : Nat} (h : i ≤ xs.length) : cutV xs (some (i : Int)) none = xs.drop i := by
  unfold cutV HT.sIx
  simp only
  rw [if_neg (by omega), Int.toNat_natCast, Nat.min_eq_left h]
  exact List.take_of_length_le (by rw [List.length_drop]; omega)
end U

/-! a pair among pairs; lists of lists of texts -/
namespace U
open PySem PySem.Spec PyProof.Rows L2
theorem kNinL {X : Cx} (K : PySem.W.Frag) (hK : X.K = K) (hu : X.A.units + 65 < cLine) : OpR X (compareOp .NotIn) (rNotInD K) := by
  subst hK
  exact op_notInD hu
abbrev dE (e : Str × Str) : PyData := .tuple [.str e.1, .str e.2]
theorem eqv_dE {a b : Str × Str} : PyData.eqv (dE a) (dE b) = decide (a = b) := by
  obtain ⟨a1, a2⟩ := a
  obtain ⟨b1, b2⟩ := b
  rw [Bool.eq_iff_iff]
  simp [dE, PyData.eqv, PyData.eqvAll]
theorem any_dE {es : List (Str × Str)} {e : Str × Str} : ((es.map dE).any fun z => PyData.eqv z (dE e)) = decide (e ∈ es) := by
  rw [Bool.eq_iff_iff, List.any_eq_true, decide_eq_true_iff]
  constructor
  · rintro ⟨z, hz, h⟩
    obtain ⟨y, hy, rfl⟩ := List.mem_map.mp hz
    rw [eqv_dE, decide_eq_true_iff] at h
    rw [← h]
    exact hy
  · intro h
    exact ⟨_, List.mem_map_of_mem h, by rw [eqv_dE]; exact decide_eq_true rfl⟩
theorem dp_edges {K : PySem.W.Frag} {H : Hp} : ∀ {es : List (Addr × Str × Str)}, (∀ x ∈ es, SqT K H x.1 [.str x.2.1, .str x.2.2]) → DpAll K H (es.map fun x => V.ref x.1) ((es.map (·.2)).map dE)
  | [], _ => .nil
  | x :: r, h => .cons (.tup (h x List.mem_cons_self) (.cons (.str _) (.cons (.str _) .nil))) (dp_edges fun y hy => h y (List.mem_cons_of_mem _ hy))
theorem can_edges : ∀ {es : List (Str × Str)}, (∀ e ∈ es, PyData.strOk e.1 = true ∧ PyData.strOk e.2 = true) → PyData.canLayAll0 (es.map dE) = true ∧ PyData.depthAll (es.map dE) ≤ 1
  | [], _ => by simp [PyData.canLayAll0, PyData.depthAll]
  | e :: r, h => by
    obtain ⟨a, b⟩ := can_edges (es := r) fun y hy => h y (List.mem_cons_of_mem _ hy)
    obtain ⟨h1, h2⟩ := h e List.mem_cons_self
    have c : (dE e).canLay0 = true := by simp [dE, PyData.canLay0, PyData.canLayAll0, h1, h2]
    have d : (dE e).depth = 1 := by simp [dE, PyData.depth, PyData.depthAll]
    rw [List.map_cons, PyData.canLayAll0, PyData.depthAll, a, c, d]
    exact ⟨rfl, by omega⟩
theorem shaped_edge {e : Str × Str} (h : PyData.strOk e.1 = true ∧ PyData.strOk e.2 = true) : SeqAt.shaped (dE e) = true := by
  unfold SeqAt.shaped
  simp [dE, PyData.canLay0, PyData.canLayAll0, PyData.depth, PyData.depthAll, h.1, h.2]
theorem shaped_edgesL {es : List (Str × Str)} (h : ∀ e ∈ es, PyData.strOk e.1 = true ∧ PyData.strOk e.2 = true) : SeqAt.shaped (.list (es.map dE)) = true := by
  obtain ⟨a, b⟩ := can_edges h
  unfold SeqAt.shaped
  rw [PyData.canLay0, a, PyData.depth, decide_eq_true (by omega)]
  rfl
theorem rd_ninLE {K : PySem.W.Frag} {H : Hp} {Q : VK} {p q : Addr} {e : Str × Str} {es : List (Addr × Str × Str)} (hp : SqT K H p [.str e.1, .str e.2]) (hq : SqL K H q (es.map fun x => V.ref x.1)) (pr : ∀ x ∈ es, SqT K H x.1 [.str x.2.1, .str x.2.2])
    (o1 : PyData.strOk e.1 = true ∧ PyData.strOk e.2 = true) (o2 : ∀ x ∈ es.map (·.2), PyData.strOk x.1 = true ∧ PyData.strOk x.2 = true) (h : Q (.bl (!decide (e ∈ es.map (·.2)))) H) : rNotInD K (.ref p) (.ref q) H Q := by
  refine ⟨dE e, _, .tup hp (.cons (.str _) (.cons (.str _) .nil)), .lst hq (dp_edges pr), shaped_edge o1, shaped_edgesL o2, ?_⟩
  rw [any_dE]
  exact h
/-! lists of lists of texts -/
end U

/-! tuples of numbers compared; a pair in a tuple of pairs; numbers == [] -/
namespace U
open PySem PySem.Spec PyProof.Rows L2
def rInT (K : PySem.W.Frag) : R2 := fun x y H Q => ∃ (d : PyData) (ds : List PyData), Dp K H x d ∧ Dp K H y (.tuple ds) ∧ SeqAt.shaped d = true ∧ SeqAt.shaped (.tuple ds) = true ∧ Q (.bl (ds.any fun z => PyData.eqv z d)) H
theorem kInT {X : Cx} (K : PySem.W.Frag) (hK : X.K = K) (hu : X.A.units + 65 < cLine) : OpR X (compareOp .In) (rInT K) := by
  subst hK
  intro pins s σ H x y v u Q I rx ry ⟨d, ds, hd, he, sd, se, q⟩
  obtain ⟨_, r1⟩ := Dp.reads I _ _ _ hd rx
  obtain ⟨_, r2⟩ := Dp.reads I _ _ _ he ry
  exact SeqAt.in_tuple_reads r2 r1 (SeqAt.canLay_of_shaped se) (SeqAt.canLay_of_shaped sd) (room_in_shaped sd hu) ⟨.bl _, H, I, rfl, q⟩
section
variable {K : PySem.W.Frag} {H : Hp} {Q : VK} {p q : Addr} {xs ys : List Int}
end
end U

/-! components, root paths, basis cycles: the plain law -/
namespace U
open PySem PySem.Spec PyProof.Rows L2
abbrev ptF (es : List (Str × Str)) (x : Str) : List (Str × List Str) := pathsF (nbS es) (fun _ _ => true) x
abbrev Con (es : List (Str × Str)) (x y : Str) : Prop := Reach (nbS es) (fun _ _ => true) x y
section
variable {ns : List Str} {es : List (Str × Str)} {x y : Str}
theorem con_symm (h : Con es x y) : Con es y x := by
  induction h with
  | refl => exact .refl
  | step _ m _ ih =>
    refine Reach.trans (.step .refl ?_ rfl) ih
    exact nbS_mem.mpr ((nbS_mem.mp m).symm)
theorem pt_mem (ok : GrOk ns es) (l : ns.length ≤ 1000) (hx : x ∈ ns) : y ∈ keysF (ptF es x) ↔ Con es x y :=
  ⟨fun h => stF_reach h, fun h => stF_all (by have := stF_len (ok := fun _ _ => true) (adj := nbS es) (ns := ns) (fun a _ b hb => nbS_in ok hb) hx 1000; omega) h⟩
theorem pt_nodup : (keysF (ptF es x)).Nodup := stF_nodup 1000
theorem pt_in (ok : GrOk ns es) (hx : x ∈ ns) (h : y ∈ keysF (ptF es x)) : y ∈ ns := reach_mem (fun a _ b hb => nbS_in ok hb) hx (stF_reach h)
def comp (es : List (Str × Str)) (x : Str) : List Str := sortS (keysF (ptF es x))
theorem comp_mem (ok : GrOk ns es) (l : ns.length ≤ 1000) (hx : x ∈ ns) : y ∈ comp es x ↔ Con es x y := by
  unfold comp
  rw [(sortS_perm _).mem_iff, pt_mem ok l hx]
def compStep (es : List (Str × Str)) (cs : List (List Str)) (n : Str) : List (List Str) := if n ∈ cs.flatten then cs else cs ++ [comp es n]
def compsF (ns : List Str) (es : List (Str × Str)) : List (List Str) := ns.foldl (compStep es) []
/-- components found from the nodes ds, all in ns -/
structure Cmps (ns : List Str) (es : List (Str × Str)) (ds : List Str) (cs : List (List Str)) : Prop where
  of : ∀ c ∈ cs, ∃ r ∈ ns, c = comp es r
  nd : cs.flatten.Nodup
  all : ∀ x ∈ ds, x ∈ cs.flatten
theorem Cmps.nil : Cmps ns es [] [] := ⟨(fun c hc => nomatch hc), List.nodup_nil, (fun x hx => nomatch hx)⟩
theorem Cmps.in_ {ds : List Str} {cs : List (List Str)} (h : Cmps ns es ds cs) (ok : GrOk ns es) : ∀ x ∈ cs.flatten, x ∈ ns := fun x hx => by
  obtain ⟨c, hc, hx⟩ := List.mem_flatten.mp hx
  obtain ⟨r, hr, rfl⟩ := h.of c hc
  exact pt_in ok hr ((sortS_perm _).mem_iff.mp hx)
theorem Cmps.step {ds : List Str} {cs : List (List Str)} {n : Str} (h : Cmps ns es ds cs) (ok : GrOk ns es) (l : ns.length ≤ 1000) (hn : n ∈ ns) : Cmps ns es (ds ++ [n]) (compStep es cs n) := by
  unfold compStep
  by_cases m : n ∈ cs.flatten
  · rw [if_pos m]
    refine ⟨h.of, h.nd, fun x hx => ?_⟩
    rcases List.mem_append.mp hx with hx | hx
    · exact h.all x hx
    · rw [List.mem_singleton] at hx
      rw [hx]
      exact m
  · rw [if_neg m]
    refine ⟨fun c hc => ?_, ?_, fun x hx => ?_⟩
    · rcases List.mem_append.mp hc with hc | hc
      · exact h.of c hc
      · rw [List.mem_singleton] at hc
        exact ⟨n, hn, hc⟩
    · rw [List.flatten_append, List.nodup_append]
      refine ⟨h.nd, ?_, fun a ha b hb z => ?_⟩
      · rw [List.flatten_singleton]
        exact (sortS_perm _).nodup_iff.mpr pt_nodup
      · rw [List.flatten_singleton] at hb
        subst z
        obtain ⟨c, hc, ha⟩ := List.mem_flatten.mp ha
        obtain ⟨r, hr, rfl⟩ := h.of c hc
        have h1 := (comp_mem ok l hr).mp ha
        have h2 := (comp_mem ok l hn).mp hb
        exact m (List.mem_flatten.mpr ⟨_, hc, (comp_mem ok l hr).mpr (h1.trans (con_symm h2))⟩)
    · rw [List.flatten_append, List.flatten_singleton]
      rcases List.mem_append.mp hx with hx | hx
      · exact List.mem_append_left _ (h.all x hx)
      · rw [List.mem_singleton] at hx
        subst hx
        exact List.mem_append_right _ ((comp_mem ok l hn).mpr .refl)
theorem Cmps.len {ds : List Str} {cs : List (List Str)} (h : Cmps ns es ds cs) (ok : GrOk ns es) : cs.flatten.length ≤ ns.length := nodup_len h.nd (h.in_ ok)
/-! root paths -/
def rootsF (es : List (Str × Str)) (cs : List (List Str)) : List (Str × List Str) := cs.flatMap fun c => ptF es (c.headD Str.empty)
end
end U

/-! sums of slopes along walks: the plain law -/
namespace U
open PySem PySem.Spec PyProof.Rows L2
def Adj (es : List (Str × Str)) (a b : Str) : Prop := (a, b) ∈ es ∨ (b, a) ∈ es
theorem Adj.symm {es : List (Str × Str)} {a b : Str} (h : Adj es a b) : Adj es b a := Or.symm h
def Wk (es : List (Str × Str)) : List Str → Prop
  | a :: b :: r => Adj es a b ∧ Wk es (b :: r)
  | _ => True
/-- the slopes along a list -/
def psl (f : Str → Int) : List Str → List Int
  | a :: b :: r => slp f a b :: psl f (b :: r)
  | _ => []
def psum (f : Str → Int) (p : List Str) : Int := (psl f p).sum
theorem psum_cons {f : Str → Int} {a b : Str} {r : List Str} : psum f (a :: b :: r) = slp f a b + psum f (b :: r) := by
  unfold psum
  rw [psl, List.sum_cons]
theorem psum_one {f : Str → Int} {a : Str} : psum f [a] = 0 := rfl
theorem Wk.join {es : List (Str × Str)} : ∀ {p r : List Str} {x : Str}, p.getLast? = some x → Wk es p → Wk es (x :: r) → Wk es (p ++ r)
  | [], _, _, h, _, _ => nomatch h
  | [a], r, x, h, _, w => by
    have : a = x := by simpa using h
    subst this
    exact w
  | a :: b :: q, r, x, h, w1, w2 => by
    have h' : (b :: q).getLast? = some x := by rw [List.getLast?_cons_cons] at h; exact h
    exact ⟨w1.1, Wk.join (p := b :: q) h' w1.2 w2⟩
theorem Wk.snoc {es : List (Str × Str)} {p : List Str} {x b : Str} (h : p.getLast? = some x) (w : Wk es p) (a : Adj es x b) : Wk es (p ++ [b]) := w.join h ⟨a, trivial⟩
theorem Wk.left {es : List (Str × Str)} : ∀ {p r : List Str}, Wk es (p ++ r) → Wk es p
  | [], _, _ => trivial
  | [_], _, _ => trivial
  | a :: b :: q, r, w => ⟨w.1, Wk.left (p := b :: q) (r := r) w.2⟩
theorem Wk.tail {es : List (Str × Str)} {a : Str} {p : List Str} (w : Wk es (a :: p)) : Wk es p := by
  cases p with
  | nil => trivial
  | cons b r => exact w.2
theorem Wk.right {es : List (Str × Str)} : ∀ {p r : List Str}, Wk es (p ++ r) → Wk es r
  | [], _, w => w
  | a :: q, r, w => Wk.right (p := q) (r := r) (Wk.tail w)
section
variable {ns : List Str} {es : List (Str × Str)} {f : Str → Int}
theorem slp_neg (ok : EsOk ns es f) {a b : Str} (h : Adj es a b) : slp f b a = - slp f a b := by
  have ha : a ∈ ns ∧ b ∈ ns ∧ f a ≠ f b := by
    rcases h with h | h
    · exact ⟨(ok.mem _ h).1, (ok.mem _ h).2, ok.pro _ h⟩
    · exact ⟨(ok.mem _ h).2, (ok.mem _ h).1, fun z => ok.pro _ h z.symm⟩
  have t1 := ok.tri a ha.1
  have t2 := ok.tri b ha.2.1
  have ne := ha.2.2
  unfold slp
  split <;> split <;> omega
theorem slp_mod (ok : EsOk ns es f) {a b : Str} (h : Adj es a b) : slp f a b % 3 = (f b - f a) % 3 := by
  have ha : a ∈ ns ∧ b ∈ ns ∧ f a ≠ f b := by
    rcases h with h | h
    · exact ⟨(ok.mem _ h).1, (ok.mem _ h).2, ok.pro _ h⟩
    · exact ⟨(ok.mem _ h).2, (ok.mem _ h).1, fun z => ok.pro _ h z.symm⟩
  have t1 := ok.tri a ha.1
  have t2 := ok.tri b ha.2.1
  have ne := ha.2.2
  unfold slp
  split <;> omega
/-- two states apart by the numbers h -/
theorem psum_lift {g h : Str → Int} (okf : EsOk ns es f) (okg : EsOk ns es g) (t : ∀ e ∈ es, slp f e.1 e.2 - slp g e.1 e.2 = 2 * (h e.1 - h e.2)) : ∀ {p : List Str} {a b : Str}, Wk es p → p.head? = some a → p.getLast? = some b → psum f p - psum g p = 2 * (h a - h b)
  | [], _, _, _, h, _ => nomatch h
  | [x], a, b, _, h, k => by
    have h1 : x = a := by simpa using h
    have h2 : x = b := by simpa using k
    subst h1
    subst h2
    rw [psum_one, psum_one]
    omega
  | x :: y :: r, a, b, w, k1, k => by
    have h1 : x = a := by simpa using k1
    subst h1
    have k' : (y :: r).getLast? = some b := by rw [List.getLast?_cons_cons] at k; exact k
    have ih := psum_lift okf okg t (p := y :: r) (a := y) w.2 rfl k'
    rw [psum_cons, psum_cons]
    have m : slp f x y - slp g x y = 2 * (h x - h y) := by
      rcases w.1 with q | q
      · exact t _ q
      · have := t _ q
        have n1 := slp_neg okf (.inl q)
        have n2 := slp_neg okg (.inl q)
        simp only at this
        omega
    omega
end
/-! ### the paths found are walks -/
theorem PathTo.wk {es : List (Str × Str)} {ok : Str → Str → Bool} {root x : Str} {p : List Str} (h : PathTo (nbS es) ok root x p) : Wk es p ∧ p.head? = some root ∧ p.getLast? = some x := by
  induction h with
  | one => exact ⟨trivial, rfl, rfl⟩
  | @snoc a b p _ m o ih =>
    obtain ⟨h1, h2, h3⟩ := ih
    refine ⟨h1.snoc h3 (nbS_mem.mp m), ?_, by simp⟩
    cases p with
    | nil => cases h2
    | cons _ _ => exact h2
/-! ### basis cycles -/
def pth (kp : List (Str × List Str)) (x : Str) : List Str := (kp.lookup x).getD []
section
variable {ns : List Str} {es : List (Str × Str)}
end
end U

/-! rising cycles, feasible lifts, progress: the plain law -/
namespace U
open PySem PySem.Spec PyProof.Rows L2
def slOk (f : Str → Int) (dir : Int) (a b : Str) : Bool := decide (slp f a b = dir)
abbrev Rr (es : List (Str × Str)) (f : Str → Int) (dir : Int) (x y : Str) : Prop := Reach (nbS es) (slOk f dir) x y
/-- x is on a rising (falling) cycle -/
def CycD (es : List (Str × Str)) (f : Str → Int) (dir : Int) (x : Str) : Prop := ∃ y, Adj es y x ∧ slp f y x = dir ∧ Rr es f dir x y
abbrev Cyc (es : List (Str × Str)) (f : Str → Int) (x : Str) : Prop := CycD es f 1 x
section
variable {ns : List Str} {es : List (Str × Str)} {f : Str → Int} {dir : Int}
theorem rr_step {a b : Str} (h : Adj es a b) (k : slp f a b = dir) : Rr es f dir a b := .step .refl (nbS_mem.mpr h) (decide_eq_true k)
theorem rr_snoc {a b c : Str} (r : Rr es f dir a b) (h : Adj es b c) (k : slp f b c = dir) : Rr es f dir a c := .step r (nbS_mem.mpr h) (decide_eq_true k)
theorem rr_first {x y : Str} (r : Rr es f dir x y) : y = x ∨ ∃ z, Adj es x z ∧ slp f x z = dir ∧ Rr es f dir z y := by
  induction r with
  | refl => exact .inl rfl
  | @step a b _ m o ih =>
    have o' := of_decide_eq_true o
    have m' := nbS_mem.mp m
    rcases ih with rfl | ⟨z, h1, h2, h3⟩
    · exact .inr ⟨b, m', o', .refl⟩
    · exact .inr ⟨z, h1, h2, .step h3 m o⟩
theorem rr_last {x y : Str} (r : Rr es f dir x y) : y = x ∨ ∃ z, Adj es z y ∧ slp f z y = dir ∧ Rr es f dir x z := by
  cases r with
  | refl => exact .inl rfl
  | step r m o => exact .inr ⟨_, nbS_mem.mp m, of_decide_eq_true o, r⟩
/-- what lies on the way of a cycle is on a cycle -/
theorem cyc_on {x w y : Str} (r1 : Rr es f dir x w) (r2 : Rr es f dir w y) (h : Adj es y x) (k : slp f y x = dir) : CycD es f dir w := by
  rcases rr_last r1 with e | ⟨z, z1, z2, z3⟩
  · rw [e] at r2 ⊢
    exact ⟨y, h, k, r2⟩
  · exact ⟨z, z1, z2, (rr_snoc r2 h k).trans z3⟩
theorem adj_in (ok : EsOk ns es f) {a b : Str} (h : Adj es a b) : a ∈ ns ∧ b ∈ ns ∧ f a ≠ f b ∧ a ≠ b := by
  have m : a ∈ ns ∧ b ∈ ns ∧ f a ≠ f b := by
    rcases h with h | h
    · exact ⟨(ok.mem _ h).1, (ok.mem _ h).2, ok.pro _ h⟩
    · exact ⟨(ok.mem _ h).2, (ok.mem _ h).1, fun z => ok.pro _ h z.symm⟩
  exact ⟨m.1, m.2.1, m.2.2, fun z => m.2.2 (by rw [z])⟩
/-- a node on a cycle has no move -/
theorem cyc_still (ok : EsOk ns es f) {pn : List Str} {m : Str × Int} (l : Legal ns es f pn m) : ¬ Cyc es f m.1 := by
  rintro ⟨y, h, k, r⟩
  have ay := adj_in ok h
  rcases rr_first r with e | ⟨z, h1, h2, _⟩
  · exact ay.2.2.2 e
  have az := adj_in ok h1
  have ty := ok.tri y ay.1
  have tx := ok.tri _ ay.2.1
  have tz := ok.tri z az.2.1
  have n1 := l.nbr y (.symm h)
  have n2 := l.nbr z h1
  have n3 := l.own
  have tv := l.val
  have e1 : (f m.1 - f y) % 3 = 1 := by
    unfold slp at k
    split at k
    · assumption
    · cases k
  have e2 : (f z - f m.1) % 3 = 1 := by
    unfold slp at h2
    split at h2
    · assumption
    · cases h2
  have d1 := ay.2.2.1
  have d2 := az.2.2.1
  omega
theorem slp_off {n : Str} {v : Int} {a b : Str} (ha : a ≠ n) (hb : b ≠ n) : slp (updf f n v) a b = slp f a b := by
  unfold slp updf
  rw [if_neg ha, if_neg hb]
/-- cycles stay -/
theorem cyc_move (ok : EsOk ns es f) {pn : List Str} {m : Str × Int} (l : Legal ns es f pn m) {x : Str} (c : Cyc es f x) : Cyc es (updf f m.1 m.2) x := by
  obtain ⟨y, h, k, r⟩ := c
  have st := cyc_still ok l
  have off : ∀ w, Rr es f 1 x w → Rr es f 1 w y → w ≠ m.1 := fun w r1 r2 z => st (by rw [← z]; exact cyc_on r1 r2 h k)
  have walk : ∀ w, Rr es f 1 x w → Rr es f 1 w y → Rr es (updf f m.1 m.2) 1 x w := by
    intro w r1
    induction r1 with
    | refl => intro _; exact .refl
    | @step a b r1 mm o ih =>
      intro r2
      have o' := of_decide_eq_true o
      have m' := nbS_mem.mp mm
      have r2' : Rr es f 1 a y := (rr_step m' o').trans r2
      refine rr_snoc (ih r2') m' ?_
      rw [slp_off (off a r1 r2') (off b (.step r1 mm o) r2)]
      exact o'
  refine ⟨y, h, ?_, walk y r .refl⟩
  rw [slp_off (off y r .refl) (off x .refl r)]
  exact k
theorem legal_back (ok : EsOk ns es f) {pn : List Str} {m : Str × Int} (l : Legal ns es f pn m) : Legal ns es (updf f m.1 m.2) pn (m.1, f m.1) := by
  have own : f m.1 ≠ updf f m.1 m.2 m.1 := by
    unfold updf
    rw [if_pos rfl]
    exact fun z => l.own z.symm
  refine ⟨l.mem, l.pin, ok.tri _ l.mem, own, fun z hz => ?_⟩
  have a := adj_in ok (show Adj es m.1 z from hz)
  show f m.1 ≠ updf f m.1 m.2 z
  unfold updf
  rw [if_neg (Ne.symm a.2.2.2)]
  exact a.2.2.1
theorem updf_undo {n : Str} {v : Int} : updf (updf f n v) n (f n) = f := by
  funext x
  unfold updf
  by_cases e : x = n
  · rw [if_pos e, e]
  · rw [if_neg e, if_neg e]
theorem cyc_iff (ok : EsOk ns es f) {pn : List Str} {m : Str × Int} (l : Legal ns es f pn m) {x : Str} : Cyc es (updf f m.1 m.2) x ↔ Cyc es f x := by
  refine ⟨fun c => ?_, cyc_move ok l⟩
  have ok' := (move_keeps (f0 := f) (h := fun _ => 0) ok l fun e _ => by omega).1
  have := cyc_move ok' (legal_back ok l) c
  rw [updf_undo] at this
  exact this
/-! ### feasible lifts -/
structure Feas (ns : List Str) (es : List (Str × Str)) (f h : Str → Int) (pn : List Str) : Prop where
  fit : Fits es f h
  pin : ∀ x ∈ pn, h x = 0
  cyc : ∀ x, Cyc es f x → h x = 0
theorem fit_pm {a b : Str} : fitB f h a b = true ↔ slp f a b - 2 * (h a - h b) = 1 ∨ slp f a b - 2 * (h a - h b) = -1 := by
  rw [fit_iff]
  rcases slp_pm f a b with e | e
  · rw [if_pos e, e]
    omega
  · rw [if_neg (by rw [e]; decide), e]
    omega
/-- a move, and one less to go -/
theorem feas_move (ok : EsOk ns es f) {pn : List Str} {h : Str → Int} {m : Str × Int} (fe : Feas ns es f h pn) (l : Legal ns es f pn m) : Feas ns es (updf f m.1 m.2) (updf h m.1 (h m.1 - dlt (f m.1 - m.2))) pn := by
  have mk := (move_keeps (f0 := f) (h := fun _ => 0) ok l fun e _ => by omega).2
  have ne : ∀ x, Cyc es f x ∨ x ∈ pn → x ≠ m.1 := fun x hx z => by
    rcases hx with c | c
    · rw [z] at c
      exact cyc_still ok l c
    · rw [z] at c
      exact l.pin c
  refine ⟨fun e he => ?_, fun x hx => ?_, fun x hx => ?_⟩
  · have a := fit_pm.mp (fe.fit e he)
    have b := mk e he
    rw [fit_pm]
    have u1 : ∀ x, updf h m.1 (h m.1 - dlt (f m.1 - m.2)) x = h x - updf (fun _ => 0) m.1 (0 + dlt (f m.1 - m.2)) x := fun x => by
      unfold updf
      by_cases z : x = m.1
      · rw [if_pos z, if_pos z, z]
        omega
      · rw [if_neg z, if_neg z]
        show h x = h x - 0
        omega
    rw [u1, u1]
    omega
  · unfold updf
    rw [if_neg (ne x (.inr hx))]
    exact fe.pin x hx
  · have c := (cyc_iff ok l).mp hx
    unfold updf
    rw [if_neg (ne x (.inl c))]
    exact fe.cyc x c
/-! ### progress -/
end
end U

/-! frozen nodes: the plain law -/
namespace U
open PySem PySem.Spec PyProof.Rows L2
section
variable {ns : List Str} {es : List (Str × Str)} {f : Str → Int} {pn : List Str} {m : Str × Int}
end
end U

/-! paths of one slope; certificates -/
namespace U
open PySem PySem.Spec PyProof.Rows L2
def SlP (es : List (Str × Str)) (f : Str → Int) (dir : Int) : List Str → Prop
  | a :: b :: r => Adj es a b ∧ slp f a b = dir ∧ SlP es f dir (b :: r)
  | _ => True
section
variable {ns : List Str} {es : List (Str × Str)} {f : Str → Int} {dir : Int}
theorem SlP.join : ∀ {p r : List Str} {x : Str}, p.getLast? = some x → SlP es f dir p → SlP es f dir (x :: r) → SlP es f dir (p ++ r)
  | [], _, _, h, _, _ => nomatch h
  | [a], r, x, h, _, k => by
    have e : a = x := by simpa using h
    subst e
    exact k
  | a :: b :: q, r, x, h, w, k => by
    have h' : (b :: q).getLast? = some x := by rw [List.getLast?_cons_cons] at h; exact h
    exact ⟨w.1, w.2.1, SlP.join h' w.2.2 k⟩
theorem SlP.snoc {p : List Str} {x b : Str} (h : p.getLast? = some x) (w : SlP es f dir p) (a : Adj es x b) (e : slp f x b = dir) : SlP es f dir (p ++ [b]) := w.join h ⟨a, e, trivial⟩
theorem SlP.tail {a : Str} {p : List Str} (w : SlP es f dir (a :: p)) : SlP es f dir p := by
  cases p with
  | nil => trivial
  | cons b r => exact w.2.2
theorem SlP.left : ∀ {p r : List Str}, SlP es f dir (p ++ r) → SlP es f dir p
  | [], _, _ => trivial
  | [a], _, _ => trivial
  | a :: b :: q, r, w => ⟨w.1, w.2.1, SlP.left (p := b :: q) w.2.2⟩
theorem SlP.wk : ∀ {p : List Str}, SlP es f dir p → Wk es p
  | [], _ => trivial
  | [a], _ => trivial
  | a :: b :: q, w => ⟨w.1, SlP.wk w.2.2⟩
theorem SlP.at : ∀ {p : List Str}, SlP es f dir p → ∀ i (h : i + 1 < p.length), Adj es p[i] p[i + 1] ∧ slp f p[i] p[i + 1] = dir
  | a :: b :: q, w, 0, _ => ⟨w.1, w.2.1⟩
  | a :: b :: q, w, i + 1, h => SlP.at (p := b :: q) w.2.2 i (by simpa using h)
theorem SlP.of : ∀ {p : List Str}, (∀ i (h : i + 1 < p.length), Adj es p[i] p[i + 1] ∧ slp f p[i] p[i + 1] = dir) → SlP es f dir p
  | [], _ => trivial
  | [a], _ => trivial
  | a :: b :: q, h => ⟨(h 0 (by simp)).1, (h 0 (by simp)).2, SlP.of fun i hi => h (i + 1) (by simpa using hi)⟩
theorem PathTo.slp {x y : Str} {p : List Str} (h : PathTo (nbS es) (slOk f dir) x y p) : SlP es f dir p ∧ p.head? = some x ∧ p.getLast? = some y := by
  induction h with
  | one => exact ⟨trivial, rfl, rfl⟩
  | @snoc a b p q m o ih =>
    obtain ⟨i1, i2, i3⟩ := ih
    refine ⟨i1.snoc i3 (nbS_mem.mp m) (of_decide_eq_true o), ?_, ?_⟩
    · cases p with
      | nil => cases i2
      | cons c r => exact i2
    · simp only [List.getLast?_append, List.getLast?_singleton, Option.some_or]
end
end U

/-! cheapest paths: the plain law -/
namespace U
open PySem PySem.Spec PyProof.Rows L2 PySem.W
/-- what the steps of a path cost together -/
def ctF (w : Str → Str → Nat) : List Str → Nat
  | x :: y :: r => w x y + ctF w (y :: r)
  | _ => 0
section
variable {w : Str → Str → Nat}
theorem ctF_join : ∀ {p r : List Str} {x : Str}, p.getLast? = some x → ctF w (p ++ r) = ctF w p + ctF w (x :: r)
  | [], _, _, h => nomatch h
  | [a], r, x, h => by
    have : a = x := by simpa using h
    subst this
    show _ = 0 + _
    rw [Nat.zero_add]
    rfl
  | a :: b :: q, r, x, h => by
    have h' : (b :: q).getLast? = some x := by rw [List.getLast?_cons_cons] at h; exact h
    have ih := ctF_join (p := b :: q) (r := r) h'
    show w a b + ctF w (b :: q ++ r) = w a b + ctF w (b :: q) + _
    rw [ih]
    omega
theorem ctF_snoc {p : List Str} {x o : Str} (h : p.getLast? = some x) : ctF w (p ++ [o]) = ctF w p + w x o := by
  rw [ctF_join h]
  rfl
end
/-! ### ranks -/
def dRk (c : Nat) (p : List Str) : PyData := .tuple [.int c, .int p.length, .list (p.map PyData.str)]
def rl (w : Str → Str → Nat) (p q : List Str) : Bool := dataLt (dRk (ctF w p) p) (dRk (ctF w q) q)
section
variable {w : Str → Str → Nat} {p q r : List Str}
theorem rl_irrefl : rl w p p = false := lex_irrefl _
theorem rl_less (h : ctF w p < ctF w q ∨ (ctF w p = ctF w q ∧ p.length < q.length)) : rl w p q = true := by
  unfold rl dRk
  rw [dataLt_tuple]
  rcases h with h | ⟨e, h⟩
  · rw [dataLt_all_no (by simp [alike]) (by simp [PyData.eqv]; omega), dataLt_int]
    exact decide_eq_true (by omega)
  · rw [dataLt_all_yes (by simp [alike]) (by simp [PyData.eqv]; omega), dataLt_all_no (by simp [alike]) (by simp [PyData.eqv]; omega), dataLt_int]
    exact decide_eq_true (by omega)
theorem rl_cost (h : rl w p q = false) : ctF w q ≤ ctF w p := by
  by_cases z : ctF w p < ctF w q
  · rw [rl_less (.inl z)] at h
    cases h
  · omega
end
/-! ### all arrangements -/
/-! ### the paths found -/
structure ChS (ns : List Str) (es : List (Str × Str)) (w : Str → Str → Nat) (src ks : List Str) (P : Str → List Str) (qu : List Str) (pend : Str → Str → Prop) : Prop where
  nd : ks.Nodup
  inN : ∀ x ∈ ks, x ∈ ns
  sv : ∀ x ∈ src, x ∈ ks ∧ rl w [x] (P x) = false
  wk : ∀ x ∈ ks, Wk es (P x)
  hd : ∀ x ∈ ks, ∃ s ∈ src, (P x).head? = some s
  ls : ∀ x ∈ ks, (P x).getLast? = some x
  ndp : ∀ x ∈ ks, (P x).Nodup
  pin : ∀ x ∈ ks, ∀ y ∈ P x, y ∈ ns
  pre : ∀ x ∈ ks, ∀ a r, P x = a ++ r → ∀ z, a.getLast? = some z → z ∈ ks ∧ rl w a (P z) = false
  qin : ∀ x ∈ qu, x ∈ ks
  cl : ∀ x ∈ ks, ∀ o, Adj es x o → x ∈ qu ∨ pend x o ∨ (o ∈ ks ∧ rl w (P x ++ [o]) (P o) = false)
section
variable {ns : List Str} {es : List (Str × Str)} {f : Str → Int} {w : Str → Str → Nat} {src ks : List Str} {P : Str → List Str} {qu : List Str} {pend pend' : Str → Str → Prop}
theorem ChS.start (nd : src.Nodup) (hin : ∀ x ∈ src, x ∈ ns) : ChS ns es w src src (fun x => [x]) src (fun _ _ => False) := by
  refine ⟨nd, hin, fun x hx => ⟨hx, rl_irrefl⟩, fun _ _ => trivial, fun x hx => ⟨x, hx, rfl⟩, fun _ _ => rfl, fun x _ => by simp, fun x hx y hy => ?_, fun x hx a r e z hz => ?_, fun _ h => h, fun x hx o _ => .inl hx⟩
  · rw [List.mem_singleton.mp hy]
    exact hin x hx
  · cases a with
    | nil => cases hz
    | cons b a =>
      rw [List.cons_append] at e
      obtain ⟨rfl, e2⟩ := List.cons.inj e
      obtain ⟨rfl, rfl⟩ := List.append_eq_nil_iff.mp e2.symm
      cases hz
      exact ⟨hx, rl_irrefl⟩
/-- c is what the cheapest way from src to x costs -/
structure MinC (es : List (Str × Str)) (w : Str → Str → Nat) (src : List Str) (x : Str) (c : Nat) : Prop where
  ex : ∃ q, ∃ s ∈ src, Wk es q ∧ q.head? = some s ∧ q.getLast? = some x ∧ ctF w q = c
  le : ∀ q, ∀ s ∈ src, Wk es q → q.head? = some s → q.getLast? = some x → c ≤ ctF w q
theorem MinC.uniq {x : Str} {c d : Nat} (a : MinC es w src x c) (b : MinC es w src x d) : c = d := by
  obtain ⟨q, s, hs, h1, h2, h3, h4⟩ := a.ex
  obtain ⟨q', s', hs', h1', h2', h3', h4'⟩ := b.ex
  have := a.le q' s' hs' h1' h2' h3'
  have := b.le q s hs h1 h2 h3
  omega
/-- what is found at the end -/
theorem ChS.fin (c : ChS ns es w src ks P [] (fun _ _ => False)) : (∀ x ∈ ks, MinC es w src x (ctF w (P x))) ∧ ∀ q, ∀ s ∈ src, Wk es q → q.head? = some s → ∀ x, q.getLast? = some x → x ∈ ks := by
  have key : ∀ (r : List Str) (a : Str), a ∈ ks → Wk es (a :: r) → ∀ y, (a :: r).getLast? = some y → y ∈ ks ∧ ctF w (P y) ≤ ctF w (P a) + ctF w (a :: r) := by
    intro r
    induction r with
    | nil =>
      intro a ha _ y hy
      have : a = y := by simpa using hy
      subst this
      exact ⟨ha, Nat.le_add_right _ _⟩
    | cons b r ih =>
      intro a ha wk y hy
      rw [List.getLast?_cons_cons] at hy
      rcases c.cl a ha b wk.1 with h | h | ⟨h1, h2⟩
      · cases h
      · exact h.elim
      · obtain ⟨y1, y2⟩ := ih b h1 wk.2 y hy
        have k1 := rl_cost h2
        rw [ctF_snoc (c.ls a ha)] at k1
        refine ⟨y1, ?_⟩
        show _ ≤ ctF w (P a) + (w a b + ctF w (b :: r))
        omega
  have all : ∀ q, ∀ s ∈ src, Wk es q → q.head? = some s → ∀ x, q.getLast? = some x → x ∈ ks ∧ ctF w (P x) ≤ ctF w q := fun q s hs wk hq x hx => by
    cases q with
    | nil => cases hq
    | cons a r =>
      obtain rfl : a = s := Option.some.inj hq
      obtain ⟨s1, s2⟩ := c.sv a hs
      obtain ⟨y1, y2⟩ := key r a s1 wk x hx
      have := rl_cost s2
      have e0 : ctF w [a] = 0 := rfl
      exact ⟨y1, by omega⟩
  refine ⟨fun x hx => ⟨?_, fun q s hs wk hq hl => (all q s hs wk hq x hl).2⟩, fun q s hs wk hq x hl => (all q s hs wk hq x hl).1⟩
  obtain ⟨s, hs, e⟩ := c.hd x hx
  exact ⟨P x, s, hs, c.wk x hx, e, c.ls x hx, rfl⟩
end
end U

/-! data compared by <; kvG changed at a key; append to a long list -/
namespace U
open PySem PySem.Spec PyProof.Rows L2
def rLtD (K : PySem.W.Frag) : R2 := fun x y H Q => ∃ d d', Dp K H x d ∧ Dp K H y d' ∧ PySem.W.alike d d' = true ∧ d ≠ .none ∧ d.depth ≤ 60 ∧ Q (.bl (PySem.W.dataLt d d')) H
theorem kLtD {X : Cx} (K : PySem.W.Frag) (hK : X.K = K) (hu : X.A.units + 64 < cLine) : OpR X (compareOp .Lt) (rLtD K) := by
  subst hK
  intro pins s σ H x y v u Q I rx ry ⟨d, d', hd, he, al, nn, dep, q⟩
  obtain ⟨_, r1⟩ := Dp.reads I _ _ _ hd rx
  obtain ⟨_, r2⟩ := Dp.reads I _ _ _ he ry
  exact PySem.W.lt_data r1 r2 al nn (by omega) ⟨.bl _, H, I, rfl, q⟩
end U

namespace Law
open PySem PySem.Spec PyProof.Rows L2 U
def top (i : Nat) : Stmt := PySem.Challenge.pw_threeturned_k01_graphs_checked.main.body.getD i (.Pass ⟨0, 0, 0, 0⟩)
abbrev s_InvalidGraph_init : Stmt := inClass (top 2) 0
theorem sc_InvalidGraph_init : FnScope ["self", "part", "position"] ["self", "part", "position"] (defScope s_InvalidGraph_init) := ⟨rfl, rfl, rfl, by decide +kernel, rfl, by decide +kernel, by decide +kernel⟩
abbrev s_is_node : Stmt := top 8
abbrev nN_is_node : List Str := ["candidate", "letter"]
theorem sc_is_node : FnScope ["candidate", "letter"] ["candidate"] (defScope s_is_node) := ⟨rfl, rfl, rfl, by decide +kernel, rfl, by decide +kernel, by decide +kernel⟩
abbrev s_first_invalid : Stmt := top 9
theorem sc_first_invalid : FnScope ["items", "is_valid", "position", "item"] ["items", "is_valid"] (defScope s_first_invalid) := ⟨rfl, rfl, rfl, by decide +kernel, rfl, by decide +kernel, by decide +kernel⟩
abbrev s_check_part : Stmt := top 10
theorem sc_check_part : FnScope ["part", "items", "limit", "is_valid", "position"] ["part", "items", "limit", "is_valid"] (defScope s_check_part) := ⟨rfl, rfl, rfl, by decide +kernel, rfl, by decide +kernel, by decide +kernel⟩
abbrev s_check_graph : Stmt := top 11
theorem sc_check_graph : FnScope ["candidate", "nodes", "edges", "is_edge"] ["candidate"] (defScope s_check_graph) := ⟨rfl, rfl, rfl, by decide +kernel, rfl, by decide +kernel, by decide +kernel⟩
abbrev s__law_pool : Stmt := top 13
theorem sc__law_pool : FnScope ["_law_script", "_law_k", "_law_cell", "_law_size", "_law_seed"] ["_law_script", "_law_k"] (defScope s__law_pool) := ⟨rfl, rfl, rfl, by decide +kernel, rfl, by decide +kernel, by decide +kernel⟩
abbrev s__law_draw : Stmt := top 14
theorem sc__law_draw : FnScope ["_law_pool_here", "_law_many", "_law_found"] ["_law_pool_here", "_law_many"] (defScope s__law_draw) := ⟨rfl, rfl, rfl, by decide +kernel, rfl, by decide +kernel, by decide +kernel⟩
abbrev s__law_draw_names : Stmt := top 15
theorem sc__law_draw_names : FnScope ["_law_pool_here", "_law_many", "_law_letters", "_law_begin", "_law_spread", "_law_tail", "_law_at", "_law_is_mixed", "_law_found", "_law_k", "_law_letter"] ["_law_pool_here", "_law_many"] (defScope s__law_draw_names) := ⟨rfl, rfl, rfl, by decide +kernel, rfl, by decide +kernel, by decide +kernel⟩
abbrev s__law_shuffle : Stmt := top 16
theorem sc__law_shuffle : FnScope ["_law_pool_here", "_law_some", "_law_left", "_law_found"] ["_law_pool_here", "_law_some"] (defScope s__law_shuffle) := ⟨rfl, rfl, rfl, by decide +kernel, rfl, by decide +kernel, by decide +kernel⟩
abbrev s__law_edge_of : Stmt := top 17
theorem sc__law_edge_of : FnScope ["_law_one", "_law_other"] ["_law_one", "_law_other"] (defScope s__law_edge_of) := ⟨rfl, rfl, rfl, by decide +kernel, rfl, by decide +kernel, by decide +kernel⟩
abbrev s__law_wants_edge : Stmt := top 18
theorem sc__law_wants_edge : FnScope ["_law_pool_here", "_law_kind", "_law_at", "_law_position", "_law_many"] ["_law_pool_here", "_law_kind", "_law_at", "_law_position", "_law_many"] (defScope s__law_wants_edge) := ⟨rfl, rfl, rfl, by decide +kernel, rfl, by decide +kernel, by decide +kernel⟩
abbrev s__law_draw_graph : Stmt := top 19
theorem sc__law_draw_graph : FnScope ["_law_pool_here", "_law_most", "_law_order", "_law_kind", "_law_state", "_law_value", "_law_node", "_law_edges", "_law_at", "_law_one", "_law_position", "_law_other"] ["_law_pool_here", "_law_most"] (defScope s__law_draw_graph) := ⟨rfl, rfl, rfl, by decide +kernel, rfl, by decide +kernel, by decide +kernel⟩
abbrev s__law_numbered_names : Stmt := top 20
abbrev nN__law_numbered_names : List Str := ["_law_many", "_law_letters", "_law_k"]
theorem sc__law_numbered_names : FnScope ["_law_many", "_law_letters", "_law_k"] ["_law_many"] (defScope s__law_numbered_names) := ⟨rfl, rfl, rfl, by decide +kernel, rfl, by decide +kernel, by decide +kernel⟩
abbrev s__law_is_name : Stmt := top 21
abbrev nN__law_is_name : List Str := ["_law_candidate", "_law_value"]
theorem sc__law_is_name : FnScope ["_law_candidate", "_law_value"] ["_law_candidate"] (defScope s__law_is_name) := ⟨rfl, rfl, rfl, by decide +kernel, rfl, by decide +kernel, by decide +kernel⟩
abbrev s__law_is_edge : Stmt := top 22
theorem sc__law_is_edge : FnScope ["_law_nodes", "_law_candidate"] ["_law_nodes", "_law_candidate"] (defScope s__law_is_edge) := ⟨rfl, rfl, rfl, by decide +kernel, rfl, by decide +kernel, by decide +kernel⟩
abbrev s__law_compute_expected : Stmt := top 23
theorem sc__law_compute_expected : FnScope ["_law_candidate", "_law_part", "_law_items", "_law_most", "_law_number", "_law_one", "_law_good"] ["_law_candidate"] (defScope s__law_compute_expected) := ⟨rfl, rfl, rfl, by decide +kernel, rfl, by decide +kernel, by decide +kernel⟩
abbrev s__law_call : Stmt := top 24
theorem sc__law_call : FnScope ["_law_candidate", "_law_error", "e"] ["_law_candidate"] (defScope s__law_call) := ⟨rfl, rfl, rfl, by decide +kernel, rfl, by decide +kernel, by decide +kernel⟩
abbrev s__law_make_variant_items : Stmt := top 25
theorem sc__law_make_variant_items : FnScope ["_law_pool_here", "_law_items", "_law_invalid", "_law_at", "_law_direction", "_law_both"] ["_law_pool_here", "_law_items", "_law_invalid"] (defScope s__law_make_variant_items) := ⟨rfl, rfl, rfl, by decide +kernel, rfl, by decide +kernel, by decide +kernel⟩
abbrev s__law_make_variant : Stmt := top 26
theorem sc__law_make_variant : FnScope ["_law_pool_here", "_law_graph", "_law_names", "_law_invalid", "_law_one", "_law_other", "_law_edges"] ["_law_pool_here", "_law_graph"] (defScope s__law_make_variant) := ⟨rfl, rfl, rfl, by decide +kernel, rfl, by decide +kernel, by decide +kernel⟩
abbrev s__law_great_holds : Stmt := top 27
abbrev nN__law_great_holds : List Str := ["_law_names", "_law_edges", "_law_at", "_law_far", "_law_many", "_law_most", "_law_graph"]
theorem sc__law_great_holds : FnScope ["_law_names", "_law_edges", "_law_at", "_law_far", "_law_many", "_law_most", "_law_graph"] [] (defScope s__law_great_holds) := ⟨rfl, rfl, rfl, by decide +kernel, rfl, by decide +kernel, by decide +kernel⟩
abbrev s__law_with_more_edges : Stmt := top 28
theorem sc__law_with_more_edges : FnScope ["_law_pool_here", "_law_graph", "_law_edges", "_law_at", "_law_one", "_law_other"] ["_law_pool_here", "_law_graph"] (defScope s__law_with_more_edges) := ⟨rfl, rfl, rfl, by decide +kernel, rfl, by decide +kernel, by decide +kernel⟩
abbrev s_law : Stmt := top 29
theorem sc_law : FnScope ["_law_script", "_law_candidate", "_law_k", "_law_pool_here", "_law_graph", "_law_state", "_law_saved", "_law_turn", "_law_changed"] ["_law_script"] (defScope s_law) := ⟨rfl, rfl, rfl, by decide +kernel, rfl, by decide +kernel, by decide +kernel⟩
end Law

section
open PySem PySem.Spec PyProof.Rows L2 U
local macro_rules | `(tactic| wtm_at "rd1") => `(tactic| first
  | with_reducible refine rd_seq ?_
  | ((with_reducible refine rd_var (v := ?vv) ?hv ?_); (case hv => exact rfl))
  | with_reducible refine rd_c ?_
  | with_reducible refine rd_cons ?_
  | with_reducible refine rd_nil ?_
  | with_reducible refine rd_op ?_
  | with_reducible refine rd_asg ?_
  | with_reducible refine rd_name ?_
  | with_reducible refine rd_c1 ?_
  | with_reducible refine rd_cb ?_
  | with_reducible refine rd_test ?_
  | with_reducible refine rd_B ?_
  | with_reducible refine rd_bl ?_
  | with_reducible refine rd_if ?_
  | with_reducible refine rd_ret ?_
  | with_reducible refine rd_drop ?_
  | with_reducible refine rd_next ?_
  | with_reducible refine rd_addI ?_
  | with_reducible refine rd_ltI ?_
  | with_reducible refine rd_eqI ?_
  | with_reducible refine rd_neI ?_
  | with_reducible refine rd_eqS ?_
  | with_reducible refine rd_neS ?_
  | with_reducible refine rd_gtI ?_
  | with_reducible refine rd_geI ?_
  | with_reducible refine rd_leI ?_
  | with_reducible refine rd_ltS ?_
  | with_reducible refine rd_subI ?_
  | ((with_reducible refine rd_modI ?hc ?_); (case hc => first | decide | omega))
  | ((with_reducible refine rd_mulI ?hc ?_); (case hc => first | exact mul_bI | exact .inl (.inr (by decide)) | exact .inl (.inl (by decide)) | exact .inl (.inr (by omega)) | exact .inl (.inl (by omega))))
  | ((with_reducible refine rd_divI ?hc ?_); (case hc => first | decide | omega))
  | ((with_reducible refine rd_powI ?hc ?_); (case hc => exact ⟨by decide, by decide, by decide⟩))
  | with_reducible refine rd_lst ?_
  | with_reducible refine rd_tup ?_
  | ((with_reducible refine rd_sz ?hv ?_); (case hv => exact rfl))
  | with_reducible refine rd_and ?_
  | with_reducible refine rd_or ?_
  | with_reducible refine rd_not ?_
  | with_reducible refine rd_andV ?_
  | with_reducible refine rd_orV ?_
  | with_reducible refine rd_notV ?_
  | with_reducible refine rd_ifE ?_
  | with_reducible refine rd_T ?_
  | with_reducible refine rd_F ?_
  | with_reducible refine rd_chain ?_
  | with_reducible refine rd_is ?_
  | with_reducible refine rd_isNot ?_
  | with_reducible refine rd_absI ?_
  | with_reducible refine rd_maxI ?_
  | with_reducible refine rd_minI ?_
  | with_reducible refine rd_intI ?_
  | with_reducible refine rd_intB ?_
  | with_reducible refine rd_sub ?_
  | with_reducible refine rd_sl ?_
  | with_reducible refine rd_noPart ?_
  | with_reducible refine rd_part ?_
  | with_reducible refine rd_exI ?_
  | with_reducible refine rd_bm ?_
  | with_reducible refine rd_bm0 ?_
  | with_reducible refine rd_un ?_
  | with_reducible refine rd_neg ?_
  | with_reducible refine rd_c2 ?_
  | with_reducible refine rd_retN ?_
  | with_reducible refine rd_break ?_
  | with_reducible refine rd_cont ?_
  | with_reducible refine rd_for ?_
  | with_reducible refine rd_rng1 ?_
  | with_reducible refine rd_rng2 ?_
  | with_reducible refine rd_iList ?_
  | with_reducible refine rd_iTup ?_
  | with_reducible refine rd_iEnum ?_
  | ((with_reducible refine rd_forR ?h0 ?h1 ?_); (case h0 => omega); (case h1 => omega))
  | with_reducible refine rd_lc ?_
  | with_reducible refine rd_gcons ?_
  | with_reducible refine rd_gnil ?_
  | with_reducible refine rd_dget ?_
  | with_reducible refine rd_dput ?_
  | with_reducible refine rd_dnew ?_
  | with_reducible refine rd_dc ?_
  | with_reducible refine rd_iItems ?_
  | with_reducible refine rd_iKeys ?_
  | with_reducible refine rd_din ?_
  | with_reducible refine rd_lc2 ?_
  | with_reducible refine rd_cd ?_
  | with_reducible refine rd_par ?_
  | with_reducible refine rd_two ?_
  | with_reducible refine rd_reprB ?_
  | with_reducible refine rd_ck ?_
  | ((with_reducible refine rd_len ?hl ?_); (case hl => exact rfl))
  | with_reducible refine rd_nT ?_
  | with_reducible refine rd_nF ?_
  | with_reducible refine rd_dnin ?_
  | with_reducible refine rd_isB ?_
  | with_reducible refine rd_isNotB ?_
  | with_reducible refine rd_daug ?_
  | with_reducible refine rd_yesT ?_
  | ((with_reducible refine rd_wp ?hw ?_); (case hw => exact rfl)))
local macro_rules | `(tactic| wtm_at "rd") => `(tactic| repeat wtm_at "rd1")
namespace Law
open PySem PySem.Spec PyProof.Rows L2 U

/-- the names of the world are the world's -/
structure Bt (mg : Str → Option Value) : Prop where
  len : mg "len" = none
  abs : mg "abs" = none
  max : mg "max" = none
  min : mg "min" = none
  sorted : mg "sorted" = none
  isinstance : mg "isinstance" = none
  int : mg "int" = none
  list : mg "list" = none
  tuple : mg "tuple" = none
  str : mg "str" = none
  range : mg "range" = none
  enumerate : mg "enumerate" = none
  dict : mg "dict" = none
  sum : mg "sum" = none
  all : mg "all" = none
  any : mg "any" = none
  repr : mg "repr" = none
  set : mg "set" = none
  zip : mg "zip" = none
  reversed : mg "reversed" = none
/-- a source of draws -/
def PoolOk (big seed : Int) : Prop := 0 ≤ big ∧ 0 ≤ seed ∧ seed < 2147483647
abbrev poolO (big seed : Int) : HO := .lst [.int big, .int seed]
def spPool (K : PySem.W.Frag) : Sp := fun vs H Q _ => ∃ (a : Addr) (ns : List Int) (k : Nat), vs = [.ref a, .int (k : Int)] ∧ SqL K H a (ns.map V.int) ∧ k ≤ 100 ∧
  ∀ p big seed, H p = none → PoolOk big seed → Q (.ref p) (upd H p (poolO big seed))
def spDraw : Sp := fun vs H Q _ => ∃ (p : Addr) (many big seed : Int), vs = [.ref p, .int many] ∧ 0 < many ∧ many < 1000000 ∧ H p = some (poolO big seed) ∧ PoolOk big seed ∧
  ∀ r big' seed', 0 ≤ r → r < many → PoolOk big' seed' → Q (.int r) (upd H p (poolO big' seed'))
section
variable {P : Program} {w : World} {K : PySem.W.Frag} {mg : Str → Option Value} {base : Heap}
theorem ok_pool {f : Addr} {fd : FuncData} (F : Fun K "_law_pool" "_law_pool" s__law_pool f fd) (B : Bt mg) : FnG P w K mg base CX0 1 f fd ["_law_script", "_law_k"] (spPool K) := by
  refine fnG0 F sc__law_pool (fun vs H Q E h => ?_) (fun cdv A outer s H vs Q E hr h => ?_)
  · obtain ⟨a, ns, k, rfl, _⟩ := h
    rfl
  · obtain ⟨a, ns, k, rfl, hs, hk, q⟩ := h
    have nd := sc__law_pool.nd
    refine ⟨_, (pss_cons (ps_set (i := 2) nd rfl (by first | exact Or.inl rfl | exact Or.inr rfl) pe_int)
  (pss_cons (ps_if (pt_cmpR uLt (pv 1) (pe_callB (kLen K rfl) (by rfl) B.len bb_len (pa_cons (pv 0) pa_nil)) (nomark _)) (pss_one (ps_set (i := 2) nd rfl (by first | exact Or.inl rfl | exact Or.inr rfl) (pe_ix (kIx K rfl) (pv 0) (pv 1) (fun _ _ => rfl)))) pss_nil)
  (pss_cons (ps_set (i := 3) nd rfl (by first | exact Or.inl rfl | exact Or.inr rfl) (pe_callB cAbs (by rfl) B.abs bb_abs (pa_cons (pv 2) pa_nil)))
  (pss_cons (ps_set (i := 4) nd rfl (by first | exact Or.inl rfl | exact Or.inr rfl) (pe_op uMod (pe_op uMul (pe_op (kAdd K rfl) (pe_op (kAdd K rfl) (pe_op uMod (pv 3) pe_int) (pe_op uMul pe_int (pv 1))) pe_int) pe_int) pe_int))
  (pss_one (ps_ret (pe_lst (pa_cons (pe_op uMul (pv 3) (pe_callTy cInt (by rfl) B.int bb_int (pa_cons (pe_cmpR uGe (pv 3) (pe_op uPow pe_int pe_int) (nomark _)) pa_nil))) (pa_cons (pv 4) pa_nil))))))))), ?_⟩
    have fin : ∀ z : Int, PoolOk ((z.natAbs : Int) * bToI (decide (10 ^ (18 : Int).toNat ≤ (z.natAbs : Int)))) (((z.natAbs : Int) % 2147483629 + 7919 * (k : Int) + 31) * 48271 % 2147483647) := by
      intro z
      refine ⟨?_, by omega, by omega⟩
      unfold bToI
      split <;> omega
    wtm_at "rd"
    refine rd_lenL hs ?_
    wtm_at "rd"
    refine rd_split (fun c => ?_) (fun c => ?_)
    · have hk2 : k < ns.length := by
        rw [List.length_map] at c
        omega
      wtm_at "rd"
      refine rd_ixL hs (atI_nat (v := .int ns[k]) (by rw [List.getElem?_map, List.getElem?_eq_getElem hk2]; rfl)) ?_
      wtm_at "rd"
      exact fun p np => q p _ _ np (fin _)
    · wtm_at "rd"
      exact fun p np => q p _ _ np (fin _)
theorem ok_draw {f : Addr} {fd : FuncData} (F : Fun K "_law_draw" "_law_draw" s__law_draw f fd) (B : Bt mg) : FnG P w K mg base CX0 1 f fd ["_law_pool_here", "_law_many"] spDraw := by
  refine fnG0 F sc__law_draw (fun vs H Q E h => ?_) (fun cdv A outer s H vs Q E hr h => ?_)
  · obtain ⟨p, many, big, seed, rfl, _⟩ := h
    rfl
  · obtain ⟨p, many, big, seed, rfl, m0, m1, hp, ⟨k0, k1, k2⟩, q⟩ := h
    have nd := sc__law_draw.nd
    refine ⟨_, (pss_cons (ps_if (pt_cmpR uGt (pe_ix (kIx K rfl) (pv 0) pe_int (fun _ _ => rfl)) pe_int (nomark _)) (pss_cons (ps_set (i := 2) nd rfl (by first | exact Or.inl rfl | exact Or.inr rfl) (pe_op uMod (pe_ix (kIx K rfl) (pv 0) pe_int (fun _ _ => rfl)) (pv 1)))
  (pss_cons (ps_asg (pe_op uDiv (pe_ix (kIx K rfl) (pv 0) pe_int (fun _ _ => rfl)) (pv 1)) (pg_sub (pv 0) pe_int set_list))
  (pss_one (ps_ret (pv 2))))) pss_nil)
  (pss_cons (ps_asg (pe_op uMod (pe_op (kAdd K rfl) (pe_op uMul (pe_ix (kIx K rfl) (pv 0) pe_int (fun _ _ => rfl)) pe_int) pe_int) pe_int) (pg_sub (pv 0) pe_int set_list))
  (pss_one (ps_ret (pe_op uMod (pe_op uDiv (pe_op uMod (pe_op uMul (pe_ix (kIx K rfl) (pv 0) pe_int (fun _ _ => rfl)) (pe_ix (kIx K rfl) (pv 0) pe_int (fun _ _ => rfl))) pe_int) pe_int) (pv 1)))))), ?_⟩
    wtm_at "rd"
    refine rd_ixL (SqL.of hp) rfl ?_
    wtm_at "rd"
    refine rd_split (fun c => ?_) (fun c => ?_)
    · wtm_at "rd"
      refine rd_ixL (SqL.of hp) rfl ?_
      wtm_at "rd"
      refine rd_ixL (SqL.of hp) rfl ?_
      wtm_at "rd"
      refine rd_setL hp rfl ?_
      wtm_at "rd"
      exact q _ _ _ (Int.emod_nonneg _ (by omega)) (Int.emod_lt_of_pos _ m0) ⟨Int.ediv_nonneg k0 (by omega), k1, k2⟩
    · wtm_at "rd"
      refine rd_ixL (SqL.of hp) rfl ?_
      wtm_at "rd"
      refine rd_setL hp rfl ?_
      wtm_at "rd"
      refine rd_ixL (SqL.of upd_same) rfl ?_
      wtm_at "rd"
      refine rd_ixL (SqL.of upd_same) rfl ?_
      wtm_at "rd"
      exact q _ _ _ (Int.emod_nonneg _ (by omega)) (Int.emod_lt_of_pos _ m0) ⟨k0, by omega, by omega⟩
end
end Law

namespace Law
open PySem PySem.Spec PyProof.Rows L2 U


/-- a source of draws stands at p -/
def PoolAt (H : Hp) (p : Addr) : Prop := ∃ big seed, H p = some (poolO big seed) ∧ PoolOk big seed
theorem PoolAt.ne {H : Hp} {p q : Addr} (h : PoolAt H p) (n : H q = none) : p ≠ q := by
  obtain ⟨b, s, h, _⟩ := h
  exact ne_of_none h n
theorem PoolAt.upd {H : Hp} {p q : Addr} {o : HO} (h : PoolAt H p) (n : p ≠ q) : PoolAt (L2.upd H q o) p := by
  obtain ⟨b, s, h, ok⟩ := h
  exact ⟨b, s, at_upd n h, ok⟩
theorem PoolAt.isL {H : Hp} {p : Addr} (h : PoolAt H p) : ∃ ys, H p = some (.lst ys) := by
  obtain ⟨b, s, h, _⟩ := h
  exact ⟨_, h⟩
theorem PoolAt.off {H : Hp} {p q : Addr} {xs : List Str} (h : PoolAt H p) (hq : H q = some (.lst (xs.map V.str))) : q ≠ p := by
  rintro rfl
  obtain ⟨b, s, h, _⟩ := h
  rw [hq] at h
  have e := HO.lst.inj (Option.some.inj h)
  match xs, e with
  | _ :: _, e => cases e
/-- from H to H' all stays but the draws' source at p, which is one still; new things may have come -/
structure Go (p : Addr) (H H' : Hp) : Prop where
  but : But p H H'
  free : ∀ b, H' b = none → H b = none
  pool : PoolAt H' p
theorem Go.refl {p : Addr} {H : Hp} (h : PoolAt H p) : Go p H H := ⟨But.refl, fun _ n => n, h⟩
theorem Go.trans {p : Addr} {H H1 H2 : Hp} (a : Go p H H1) (b : Go p H1 H2) : Go p H H2 := ⟨a.but.trans b.but, fun c n => a.free c (b.free c n), b.pool⟩
theorem Go.new {p q : Addr} {H H1 : Hp} {o : HO} (a : Go p H H1) (n : H1 q = none) : Go p H (L2.upd H1 q o) :=
  ⟨a.but.trans (But.new n), fun c z => a.free c (new_old z), a.pool.upd (a.pool.ne n)⟩
/-- an object that was not there at H is written -/
theorem Go.put {p q : Addr} {H H1 : Hp} {o : HO} (a : Go p H H1) (n : H q = none) (ne : p ≠ q) : Go p H (L2.upd H1 q o) :=
  ⟨fun b u h e => at_upd (ne_of_none e n) (a.but b u h e), fun c z => a.free c (new_old z), a.pool.upd ne⟩
theorem Go.at {p q : Addr} {H H1 : Hp} {o : HO} (a : Go p H H1) (h : H q = some o) (n : q ≠ p) : H1 q = some o := a.but q o n h
theorem Go.seqT {p a : Addr} {H H1 : Hp} {xs : List V} {K : PySem.W.Frag} (g : Go p H H1) (hp : PoolAt H p) (h : SqT K H a xs) : SqT K H1 a xs := g.but.seqT hp.isL h
theorem Go.of_same {p : Addr} {H H' : Hp} (hp : PoolAt H p) (s : Same H H') : Go p H H' := ⟨But.of_same s, fun b n => new_of_same s n, by
  obtain ⟨b, s', h, ok⟩ := hp
  exact ⟨b, s', s _ _ h, ok⟩⟩
theorem PoolAt.keep {p : Addr} {H H' : Hp} (h : PoolAt H p) (k : ∀ a xs, H a = some (.lst xs) → H' a = some (.lst xs)) : PoolAt H' p := by
  obtain ⟨b, s, h, ok⟩ := h
  exact ⟨b, s, k _ _ h, ok⟩
/-- _law_draw, as it is used -/
theorem use_draw {H : Hp} {p : Addr} {many : Int} {Q : VK} {E : XK} (h : PoolAt H p) (m0 : 0 < many) (m1 : many < 1000000)
    (k : ∀ (r : Int) (H' : Hp), 0 ≤ r → r < many → Go p H H' → Q (.int r) H') : spDraw [.ref p, .int many] H Q E := by
  obtain ⟨b, s, h, ok⟩ := h
  exact ⟨p, many, b, s, rfl, m0, m1, h, ok, fun r b' s' r0 r1 ok' => k r _ r0 r1 ⟨But.upd, fun c n => new_old n, b', s', upd_same, ok'⟩⟩
/-- a new list of names -/
def spNames : Sp := fun vs H Q _ => ∃ (p : Addr) (many : Int), vs = [.ref p, .int many] ∧ 0 ≤ many ∧ many ≤ 26 ∧ PoolAt H p ∧
  ∀ (l : Addr) (ys : List Str) (H' : Hp), Go p H H' → H l = none → H' l = some (.lst (ys.map V.str)) → Names ys → ys.length = many.toNat → Q (.ref l) H'
section
variable {P : Program} {w : World} {K : PySem.W.Frag} {mg : Str → Option Value} {base : Heap}
structure C1 (P : Program) (w : World) (K : PySem.W.Frag) (mg : Str → Option Value) (base : Heap) : Prop where
  _law_draw : Cal P w K mg base CX0 1 "_law_draw" spDraw
theorem ok_names {f : Addr} {fd : FuncData} (F : Fun K "_law_draw_names" "_law_draw_names" s__law_draw_names f fd) (B : Bt mg) (C : C1 P w K mg base) : FnG P w K mg base CX0 2 f fd ["_law_pool_here", "_law_many"] spNames := by
  refine fnG0 F sc__law_draw_names (fun vs H Q E h => ?_) (fun cdv A outer s H vs Q E hr h => ?_)
  · obtain ⟨p, many, rfl, _⟩ := h
    rfl
  · obtain ⟨p, many, rfl, m0, m1, hp, q⟩ := h
    have nd := sc__law_draw_names.nd
    refine ⟨_, (pss_cons (ps_set (i := 2) nd rfl (by first | exact Or.inl rfl | exact Or.inr rfl) pe_str)
  (pss_cons (ps_set (i := 3) nd rfl (by first | exact Or.inl rfl | exact Or.inr rfl) (pe_c C._law_draw hr (by decide) rfl (pa_cons (pv 0) (pa_cons pe_int pa_nil))))
  (pss_cons (ps_set (i := 4) nd rfl (by first | exact Or.inl rfl | exact Or.inr rfl) (pe_ix (kIx K rfl) (pe_lst (pa_cons pe_int (pa_cons pe_int (pa_cons pe_int (pa_cons pe_int pa_nil))))) (pe_c C._law_draw hr (by decide) rfl (pa_cons (pv 0) (pa_cons pe_int pa_nil))) (fun _ _ => rfl)))
  (pss_cons (ps_set (i := 5) nd rfl (by first | exact Or.inl rfl | exact Or.inr rfl) (pe_op uMul (pe_ix (kIx K rfl) (pv 2) (pe_c C._law_draw hr (by decide) rfl (pa_cons (pv 0) (pa_cons pe_int pa_nil))) (fun _ _ => rfl)) (pe_ix (kIx K rfl) (pe_lst (pa_cons pe_int (pa_cons pe_int (pa_cons pe_int (pa_cons pe_int pa_nil))))) (pe_c C._law_draw hr (by decide) rfl (pa_cons (pv 0) (pa_cons pe_int pa_nil))) (fun _ _ => rfl))))
  (pss_cons (ps_set (i := 6) nd rfl (by first | exact Or.inl rfl | exact Or.inr rfl) (pe_c C._law_draw hr (by decide) rfl (pa_cons (pv 0) (pa_cons (pe_op (kAdd K rfl) (pe_callB (kLen K rfl) (by rfl) B.len bb_len (pa_cons (pv 5) pa_nil)) pe_int) pa_nil))))
  (pss_cons (ps_set (i := 7) nd rfl (by first | exact Or.inl rfl | exact Or.inr rfl) (pe_cmpR (kEq K rfl hr.u64) (pe_c C._law_draw hr (by decide) rfl (pa_cons (pv 0) (pa_cons pe_int pa_nil))) pe_int (nomark _)))
  (pss_cons (ps_set (i := 8) nd rfl (by first | exact Or.inl rfl | exact Or.inr rfl) (pe_lst pa_nil))
  (pss_cons (ps_for PassesOwn.never rfl (pi_range1 rfl B.range (pa_cons (pv 1) pa_nil)) (pg_name (i := 9) nd rfl (by first | exact Or.inl rfl | exact Or.inr rfl)) (pss_cons (ps_set (i := 10) nd rfl (by first | exact Or.inl rfl | exact Or.inr rfl) (pe_ix (kIx K rfl) (pv 2) (pe_op uMod (pe_op (kAdd K rfl) (pv 3) (pe_op uMul (pv 4) (pv 9))) pe_int) (fun _ _ => rfl)))
  (pss_one (ps_expr (pe_bm PySem.F.plainAttrs_list PySem.F.slot_list_append PySem.F.type_list_append mt_append (pv 8) (pa_cons (pe_ix (kIx K rfl) (pe_lst (pa_cons (pe_op (kAdd K rfl) (pe_op (kAdd K rfl) (pe_slice (kSl K rfl) (pv 5) po_none (po_some (pv 6))) (pv 10)) (pe_slice (kSl K rfl) (pv 5) (po_some (pv 6)) po_none)) (pa_cons (pv 10) pa_nil))) (pe_callTy cInt (by rfl) B.int bb_int (pa_cons (pe_and (pv 7) (pe_one (pe_cmpR (kEq K rfl hr.u64) (pe_op uMod (pv 9) pe_int) pe_int (nomark _)))) pa_nil)) (fun _ _ => rfl)) pa_nil))))))
  (pss_one (ps_ret (pe_callB (kSorted K rfl hr.u64) (by rfl) B.sorted bb_sorted (pa_cons (pv 8) pa_nil)))))))))))), ?_⟩
    wtm_at "rd"
    refine use_draw hp (by decide) (by decide) fun b H1 b0 b1 g1 => ?_
    wtm_at "rd"
    intro t2 f2
    have g2 := g1.new (o := .lst [.int 1, .int 3, .int 5, .int 7]) f2
    wtm_at "rd"
    refine use_draw g2.pool (by decide) (by decide) fun r H3 r0 r1 g => ?_
    have h3 := g.at upd_same (g1.pool.ne f2).symm
    have g3 := g2.trans g
    clear g
    obtain ⟨sp, hsp, isp⟩ := pick4 (a := 1) (b := 3) (c := 5) (d := 7) r0 r1
    refine rd_ixL (SqL.of h3) hsp ?_
    wtm_at "rd"
    refine use_draw g3.pool (by decide) (by decide) fun d H4 d0 d1 g => ?_
    have g4 := g3.trans g
    clear g
    refine rd_ixS letters_len (letters_at d0 d1) ?_
    wtm_at "rd"
    intro t5 f5
    have g5 := g4.new (o := .lst [.int 0, .int 1, .int 3, .int 7]) f5
    wtm_at "rd"
    refine use_draw g5.pool (by decide) (by decide) fun r6 H6 r60 r61 g => ?_
    have h6 := g.at upd_same (g4.pool.ne f5).symm
    have g6 := g5.trans g
    clear g
    obtain ⟨n, hn, isn⟩ := pick4 (a := 0) (b := 1) (c := 3) (d := 7) r60 r61
    refine rd_ixL (SqL.of h6) hn ?_
    -- the tail
    have n0 : 0 ≤ n ∧ n ≤ 7 := by omega
    have et : timesS ⟨#[97 + d.toNat]⟩ n = ⟨(List.replicate n.toNat (97 + d.toNat)).toArray⟩ := by
      unfold timesS
      congr 2
      generalize n.toNat = m
      induction m with
      | zero => rfl
      | succ m ih =>
        rw [List.replicate_succ, List.flatten_cons, ih]
        rfl
    refine ⟨⟨n0.1, by omega, by show 1 ≤ 1000; decide⟩, ?_⟩
    rw [et]
    have tl : (⟨(List.replicate n.toNat (97 + d.toNat)).toArray⟩ : Str).length = n.toNat := by simp [Str.length]
    wtm_at "rd"
    refine rd_lenS (by rw [tl]; omega) ?_
    rw [tl]
    wtm_at "rd"
    refine use_draw g6.pool (by omega) (by omega) fun a H7 a0 a1 g => ?_
    have g7 := g6.trans g
    clear g
    wtm_at "rd"
    refine use_draw g7.pool (by decide) (by decide) fun m H8 m0' m1' g => ?_
    have g8 := g7.trans g
    clear g
    wtm_at "rd"
    intro l fl
    have nl := g8.pool.ne fl
    have fl0 := g8.free _ fl
    have g9 := g8.new (o := .lst []) fl
    wtm_at "rd"
    generalize hmb : decide (m = 1) = mb
    generalize hT : (⟨(List.replicate n.toNat (97 + d.toNat)).toArray⟩ : Str) = T at *
    have nm : ∀ k : Nat, nameK b sp (List.replicate n.toNat (97 + d.toNat)) a.toNat mb k =
        if mb = true ∧ k % 2 = 1 then ⟨#[97 + ((b + sp * (k : Int)) % 26).toNat]⟩ else cutS T none (some a) ++ ⟨#[97 + ((b + sp * (k : Int)) % 26).toNat]⟩ ++ cutS T (some a) none := by
      intro k
      unfold nameK
      rw [← hT, cutS_to a0, cutS_from a0]
      split
      · rfl
      · show _ = (⟨(List.take a.toNat (List.replicate n.toNat (97 + d.toNat))).toArray⟩ : Str) ++ ⟨[97 + ((b + sp * (k : Int)) % 26).toNat].toArray⟩ ++ ⟨(List.drop a.toNat (List.replicate n.toNat (97 + d.toNat))).toArray⟩
        rw [str_app, str_app]
        rfl
    have hTl : T.length ≤ 7 := by rw [tl]; omega
    generalize hN : nameK b sp (List.replicate n.toNat (97 + d.toNat)) a.toNat mb = nk at *
    refine turnsR (fun i σ H1 => ∃ u1 u2, σ = [some (.ref p), some (.int many), some (.str (Str.ofString "abcdefghijklmnopqrstuvwxyz")), some (.int b), some (.int sp), some (.str T), some (.int a), some (.bl mb), some (.ref l), u1, u2] ∧
      Go p H H1 ∧ H1 l = some (.lst ((List.range i).map fun k => V.str (nk k)))) ⟨_, _, rfl, g9, upd_same⟩ ?_ ?_
    · rintro i σ H1 hi ⟨u1, u2, rfl, g, hl⟩
      wtm_at "rd"
      have ir : 0 ≤ (b + sp * (0 + (i : Int))) % 26 ∧ (b + sp * (0 + (i : Int))) % 26 < 26 := by omega
      refine rd_ixS letters_len (letters_at ir.1 ir.2) ?_
      wtm_at "rd"
      refine rd_tyL hl ?_
      wtm_at "rd"
      refine rd_slS (by omega) ?_
      wtm_at "rd"
      have e0 : (0 + (i : Int)) = (i : Int) := Int.zero_add _
      rw [e0]
      have cut1 : (cutS T none (some a)).length ≤ 7 := by
        have := congrArg List.length (congrArg (fun z : Str => z.cps.toList) (cutS_to (z := T) a0))
        simp only [List.length_take] at this
        simp only [Str.length] at hTl ⊢
        simp only [Array.length_toList] at this
        omega
      have cut2 : (cutS T (some a) none).length ≤ 7 := by
        have := congrArg List.length (congrArg (fun z : Str => z.cps.toList) (cutS_from (z := T) a0))
        simp only [List.length_drop] at this
        simp only [Str.length] at hTl ⊢
        simp only [Array.length_toList] at this
        omega
      generalize hc : (⟨#[97 + ((b + sp * (i : Int)) % 26).toNat]⟩ : Str) = ch
      have chl : ch.length = 1 := by rw [← hc]; rfl
      refine rd_addS (Nat.le_trans (Nat.add_le_add cut1 (Nat.le_of_eq chl)) (by decide)) ?_
      wtm_at "rd"
      refine rd_slS (by omega) ?_
      wtm_at "rd"
      have cut3 : (cutS T none (some a) ++ ch).length ≤ 8 := by
        have : (cutS T none (some a) ++ ch).length = (cutS T none (some a)).length + ch.length := by
          show ((cutS T none (some a)).cps ++ ch.cps).size = _
          rw [Array.size_append]
          rfl
        omega
      refine rd_addS (Nat.le_trans (Nat.add_le_add cut3 cut2) (by decide)) ?_
      wtm_at "rd"
      intro t ft
      have nt : l ≠ t := ne_of_none hl ft
      wtm_at "rd"
      have hl2 := at_upd (o := .lst [.str (cutS T none (some a) ++ ch ++ cutS T (some a) none), .str ch]) nt hl
      have g' := g.new (o := .lst [.str (cutS T none (some a) ++ ch ++ cutS T (some a) none), .str ch]) ft
      have len : ((List.range i).map fun k => V.str (nk k)).length < 100000 := by
        rw [List.length_map, List.length_range]
        omega
      have fin : ∀ z : Str, z = nk i → Go p H (upd (upd H1 t (.lst [.str (cutS T none (some a) ++ ch ++ cutS T (some a) none), .str ch])) l (.lst (((List.range i).map fun k => V.str (nk k)) ++ [.str z]))) ∧
          (upd (upd H1 t (.lst [.str (cutS T none (some a) ++ ch ++ cutS T (some a) none), .str ch])) l (.lst (((List.range i).map fun k => V.str (nk k)) ++ [.str z]))) l = some (.lst ((List.range (i + 1)).map fun k => V.str (nk k))) := by
        rintro z rfl
        refine ⟨g'.put fl0 nl, ?_⟩
        rw [upd_same, List.range_succ, List.map_append]
        rfl
      have ne := nm i
      rw [hc] at ne
      refine rd_b (fun c => ?_) (fun c => ?_)
      · wtm_at "rd"
        refine rd_ixL (SqL.of upd_same) (bToI_pick _) ?_
        wtm_at "rd"
        have z : (if decide ((i : Int) % 2 = 1) = true then V.str ch else V.str (cutS T none (some a) ++ ch ++ cutS T (some a) none)) = V.str (nk i) := by
          rw [ne]
          by_cases h : i % 2 = 1
          · rw [if_pos (decide_eq_true (by omega)), if_pos ⟨c, h⟩]
          · rw [if_neg (by rw [decide_eq_true_eq]; omega), if_neg (fun z => h z.2)]
        rw [z]
        refine rd_append hl2 len ?_
        exact ⟨_, _, rfl, (fin _ rfl).1, (fin _ rfl).2⟩
      · wtm_at "rd"
        refine rd_ixL (SqL.of upd_same) (bToI_pick _) ?_
        wtm_at "rd"
        have z : (if false = true then V.str ch else V.str (cutS T none (some a) ++ ch ++ cutS T (some a) none)) = V.str (nk i) := by
          rw [ne, if_neg Bool.false_ne_true, if_neg (fun z => by rw [c] at z; exact Bool.false_ne_true z.1)]
        rw [z]
        refine rd_append hl2 len ?_
        exact ⟨_, _, rfl, (fin _ rfl).1, (fin _ rfl).2⟩
    · rintro σ H1 ⟨u1, u2, rfl, g, hl⟩
      wtm_at "rd"
      refine rd_sortS (xs := (List.range many.toNat).map nk) (SqL.of (by rw [List.map_map]; exact hl)) (by rw [List.length_map, List.length_range]; omega) ?_
      intro ys py sy l2 fl2
      have nd2 : ((List.range many.toNat).map nk).Nodup := by
        rw [← hN]
        exact names_nodup (by omega) isp (by omega)
      have nu : NamesU ((List.range many.toNat).map nk) := ⟨nd2, fun y hy => by
        obtain ⟨k, _, rfl⟩ := List.mem_map.mp hy
        rw [← hN]
        exact nameK_ok (by omega) (by omega) (by omega)⟩
      have nu2 := nu.perm py
      exact q l2 ys _ (g.new fl2) (g.free _ fl2) upd_same ⟨asc_of_sorted sy nu2.nd, nu2.ok⟩ (by rw [py.length_eq, List.length_map, List.length_range])
end
end Law

namespace Law
open PySem PySem.Spec PyProof.Rows L2 U


/-- the same names in another order -/
def spShuf (K : PySem.W.Frag) : Sp := fun vs H Q _ => ∃ (p src : Addr) (xs : List Str), vs = [.ref p, .ref src] ∧ PoolAt H p ∧ H src = some (.lst (xs.map V.str)) ∧ (∀ x ∈ xs, PyData.strOk x = true) ∧ xs.length ≤ 1000 ∧
  ∀ (l : Addr) (ys : List Str) (H' : Hp), Go p H H' → H l = none → H' l = some (.lst (ys.map V.str)) → ys.Perm xs → Q (.ref l) H'
def spEdgeOf : Sp := fun vs H Q _ => ∃ x y : Str, vs = [.str x, .str y] ∧ ∀ t, H t = none → Q (.ref t) (upd H t (.tup (if sLt x y then [.str x, .str y] else [.str y, .str x])))
def spWants : Sp := fun vs H Q _ => ∃ (p : Addr) (kind a b m : Int), vs = [.ref p, .int kind, .int a, .int b, .int m] ∧ PoolAt H p ∧ 0 ≤ kind ∧ kind ≤ 10 ∧ ∀ (r : Bool) (H' : Hp), Go p H H' → Q (.bl r) H'
section
variable {P : Program} {w : World} {K : PySem.W.Frag} {mg : Str → Option Value} {base : Heap}
theorem ok_shuffle {f : Addr} {fd : FuncData} (F : Fun K "_law_shuffle" "_law_shuffle" s__law_shuffle f fd) (B : Bt mg) (C : C1 P w K mg base) : FnG P w K mg base CX0 2 f fd ["_law_pool_here", "_law_some"] (spShuf K) := by
  refine fnG0 F sc__law_shuffle (fun vs H Q E h => ?_) (fun cdv A outer s H vs Q E hr h => ?_)
  · obtain ⟨p, src, xs, rfl, _⟩ := h
    rfl
  · obtain ⟨p, src, xs, rfl, hp, hs, ok, hz, q⟩ := h
    have nd := sc__law_shuffle.nd
    refine ⟨_, (pss_cons (ps_set (i := 2) nd rfl (by first | exact Or.inl rfl | exact Or.inr rfl) (pe_callTy (kList K rfl rfl) (by rfl) B.list bb_list (pa_cons (pv 1) pa_nil)))
  (pss_cons (ps_set (i := 3) nd rfl (by first | exact Or.inl rfl | exact Or.inr rfl) (pe_lst pa_nil))
  (pss_cons (ps_while PassesOwn.never (pt_cmpR (kNe K rfl hr.u64) (pv 2) (pe_lst pa_nil) (nomark _)) (pss_one (ps_expr (pe_bm PySem.F.plainAttrs_list PySem.F.slot_list_append PySem.F.type_list_append mt_append (pv 3) (pa_cons (pe_bm PySem.F.plainAttrs_list PySem.F.slot_list_pop PySem.F.type_list_pop mt_popAt (pv 2) (pa_cons (pe_c C._law_draw hr (by decide) rfl (pa_cons (pv 0) (pa_cons (pe_callB (kLen K rfl) (by rfl) B.len bb_len (pa_cons (pv 2) pa_nil)) pa_nil))) pa_nil)) pa_nil)))))
  (pss_one (ps_ret (pv 3)))))), ?_⟩
    wtm_at "rd"
    refine rd_listL (SqL.of hs) ?_
    intro a fa
    have g1 := (Go.refl hp).new (o := .lst (xs.map V.str)) fa
    have na := hp.ne fa
    wtm_at "rd"
    intro l fl
    have g2 := g1.new (o := .lst []) fl
    have fl0 := g1.free _ fl
    have nl := g1.pool.ne fl
    have nla := new_ne fl
    wtm_at "rd"
    refine ⟨fun m σ H1 => ∃ zs ys : List Str, m = zs.length ∧ σ = [some (.ref p), some (.ref src), some (.ref a), some (.ref l)] ∧ Go p H H1 ∧ H1 a = some (.lst (zs.map V.str)) ∧ H1 l = some (.lst (ys.map V.str)) ∧ (ys ++ zs).Perm xs,
      ⟨_, xs, [], rfl, rfl, g2, at_upd (Ne.symm nla) upd_same, upd_same, .refl _⟩, ?_⟩
    rintro m σ H1 ⟨zs, ys, rfl, rfl, g, ha, hl, pm⟩
    have lz := pm.length_eq
    rw [List.length_append] at lz
    wtm_at "rd"
    intro t ft
    have g3 := g.new (o := .lst []) ft
    refine rd_neNil (SqL.of (at_upd (ne_of_none ha ft) ha)) (SqL.of upd_same) (fun x hx => ok x (pm.mem_iff.mp (List.mem_append_right _ hx))) ?_
    wtm_at "rd"
    refine rd_b (fun c => ?_) (fun c => ?_)
    · have hz0 : 0 < zs.length := by
        cases zs with
        | nil => cases c
        | cons _ _ => simp
      refine ⟨fun σ' H' => ∃ zs' ys' : List Str, zs'.length < zs.length ∧ σ' = [some (.ref p), some (.ref src), some (.ref a), some (.ref l)] ∧ Go p H H' ∧ H' a = some (.lst (zs'.map V.str)) ∧ H' l = some (.lst (ys'.map V.str)) ∧ (ys' ++ zs').Perm xs,
        fun σ' H' ⟨zs', ys', h1, h2⟩ => ⟨_, h1, zs', ys', rfl, h2⟩, ?_⟩
      wtm_at "rd"
      refine rd_tyL (at_upd (ne_of_none hl ft) hl) ?_
      wtm_at "rd"
      refine rd_tyL (at_upd (ne_of_none ha ft) ha) ?_
      wtm_at "rd"
      refine rd_lenL (SqL.of (at_upd (ne_of_none ha ft) ha)) ?_
      rw [List.length_map]
      wtm_at "rd"
      refine use_draw g3.pool (by omega) (by omega) fun r H2 r0 r1 g => ?_
      have ha2 := g.at (at_upd (ne_of_none ha ft) ha) (Ne.symm na)
      have hl2 := g.at (at_upd (ne_of_none hl ft) hl) (Ne.symm nl)
      have g4 := g3.trans g
      clear g
      wtm_at "rd"
      have hr2 : r.toNat < zs.length := by omega
      refine rd_popAt ha2 r0 rfl (by rw [List.length_map]; omega) (v := .str zs[r.toNat]) (by rw [List.getElem?_map, List.getElem?_eq_getElem hr2]; rfl) ?_
      have hl3 := at_upd (o := .lst ((zs.map V.str).eraseIdx r.toNat)) (nla) hl2
      have g5 := g4.put (o := .lst ((zs.map V.str).eraseIdx r.toNat)) fa na
      wtm_at "rd"
      refine rd_append hl3 (by rw [List.length_map]; omega) ?_
      have g6 := g5.put (o := .lst (ys.map V.str ++ [.str zs[r.toNat]])) fl0 nl
      refine ⟨zs.eraseIdx r.toNat, ys ++ [zs[r.toNat]], ?_, rfl, g6, ?_, ?_, ?_⟩
      · rw [List.length_eraseIdx_of_lt hr2]
        omega
      · rw [upd_ne (Ne.symm nla), upd_same, erase_map]
      · rw [upd_same, List.map_append]
        rfl
      · refine List.Perm.trans ?_ pm
        rw [List.append_assoc]
        refine List.Perm.append_left _ ?_
        exact erase_perm hr2
    · have e : zs = [] := by
        cases zs with
        | nil => rfl
        | cons _ _ => cases c
      subst e
      rw [List.append_nil] at pm
      wtm_at "rd"
      exact q l ys _ g3 fl0 (at_upd (ne_of_none hl ft) hl) pm
theorem ok_edge_of {f : Addr} {fd : FuncData} (F : Fun K "_law_edge_of" "_law_edge_of" s__law_edge_of f fd) (B : Bt mg) : FnG P w K mg base CX0 1 f fd ["_law_one", "_law_other"] spEdgeOf := by
  refine fnG0 F sc__law_edge_of (fun vs H Q E h => ?_) (fun cdv A outer s H vs Q E hr h => ?_)
  · obtain ⟨x, y, rfl, _⟩ := h
    rfl
  · obtain ⟨x, y, rfl, q⟩ := h
    have nd := sc__law_edge_of.nd
    refine ⟨_, (pss_cons (ps_if (pt_cmpR uLt (pv 0) (pv 1) (nomark _)) (pss_one (ps_ret (pe_tup (pa_cons (pv 0) (pa_cons (pv 1) pa_nil))))) pss_nil)
  (pss_one (ps_ret (pe_tup (pa_cons (pv 1) (pa_cons (pv 0) pa_nil)))))), ?_⟩
    wtm_at "rd"
    refine rd_split (fun c => ?_) (fun c => ?_)
    · have c : sLt x y := c
      rw [if_pos c] at q
      wtm_at "rd"
      exact fun t ft => q t ft
    · have c : ¬ sLt x y := c
      rw [if_neg c] at q
      wtm_at "rd"
      exact fun t ft => q t ft
theorem ok_wants {f : Addr} {fd : FuncData} (F : Fun K "_law_wants_edge" "_law_wants_edge" s__law_wants_edge f fd) (B : Bt mg) (C : C1 P w K mg base) : FnG P w K mg base CX0 2 f fd ["_law_pool_here", "_law_kind", "_law_at", "_law_position", "_law_many"] spWants := by
  refine fnG0 F sc__law_wants_edge (fun vs H Q E h => ?_) (fun cdv A outer s H vs Q E hr h => ?_)
  · obtain ⟨p, k, a, b, m, rfl, _⟩ := h
    rfl
  · obtain ⟨p, k, a, b, m, rfl, hp, k0, k1, q⟩ := h
    have nd := sc__law_wants_edge.nd
    refine ⟨_, (pss_cons (ps_if (pt_cmpR uLt (pv 1) pe_int (nomark _)) (pss_one (ps_ret (pe_cmpR (kEq K rfl hr.u64) (pe_c C._law_draw hr (by decide) rfl (pa_cons (pv 0) (pa_cons (pe_op (kAdd K rfl) pe_int (pe_op uMul pe_int (pv 1))) pa_nil))) pe_int (nomark _)))) pss_nil)
  (pss_cons (ps_if (PW.pt (pw_or (pt_cmpR (kEq K rfl hr.u64) (pe_op uSub (pv 2) (pv 3)) pe_int (nomark _)) (pw_or1 (PW.pt (pw_and (pt_cmpR (kEq K rfl hr.u64) (pv 3) pe_int (nomark _)) (pw_and1 (pt_cmpR (kEq K rfl hr.u64) (pv 2) (pe_op uSub (pv 4) pe_int) (nomark _)))))))) (pss_one (ps_ret pe_bl)) pss_nil)
  (pss_one (ps_ret (pe_and (pe_cmpR uLt (pv 1) pe_int (nomark _)) (pe_one (pe_cmpR (kEq K rfl hr.u64) (pe_c C._law_draw hr (by decide) rfl (pa_cons (pv 0) (pa_cons pe_int pa_nil))) pe_int (nomark _)))))))), ?_⟩
    wtm_at "rd"
    refine rd_split (fun c => ?_) (fun c => ?_)
    · wtm_at "rd"
      refine use_draw hp (by omega) (by omega) fun r H2 r0 r1 g => ?_
      wtm_at "rd"
      exact q _ _ g
    · wtm_at "rd"
      refine rd_split (fun c => ?_) (fun c => ?_)
      · wtm_at "rd"
        exact q _ _ (Go.refl hp)
      · wtm_at "rd"
        refine rd_split (fun c => ?_) (fun c => ?_)
        · wtm_at "rd"
          refine rd_split (fun c => ?_) (fun c => ?_)
          · wtm_at "rd"
            exact q _ _ (Go.refl hp)
          · wtm_at "rd"
            refine rd_split (fun c => ?_) (fun c => ?_)
            · wtm_at "rd"
              refine use_draw hp (by decide) (by decide) fun r H2 r0 r1 g => ?_
              wtm_at "rd"
              exact q _ _ g
            · wtm_at "rd"
              exact q _ _ (Go.refl hp)
        · wtm_at "rd"
          refine rd_split (fun c => ?_) (fun c => ?_)
          · wtm_at "rd"
            refine use_draw hp (by decide) (by decide) fun r H2 r0 r1 g => ?_
            wtm_at "rd"
            exact q _ _ g
          · wtm_at "rd"
            exact q _ _ (Go.refl hp)
end
end Law

namespace Law
open PySem PySem.Spec PyProof.Rows L2 U


/-- a new graph and a state of it -/
def spGraph : Sp := fun vs H Q _ => ∃ (p : Addr) (most : Int), vs = [.ref p, .int most] ∧ PoolAt H p ∧ 1 ≤ most ∧ most ≤ 25 ∧
  ∀ (t g n e st : Addr) (ns ord : List Str) (es : List (Addr × Str × Str)) (ws : List (Str × Int)) (H' : Hp), Go p H H' → H' t = some (.tup [.ref g, .ref st]) → GrAt H' g n e ns es → H' st = some (.dK (kvsOf ws)) →
    H g = none → H st = none → 1 ≤ ns.length → ns.length ≤ most.toNat → GrOk ns (es.map (·.2)) → ord.Perm ns → StOk ord ws → (∀ x ∈ es, numOf ws x.2.1 ≠ numOf ws x.2.2) → es.length ≤ 1000 → H t = none → Q (.ref t) H'
theorem PoolAt.offT {H : Hp} {p q : Addr} {xs : List V} (h : PoolAt H p) (hq : H q = some (.tup xs)) : q ≠ p := by
  rintro rfl
  obtain ⟨ys, h⟩ := h.isL
  rw [hq] at h
  cases h
theorem PoolAt.offD {H : Hp} {p q : Addr} {xs : List (Key × V)} (h : PoolAt H p) (hq : H q = some (.dK xs)) : q ≠ p := by
  rintro rfl
  obtain ⟨ys, h⟩ := h.isL
  rw [hq] at h
  cases h
/-- what stays while edges are found -/
structure GK (H : Hp) (p or st ed : Addr) (ord : List Str) (ws : List (Str × Int)) (es : List (Addr × Str × Str)) (H' : Hp) : Prop where
  go : Go p H H'
  ho : H' or = some (.lst (ord.map V.str))
  hs : H' st = some (.dK (kvsOf ws))
  he : H' ed = some (.lst (es.map fun x => V.ref x.1))
  pr : ∀ x ∈ es, H' x.1 = some (.tup [.str x.2.1, .str x.2.2])
theorem GK.new {H H' : Hp} {p or st ed t : Addr} {ord : List Str} {ws : List (Str × Int)} {es : List (Addr × Str × Str)} {o : HO} (h : GK H p or st ed ord ws es H') (n : H' t = none) : GK H p or st ed ord ws es (upd H' t o) :=
  ⟨h.go.new n, at_upd (ne_of_none h.ho n) h.ho, at_upd (ne_of_none h.hs n) h.hs, at_upd (ne_of_none h.he n) h.he, fun x hx => at_upd (ne_of_none (h.pr x hx) n) (h.pr x hx)⟩
theorem GK.step {H H' H2 : Hp} {p or st ed : Addr} {ord : List Str} {ws : List (Str × Int)} {es : List (Addr × Str × Str)} (h : GK H p or st ed ord ws es H') (no : or ≠ p) (ne : ed ≠ p) (g : Go p H' H2) : GK H p or st ed ord ws es H2 :=
  ⟨h.go.trans g, g.at h.ho no, g.at h.hs (h.go.pool.offD h.hs), g.at h.he ne, fun x hx => g.at (h.pr x hx) (h.go.pool.offT (h.pr x hx))⟩
theorem GK.add {H H' : Hp} {p or st ed t : Addr} {ord : List Str} {ws : List (Str × Int)} {es : List (Addr × Str × Str)} {e : Str × Str} (h : GK H p or st ed ord ws es H') (hf : H ed = none) (ne : ed ≠ p) (noe : or ≠ ed)
    (ht : H' t = some (.tup [.str e.1, .str e.2])) : GK H p or st ed ord ws (es ++ [(t, e)]) (upd H' ed (.lst ((es.map fun x => V.ref x.1) ++ [.ref t]))) := by
  have nt : ∀ {b : Addr} {xs : List V}, H' b = some (.tup xs) → b ≠ ed := fun {b xs} hb => ne_of hb h.he (by intro z; cases z)
  refine ⟨h.go.put hf (Ne.symm ne), at_upd noe h.ho, at_upd (ne_of h.hs h.he (by intro z; cases z)) h.hs, ?_, ?_⟩
  · rw [upd_same, List.map_append]
    rfl
  · intro x hx
    rcases List.mem_append.mp hx with hx | hx
    · exact at_upd (nt (h.pr x hx)) (h.pr x hx)
    · have : x = (t, e) := by simpa using hx
      subst this
      exact at_upd (nt ht) ht
section
variable {P : Program} {w : World} {K : PySem.W.Frag} {mg : Str → Option Value} {base : Heap}
structure C2 (P : Program) (w : World) (K : PySem.W.Frag) (mg : Str → Option Value) (base : Heap) : Prop where
  _law_draw : Cal P w K mg base CX0 1 "_law_draw" spDraw
  _law_draw_names : Cal P w K mg base CX0 2 "_law_draw_names" spNames
  _law_shuffle : Cal P w K mg base CX0 2 "_law_shuffle" (spShuf K)
  _law_edge_of : Cal P w K mg base CX0 1 "_law_edge_of" spEdgeOf
  _law_wants_edge : Cal P w K mg base CX0 2 "_law_wants_edge" spWants
theorem ok_draw_graph {f : Addr} {fd : FuncData} (F : Fun K "_law_draw_graph" "_law_draw_graph" s__law_draw_graph f fd) (B : Bt mg) (C : C2 P w K mg base) : FnG P w K mg base CX0 3 f fd ["_law_pool_here", "_law_most"] spGraph := by
  refine fnG0 F sc__law_draw_graph (fun vs H Q E h => ?_) (fun cdv A outer s H vs Q E hr h => ?_)
  · obtain ⟨p, most, rfl, _⟩ := h
    rfl
  · obtain ⟨p, most, rfl, hp, m0, m1, q⟩ := h
    have nd := sc__law_draw_graph.nd
    have hu := hr.u1
    refine ⟨_, (pss_cons (ps_set (i := 2) nd rfl (by first | exact Or.inl rfl | exact Or.inr rfl) (pe_c C._law_shuffle hr (by decide) rfl (pa_cons (pv 0) (pa_cons (pe_c C._law_draw_names hr (by decide) rfl (pa_cons (pv 0) (pa_cons (pe_op (kAdd K rfl) pe_int (pe_c C._law_draw hr (by decide) rfl (pa_cons (pv 0) (pa_cons (pv 1) pa_nil)))) pa_nil))) pa_nil))))
  (pss_cons (ps_set (i := 3) nd rfl (by first | exact Or.inl rfl | exact Or.inr rfl) (pe_c C._law_draw hr (by decide) rfl (pa_cons (pv 0) (pa_cons pe_int pa_nil))))
  (pss_cons (ps_set (i := 4) nd rfl (by first | exact Or.inl rfl | exact Or.inr rfl) pe_dnewK)
  (pss_cons (ps_set (i := 5) nd rfl (by first | exact Or.inl rfl | exact Or.inr rfl) pe_int)
  (pss_cons (ps_for PassesOwn.never rfl (ki_list K rfl (pv 2)) (pg_name (i := 6) nd rfl (by first | exact Or.inl rfl | exact Or.inr rfl)) (pss_cons (ps_set (i := 5) nd rfl (by first | exact Or.inl rfl | exact Or.inr rfl) (pe_op uMod (pe_op (kAdd K rfl) (pv 5) (pe_ix (kIx K rfl) (pe_lst (pa_cons (pe_c C._law_draw hr (by decide) rfl (pa_cons (pv 0) (pa_cons pe_int pa_nil))) (pa_cons (pe_op (kAdd K rfl) pe_int (pe_op uDiv (pe_c C._law_draw hr (by decide) rfl (pa_cons (pv 0) (pa_cons pe_int pa_nil))) pe_int)) pa_nil))) (pe_callTy cInt (by rfl) B.int bb_int (pa_cons (pe_cmpR uGt (pv 3) pe_int (nomark _)) pa_nil)) (fun _ _ => rfl))) pe_int))
  (pss_one (ps_dput hu (pv 4) (pv 6) (pv 5) rfl))))
  (pss_cons (ps_set (i := 7) nd rfl (by first | exact Or.inl rfl | exact Or.inr rfl) (pe_lst pa_nil))
  (pss_cons (ps_for PassesOwn.never rfl (pi_enum (by rfl) B.enumerate (pa_cons (pv 2) pa_nil)) (kg_tup (n := 2) K rfl rfl (pgs_cons (pg_name (i := 8) nd rfl (by first | exact Or.inl rfl | exact Or.inr rfl)) (pgs_cons (pg_name (i := 9) nd rfl (by first | exact Or.inl rfl | exact Or.inr rfl)) pgs_nil))) (pss_one (ps_for PassesOwn.never rfl (pi_enum (by rfl) B.enumerate (pa_cons (pe_slice (kSl K rfl) (pv 2) po_none (po_some (pv 8))) pa_nil)) (kg_tup (n := 2) K rfl rfl (pgs_cons (pg_name (i := 10) nd rfl (by first | exact Or.inl rfl | exact Or.inr rfl)) (pgs_cons (pg_name (i := 11) nd rfl (by first | exact Or.inl rfl | exact Or.inr rfl)) pgs_nil))) (pss_one (ps_if (PW.pt (pw_and (pt_cmpR (kNe K rfl hr.u64) (pe_dget hu (pv 4) (pv 9) (fun _ _ => rfl)) (pe_dget hu (pv 4) (pv 11) (fun _ _ => rfl)) (nomark _)) (pw_and1 (pt_val (pe_c C._law_wants_edge hr (by decide) rfl (pa_cons (pv 0) (pa_cons (pv 3) (pa_cons (pv 8) (pa_cons (pv 10) (pa_cons (pe_callB (kLen K rfl) (by rfl) B.len bb_len (pa_cons (pv 2) pa_nil)) pa_nil)))))))))) (pss_one (ps_expr (pe_bm PySem.F.plainAttrs_list PySem.F.slot_list_append PySem.F.type_list_append mt_append (pv 7) (pa_cons (pe_c C._law_edge_of hr (by decide) rfl (pa_cons (pv 9) (pa_cons (pv 11) pa_nil))) pa_nil)))) pss_nil)))))
  (pss_one (ps_ret (pe_tup (pa_cons (pe_tup (pa_cons (pe_callTy (kTuple K rfl) (by rfl) B.tuple bb_tuple (pa_cons (pe_callB (kSorted K rfl hr.u64) (by rfl) B.sorted bb_sorted (pa_cons (pv 2) pa_nil)) pa_nil)) (pa_cons (pe_callTy (kTuple K rfl) (by rfl) B.tuple bb_tuple (pa_cons (pe_callB (kSorted K rfl hr.u64) (by rfl) B.sorted bb_sorted (pa_cons (pv 7) pa_nil)) pa_nil)) pa_nil))) (pa_cons (pv 4) pa_nil)))))))))))), ?_⟩
    wtm_at "rd"
    refine use_draw hp (by omega) (by omega) fun r H1 r0 r1 g1 => ?_
    wtm_at "rd"
    refine ⟨p, 1 + r, rfl, by omega, by omega, g1.pool, fun l0 nm0 H2 g fl0 hl0 nm ln => ?_⟩
    have g2 := g1.trans g
    clear g
    wtm_at "rd"
    refine ⟨p, l0, nm0, rfl, g2.pool, hl0, (fun x hx => (nm.ok x hx).sok), by omega, fun or ord H3 g fo ho po => ?_⟩
    have no := g.pool.off ho
    have g3 := g2.trans g
    clear g
    have lno : ord.length = (1 + r).toNat := by rw [po.length_eq, ln]
    have nu : NamesU ord := nm.u.perm po
    wtm_at "rd"
    refine use_draw g3.pool (by decide) (by decide) fun kind H4 k0 k1 g => ?_
    have ho4 := g.at ho no
    have g4 := g3.trans g
    clear g
    wtm_at "rd"
    intro st fst
    have nos : or ≠ st := ne_of_none ho4 fst
    have ho5 := at_upd (o := .dK []) nos ho4
    have g5 := g4.new (o := .dK []) fst
    have nst := g4.pool.ne fst
    have fst0 := g4.free _ fst
    wtm_at "rd"
    refine rd_forL (SqL.of ho5) ?_
    refine turnsL (K := K) (xs := ord.map V.str) (fun i σ H' => ∃ (vl : Int) (ws : List (Str × Int)) (u : Option V), σ = [some (.ref p), some (.int most), some (.ref or), some (.int kind), some (.ref st), some (.int vl), u, none, none, none, none, none] ∧
      Go p H H' ∧ H' or = some (.lst (ord.map V.str)) ∧ H' st = some (.dK (kvsOf ws)) ∧ StOk (ord.take i) ws ∧ 0 ≤ vl ∧ vl < 3) ⟨0, [], none, rfl, g5, ho5, upd_same, StOk.nil, by decide, by decide⟩ ?_ ?_ ?_
    · rintro i σ H' hi ⟨vl, ws, u, rfl, g, h1, h2, h3⟩
      exact SqL.of h1
    · rintro i x σ H' hx ⟨vl, ws, u, rfl, g, h1, h2, h3, v0, v1⟩
      obtain ⟨hi, rfl⟩ := map_at hx
      wtm_at "rd"
      refine use_draw g.pool (by decide) (by decide) fun q1 Ha q10 q11 ga => ?_
      have h1a := ga.at h1 no
      have h2a := ga.at h2 (Ne.symm nst)
      have g := g.trans ga
      wtm_at "rd"
      refine use_draw g.pool (by decide) (by decide) fun q2 Hb q20 q21 gb => ?_
      have h1b := gb.at h1a no
      have h2b := gb.at h2a (Ne.symm nst)
      have g := g.trans gb
      wtm_at "rd"
      intro t ft
      have g := g.new (o := .lst [.int q1, .int (1 + q2 / 3)]) ft
      have h1c := at_upd (o := .lst [.int q1, .int (1 + q2 / 3)]) (ne_of_none h1b ft) h1b
      have h2c := at_upd (o := .lst [.int q1, .int (1 + q2 / 3)]) (ne_of_none h2b ft) h2b
      wtm_at "rd"
      refine rd_ixL (SqL.of upd_same) (bToI_pick _) ?_
      obtain ⟨z, hz⟩ : ∃ z, (if decide (1 < kind) = true then V.int (1 + q2 / 3) else V.int q1) = .int z := by split <;> exact ⟨_, rfl⟩
      rw [hz]
      wtm_at "rd"
      have lw : (kvsOf ws).length < 100000 := by
        have := congrArg List.length h3.key
        rw [List.length_map, List.length_take] at this
        rw [List.length_map]
        omega
      refine rd_dset h2c (k := .inr ord[i]) rfl lw ?_
      rw [put_kvs (h3.not nu.nd hi)]
      refine ⟨_, _, _, rfl, g.put fst0 nst, at_upd nos h1c, upd_same, h3.add hi (Int.emod_nonneg _ (by decide)) (Int.emod_lt_of_pos _ (by decide)), Int.emod_nonneg _ (by decide), Int.emod_lt_of_pos _ (by decide)⟩
    rintro σ H5 ⟨vl, ws, u, rfl, g, h1, h2, h3, v0, v1⟩
    rw [List.length_map, List.take_length] at h3
    clear g5 ho5 v0 v1
    wtm_at "rd"
    intro ed fed
    have noe : or ≠ ed := ne_of_none h1 fed
    have nse : st ≠ ed := ne_of_none h2 fed
    have npe := g.pool.ne fed
    have fed0 := g.free _ fed
    have g := g.new (o := .lst []) fed
    have h1 := at_upd (o := .lst []) noe h1
    have h2 := at_upd (o := .lst []) nse h2
    wtm_at "rd"
    refine rd_forE (SqL.of h1) ?_
    have gk : GK H p or st ed ord ws [] (upd H5 ed (.lst [])) := ⟨g, h1, h2, upd_same, fun x hx => nomatch hx⟩
    have nep : ed ≠ p := Ne.symm npe
    have EI0 : EdgesIn ord (numOf ws) 0 0 [] := ⟨by simp, fun x hx => nomatch hx⟩
    refine turnsW (walk_enum (K := K) (a := or) (xs := ord.map V.str)) (fun i σ H' => ∃ (es : List (Addr × Str × Str)) (u8 u9 u10 u11 : Option V), σ = [some (.ref p), some (.int most), some (.ref or), some (.int kind), some (.ref st), some (.int vl), u, some (.ref ed), u8, u9, u10, u11] ∧
      GK H p or st ed ord ws es H' ∧ EdgesIn ord (numOf ws) i 0 es ∧ es.length ≤ 30 * i) ⟨[], _, _, _, _, rfl, gk, EI0, by decide⟩ ?_ ?_ ?_
    · rintro i σ H' hi ⟨es, u8, u9, u10, u11, rfl, k, _⟩
      exact SqL.of k.ho
    · rintro i x σ H6 H7 hi ⟨es, u8, u9, u10, u11, rfl, k, ei, el⟩ ⟨T, x1, y1, rfl, fT, rfl, e1, e2⟩
      have hx := Option.some.inj e1
      subst hx
      obtain ⟨hio, rfl⟩ := map_at e2
      have k := k.new (o := .tup [.int (i : Nat), .str ord[i]]) fT
      refine rd_unp (SqT.of upd_same) rfl ?_
      wtm_at "rd"
      refine rd_slL (SqL.of k.ho) ?_
      rw [cutV_to (by rw [List.length_map]; omega), ← List.map_take]
      intro t2 ft2
      have n2e : t2 ≠ ed := Ne.symm (ne_of_none k.he ft2)
      have n2p : t2 ≠ p := Ne.symm (k.go.pool.ne ft2)
      have k := k.new (o := .lst ((ord.take i).map V.str)) ft2
      wtm_at "rd"
      refine rd_forE (SqL.of upd_same) ?_
      have lti : (ord.take i).length = i := by rw [List.length_take]; omega
      refine turnsW (walk_enum (K := K) (a := t2) (xs := (ord.take i).map V.str)) (fun j σ H' => ∃ (es : List (Addr × Str × Str)) (u10 u11 : Option V), σ = [some (.ref p), some (.int most), some (.ref or), some (.int kind), some (.ref st), some (.int vl), u, some (.ref ed), some (.int (i : Nat)), some (.str ord[i]), u10, u11] ∧
        GK H p or st ed ord ws es H' ∧ H' t2 = some (.lst ((ord.take i).map V.str)) ∧ EdgesIn ord (numOf ws) i j es ∧ es.length ≤ 30 * i + j) ⟨es, u10, u11, rfl, k, upd_same, ei, by omega⟩ ?_ ?_ ?_
      · rintro j σ H' hj ⟨es, u10, u11, rfl, k, h2, _⟩
        exact SqL.of h2
      · rintro j x σ H8 H9 hj ⟨es, u10, u11, rfl, k, ht2, ei, el⟩ ⟨T', x1, y1, rfl, fT', rfl, e1, e2⟩
        have hx := Option.some.inj e1
        subst hx
        obtain ⟨hjo, rfl⟩ := map_at e2
        have hji : j < i := by rw [lti] at hjo; exact hjo
        have hjo' : j < ord.length := by omega
        rw [List.getElem_take]
        have ht2 := at_upd (o := .tup [.int (j : Nat), .str ord[j]]) (ne_of_none ht2 fT') ht2
        have k := k.new (o := .tup [.int (j : Nat), .str ord[j]]) fT'
        refine rd_unp (SqT.of upd_same) rfl ?_
        wtm_at "rd"
        refine rd_dat (.inl k.hs) (h3.val (List.getElem_mem hio)) rfl ?_
        wtm_at "rd"
        refine rd_dat (.inl k.hs) (h3.val (List.getElem_mem hjo')) rfl ?_
        wtm_at "rd"
        refine rd_nsplit (fun c => ?_) (fun c => ?_)
        · wtm_at "rd"
          refine rd_lenL (SqL.of k.ho) ?_
          wtm_at "rd"
          refine ⟨p, kind, _, _, _, rfl, k.go.pool, k0, by omega, fun b H10 g => ?_⟩
          have k := k.step no nep g
          have ht2 := g.at ht2 n2p
          wtm_at "rd"
          refine rd_b (fun c2 => ?_) (fun c2 => ?_)
          · wtm_at "rd"
            refine rd_tyL k.he ?_
            wtm_at "rd"
            refine ⟨_, _, rfl, fun t ft => ?_⟩
            rw [eOf_pair]
            have k := k.new (o := .tup [.str (eOf ord[i] ord[j]).1, .str (eOf ord[i] ord[j]).2]) ft
            have ht2 := at_upd (o := .tup [.str (eOf ord[i] ord[j]).1, .str (eOf ord[i] ord[j]).2]) (ne_of_none ht2 ft) ht2
            wtm_at "rd"
            refine rd_append k.he (by rw [List.length_map]; omega) ?_
            refine ⟨_, _, _, rfl, k.add (e := eOf ord[i] ord[j]) fed0 nep noe upd_same, at_upd n2e ht2, ei.add nu.nd hji hio hjo' c, by rw [List.length_append]; simp only [List.length_singleton]; omega⟩
          · wtm_at "rd"
            exact ⟨_, _, _, rfl, k, ht2, ei.step (by omega), by omega⟩
        · wtm_at "rd"
          exact ⟨_, _, _, rfl, k, ht2, ei.step (by omega), by omega⟩
      · rintro σ H8 ⟨es, u10, u11, rfl, k, ht2, ei, el⟩
        rw [List.length_map, lti] at ei el
        exact ⟨_, _, _, _, _, rfl, k, ei.step (by omega), by omega⟩
    · rintro σ H6 ⟨es, u8, u9, u10, u11, rfl, k, ei, el⟩
      rw [List.length_map] at ei el
      wtm_at "rd"
      refine rd_sortS (SqL.of k.ho) (by omega) ?_
      intro ns pn sn l1 fl1
      have k := k.new (o := .lst (ns.map V.str)) fl1
      wtm_at "rd"
      refine rd_tupleL (SqL.of upd_same) ?_
      intro n fn
      have hn : upd (upd H6 l1 (.lst (ns.map V.str))) n (.tup (ns.map V.str)) n = some (.tup (ns.map V.str)) := upd_same
      have k := k.new (o := .tup (ns.map V.str)) fn
      wtm_at "rd"
      refine rd_sortE (SqL.of k.he) (fun x hx => SqT.of (k.pr x hx)) (by omega) ?_
      intro es2 pe se l2 fl2
      have hn := at_upd (o := .lst (es2.map fun x => V.ref x.1)) (ne_of_none hn fl2) hn
      have k := k.new (o := .lst (es2.map fun x => V.ref x.1)) fl2
      wtm_at "rd"
      refine rd_tupleL (SqL.of upd_same) ?_
      intro e fe
      have hn := at_upd (o := .tup (es2.map fun x => V.ref x.1)) (ne_of_none hn fe) hn
      have he := @upd_same (upd (upd (upd H6 l1 (.lst (ns.map V.str))) n (.tup (ns.map V.str))) l2 (.lst (es2.map fun x => V.ref x.1))) e (.tup (es2.map fun x => V.ref x.1))
      have k := k.new (o := .tup (es2.map fun x => V.ref x.1)) fe
      wtm_at "rd"
      intro g fg
      have fg0 := k.go.free _ fg
      have hn := at_upd (o := .tup [.ref n, .ref e]) (ne_of_none hn fg) hn
      have he := at_upd (o := .tup [.ref n, .ref e]) (ne_of_none he fg) he
      have hg := @upd_same (upd (upd (upd (upd H6 l1 (.lst (ns.map V.str))) n (.tup (ns.map V.str))) l2 (.lst (es2.map fun x => V.ref x.1))) e (.tup (es2.map fun x => V.ref x.1))) g (.tup [.ref n, .ref e])
      have k := k.new (o := .tup [.ref n, .ref e]) fg
      wtm_at "rd"
      intro t ft
      have hn := at_upd (o := .tup [.ref g, .ref st]) (ne_of_none hn ft) hn
      have he := at_upd (o := .tup [.ref g, .ref st]) (ne_of_none he ft) he
      have hg := at_upd (o := .tup [.ref g, .ref st]) (ne_of_none hg ft) hg
      have k0 := k
      have k := k.new (o := .tup [.ref g, .ref st]) ft
      have nn := nu.perm pn
      have pe2 : (es2.map (·.2)).Perm (es.map (·.2)) := pe.map _
      have inE : ∀ x ∈ es2, ∃ i' j', ∃ (hi : i' < ord.length) (hj : j' < ord.length), j' < i' ∧ x.2 = eOf ord[i'] ord[j'] ∧ numOf ws ord[i'] ≠ numOf ws ord[j'] := fun x hx => by
        obtain ⟨i', j', hi, hj, h1, _, h2, h3⟩ := ei.of x (pe.mem_iff.mp hx)
        exact ⟨i', j', hi, hj, h1, h2, h3⟩
      refine q t g n e st ns ord es2 ws _ k.go upd_same ⟨hg, hn, he, fun x hx => k.pr x (pe.mem_iff.mp hx)⟩ k.hs fg0 fst0 (by rw [pn.length_eq]; omega) (by rw [pn.length_eq]; omega) ⟨⟨asc_of_sorted sn nn.nd, nn.ok⟩, ?_, ?_, ?_⟩ pn.symm h3 ?_ (by rw [pe.length_eq]; omega) (k0.go.free _ ft)
      · refine ascE_of_sorted ?_ (pe2.nodup_iff.mpr ei.nd)
        rw [List.pairwise_map]
        exact se
      · intro y hy
        obtain ⟨x, hx, rfl⟩ := List.mem_map.mp hy
        obtain ⟨i', j', hi, hj, h1, h2, h3⟩ := inE x hx
        rw [h2]
        refine eOf_lt fun z => h3 (by rw [z])
      · intro y hy
        obtain ⟨x, hx, rfl⟩ := List.mem_map.mp hy
        obtain ⟨i', j', hi, hj, h1, h2, h3⟩ := inE x hx
        rw [h2]
        have m1 := pn.mem_iff.mpr (List.getElem_mem hi)
        have m2 := pn.mem_iff.mpr (List.getElem_mem hj)
        rcases eOf_cases ord[i'] ord[j'] with z | z <;> rw [z]
        · exact ⟨m1, m2⟩
        · exact ⟨m2, m1⟩
      · intro x hx
        obtain ⟨i', j', hi, hj, h1, h2, h3⟩ := inE x hx
        rw [h2]
        rcases eOf_cases ord[i'] ord[j'] with z | z <;> rw [z]
        · exact h3
        · exact Ne.symm h3
end
end Law

namespace Law
open PySem PySem.Spec PyProof.Rows L2 U
/-- a graph and a state of it stand -/
structure GSt (H : Hp) (g n e st : Addr) (ns ord : List Str) (es : List (Addr × Str × Str)) (f : Str → Int) : Prop where
  gr : GrAt H g n e ns es
  ok : GrOk ns (es.map (·.2))
  pm : ord.Perm ns
  l2 : ns.length ≤ 100
  l3 : es.length ≤ 1000
  st : H st = some (.dK (kvF ord f))
  tri : ∀ x ∈ ns, 0 ≤ f x ∧ f x < 3
  pro : ∀ x ∈ es, f x.2.1 ≠ f x.2.2
section
variable {H H' : Hp} {g n e st p : Addr} {ns ord : List Str} {es : List (Addr × Str × Str)} {f : Str → Int}
theorem GSt.same (h : GSt H g n e st ns ord es f) (s : Same H H') : GSt H' g n e st ns ord es f := ⟨h.gr.same s, h.ok, h.pm, h.l2, h.l3, s _ _ h.st, h.tri, h.pro⟩
theorem GSt.go (h : GSt H g n e st ns ord es f) (hp : PoolAt H p) (b : Go p H H') : GSt H' g n e st ns ord es f := by
  obtain ⟨ys, hy⟩ := hp.isL
  exact ⟨h.gr.but hy b.but, h.ok, h.pm, h.l2, h.l3, b.but.dK hy h.st, h.tri, h.pro⟩
theorem GSt.nd (h : GSt H g n e st ns ord es f) : ns.Nodup := asc_nodup h.ok.names.asc
theorem GSt.ndo (h : GSt H g n e st ns ord es f) : ord.Nodup := h.pm.nodup_iff.mpr h.nd
theorem GSt.inE (h : GSt H g n e st ns ord es f) : ∀ x ∈ es, x.2.1 ∈ ns ∧ x.2.2 ∈ ns := fun x hx => h.ok.mem _ (List.mem_map_of_mem hx)
theorem GSt.sok (h : GSt H g n e st ns ord es f) : ∀ x ∈ ns, PyData.strOk x = true := fun x hx => (h.ok.names.ok x hx).sok
end
end Law

namespace Law
open PySem PySem.Spec PyProof.Rows L2 U


section
variable {P : Program} {w : World} {K : PySem.W.Frag} {mg : Str → Option Value} {base : Heap}
end
end Law

namespace Law
open PySem PySem.Spec PyProof.Rows L2 U


/-- the moves' pairs stand -/
def TupsAt (H : Hp) (ms : List (Addr × Str × Int)) : Prop := ∀ m ∈ ms, H m.1 = some (.tup [.str m.2.1, .int m.2.2])
theorem TupsAt.nil {H : Hp} : TupsAt H [] := fun m hm => nomatch hm
theorem TupsAt.same {H H' : Hp} {ms : List (Addr × Str × Int)} (h : TupsAt H ms) (s : Same H H') : TupsAt H' ms := fun m hm => s _ _ (h m hm)
theorem TupsAt.put {H : Hp} {ms : List (Addr × Str × Int)} {a : Addr} {xs ys : List V} (h : TupsAt H ms) (ha : H a = some (.lst xs)) : TupsAt (upd H a (.lst ys)) ms := fun m hm => at_upd (ne_of (h m hm) ha (by intro z; cases z)) (h m hm)
theorem TupsAt.new {H : Hp} {ms : List (Addr × Str × Int)} {a : Addr} {o : HO} (h : TupsAt H ms) (ha : H a = none) : TupsAt (upd H a o) ms := fun m hm => at_upd (ne_of_none (h m hm) ha) (h m hm)
section
variable {P : Program} {w : World} {K : PySem.W.Frag} {mg : Str → Option Value} {base : Heap}
end
end Law

namespace Law
open PySem PySem.Spec PyProof.Rows L2 U


theorem TupsAt.go {p : Addr} {H H' : Hp} {ms : List (Addr × Str × Int)} (h : TupsAt H ms) (hp : PoolAt H p) (g : Go p H H') : TupsAt H' ms := fun m hm => by
  obtain ⟨ys, hy⟩ := hp.isL
  exact g.but.tup hy (h m hm)
theorem Go.dK {p d : Addr} {H H' : Hp} {kvs : List (Key × V)} (g : Go p H H') (hp : PoolAt H p) (h : H d = some (.dK kvs)) : H' d = some (.dK kvs) := by
  obtain ⟨ys, hy⟩ := hp.isL
  exact g.but.dK hy h
theorem Go.tup {p d : Addr} {H H' : Hp} {xs : List V} (g : Go p H H') (hp : PoolAt H p) (h : H d = some (.tup xs)) : H' d = some (.tup xs) := by
  obtain ⟨ys, hy⟩ := hp.isL
  exact g.but.tup hy h
section
variable {P : Program} {w : World} {K : PySem.W.Frag} {mg : Str → Option Value} {base : Heap}
end
end Law

namespace Law
open PySem PySem.Spec PyProof.Rows L2 U


theorem take_snoc {α : Type} {xs : List α} {i : Nat} (hi : i < xs.length) : xs.take (i + 1) = xs.take i ++ [xs[i]] := by
  rw [List.take_succ, List.getElem?_eq_getElem hi]
  rfl
/-- the lists of the nodes' neighbours -/
structure AdjAt (H : Hp) (d : Addr) (ns : List Str) (es : List (Str × Str)) (A : Str → Addr) : Prop where
  di : H d = some (.dK (kvG ns fun n => .ref (A n)))
  li : ∀ n ∈ ns, ∃ ys : List Str, H (A n) = some (.lst (ys.map V.str)) ∧ ys.Perm (nbrF es n) ∧ ys.Pairwise fun a b => ¬ sLt b a
theorem AdjAt.same {H H' : Hp} {d : Addr} {ns : List Str} {es : List (Str × Str)} {A : Str → Addr} (h : AdjAt H d ns es A) (s : Same H H') : AdjAt H' d ns es A :=
  ⟨s _ _ h.di, fun n hn => by
    obtain ⟨ys, h1, h2⟩ := h.li n hn
    exact ⟨ys, s _ _ h1, h2⟩⟩
/-- a graph stands -/
structure GrS (H : Hp) (g n e : Addr) (ns : List Str) (es : List (Addr × Str × Str)) : Prop where
  gr : GrAt H g n e ns es
  ok : GrOk ns (es.map (·.2))
  l2 : ns.length ≤ 100
  l3 : es.length ≤ 1000
theorem GSt.grs {H : Hp} {g n e st : Addr} {ns ord : List Str} {es : List (Addr × Str × Str)} {f : Str → Int} (h : GSt H g n e st ns ord es f) : GrS H g n e ns es := ⟨h.gr, h.ok, h.l2, h.l3⟩
theorem GrS.same {H H' : Hp} {g n e : Addr} {ns : List Str} {es : List (Addr × Str × Str)} (h : GrS H g n e ns es) (s : Same H H') : GrS H' g n e ns es := ⟨h.gr.same s, h.ok, h.l2, h.l3⟩
theorem GrS.nd {H : Hp} {g n e : Addr} {ns : List Str} {es : List (Addr × Str × Str)} (h : GrS H g n e ns es) : ns.Nodup := asc_nodup h.ok.names.asc
theorem GrS.inE {H : Hp} {g n e : Addr} {ns : List Str} {es : List (Addr × Str × Str)} (h : GrS H g n e ns es) : ∀ x ∈ es, x.2.1 ∈ ns ∧ x.2.2 ∈ ns := fun x hx => h.ok.mem _ (List.mem_map_of_mem hx)
theorem GrS.ne {H : Hp} {g n e : Addr} {ns : List Str} {es : List (Addr × Str × Str)} (h : GrS H g n e ns es) : ∀ x ∈ es.map (·.2), x.1 ≠ x.2 := fun x hx z => by
  have := h.ok.lt x hx
  rw [z] at this
  exact sLt_irrefl _ this
def spAdj : Sp := fun vs H Q _ => ∃ (g n e : Addr) (ns : List Str) (es : List (Addr × Str × Str)), vs = [.ref g] ∧ GrS H g n e ns es ∧
  ∀ (d : Addr) (A : Str → Addr) (H' : Hp), Same H H' → H d = none → AdjAt H' d ns (es.map (·.2)) A → Q (.ref d) H'
/-- what grows at d: lists, one a name, apart -/
structure Grow (H H' : Hp) (d : Addr) (ns : List Str) (A : Str → Addr) (L : Str → List Str) : Prop where
  sm : Same H H'
  di : H' d = some (.dK (kvG ns fun n => .ref (A n)))
  li : ∀ n ∈ ns, H' (A n) = some (.lst ((L n).map V.str)) ∧ H (A n) = none
  ap : ∀ n ∈ ns, ∀ m ∈ ns, A n = A m → n = m
theorem Grow.put {H H' : Hp} {d : Addr} {ns : List Str} {A : Str → Addr} {L : Str → List Str} {n : Str} {ys : List Str} (h : Grow H H' d ns A L) (hn : n ∈ ns) : Grow H (upd H' (A n) (.lst (ys.map V.str))) d ns A (updV L n ys) := by
  refine ⟨same_put h.sm (h.li n hn).2, at_upd (ne_of h.di (h.li n hn).1 (by intro z; cases z)) h.di, fun m hm => ⟨?_, (h.li m hm).2⟩, h.ap⟩
  unfold updV
  by_cases e : m = n
  · subst e
    rw [if_pos rfl, upd_same]
  · rw [if_neg e]
    exact at_upd (fun z => e (h.ap m hm n hn z)) (h.li m hm).1
section
variable {P : Program} {w : World} {K : PySem.W.Frag} {mg : Str → Option Value} {base : Heap}
end
end Law

namespace Law
open PySem PySem.Spec PyProof.Rows L2 U


section
variable {P : Program} {w : World} {K : PySem.W.Frag} {mg : Str → Option Value} {base : Heap}
end
end Law

namespace Law
open PySem PySem.Spec PyProof.Rows L2 U


def spIsMove (K : PySem.W.Frag) : Sp := fun vs H Q _ => ∃ (g n e st ad c ps : Addr) (x : Str) (v : Int) (ns ord pn : List Str) (es : List (Addr × Str × Str)) (f : Str → Int) (Ad : Str → Addr), vs = [.ref g, .ref st, .ref ad, .ref c, .ref ps] ∧ GSt H g n e st ns ord es f ∧
  AdjAt H ad ns (es.map (·.2)) Ad ∧ H c = some (.tup [.str x, .int v]) ∧ Legal ns (es.map (·.2)) f pn (x, v) ∧ SqT K H ps (pn.map V.str) ∧ ∀ H' : Hp, Same H H' → Q (.bl true) H'
section
variable {P : Program} {w : World} {K : PySem.W.Frag} {mg : Str → Option Value} {base : Heap}
structure C8 (P : Program) (w : World) (K : PySem.W.Frag) (mg : Str → Option Value) (base : Heap) : Prop where
  adjacency : Cal P w K mg base CX0 1 "adjacency" spAdj
  is_move : Cal P w K mg base CX0 3 "is_move" (spIsMove K)
end
end Law

/-! own exceptions with one field: made, raised, kept, read -/
namespace U
open PySem PySem.Spec PyProof.Rows L2
section
variable {σ : L2.St} {H : Hp} {Q : VK} {D : Ends} {K : PySem.W.Frag} {te : TE} {ta : TA}
theorem rd_vei {v : V} (h : ta σ H fun vs H1 => ∃ (a C : Addr) (ws : List V), vs = .ref a :: ws ∧ ws.length ≤ 1000 ∧ OexC K C ∧ H1 a = some (exo a C none) ∧ Q .non H1) : tVeI K ta σ H Q := h
theorem rd_ost {f : Str} {to : TE} (h : te σ H fun y H1 => to σ H1 fun x H2 => ∃ a C : Addr, x = .ref a ∧ OexC K C ∧ PySem.W.findIn K (.ref C) f = some none ∧
  ((H2 a = some (exo a C none) ∧ ∀ dx, H2 dx = none → dx ≠ a → D.nx σ (upd (upd H2 dx (exd dx [(f, y)])) a (exo a C (some dx)))) ∨
    ∃ (dx : Addr) (fs : List (Str × V)), H2 a = some (exo a C (some dx)) ∧ H2 dx = some (exd dx fs) ∧ fs.length ≤ 900 ∧ D.nx σ (upd H2 dx (exd dx ((f, y) :: fs))))) : tOst K f to te D σ H := h
end
/-! the class's facts, gathered -/
structure OwnX (K : PySem.W.Frag) (mg : Str → Option Value) (x : Str) (f : Str) (C CB fI : Addr) : Prop where
  gC : mg x = some (.ref C)
  ox : OexC K C
  no : PySem.W.findIn K (.ref C) f = some none
  iC : PySem.W.findIn K (.ref C) "__init__" = some (some (.ref fI))
  tI : PySem.W.typeIn K (.ref fI) = some (.type "function")
  xf : XfC K C
  gB : mg "InputError" = some (.ref CB)
  bi : BaseI K CB
  ex : PySem.W.exmOne K (.ref C) (.ref C) = some true
  eb : PySem.W.exmOne K (.ref C) (.ref CB) = some true
end U

/-! is_move of anything -/
namespace Law
open PySem PySem.Spec PyProof.Rows L2 U


/-- c: not a move by its form (o = none), or a text and a number -/
inductive CandAt (K : PySem.W.Frag) (H : Hp) : V → Option (Str × Int) → Prop
  | odd {c : V} {a : Ty} : TyIs K H c a → isT a .tup = false → CandAt K H c none
  | len {a : Addr} {xs : List V} : H a = some (.tup xs) → xs.length ≠ 2 → CandAt K H (.ref a) none
  | node {a : Addr} {x y : V} {t : Ty} : H a = some (.tup [x, y]) → TyIs K H x t → isT t .str = false → CandAt K H (.ref a) none
  | val {a : Addr} {x : Str} {y : V} {t : Ty} : H a = some (.tup [.str x, y]) → TyIs K H y t → t ≠ .int → CandAt K H (.ref a) none
  | mv {a : Addr} {x : Str} {v : Int} : H a = some (.tup [.str x, .int v]) → CandAt K H (.ref a) (some (x, v))
section
variable {P : Program} {w : World} {K : PySem.W.Frag} {mg : Str → Option Value} {base : Heap}
end
end Law

/-! first_invalid -/
namespace Law
open PySem PySem.Spec PyProof.Rows L2 U LamX NdefX


theorem rd_iEnumTq {K : PySem.W.Frag} {ta : TA} {σ : L2.St} {H : Hp} {R : It → Hp → Prop} (h : ta σ H fun vs H1 => ∃ a xs, vs = [.ref a] ∧ SqT K H1 a xs ∧ R (Iet K a) H1) : iEnumT K ta σ H R := h
theorem rd_hd {f : Addr} {Pre : Hp → Prop} {i : Nat} {sp : Sp} {E : XK} {t : TA} {σ : L2.St} {H : Hp} {Q : VK} (h : σ[i]? = some (some (.ref f)) ∧ Pre H ∧ t σ H fun vs H1 => Pre H1 ∧ sp vs H1 Q E) : tHd f Pre i sp E t σ H Q := h
theorem sqT_sameQ {K : PySem.W.Frag} {H H' : Hp} {a : Addr} {xs : List V} (h : SqT K H a xs) (s : Same H H') : SqT K H' a xs := by
  rcases h with (h | ⟨o, h⟩) | h
  · exact .inl (.inl (s _ _ h))
  · exact .inl (.inr ⟨o, s _ _ h⟩)
  · exact .inr h
/-- the item at i is invalid, or not greater than the one before -/
def badAt (good : V → Bool) (D : V → PyData) (xs : List V) (i : Nat) : Bool :=
  !good (xs[i]?.getD .non) || (decide (0 < i) && !PySem.W.dataLt (D (xs[i - 1]?.getD .non)) (D (xs[i]?.getD .non)))
/-- what is asked of the items -/
structure ItemsOk (K : PySem.W.Frag) (H : Hp) (good : V → Bool) (D : V → PyData) (xs : List V) : Prop where
  dp : ∀ x ∈ xs, good x = true → ∀ H', Same H H' → Dp K H' x (D x)
  al : ∀ x ∈ xs, ∀ y ∈ xs, good x = true → good y = true → PySem.W.alike (D x) (D y) = true
  nn : ∀ x ∈ xs, good x = true → D x ≠ .none ∧ (D x).depth ≤ 60
def spInv (P : Program) (w : World) (K : PySem.W.Frag) (mg : Str → Option Value) (base : Heap) (k : Nat) : List Env → Heap → Sp := fun l h vs H Q _ => ∃ (ti fa : Addr) (xs : List V) (Pre : Hp → Prop) (sp : Sp) (good : V → Bool) (D : V → PyData), vs = [.ref ti, .ref fa] ∧ SqT K H ti xs ∧ xs.length ≤ 100000 ∧
  Handed P w K mg base k l h H fa Pre sp ∧ (∀ H', Same H H' → Pre H') ∧ (∀ x ∈ xs, ∀ (H1 : Hp) (Q1 : VK), Same H H1 → (∀ H2, Same H1 H2 → Q1 (.bl (good x)) H2) → sp [x] H1 Q1 E0) ∧ ItemsOk K H good D xs ∧
  (∀ i, i < xs.length → badAt good D xs i = true → (∀ j, j < i → badAt good D xs j = false) → ∀ H', Same H H' → Q (.int i) H') ∧ ((∀ i, i < xs.length → badAt good D xs i = false) → ∀ H', Same H H' → Q .non H')
section
variable {P : Program} {w : World} {K : PySem.W.Frag} {mg : Str → Option Value} {base : Heap}
theorem ok_inv {f : Addr} {fd : FuncData} {k0 : Nat} (F : Fun K "first_invalid" "first_invalid" s_first_invalid f fd) (hk0 : k0 ≤ 2) (B : Bt mg) : FnH P w K mg base CX0 3 f fd ["items", "is_valid"] (spInv P w K mg base k0) := by
  refine fnH0 F sc_first_invalid (fun l h vs H Q E z => ?_) (fun cdv A outer s H vs Q E hr h => ?_)
  · obtain ⟨ti, fa, xs, Pre, sp, good, D, rfl, _⟩ := z
    rfl
  · obtain ⟨ti, fa, xs, Pre, sp, good, D, rfl, hti, len, hw, pre, call, ok, q1, q2⟩ := h
    have nd := sc_first_invalid.nd
    have hu := hr.u1
    refine ⟨_, (pss_cons (ps_for PassesOwn.never rfl (ki_enumT K rfl (by rfl) B.enumerate (pa_cons (pv 0) pa_nil)) (kg_tup (n := 2) K rfl rfl (pgs_cons (pg_name (i := 2) nd rfl (by first | exact Or.inl rfl | exact Or.inr rfl)) (pgs_cons (pg_name (i := 3) nd rfl (by first | exact Or.inl rfl | exact Or.inr rfl)) pgs_nil))) (pss_one (ps_if (PW.pt (pw_or (pt_not (pt_val (pe_hd (i := 1) hw rfl hr hk0 rfl (by first | exact Or.inl rfl | exact Or.inr (Or.inl rfl)) (pa_cons (pv 3) pa_nil)))) (pw_or1 (PW.pt (pw_and (pt_cmpR uGt (pv 2) pe_int (nomark _)) (pw_and1 (pt_not (pt_cmpR (kLtD K rfl hr.u64) (pe_ix (kIx K rfl) (pv 0) (pe_op uSub (pv 2) pe_int) (fun _ _ => rfl)) (pv 3) (nomark _))))))))) (pss_one (ps_ret (pv 2))) pss_nil)))
  (pss_one (ps_ret pe_non))), ?_⟩
    wtm_at "rd"
    refine rd_iEnumTq ?_
    wtm_at "rd"
    refine ⟨ti, xs, rfl, hti, ?_⟩
    refine turnsW (walk_enumT (K := K) (a := ti) (xs := xs)) (fun i σ H' => ∃ u2 u3 : Option V, σ = [some (.ref ti), some (.ref fa), u2, u3] ∧ Same H H' ∧ ∀ j, j < i → badAt good D xs j = false) ⟨_, _, rfl, (fun _ _ z => z), (fun j z => absurd z (Nat.not_lt_zero j))⟩ ?_ ?_ ?_
    · rintro i σ H' hi ⟨u2, u3, rfl, s1, _⟩
      exact sqT_sameQ hti s1
    · rintro i y σ H' H3 hi ⟨u2, u3, rfl, s1, bef⟩ ⟨T, x1, y1, rfl, fT, rfl, e1, e2⟩
      have e2 : xs[i]? = some y1 := e2
      have hx := Option.some.inj e1
      subst hx
      have hin : i < xs.length := (List.getElem?_eq_some_iff.mp e2).1
      have hy : y1 ∈ xs := List.mem_of_getElem? e2
      have kT := Same.new (o := .tup [.int (i : Nat), y1]) fT
      refine rd_unp (SqT.of upd_same) rfl ?_
      have s3 := s1.trans kT
      generalize upd H' T (.tup [.int (i : Nat), y1]) = H3 at *
      wtm_at "rd"
      refine rd_hd ⟨rfl, pre _ s3, ?_⟩
      wtm_at "rd"
      refine ⟨pre _ s3, call y1 hy H3 _ s3 fun H4 s4 => ?_⟩
      have s5 := s3.trans s4
      have bdef : badAt good D xs i = (!good y1 || (decide (0 < i) && !PySem.W.dataLt (D (xs[i - 1]?.getD .non)) (D y1))) := by
        unfold badAt
        rw [e2]
        rfl
      wtm_at "rd"
      by_cases c : good y1 = true
      · rw [c]
        wtm_at "rd"
        by_cases i0 : 0 < i
        · have l2 : i - 1 < xs.length := by omega
          have e3 := List.getElem?_eq_getElem l2
          have z2 : xs[i - 1] ∈ xs := List.getElem_mem l2
          have g2 : good xs[i - 1] = true := by
            have := bef (i - 1) (by omega)
            unfold badAt at this
            rw [e3] at this
            simp only [Option.getD_some, Bool.or_eq_false_iff] at this
            simpa using this.1
          refine rd_yes (show (0 : Int) < (i : Int) by omega) ?_
          wtm_at "rd"
          refine rd_ixT (sqT_sameQ hti s5) (v := xs[i - 1]) (by rw [show ((i : Int) - 1) = ((i - 1 : Nat) : Int) by omega]; exact atI_nat e3) ?_
          wtm_at "rd"
          refine ⟨D xs[i - 1], D y1, ok.dp _ z2 g2 _ s5, ok.dp _ hy c _ s5, ok.al _ z2 _ hy g2 c, (ok.nn _ z2 g2).1, (ok.nn _ z2 g2).2, ?_⟩
          rw [e3, c] at bdef
          simp only [Option.getD_some, Bool.not_true, Bool.false_or, decide_eq_true i0, Bool.true_and] at bdef
          cases lt : PySem.W.dataLt (D xs[i - 1]) (D y1) with
          | true =>
            rw [lt] at bdef
            wtm_at "rd"
            exact ⟨_, _, rfl, s5, fun j hj => by
              by_cases z : j < i
              · exact bef j z
              · rw [show j = i by omega]
                exact bdef⟩
          | false =>
            rw [lt] at bdef
            wtm_at "rd"
            exact q1 i hin bdef bef _ s5
        · refine rd_no (show ¬ ((0 : Int) < (i : Int)) by omega) ?_
          wtm_at "rd"
          rw [c, decide_eq_false i0] at bdef
          exact ⟨_, _, rfl, s5, fun j hj => by
            by_cases z : j < i
            · exact bef j z
            · rw [show j = i by omega]
              exact bdef⟩
      · have c : good y1 = false := by simpa using c
        rw [c]
        wtm_at "rd"
        refine q1 i hin ?_ bef _ s5
        rw [bdef, c]
        rfl
    · rintro σ H' ⟨u2, u3, rfl, s1, bef⟩
      wtm_at "rd"
      exact q2 bef _ s1
end
end Law

/-! nested defs: what several texts want -/
namespace Law
open PySem PySem.Spec PyProof.Rows L2 U LamX NdefX
theorem rd_cHd {sp : List Env → Heap → Sp} {l : List Env} {R : L2.St → Heap → Hp → Prop} {t : TA} {σ : L2.St} {H : Hp} {Q : VK} (h : t σ H fun vs H1 => ∀ hh, R σ hh H1 → sp l hh vs H1 Q E0) : tCHd sp l R t σ H Q := h
theorem rd_ndef {T : List NTab} {i : Nat} {mk : Addr → NF} {D : Ends} {σ : L2.St} {H : Hp} (h : TabsN T H ∧ ∀ (f c' : Addr) (H1 : Hp), ExtN H H1 → TabsN T H1 → H f = none → H1 f = some (FnO f (mk c')) → H1 c' = some (CodeO c' (mk c').qual) → D.nx (σ.set i (some (.ref f))) H1) : tNdef T i mk D σ H := h
/-- tables with names by place, from tables with one name -/
def NT (T : List (Addr × Str)) : List NTab := T.map fun p => (p.1, fun _ _ => p.2)
theorem nt_of {T : List (Addr × Str)} {H : Hp} (t : Tabs T H) : TabsN (NT T) H := fun p hp => by
  obtain ⟨q, hq, rfl⟩ := List.mem_map.mp hp
  exact TabN.of (t q hq)
theorem nt_to {T : List (Addr × Str)} {H : Hp} (t : TabsN (NT T) H) : Tabs T H := fun p hp => TabN.to (t _ (List.mem_map.mpr ⟨p, hp, rfl⟩))
theorem nt_mem {T : List (Addr × Str)} {a : Addr} {q : Str} (h : (a, q) ∈ T) : (a, fun _ _ => q) ∈ NT T := List.mem_map.mpr ⟨_, h, rfl⟩
theorem nt_one {T : List (Addr × Str)} {a : Addr} {q : Str} (h : ∀ y ∈ T, y.1 = a → y.2 = q) : ∀ p ∈ NT T, p.1 = a → p.2 = fun _ _ => q := fun p hp e => by
  obtain ⟨y, hy, rfl⟩ := List.mem_map.mp hp
  have := h y hy e
  rw [this]
theorem grAt_extQ {H H' : Hp} {g n e : Addr} {ns : List Str} {es : List (Addr × Str × Str)} (h : GrAt H g n e ns es) (x : ExtN H H') : GrAt H' g n e ns es := ⟨x _ _ h.top nofun, x _ _ h.nodes nofun, x _ _ h.edges nofun, fun y hy => x _ _ (h.pairs y hy) nofun⟩
theorem Ob.noTup {H H' : Hp} {v : V} (h : Ob H v) (nt : ∀ a xs, v = .ref a → H a ≠ some (.tup xs)) (x : ExtN H H') {a : Addr} {xs : List V} (e : v = .ref a) : H' a ≠ some (.tup xs) := by
  subst e
  rcases h with h | ⟨_, h⟩ | ⟨_, h⟩ | ⟨_, h⟩ | ⟨b, o, h, h1, h2⟩
  · cases h
  · cases h
  · cases h
  · cases h
  · cases h
    intro z
    rcases h2 with ⟨ys, rfl⟩ | ⟨ys, rfl⟩ | ⟨ys, rfl⟩
    · rw [x _ _ h1 nofun] at z
      cases z
    · exact nt a ys rfl h1
    · rw [x _ _ h1 nofun] at z
      cases z
theorem rd_cHx {sp : List Env → Heap → Sp} {l : List Env} {R : L2.St → Heap → Hp → Prop} {W : WX} {t : TA} {σ : L2.St} {H : Hp} {Q : VK} (h : t σ H fun vs H1 => ∀ hh, R σ hh H1 → sp l hh vs H1 Q fun cls d H' => W cls d σ H') : tCHx sp l R W t σ H Q := h
/-- the frames of a def that runs: its own, then the callers' -/
theorem frs_own {env : Env} {out : List Env} {h : Heap} (e : env.frame = some h.objs.size) : ∀ c, c ∈ frs (env :: out) → c ∈ frs out ∨ h.get? c = none := fun c hc => by
  unfold frs at hc ⊢
  rw [List.filterMap_cons_some e] at hc
  rcases List.mem_cons.mp hc with rfl | hc
  · exact .inr (Heap.get?_none_of_le (Nat.le_refl _))
  · exact .inl hc
theorem handed_up {P : Program} {w : World} {K : PySem.W.Frag} {mg : Str → Option Value} {base : Heap} {k j : Nat} {l : List Env} {h : Heap} {H : Hp} {f : Addr} {Pre : Hp → Prop} {sp : Sp} (x : Handed P w K mg base k l h H f Pre sp) (kj : k ≤ j) : Handed P w K mg base j l h H f Pre sp := by
  rcases x with ⟨F, ps, fr, ws, spF, x1, x2⟩ | ⟨fd, ps, x1, x2⟩
  · exact .inl ⟨F, ps, fr, ws, spF, ⟨x1.ln, fun A out s H us vs ws Q E rm => x1.rn A out s H us vs ws Q E (rm.mono kj)⟩, x2⟩
  · exact .inr ⟨fd, ps, ⟨x1.len, fun A out s H args us vs Q E rm => x1.go A out s H args us vs Q E (rm.mono kj)⟩, x2⟩
/-- what an own error of two fields carries -/
def Fld2 (f1 f2 : Str) (C : Addr) (v1 v2 : V) (H : Hp) (E : XK) : Prop := ∀ (d : Addr) (H' : Hp), Same H H' → H' d = some (.xd [(f2, v2), (f1, v1)]) → E (.ref C) (some d) H'
def Fld2Y (T : List (Addr × Str)) (f1 f2 : Str) (C : Addr) (v1 v2 : V) (H : Hp) (E : XK) : Prop := ∀ (d : Addr) (H' : Hp), ExtN H H' → Tabs T H' → H' d = some (.xd [(f2, v2), (f1, v1)]) → E (.ref C) (some d) H'
end Law

/-! calls with keywords and defaults of a def that may raise -/
namespace U
open PySem PySem.Spec PyProof.Rows L2
end U

/-! own exceptions with two fields -/
namespace U
open PySem PySem.Spec PyProof.Rows L2
/-- __init__(self, v1, v2): the fields f1 and f2 -/
def spInit2 (C : Addr) (f1 f2 : Str) : Sp := fun vs H Q _ => ∃ (a : Addr) (v1 v2 : V), vs = [.ref a, v1, v2] ∧ H a = some (exo a C none) ∧
  ∀ (dx : Addr) (H' : Hp), H dx = none → dx ≠ a → H' a = some (exo a C (some dx)) → H' dx = some (exd dx [(f2, v2), (f1, v1)]) → (∀ b, b ≠ a → b ≠ dx → H' b = H b) → Q .non H'
theorem rd_mk2 {C : Addr} {f1 f2 : Str} {v1 v2 : V} {H : Hp} {Q : XK} (h : ∀ (dd : Addr) (H' : Hp), Same H H' → H dd = none → H' dd = some (.xd [(f2, v2), (f1, v1)]) → Q (.ref C) (some dd) H') :
    [v1, v2].length ≤ 1000 ∧ ∀ a, H a = none → spInit2 C f1 f2 (.ref a :: ([v1, v2] ++ [])) (upd H a (exo a C none)) (fun w H2 => w = .non ∧ ∃ (d : Addr) (fs : List (Str × V)), H2 a = some (exo a C (some d)) ∧ H2 d = some (exd d fs) ∧ H d = none ∧ Q (.ref C) (some d) (upd (del H2 a) d (.xd fs))) (fun _ _ _ => False) := by
  refine ⟨(by show 2 ≤ 1000; decide), fun a na => ⟨a, v1, v2, rfl, upd_same, fun dx H' ndx nda e1 e2 e3 => ?_⟩⟩
  have nd0 : H dx = none := by
    rw [upd_ne nda] at ndx
    exact ndx
  refine ⟨rfl, dx, [(f2, v2), (f1, v1)], e1, e2, nd0, ?_⟩
  refine h dx _ (fun b o e => ?_) nd0 upd_same
  have n1 : b ≠ dx := ne_of_none e nd0
  have n2 : b ≠ a := ne_of_none e na
  rw [upd_ne n1, del_ne n2, e3 b n2 n1, upd_ne n2]
  exact e
structure ErrX2 (P : Program) (w : World) (K : PySem.W.Frag) (mg : Str → Option Value) (base : Heap) (x f1 f2 : Str) (C CB : Addr) : Prop where
  ex : ∃ (fI : Addr) (fd : FuncData), OwnX K mg x f1 C CB fI ∧ FnOk P w K mg base CX0 1 fI fd ["self", f1, f2] (spInit2 C f1 f2) ∧ Binds K fd ["self", f1, f2] []
  no2 : PySem.W.findIn K (.ref C) f2 = some none
/-- raise X(e1, e2): reading rd_rz2, the two's, rd_mk2 -/
def tRz2 (C : Addr) (f1 f2 : Str) (t1 t2 : TE) (W : WX) : TS := fun _ σ H => tMkO C (spInit2 C f1 f2) [] (tCons t1 (tCons t2 tNil)) σ H fun cls d H' => W cls d σ H'
theorem ps_rz2 {X : Cx} {W : WX} {j : Nat} {x f1 f2 : Str} {C CB : Addr} {e1 e2 : Expr} {t1 t2 : TE} {p p2 pos : Pos} (T : ErrX2 X.prog X.w X.K X.mg X.base x f1 f2 C CB) (hr : Rm j X.A) (hk : 2 ≤ j) (hc : X.calm = true) (tk : Takes X W) (hg : Gl X x) (h1 : PE X e1 t1) (h2 : PE X e2 t2)
    (hdb : (x == ("__debug__" : Str)) = false := by decide) (hs : starEach [e1, e2] X.env = (false, eval e1 X.env) :: starEach [e2] X.env := by rfl) (hs2 : starEach [e2] X.env = (false, eval e2 X.env) :: starEach [] X.env := by rfl) (hpl : (backTo p2 (starEach [e2] X.env)).any (·.1) = false := by rfl) :
    PS X (.Raise (some (.Call (.Name x p) [e1, e2] [] p2)) none pos) (tRz2 C f1 f2 t1 t2 W) := by
  obtain ⟨fI, fd, T1, F1, b⟩ := T.ex
  exact ps_raise (pos := pos) hc tk (pmk_oex (p := p) (pos := p2) (dvs := []) T1.ox T1.iC T1.tI F1 (hr.r.mono hk) b .nil pass0 hg T1.gC (pa_cons h1 (pa_cons h2 pa_nil (hs := hs2)) (hs := hs)) hdb hs hpl)
theorem rd_rz2 {C : Addr} {f1 f2 : Str} {t1 t2 : TE} {W : WX} {D : Ends} {σ : L2.St} {H : Hp} (h : tCons t1 (tCons t2 tNil) σ H fun vs H1 => vs.length ≤ 1000 ∧ ∀ a, H1 a = none → spInit2 C f1 f2 (.ref a :: (vs ++ [])) (upd H1 a (exo a C none))
  (fun v H2 => v = .non ∧ ∃ (d : Addr) (fs : List (Str × V)), H2 a = some (exo a C (some d)) ∧ H2 d = some (exd d fs) ∧ H1 d = none ∧ W (.ref C) (some d) σ (upd (del H2 a) d (.xd fs))) (fun _ _ _ => False)) : tRz2 C f1 f2 t1 t2 W D σ H := h
end U

/-! the facts of an own error class, gathered from the fragment -/
namespace U
open PySem PySem.Spec PyProof.Rows L2
theorem exm_sub {K : PySem.W.Frag} {S T : Addr} (h1 : PySem.W.subIn K (.ref S) (.type "BaseException") = some true) (b1 : PySem.W.subIn K (.ref T) (.type "BaseException") = some true) (h2 : PySem.W.isClsIn K T = true) (h3 : PySem.W.typeIn K (.ref T) = some (.type "type")) (h4 : PySem.W.subIn K (.ref S) (.ref T) = some true) :
    PySem.W.exmOne K (.ref S) (.ref T) = some true := by
  have e1 : (PySem.W.subIn K (.ref T) (.type "BaseException") == some true) = true := by rw [b1] <;> rfl
  have e2 : ((PySem.W.clsIn K T).isSome && PySem.W.typeIn K (.ref T) == some (.type "type")) = true := by
    have h2' : (PySem.W.clsIn K T).isSome = true := h2
    rw [h2', h3] <;> rfl
  show (if (PySem.W.subIn K (.ref T) (.type "BaseException") == some true) = true then (if ((PySem.W.clsIn K T).isSome && PySem.W.typeIn K (.ref T) == some (.type "type")) = true then PySem.W.subIn K (.ref S) (.ref T) else none) else none) = some true
  rw [if_pos e1, if_pos e2]
  exact h4
theorem own_mk {K : PySem.W.Frag} {mg : Str → Option Value} {x f : Str} {C CB fI : Addr} {nm q : Str} {N : Addr} {bs : List Value} {sn : List Str} {sub : List Value} {ab : Bool} {col : Option Bool} {dd : Option Addr} {m0 m1 m2 m3 m5 : Option Value}
    (gC : mg x = some (.ref C)) (gB : mg "InputError" = some (.ref CB))
    (xL : K.lookup C = some (excClassObj nm q C N bs [.ref CB, .type "ValueError", .type "Exception", .type "BaseException", .type "object"] true sn sub ab col dd m0 m1 m2 m3 m5 "ValueError.__new__"))
    (sa : PySem.W.findIn K (.ref C) "__setattr__" = some (some (.builtin "object.__setattr__"))) (ga : PySem.W.findIn K (.ref C) "__getattribute__" = some (some (.builtin "BaseException.__getattribute__"))) (gg : PySem.W.findIn K (.ref C) "__getattr__" = some none) (nb : PySem.W.findIn K (.ref C) f = some none)
    (a1 : PySem.W.findIn K (.ref C) "__init__" = some (some (.ref fI))) (t1 : PySem.W.typeIn K (.ref fI) = some (.type "function"))
    (kC : PySem.W.keepIn K (.ref C) = true) (eC : PySem.W.subIn K (.ref C) (.type "BaseException") = some true) (tC : PySem.W.typeIn K (.ref C) = some (.type "type")) (hC : PySem.W.hasDictIn K C = true) (iC : PySem.W.isClsIn K C = true) (sC : PySem.W.subIn K (.ref C) (.ref C) = some true)
    (kB : PySem.W.keepIn K (.ref CB) = true) (eB : PySem.W.subIn K (.ref CB) (.type "BaseException") = some true) (tB : PySem.W.typeIn K (.ref CB) = some (.type "type")) (iB : PySem.W.isClsIn K CB = true) (sB : PySem.W.subIn K (.ref C) (.ref CB) = some true)
    (gB2 : PySem.W.specialIn K (.ref CB) "__getattribute__" = some (some (.builtin "type.__getattribute__"))) (rB : PySem.W.readsIn K CB (.type "type") = true) (aB : PySem.W.findCls K (.ref CB) (.type "type") "__init__" = some (.val (.builtin "ValueError.__init__"))) : OwnX K mg x f C CB fI where
  gC := gC
  ox := ⟨⟨nm, q, N, bs, _, sn, sub, ab, col, dd, m0, m1, m2, m3, m5, xL, by first | rfl | decide +kernel⟩, sa, eC, tC, kC⟩
  no := nb
  iC := a1
  tI := t1
  xf := ⟨ga, gg, eC, hC⟩
  gB := gB
  bi := ⟨kB, gB2, rB, aB⟩
  ex := exm_sub eC eC iC tC sC
  eb := exm_sub eC eB iB tB sB
end U

/-! lists of lists of texts as data; min of a list -/
namespace U
open PySem PySem.Spec PyProof.Rows L2
end U

/-! repr of whatever data -/
namespace U
open PySem PySem.Spec PyProof.Rows L2
section
variable {K : PySem.W.Frag} {H H' : Hp}
mutual
theorem dp_ext (l : ∀ a xs, SqL K H a xs → SqL K H' a xs) (t : ∀ a xs, SqT K H a xs → SqT K H' a xs) : ∀ (d : PyData) (v : V), Dp K H v d → Dp K H' v d
  | .none, _, h => by cases h; exact .non
  | .bool _, _, h => by cases h; exact .bl _
  | .int _, _, h => by cases h; exact .int _
  | .str _, _, h => by cases h; exact .str _
  | .list ds, _, h => by
    cases h with
    | lst h1 h2 => exact .lst (l _ _ h1) (dp_extA l t ds _ h2)
  | .tuple ds, _, h => by
    cases h with
    | tup h1 h2 => exact .tup (t _ _ h1) (dp_extA l t ds _ h2)
  | .dict _, _, h => by cases h
theorem dp_extA (l : ∀ a xs, SqL K H a xs → SqL K H' a xs) (t : ∀ a xs, SqT K H a xs → SqT K H' a xs) : ∀ (ds : List PyData) (vs : List V), DpAll K H vs ds → DpAll K H' vs ds
  | [], _, h => by cases h; exact .nil
  | d :: ds, _, h => by
    cases h with
    | cons h1 h2 => exact .cons (dp_ext l t d _ h1) (dp_extA l t ds _ h2)
end
end
/-- a value that repr may be asked of, and what repr says -/
inductive Rp (K : PySem.W.Frag) (H : Hp) : V → Str → Prop
  | non : Rp K H .non "None"
  | bl (b : Bool) : Rp K H (.bl b) (if b then "True" else "False")
  | int (i : Int) (h : i.natAbs.log2 < 1920) : Rp K H (.int i) (toString i)
  | str (x : Str) (h : (reprText x).length ≤ sizeLine) : Rp K H (.str x) (reprText x)
  | of {a : Addr} {d : PyData} : Dp K H (.ref a) d → d.hasDict = false → Shows d → Rp K H (.ref a) d.shown
  | dct {a : Addr} {ns : List Str} {f : Str → Int} : H a = some (.dK (kvF ns f)) → Shows (.dict (ns.map fun n => (.str n, .int (f n)))) → Rp K H (.ref a) (PyData.dict (ns.map fun n => (.str n, .int (f n)))).shown
theorem Rp.ext {K : PySem.W.Frag} {H H' : Hp} {v : V} {d : Str} (h : Rp K H v d) (l : ∀ a xs, SqL K H a xs → SqL K H' a xs) (t : ∀ a xs, SqT K H a xs → SqT K H' a xs) (k : ∀ a kvs, H a = some (.dK kvs) → H' a = some (.dK kvs)) : Rp K H' v d := by
  cases h with
  | non => exact .non
  | bl b => exact .bl b
  | int i h => exact .int i h
  | str x h => exact .str x h
  | of h1 h2 h3 => exact .of (dp_ext l t _ _ h1) h2 h3
  | dct h1 h2 => exact .dct (k _ _ h1) h2
theorem Rp.same {K : PySem.W.Frag} {H H' : Hp} {v : V} {d : Str} (h : Rp K H v d) (s : Same H H') : Rp K H' v d := h.ext
  (fun a xs q => by
    rcases q with (q | ⟨o, q⟩) | q
    · exact .inl (.inl (s _ _ q))
    · exact .inl (.inr ⟨o, s _ _ q⟩)
    · exact .inr q) (fun a xs q => Same.seqT s q) fun a kvs q => s _ _ q
def rReprV (K : PySem.W.Frag) : List V → Hp → VK → Prop := fun xs H Q => ∃ x S, xs = [x] ∧ Rp K H x S ∧ Q (.str S) H
theorem kReprV {X : Cx} (K : PySem.W.Frag) (hK : X.K = K) (hg : X.A.guards = some []) (hu : X.A.units + 64 < cLine) : CallR X (.builtin "repr") (rReprV K) := by
  subst hK
  intro pins s σ H xs us Q I r h
  obtain ⟨x, S, rfl, hr, q⟩ := h
  obtain ⟨u, eu, rx⟩ := vals1 r
  subst eu
  have fin : ∀ (a : Addr) (d : PyData) (as : List Addr), Reads s.heap (.ref a) d as → (d.hasDict = true → sysModules ∉ as) → Shows d → Q (.str d.shown) H → wpAny (model X.prog X.w) X.A (call (.builtin "repr") [.ref a]) (EP X pins σ Q) X.xe s := fun a d as rd hsm S q => by
    have hdp := S.dp
    exact PySem.repr_of_reads' rd S.sh hsm hg (by omega) (fun b o e => e) (fun h' v tk hk => ⟨.str d.shown, H, I.kept (t' := tk) hk, ⟨_, rfl⟩, q⟩) (PyData.shown_fits_bulk (by decide) (by decide) S.lv S.bk)
  cases hr with
  | non =>
    cases rx
    exact PySem.P.repr_of_none ⟨.str _, H, I.tok _, ⟨_, rfl⟩, q⟩
  | bl b =>
    cases rx
    exact PySem.P.repr_of_bool ⟨.str _, H, I.tok _, ⟨_, rfl⟩, q⟩
  | int i h =>
    obtain ⟨tk, rfl⟩ := rx
    exact PySem.P.repr_of_int h ⟨.str _, H, I.tok _, ⟨_, rfl⟩, q⟩
  | str x h =>
    obtain ⟨tk, rfl⟩ := rx
    exact PySem.P.repr_of_str ⟨.str _, H, I.tok _, ⟨_, rfl⟩, q⟩ h
  | of h1 h2 h3 =>
    cases rx
    obtain ⟨as, ra⟩ := Dp.reads I _ _ _ h1 rfl
    exact fin _ _ as ra (fun z => by rw [h2] at z; cases z) h3 q
  | dct h1 h2 =>
    cases rx
    obtain ⟨as, ra, na⟩ := (Di.dct (K := X.K) h1).reads I rfl
    exact fin _ _ as ra (fun _ => na) h2 q
theorem rd_reprV {K : PySem.W.Frag} {H : Hp} {Q : VK} {x : V} {d : Str} (h : Rp K H x d) (q : Q (.str d) H) : rReprV K [x] H Q := ⟨x, d, rfl, h, q⟩
end U

/-! sizes of shown data, put together from the parts -/
namespace U
open PySem PySem.Spec PyProof.Rows L2
/-- data that repr may be asked of: at most n of them, m deep -/
structure SmD (n m : Nat) (d : PyData) : Prop where
  lv : d.leavesShort 13 = true
  sh : d.showable = true
  bk : d.bulk ≤ n
  dp : d.depth ≤ m
  nd : d.hasDict = false
structure SmDs (n m : Nat) (ds : List PyData) : Prop where
  lv : PyData.leavesShortAll 13 ds = true
  sh : PyData.showableAll ds = true
  bk : PyData.bulkAll ds ≤ n
  dp : PyData.depthAll ds ≤ m
  nd : PyData.hasDictAll ds = false
theorem SmDs.nil : SmDs 0 0 [] := ⟨by simp [PyData.leavesShortAll], by simp [PyData.showableAll], by simp [PyData.bulkAll], by simp [PyData.depthAll], by simp [PyData.hasDictAll]⟩
theorem SmDs.cons {n m n2 m2 : Nat} {d : PyData} {ds : List PyData} (h : SmD n m d) (h2 : SmDs n2 m2 ds) : SmDs (n + 1 + n2) (m + m2) (d :: ds) := by
  obtain ⟨a1, a2, a3, a4, a5⟩ := h
  obtain ⟨b1, b2, b3, b4, b5⟩ := h2
  refine ⟨by rw [PyData.leavesShortAll, a1, b1]; rfl, by rw [PyData.showableAll, a2, b2]; rfl, ?_, ?_, by rw [PyData.hasDictAll, a5, b5]; rfl⟩
  · rw [PyData.bulkAll]
    omega
  · rw [PyData.depthAll]
    omega
theorem SmD.tup {n m : Nat} {ds : List PyData} (h : SmDs n m ds) : SmD n (m + 1) (.tuple ds) := by
  obtain ⟨b1, b2, b3, b4, b5⟩ := h
  exact ⟨by rw [PyData.leavesShort]; exact b1, by rw [PyData.showable]; exact b2, by rw [PyData.bulk]; exact b3, by rw [PyData.depth]; omega, by rw [PyData.hasDict]; exact b5⟩
theorem SmD.lst {n m : Nat} {ds : List PyData} (h : SmDs n m ds) : SmD n (m + 1) (.list ds) := by
  obtain ⟨b1, b2, b3, b4, b5⟩ := h
  exact ⟨by rw [PyData.leavesShort]; exact b1, by rw [PyData.showable]; exact b2, by rw [PyData.bulk]; exact b3, by rw [PyData.depth]; omega, by rw [PyData.hasDict]; exact b5⟩
theorem SmD.mono {n m n2 m2 : Nat} {d : PyData} (h : SmD n m d) (a : n ≤ n2) (b : m ≤ m2) : SmD n2 m2 d := ⟨h.lv, h.sh, Nat.le_trans h.bk a, Nat.le_trans h.dp b, h.nd⟩
theorem SmD.name {x : Str} (h : IsName x) : SmD 8 0 (.str x) := ⟨h.lv, by simp [PyData.showable], h.bk, by simp [PyData.depth], by simp [PyData.hasDict]⟩
theorem SmDs.names : ∀ {xs : List Str}, (∀ x ∈ xs, IsName x) → SmDs (9 * xs.length) 0 (xs.map PyData.str)
  | [], _ => SmDs.nil
  | x :: r, h => by
    have a := SmDs.cons (SmD.name (h x List.mem_cons_self)) (SmDs.names fun y hy => h y (List.mem_cons_of_mem _ hy))
    rw [List.map_cons, List.length_cons]
    exact ⟨a.lv, a.sh, by have := a.bk; omega, a.dp, a.nd⟩
theorem SmDs.of {n m : Nat} : ∀ {ds : List PyData}, (∀ d ∈ ds, SmD n m d) → SmDs ((n + 1) * ds.length) m ds
  | [], _ => ⟨SmDs.nil.lv, SmDs.nil.sh, by simp [PyData.bulkAll], by simp [PyData.depthAll], SmDs.nil.nd⟩
  | d :: ds, h => by
    obtain ⟨a1, a2, a3, a4, a5⟩ := h d List.mem_cons_self
    obtain ⟨b1, b2, b3, b4, b5⟩ := SmDs.of (n := n) (m := m) fun y hy => h y (List.mem_cons_of_mem _ hy)
    refine ⟨by rw [PyData.leavesShortAll, a1, b1]; rfl, by rw [PyData.showableAll, a2, b2]; rfl, ?_, ?_, by rw [PyData.hasDictAll, a5, b5]; rfl⟩
    · rw [PyData.bulkAll, List.length_cons, Nat.mul_succ]
      omega
    · rw [PyData.depthAll]
      omega
theorem Dp.same {K : PySem.W.Frag} {H H' : Hp} {v : V} {d : PyData} (h : Dp K H v d) (s : Same H H') : Dp K H' v d := dp_ext
  (fun a xs q => by
    rcases q with (q | ⟨o, q⟩) | q
    · exact .inl (.inl (s _ _ q))
    · exact .inl (.inr ⟨o, s _ _ q⟩)
    · exact .inr q) (fun a xs q => Same.seqT s q) _ _ h
end U

/-! a pair not in a tuple of pairs; tuples of numbers in a list; lists of lists of numbers compared and shown -/
namespace U
open PySem PySem.Spec PyProof.Rows L2
def rNotInT (K : PySem.W.Frag) : R2 := fun x y H Q => ∃ (d : PyData) (ds : List PyData), Dp K H x d ∧ Dp K H y (.tuple ds) ∧ SeqAt.shaped d = true ∧ SeqAt.shaped (.tuple ds) = true ∧ Q (.bl (!(ds.any fun z => PyData.eqv z d))) H
theorem kNotInT {X : Cx} (K : PySem.W.Frag) (hK : X.K = K) (hu : X.A.units + 65 < cLine) : OpR X (compareOp .NotIn) (rNotInT K) := by
  subst hK
  intro pins s σ H x y v u Q I rx ry ⟨d, ds, hd, he, sd, se, q⟩
  obtain ⟨_, r1⟩ := Dp.reads I _ _ _ hd rx
  obtain ⟨_, r2⟩ := Dp.reads I _ _ _ he ry
  exact SeqAt.notIn_tuple_reads r2 r1 (SeqAt.canLay_of_shaped se) (SeqAt.canLay_of_shaped sd) (room_in_shaped sd hu) ⟨.bl _, H, I, rfl, q⟩
end U

/-! is_node, check_part, check_graph as they raise -/
namespace Law
open PySem PySem.Spec PyProof.Rows L2 U LamX NdefX


abbrev abcQ : List Nat := ("abcdefghijklmnopqrstuvwxyz" : Str).cps.toList
theorem abc_inQ {c : Nat} : c ∈ abcQ ↔ 97 ≤ c ∧ c ≤ 122 := by
  have e : abcQ = (List.range 26).map (· + 97) := by decide +kernel
  rw [e]
  constructor
  · intro h
    obtain ⟨k, hk, rfl⟩ := List.mem_map.mp h
    have := List.mem_range.mp hk
    omega
  · intro h
    exact List.mem_map.mpr ⟨c - 97, List.mem_range.mpr (by omega), by omega⟩
def nmB (s : Str) : Bool := decide (1 ≤ s.length) && (decide (s.length ≤ 8) && s.cps.toList.all fun c => decide (c ∈ abcQ))
theorem nmB_iff {s : Str} : nmB s = true ↔ IsName s := by
  unfold nmB
  rw [Bool.and_eq_true, Bool.and_eq_true, decide_eq_true_eq, decide_eq_true_eq, List.all_eq_true]
  constructor
  · rintro ⟨h1, h2, h3⟩
    exact ⟨h1, h2, fun c hc => abc_inQ.mp (of_decide_eq_true (h3 c hc))⟩
  · intro h
    exact ⟨h.lo, h.hi, fun c hc => decide_eq_true (abc_inQ.mpr (h.ch c hc))⟩
def goodM : V → Bool
  | .str s => nmB s
  | _ => false
def dM : V → PyData
  | .str s => .str s
  | _ => .none
theorem goodM_str {v : V} (h : goodM v = true) : ∃ s, v = .str s ∧ IsName s := by
  cases v with
  | str s => exact ⟨s, rfl, nmB_iff.mp h⟩
  | _ => exact absurd h Bool.false_ne_true
theorem goodM_no {v : V} (h : ¬ ∃ s, v = .str s) : goodM v = false := by
  cases v with
  | str s => exact absurd ⟨s, rfl⟩ h
  | _ => rfl
theorem items_node {K : PySem.W.Frag} {H : Hp} {xs : List V} : ItemsOk K H goodM dM xs := by
  refine ⟨fun x _ g H' _ => ?_, fun x _ y _ g g2 => ?_, fun x _ g => ?_⟩
  · obtain ⟨s, rfl, _⟩ := goodM_str g
    exact .str _
  · obtain ⟨s, rfl, _⟩ := goodM_str g
    obtain ⟨s2, rfl, _⟩ := goodM_str g2
    rfl
  · obtain ⟨s, rfl, _⟩ := goodM_str g
    exact ⟨nofun, by show (PyData.str s).depth ≤ 60; rw [PyData.depth]; decide⟩
/-- a value with short texts -/
def ShS (x : V) : Prop := ∀ s, x = .str s → s.length ≤ 1000
def spIsNdA : Sp := fun vs H Q _ => ∃ x : V, vs = [x] ∧ Ob H x ∧ ShS x ∧ ∀ H' : Hp, Same H H' → Q (.bl (goodM x)) H'
/-- a part of a would-be edge -/
def Pt (H : Hp) (x : V) : Prop := x = .non ∨ (∃ i, x = .int i) ∨ (∃ s, x = .str s ∧ s.length ≤ 1000 ∧ PyData.strOk s = true) ∨ ∃ (a : Addr) (ss : List Str), x = .ref a ∧ (H a = some (.tup (ss.map V.str)) ∨ H a = some (.lst (ss.map V.str))) ∧ ∀ s ∈ ss, s.length ≤ 1000 ∧ PyData.strOk s = true
/-- an item of the nodes or of the edges -/
def It1 (H : Hp) (v : V) : Prop := Pt H v ∨ (∃ a, v = .ref a ∧ H a = some (.dK [])) ∨ ∃ a xs, v = .ref a ∧ H a = some (.tup xs) ∧ ∀ x ∈ xs, Pt H x
theorem Pt.ext {H H' : Hp} {v : V} (h : Pt H v) (e : ∀ a o, v = .ref a → H a = some o → (∀ ps, o ≠ .tbl ps) → H' a = some o) : Pt H' v := by
  rcases h with h | h | h | ⟨a, ss, rfl, h, ok⟩
  · exact .inl h
  · exact .inr (.inl h)
  · exact .inr (.inr (.inl h))
  · refine .inr (.inr (.inr ⟨a, ss, rfl, ?_, ok⟩))
    rcases h with h | h
    · exact .inl (e a _ rfl h nofun)
    · exact .inr (e a _ rfl h nofun)
theorem It1.ext {H H' : Hp} {v : V} (h : It1 H v) (e : ∀ a o, H a = some o → (∀ ps, o ≠ .tbl ps) → H' a = some o) : It1 H' v := by
  rcases h with h | ⟨a, rfl, h⟩ | ⟨a, xs, rfl, h, k⟩
  · exact .inl (h.ext fun a o _ => e a o)
  · exact .inr (.inl ⟨a, rfl, e a _ h nofun⟩)
  · exact .inr (.inr ⟨a, xs, rfl, e a _ h nofun, fun x hx => (k x hx).ext fun a o _ => e a o⟩)
theorem It1.ob {H : Hp} {v : V} (h : It1 H v) : Ob H v ∧ ShS v := by
  rcases h with (rfl | ⟨i, rfl⟩ | ⟨s, rfl, l, _⟩ | ⟨a, ss, rfl, h | h, _⟩) | ⟨a, rfl, h⟩ | ⟨a, xs, rfl, h, _⟩
  · exact ⟨.inl rfl, nofun⟩
  · exact ⟨.inr (.inr (.inl ⟨_, rfl⟩)), nofun⟩
  · exact ⟨.inr (.inr (.inr (.inl ⟨_, rfl⟩))), fun s' e => by cases e; exact l⟩
  · exact ⟨.inr (.inr (.inr (.inr ⟨a, _, rfl, h, .inr (.inl ⟨_, rfl⟩)⟩))), nofun⟩
  · exact ⟨.inr (.inr (.inr (.inr ⟨a, _, rfl, h, .inl ⟨_, rfl⟩⟩))), nofun⟩
  · exact ⟨.inr (.inr (.inr (.inr ⟨a, _, rfl, h, .inr (.inr ⟨_, rfl⟩)⟩))), nofun⟩
  · exact ⟨.inr (.inr (.inr (.inr ⟨a, _, rfl, h, .inr (.inl ⟨_, rfl⟩)⟩))), nofun⟩
/-- its parts, if it is a tuple -/
theorem It1.parts {H : Hp} {a : Addr} {xs : List V} (h : It1 H (.ref a)) (ha : H a = some (.tup xs)) : ∀ x ∈ xs, Pt H x := by
  rcases h with (h | ⟨i, h⟩ | ⟨s, h, _⟩ | ⟨b, ss, h, h2 | h2, ok⟩) | ⟨b, h, h2⟩ | ⟨b, ys, h, h2, k⟩
  · cases h
  · cases h
  · cases h
  · cases h
    rw [ha] at h2
    cases h2
    intro x hx
    obtain ⟨s, hs, rfl⟩ := List.mem_map.mp hx
    exact .inr (.inr (.inl ⟨s, rfl, ok s hs⟩))
  · cases h
    rw [ha] at h2
    cases h2
  · cases h
    rw [ha] at h2
    cases h2
  · cases h
    rw [ha] at h2
    cases h2
    exact k
theorem rd_inChQ {c : Nat} {z : Str} {H : Hp} {Q : VK} (h : Q (.bl (decide (c ∈ z.cps.toList))) H) : rInS (.str ⟨#[c]⟩) (.str z) H Q := ⟨c, z, rfl, rfl, h⟩
theorem shapedQ {ss : List Str} (ok : ∀ s ∈ ss, s.length ≤ 1000 ∧ PyData.strOk s = true) : SeqAt.shaped (.tuple (ss.map PyData.str)) = true ∧ SeqAt.shaped (.list (ss.map PyData.str)) = true := by
  have c : ∀ ss : List Str, (∀ s ∈ ss, s.length ≤ 1000 ∧ PyData.strOk s = true) → PyData.canLayAll0 (ss.map PyData.str) = true ∧ PyData.depthAll (ss.map PyData.str) = 0 := by
    intro ss
    induction ss with
    | nil => exact fun _ => ⟨by simp [PyData.canLayAll0], by simp [PyData.depthAll]⟩
    | cons x r ih =>
      intro h
      obtain ⟨a, b⟩ := ih fun y hy => h y (List.mem_cons_of_mem _ hy)
      have := (h x List.mem_cons_self).2
      simp [PyData.canLayAll0, PyData.canLay0, PyData.depthAll, PyData.depth, a, b, this]
  obtain ⟨a, b⟩ := c ss ok
  unfold SeqAt.shaped
  rw [PyData.canLay0, PyData.canLay0, a, PyData.depth, PyData.depth, b]
  exact ⟨rfl, rfl⟩
theorem dp_strsQ {K : PySem.W.Frag} {H : Hp} : ∀ xs : List Str, DpAll K H (xs.map V.str) (xs.map PyData.str)
  | [] => .nil
  | x :: r => .cons (.str x) (dp_strsQ r)
theorem Pt.dat {K : PySem.W.Frag} {H : Hp} {x : V} (h : Pt H x) : (∃ s, x = .str s ∧ PyData.strOk s = true) ∨ ((∀ s, x ≠ .str s) ∧ ∃ d, Dp K H x d ∧ SeqAt.shaped d = true ∧ ∀ s, PyData.eqv (.str s) d = false) := by
  rcases h with rfl | ⟨i, rfl⟩ | ⟨s, rfl, _, ok⟩ | ⟨a, ss, rfl, h | h, ok⟩
  · exact .inr ⟨nofun, .none, .non, by decide +kernel, fun s => by simp [PyData.eqv]⟩
  · exact .inr ⟨nofun, .int i, .int _, by unfold SeqAt.shaped; simp [PyData.canLay0, PyData.depth], fun s => by simp [PyData.eqv]⟩
  · exact .inl ⟨s, rfl, ok⟩
  · exact .inr ⟨nofun, _, .tup (SqT.of h) (dp_strsQ ss), (shapedQ ok).1, fun s => by simp [PyData.eqv]⟩
  · exact .inr ⟨nofun, _, .lst (SqL.of h) (dp_strsQ ss), (shapedQ ok).2, fun s => by simp [PyData.eqv]⟩
/-- a part is one of the names -/
def inB (ns : List Str) : V → Bool
  | .str s => decide (s ∈ ns)
  | _ => false
theorem inB_str {ns : List Str} {s : Str} : inB ns (.str s) = decide (s ∈ ns) := rfl
theorem inB_no {ns : List Str} {x : V} (h : ∀ s, x ≠ .str s) : inB ns x = false := by
  cases x with
  | str s => exact absurd rfl (h s)
  | _ => rfl
theorem any_in {ns : List Str} {s : Str} : ((ns.map PyData.str).any fun z => PyData.eqv z (.str s)) = decide (s ∈ ns) := by
  induction ns with
  | nil => simp
  | cons y r ih =>
    rw [List.map_cons, List.any_cons, ih]
    have e : PyData.eqv (.str y) (.str s) = decide (y = s) := by
      rw [PyData.eqv]
      rfl
    rw [e, Bool.eq_iff_iff, Bool.or_eq_true, decide_eq_true_eq, decide_eq_true_eq, decide_eq_true_eq, List.mem_cons]
    exact ⟨fun h => h.elim (fun z => .inl z.symm) .inr, fun h => h.elim (fun z => .inl z.symm) .inr⟩
theorem any_no {ns : List Str} {d : PyData} (h : ∀ s, PyData.eqv (.str s) d = false) : ((ns.map PyData.str).any fun z => PyData.eqv z d) = false := by
  rw [List.any_eq_false]
  intro z hz
  obtain ⟨s, _, rfl⟩ := List.mem_map.mp hz
  rw [h s]
  exact Bool.false_ne_true
theorem rd_inPt {K : PySem.W.Frag} {H : Hp} {Q : VK} {p : Addr} {x : V} {ns : List Str} (hp : SqT K H p (ns.map V.str)) (ok : ∀ s ∈ ns, s.length ≤ 1000 ∧ PyData.strOk s = true) (hx : Pt H x) (h : Q (.bl (inB ns x)) H) : rInT K x (.ref p) H Q := by
  rcases hx.dat (K := K) with ⟨s, rfl, so⟩ | ⟨no, d, hd, sd, ne⟩
  · refine ⟨.str s, _, .str s, .tup hp (dp_strsQ ns), by unfold SeqAt.shaped; simp [PyData.canLay0, PyData.depth, so], (shapedQ ok).1, ?_⟩
    rw [any_in, ← inB_str]
    exact h
  · refine ⟨d, _, hd, .tup hp (dp_strsQ ns), sd, (shapedQ ok).1, ?_⟩
    rw [any_no ne, ← inB_no (ns := ns) no]
    exact h
theorem rd_ninPt {K : PySem.W.Frag} {H : Hp} {Q : VK} {p : Addr} {x : V} {ns : List Str} (hp : SqT K H p (ns.map V.str)) (ok : ∀ s ∈ ns, s.length ≤ 1000 ∧ PyData.strOk s = true) (hx : Pt H x) (h : Q (.bl (!inB ns x)) H) : rNotInT K x (.ref p) H Q := by
  rcases hx.dat (K := K) with ⟨s, rfl, so⟩ | ⟨no, d, hd, sd, ne⟩
  · refine ⟨.str s, _, .str s, .tup hp (dp_strsQ ns), by unfold SeqAt.shaped; simp [PyData.canLay0, PyData.depth, so], (shapedQ ok).1, ?_⟩
    rw [any_in, ← inB_str]
    exact h
  · refine ⟨d, _, hd, .tup hp (dp_strsQ ns), sd, (shapedQ ok).1, ?_⟩
    rw [any_no ne, ← inB_no (ns := ns) no]
    exact h
/-- an edge between two of the names -/
def EdgeAt (H : Hp) (ns : List Str) (v : V) (x y : Str) : Prop := ∃ a, v = .ref a ∧ H a = some (.tup [.str x, .str y]) ∧ x ∈ ns ∧ y ∈ ns ∧ sLt x y
def goodE (H : Hp) (ns : List Str) : V → Bool
  | .ref a => match H a with
    | some (.tup [.str x, .str y]) => decide (x ∈ ns) && (decide (y ∈ ns) && decide (x.cps.toList < y.cps.toList))
    | _ => false
  | _ => false
def dEd (H : Hp) : V → PyData
  | .ref a => match H a with
    | some (.tup [.str x, .str y]) => .tuple [.str x, .str y]
    | _ => .none
  | _ => .none
theorem dEd_at {H : Hp} {a : Addr} {x y : Str} (h : H a = some (.tup [.str x, .str y])) : dEd H (.ref a) = .tuple [.str x, .str y] := by
  unfold dEd
  simp only [h]
theorem goodE_of {H : Hp} {ns : List Str} {a : Addr} {x y : Str} (h : H a = some (.tup [.str x, .str y])) : goodE H ns (.ref a) = (decide (x ∈ ns) && (decide (y ∈ ns) && decide (x.cps.toList < y.cps.toList))) := by
  unfold goodE
  simp only [h]
theorem goodE_at {H : Hp} {ns : List Str} {v : V} (h : goodE H ns v = true) : ∃ x y, EdgeAt H ns v x y := by
  cases v with
  | ref a =>
    simp only [goodE] at h
    split at h
    · rename_i x y e
      rw [Bool.and_eq_true, Bool.and_eq_true, decide_eq_true_eq, decide_eq_true_eq, decide_eq_true_eq] at h
      exact ⟨x, y, a, rfl, e, h.1, h.2.1, h.2.2⟩
    · cases h
  | _ => exact absurd h Bool.false_ne_true
/-- no pair of texts -/
theorem goodE_no {H : Hp} {ns : List Str} {v : V} (h : ∀ a x y, v = .ref a → H a ≠ some (.tup [.str x, .str y])) : goodE H ns v = false := by
  cases c : goodE H ns v with
  | false => rfl
  | true =>
    obtain ⟨x, y, a, e1, e2, _⟩ := goodE_at c
    exact absurd e2 (h a x y e1)
theorem goodE_same {H H' : Hp} {ns : List Str} {v : V} (o : Ob H v) (x : ∀ a o, H a = some o → (∀ ps, o ≠ .tbl ps) → H' a = some o) : goodE H' ns v = goodE H ns v := by
  rcases o with rfl | ⟨_, rfl⟩ | ⟨_, rfl⟩ | ⟨_, rfl⟩ | ⟨b, u, rfl, h1, h2⟩
  · rfl
  · rfl
  · rfl
  · rfl
  · have := x b u h1 (fun ps e => by subst e; rcases h2 with ⟨_, h2⟩ | ⟨_, h2⟩ | ⟨_, h2⟩ <;> cases h2)
    simp only [goodE, this, h1]
theorem dEd_same {H H' : Hp} {v : V} (o : Ob H v) (x : ∀ a o, H a = some o → (∀ ps, o ≠ .tbl ps) → H' a = some o) : dEd H' v = dEd H v := by
  rcases o with rfl | ⟨_, rfl⟩ | ⟨_, rfl⟩ | ⟨_, rfl⟩ | ⟨b, u, rfl, h1, h2⟩
  · rfl
  · rfl
  · rfl
  · rfl
  · have := x b u h1 (fun ps e => by subst e; rcases h2 with ⟨_, h2⟩ | ⟨_, h2⟩ | ⟨_, h2⟩ <;> cases h2)
    simp only [dEd, this, h1]
theorem items_edge {K : PySem.W.Frag} {H H2 : Hp} {ns : List Str} {xs : List V} (e : ExtN H H2) : ItemsOk K H2 (goodE H ns) (dEd H) xs := by
  refine ⟨fun x _ g H' s => ?_, fun x _ y _ g g2 => ?_, fun x _ g => ?_⟩
  · obtain ⟨y, z, a, rfl, h, _⟩ := goodE_at g
    rw [dEd_at h]
    exact .tup (SqT.of (s _ _ (e _ _ h nofun))) (.cons (.str _) (.cons (.str _) .nil))
  · obtain ⟨y, z, a, rfl, h, _⟩ := goodE_at g
    obtain ⟨y2, z2, a2, rfl, h2, _⟩ := goodE_at g2
    rw [dEd_at h, dEd_at h2]
    simp [PySem.W.alike, PySem.W.alikeAll]
  · obtain ⟨y, z, a, rfl, h, _⟩ := goodE_at g
    rw [dEd_at h]
    exact ⟨nofun, by simp [PyData.depth, PyData.depthAll]⟩
def ndEdge : Stmt := (defBody s_check_graph).getD 2 (.Pass ⟨0, 0, 0, 0⟩)
abbrev qEdge : Str := ("check_graph" : Str) ++ ".<locals>." ++ "is_edge"
theorem ns_edge : NScope ["edge", "nodes"] ["edge"] ["nodes"] (C8.fnScope ndEdge) := nscope_by (by decide +kernel)
theorem nb_edge : ndefB (defScope s_check_graph) (C8.fnScope ndEdge) ["nodes"] = true := by decide +kernel
def spNdEdge (K : PySem.W.Frag) : List (Option V) → Sp := fun ws vs H Q _ => ∃ (n : Addr) (v : V) (ns : List Str), ws = [some (.ref n)] ∧ vs = [v] ∧ SqT K H n (ns.map V.str) ∧ (∀ s ∈ ns, s.length ≤ 1000 ∧ PyData.strOk s = true) ∧ It1 H v ∧ ∀ H' : Hp, Same H H' → Q (.bl (goodE H ns v)) H'
/-- check_part: FnH -/
def spPart (P : Program) (w : World) (K : PySem.W.Frag) (mg : Str → Option Value) (base : Heap) (C : Addr) : List Env → Heap → Sp := fun l h vs H Q E => ∃ (part : Str) (v : V) (lim fa : Addr) (m : Nat) (Pre : Hp → Prop) (sp : Sp) (good : V → Bool) (D : V → PyData), vs = [.str part, v, .int m, .ref fa] ∧
  Handed P w K mg base 2 l h H fa Pre sp ∧ Ob H v ∧
  (((∀ a xs, v = .ref a → H a ≠ some (.tup xs)) ∧ Fld2 "part" "position" C (.str part) .non H E) ∨
   ∃ (a : Addr) (xs : List V), v = .ref a ∧ H a = some (.tup xs) ∧ xs.length ≤ 100000 ∧ (m < xs.length → Fld2 "part" "position" C (.str part) .non H E) ∧
    (xs.length ≤ m → (∀ H', Same H H' → Pre H') ∧ (∀ x ∈ xs, ∀ (H1 : Hp) (Q1 : VK), Same H H1 → (∀ H2, Same H1 H2 → Q1 (.bl (good x)) H2) → sp [x] H1 Q1 E0) ∧ ItemsOk K H good D xs ∧
      (∀ i : Nat, i < xs.length → badAt good D xs i = true → (∀ j, j < i → badAt good D xs j = false) → Fld2 "part" "position" C (.str part) (.int i) H E) ∧ ((∀ i, i < xs.length → badAt good D xs i = false) → ∀ H', Same H H' → Q .non H')))
structure QDb (P : Program) (w : World) (K : PySem.W.Frag) (mg : Str → Option Value) (base : Heap) : Prop where
  first_invalid : CalH P w K mg base CX0 3 "first_invalid" (spInv P w K mg base 2)
section
variable {P : Program} {w : World} {K : PySem.W.Frag} {mg : Str → Option Value} {base : Heap}
theorem ok_initIG {f : Addr} {fd : FuncData} {C CB : Addr} {x : Str} (F : Fun K "__init__" "InvalidGraph.__init__" s_InvalidGraph_init f fd) (T : OwnX K mg x "part" C CB f) (no2 : PySem.W.findIn K (.ref C) "position" = some none) : FnOk P w K mg base CX0 1 f fd ["self", "part", "position"] (spInit2 C "part" "position") := by
  refine F.ok sc_InvalidGraph_init (fun vs H Q E h => ?_) (fun cdv A outer s H vs Q E hr h => ?_)
  · obtain ⟨a, v1, v2, rfl, _⟩ := h
    rfl
  · obtain ⟨a, v1, v2, rfl, ha, q⟩ := h
    refine ⟨_, pss_cons (ps_expr (pe_binit (x := "InputError") rfl T.gB T.bi (pa_cons (pv 0) (pa_cons pe_str pa_nil)))) (pss_cons (ps_ost (pv 0) (pv 1)) (pss_one (ps_ost (pv 0) (pv 2)))), ?_⟩
    wtm_at "rd"
    refine rd_vei (v := v1) ?_
    wtm_at "rd"
    refine ⟨a, C, _, rfl, by decide, T.ox, ha, ?_⟩
    dsimp only
    refine rd_ost ?_
    wtm_at "rd"
    refine ⟨a, C, rfl, T.ox, T.no, .inl ⟨ha, fun dx n1 n2 => ?_⟩⟩
    dsimp only
    wtm_at "rd"
    refine rd_ost ?_
    wtm_at "rd"
    refine ⟨a, C, rfl, T.ox, no2, .inr ⟨dx, _, upd_same, by rw [upd_ne n2]; exact upd_same, (by show 1 ≤ 900; decide), ?_⟩⟩
    refine q dx _ n1 n2 ?_ upd_same fun b b1 b2 => ?_
    · rw [upd_ne (Ne.symm n2)]
      exact upd_same
    · rw [upd_ne b2, upd_ne b1, upd_ne b2]
theorem ok_isNdA {f : Addr} {fd : FuncData} (F : Fun K "is_node" "is_node" s_is_node f fd) (B : Bt mg) (cM : ∃ u, mg "MAX_NAME" = some u ∧ RelV (.int 8) u) (cL : ∃ u, mg "LETTERS" = some u ∧ RelV (.str "abcdefghijklmnopqrstuvwxyz") u) : FnG P w K mg base CX0 1 f fd ["candidate"] spIsNdA := by
  refine fnG0 F sc_is_node (fun vs H Q E h => ?_) (fun cdv A outer s H vs Q E hr h => ?_)
  · obtain ⟨x, rfl, _⟩ := h
    rfl
  · obtain ⟨x, rfl, ob, sh, q⟩ := h
    have nd := sc_is_node.nd
    have hu := hr.u1
    have sH : Same H H := fun _ _ h => h
    refine ⟨_, (pss_cons (ps_if (PW.pt (pw_or (pt_not (pt_val (pe_callB (kIsi K rfl) (by rfl) B.isinstance bb_isinstance (pa_cons (pv 0) (pa_cons (pe_ty rfl B.str bb_str) pa_nil))))) (pw_or1 (pt_not (pt_chain uLe uLe pe_int (pe_callB (kLen K rfl) (by rfl) B.len bb_len (pa_cons (pv 0) pa_nil)) (pe_gl rfl cM)))))) (pss_one (ps_ret pe_bl)) pss_nil)
  (pss_one (ps_ret (pe_callB (kAll K rfl rfl) (by rfl) B.all bb_all (pa_cons (pe_lc (own := [("letter", 1)]) rfl nd (pi_str (pv 0)) (blkOk_by (own := [("letter", 1)]) (N := nN_is_node) (sc := defScope s_is_node) (by decide +kernel)) (fun _ _ _ _ _ => (pg_name (i := 1) nd rfl (by first | exact Or.inl rfl | exact Or.inr rfl))) (fun _ _ _ _ _ => pts_nil) (fun _ _ _ _ _ => (pe_cmpR op_inS (pv 1) (pe_gl rfl cL) rfl))) pa_nil))))), ?_⟩
    obtain ⟨ty, hty, h1, _⟩ := ob.ty (K := K)
    wtm_at "rd"
    refine rd_isi hty (t := .str) (by decide +kernel) ?_
    by_cases z : ∃ s, x = .str s
    rotate_left
    · rw [show isT ty .str = false from by
        cases z2 : isT ty .str with
        | false => rfl
        | true => exact absurd (h1.mp z2) z]
      wtm_at "rd"
      have := q H sH
      rw [goodM_no z] at this
      exact this
    rw [h1.mpr z]
    obtain ⟨s, rfl⟩ := z
    have l1 := sh s rfl
    have q : ∀ H' : Hp, Same H H' → Q (.bl (nmB s)) H' := q
    wtm_at "rd"
    refine rd_lenS (by omega) ?_
    wtm_at "rd"
    by_cases c1 : 1 ≤ s.length
    rotate_left
    · refine rd_no (by omega) ?_
      wtm_at "rd"
      have := q H sH
      rw [show nmB s = false from by unfold nmB; rw [decide_eq_false c1]; rfl] at this
      exact this
    refine rd_yes (by omega) ?_
    wtm_at "rd"
    by_cases c2 : s.length ≤ 8
    rotate_left
    · refine rd_nyes (by omega) ?_
      wtm_at "rd"
      have := q H sH
      rw [show nmB s = false from by unfold nmB; rw [decide_eq_false c2, Bool.false_and, Bool.and_false]] at this
      exact this
    refine rd_nno (by omega) ?_
    wtm_at "rd"
    refine ⟨_, rfl, s, rfl, ?_⟩
    intro D fD
    have len8 : s.cps.size ≤ 8 := c2
    refine lc_it walk_str (fun i H2 => Same H H2 ∧ H2 D = some (.lst (((s.cps.toList.take i).map fun c => decide (c ∈ abcQ)).map V.bl))) ⟨Same.new fD, upd_same⟩ (fun _ _ _ _ => trivial) ?_ ?_
    · rintro i y H2 H3 hi ⟨s', hD⟩ ⟨rfl, c, hc, rfl⟩
      have hi : i < s.cps.size := hi
      have hi' : i < s.cps.toList.length := by simpa using hi
      have ec : s.cps.toList[i] = c := by
        have := Array.getElem?_eq_some_iff.mp hc
        obtain ⟨_, h⟩ := this
        rw [← h]
        simp
      show gName _ (V.str ⟨#[c]⟩) _ _ _
      wtm_at "rd"
      refine rd_inChQ ?_
      refine ⟨_, hD, by rw [List.length_map, List.length_map, List.length_take]; show _ < sizeLine; exact Nat.lt_of_lt_of_le (by omega : min i s.cps.toList.length < 9) (by decide), same_put s' fD, ?_⟩
      rw [upd_same, take_snoc hi', List.map_append, List.map_append, ec]
      rfl
    · rintro H2 ⟨s', hD⟩
      have e0 : s.cps.toList.take s.cps.size = s.cps.toList := List.take_of_length_le (by simp)
      rw [e0] at hD
      wtm_at "rd"
      refine rd_allL (SqL.of hD) ?_
      have := q H2 s'
      rw [show nmB s = ((s.cps.toList.map fun c => decide (c ∈ abcQ)).all id) from by
        unfold nmB
        rw [decide_eq_true c1, decide_eq_true c2, Bool.true_and, Bool.true_and, List.all_map]
        rfl] at this
      exact this
theorem nd_edge (B : Bt mg) {f : Addr} {cl : List (Str × Addr)} {c : Addr} : NdR P w K mg base CX0 1 f (NF.of ndEdge "is_edge" qEdge cl c) ["edge"] ["nodes"] (spNdEdge K) := by
  refine ndR_of (N := ["edge", "nodes"]) ns_edge (fun d m t us hl => match us, hl with | [_], _ => rfl) (fun ws vs H Q E h => ?_) (fun A out s H vs ws Q E hr hl h => ?_)
  · obtain ⟨g, v, ns, rfl, rfl, _⟩ := h
    rfl
  · obtain ⟨n, v, ns, rfl, rfl, hn, ok, it, q⟩ := h
    have nd : (["edge", "nodes"] : List Str).Nodup := by decide
    have hu := hr.u1
    have hu65 : (A.deeper (envF (NF.of ndEdge "is_edge" qEdge cl c) f s.heap.objs.size)).units + 65 < cLine := by
      have := hr.u100
      omega
    have sH : Same H H := fun _ _ h => h
    refine ⟨_, pss_cons (ps_if (PW.pt (pw_or (pt_not (pt_val (pe_callB (kIsi K rfl) (by rfl) B.isinstance bb_isinstance (pa_cons (pv 0) (pa_cons (pe_ty rfl B.tuple bb_tuple) pa_nil))))) (pw_or1 (pt_cmpR (kNe K rfl hr.u64) (pe_callB (kLen K rfl) (by rfl) B.len bb_len (pa_cons (pv 0) pa_nil)) pe_int (nomark _))))) (pss_one (ps_ret pe_bl)) pss_nil) (pss_one (ps_ret (pe_and (pe_cmpR (kInT K rfl hu65) (pe_ix (kIx K rfl) (pv 0) pe_int (fun _ _ => rfl)) (pv 1) rfl) (pe_and (pe_cmpR (kInT K rfl hu65) (pe_ix (kIx K rfl) (pv 0) pe_int (fun _ _ => rfl)) (pv 1) rfl) (pe_one (pe_cmpR uLt (pe_ix (kIx K rfl) (pv 0) pe_int (fun _ _ => rfl)) (pe_ix (kIx K rfl) (pv 0) pe_int (fun _ _ => rfl)) (nomark _))))))), ?_⟩
    wtm_at "rd"
    obtain ⟨ty, hty, _, h2⟩ := it.ob.1.ty (K := K)
    refine rd_isi hty (t := .tup) (by decide +kernel) ?_
    by_cases z : ∃ a xs, v = .ref a ∧ H a = some (.tup xs)
    rotate_left
    · rw [show isT ty .tup = false from by
        cases z2 : isT ty .tup with
        | false => rfl
        | true => exact absurd (h2.mp z2) z]
      wtm_at "rd"
      have := q H sH
      rw [goodE_no (fun a x y e1 e2 => z ⟨a, _, e1, e2⟩)] at this
      exact this
    rw [h2.mpr z]
    obtain ⟨a, xs, rfl, ha⟩ := z
    have parts := it.parts ha
    wtm_at "rd"
    refine rd_lenT (SqT.of ha) ?_
    wtm_at "rd"
    by_cases c2 : xs.length = 2
    rotate_left
    · refine rd_nyes (by omega) ?_
      wtm_at "rd"
      have := q H sH
      rw [goodE_no (fun b x y e1 e2 => by
        rw [← V.ref.inj e1, ha] at e2
        cases e2
        exact c2 rfl)] at this
      exact this
    refine rd_nno (by omega) ?_
    obtain ⟨x, y, rfl⟩ : ∃ x y, xs = [x, y] := by
      match xs, c2 with
      | [x, y], _ => exact ⟨x, y, rfl⟩
    have px := parts x List.mem_cons_self
    have py := parts y (List.mem_cons_of_mem _ List.mem_cons_self)
    have fin : ∀ b : Bool, goodE H ns (.ref a) = b → Q (.bl b) H := fun b e => by
      have := q H sH
      rw [e] at this
      exact this
    have noX : (∀ s, x ≠ .str s) ∨ (∀ s, y ≠ .str s) → goodE H ns (.ref a) = false := fun h => goodE_no fun b s s2 e1 e2 => by
      rw [← V.ref.inj e1, ha] at e2
      cases e2
      rcases h with h | h
      · exact h s rfl
      · exact h s2 rfl
    wtm_at "rd"
    refine rd_ixT (SqT.of ha) (v := x) rfl ?_
    wtm_at "rd"
    refine rd_inPt hn ok px ?_
    cases bx : inB ns x with
    | false =>
      wtm_at "rd"
      refine fin false ?_
      by_cases zx : ∃ s, x = .str s
      · obtain ⟨s, rfl⟩ := zx
        by_cases zy : ∃ s, y = .str s
        · obtain ⟨s2, rfl⟩ := zy
          rw [goodE_of ha, ← inB_str, bx]
          rfl
        · exact noX (.inr fun s e => zy ⟨s, e⟩)
      · exact noX (.inl fun s e => zx ⟨s, e⟩)
    | true =>
      wtm_at "rd"
      refine rd_ixT (SqT.of ha) (v := y) rfl ?_
      wtm_at "rd"
      refine rd_inPt hn ok py ?_
      obtain ⟨s, rfl⟩ : ∃ s, x = .str s := by
        cases x with
        | str s => exact ⟨s, rfl⟩
        | _ => exact absurd bx Bool.false_ne_true
      cases by_ : inB ns y with
      | false =>
        wtm_at "rd"
        refine fin false ?_
        by_cases zy : ∃ s, y = .str s
        · obtain ⟨s2, rfl⟩ := zy
          rw [goodE_of ha, ← inB_str, ← inB_str, bx, by_]
          rfl
        · exact noX (.inr fun s e => zy ⟨s, e⟩)
      | true =>
        obtain ⟨s2, rfl⟩ : ∃ s, y = .str s := by
          cases y with
          | str s => exact ⟨s, rfl⟩
          | _ => exact absurd by_ Bool.false_ne_true
        wtm_at "rd"
        refine rd_ixT (SqT.of ha) (v := .str s) rfl ?_
        wtm_at "rd"
        refine rd_ixT (SqT.of ha) (v := .str s2) rfl ?_
        wtm_at "rd"
        refine fin _ ?_
        rw [goodE_of ha, ← inB_str, ← inB_str, bx, by_, Bool.true_and, Bool.true_and]
theorem ok_part {f : Addr} {fd : FuncData} {CE CB : Addr} (F : Fun K "check_part" "check_part" s_check_part f fd) (B : Bt mg) (C : QDb P w K mg base) (TE : ErrX2 P w K mg base "InvalidGraph" "part" "position" CE CB) : FnH P w K mg base (L2.CX P w) 4 f fd ["part", "items", "limit", "is_valid"] (spPart P w K mg base CE) := by
  refine fnH F sc_check_part (fun l h vs H Q E z => ?_) (fun cdv A outer s H vs Q E hr h => ?_)
  · obtain ⟨part, v, lim, fa, m, Pre, sp, good, D, rfl, _⟩ := z
    rfl
  · obtain ⟨part, v, lim, fa, m, Pre, sp, good, D, rfl, hw, ob, alt⟩ := h
    have nd := sc_check_part.nd
    have hu := hr.u1
    refine ⟨_, (pss_cons (ps_if (PW.pt (pw_or (pt_not (pt_val (pe_callB (kIsi K rfl) (by rfl) B.isinstance bb_isinstance (pa_cons (pv 1) (pa_cons (pe_ty rfl B.tuple bb_tuple) pa_nil))))) (pw_or1 (pt_cmpR uGt (pe_callB (kLen K rfl) (by rfl) B.len bb_len (pa_cons (pv 1) pa_nil)) (pv 2) (nomark _))))) (pss_one (ps_rz2 TE hr (by decide) rfl (takes_of rfl rfl rfl rfl) rfl (pv 0) pe_non)) pss_nil)
  (pss_cons (ps_set (i := 4) nd rfl (by first | exact Or.inl rfl | exact Or.inr rfl) (pe_cHo C.first_invalid hr (by decide) rfl hw rfl (frs_own rfl) (pa_cons (pv 1) (pa_cons (pv 3) pa_nil))))
  (pss_one (ps_if (pt_cmpR uIsNot (pv 4) pe_non (nomark _)) (pss_one (ps_rz2 TE hr (by decide) rfl (takes_of rfl rfl rfl rfl) rfl (pv 0) (pv 4))) pss_nil)))), ?_⟩
    wtm_at "rd"
    have er0 : ∀ {E1 : XK} {v2 : V} {H1 : Hp}, Fld2 "part" "position" CE (.str part) v2 H1 E1 → [V.str part, v2].length ≤ 1000 ∧ ∀ a, H1 a = none → spInit2 CE "part" "position" (.ref a :: ([V.str part, v2] ++ [])) (upd H1 a (exo a CE none)) (fun w H2 => w = .non ∧ ∃ (d : Addr) (fs : List (Str × V)), H2 a = some (exo a CE (some d)) ∧ H2 d = some (exd d fs) ∧ H1 d = none ∧ E1 (.ref CE) (some d) (upd (del H2 a) d (.xd fs))) (fun _ _ _ => False) := fun er => rd_mk2 fun d H' s' _ hd => er d H' s' hd
    obtain ⟨ty, hty, _, h2⟩ := ob.ty (K := K)
    refine rd_isi hty (t := .tup) (by decide +kernel) ?_
    rcases alt with ⟨nt, er⟩ | ⟨a, xs, rfl, ha, len, big, rest⟩
    · rw [show isT ty .tup = false from by
        cases z : isT ty .tup with
        | false => rfl
        | true =>
          obtain ⟨b, ys, e1, e2⟩ := h2.mp z
          exact absurd e2 (nt b ys e1)]
      wtm_at "rd"
      refine rd_rz2 ?_
      wtm_at "rd"
      exact er0 er
    rw [h2.mpr ⟨a, xs, rfl, ha⟩]
    wtm_at "rd"
    refine rd_lenT (SqT.of ha) ?_
    wtm_at "rd"
    by_cases c : m < xs.length
    · refine rd_yes (by omega) ?_
      wtm_at "rd"
      refine rd_rz2 ?_
      wtm_at "rd"
      exact er0 (big c)
    refine rd_no (by omega) ?_
    obtain ⟨pre, call, items, er, q⟩ := rest (by omega)
    wtm_at "rd"
    refine rd_cHd ?_
    wtm_at "rd"
    intro hh held
    refine ⟨a, fa, xs, Pre, sp, good, D, rfl, SqT.of ha, len, held, pre, call, items, fun i hi bad bef H2 s2 => ?_, fun ok H2 s2 => ?_⟩
    · wtm_at "rd"
      refine rd_nyes (fun z => by cases z) ?_
      refine rd_rz2 ?_
      wtm_at "rd"
      exact er0 fun d H' s' hd => er i hi bad bef d H' (s2.trans s') hd
    · wtm_at "rd"
      exact q ok H2 s2
/-- no tuple -/
def NTup (H : Hp) (v : V) : Prop := ∀ a xs, v = .ref a → H a ≠ some (.tup xs)
def PartOk (H : Hp) (v : V) : Prop := Ob H v ∧ ∀ a xs, v = .ref a → H a = some (.tup xs) → xs.length ≤ 100000 ∧ ∀ x ∈ xs, It1 H x
/-- what becomes of the nodes or of the edges -/
def PartR (H : Hp) (part : Str) (m : Nat) (good : V → Bool) (D : V → PyData) (v : V) (r : Option (Str × V)) : Prop :=
  (NTup H v ∧ r = some (part, .non)) ∨ ∃ a xs, v = .ref a ∧ H a = some (.tup xs) ∧ ((m < xs.length ∧ r = some (part, .non)) ∨ (xs.length ≤ m ∧ ((∃ i : Nat, i < xs.length ∧ badAt good D xs i = true ∧ (∀ j, j < i → badAt good D xs j = false) ∧ r = some (part, .int i)) ∨ ((∀ i, i < xs.length → badAt good D xs i = false) ∧ r = none))))
/-- what becomes of a would-be graph -/
def RG (H : Hp) (v : V) (r : Option (Str × V)) : Prop := (Ob H v ∧ NTup H v ∧ r = some (("form" : Str), V.non)) ∨ ∃ a xs, v = .ref a ∧ H a = some (.tup xs) ∧ ((xs.length ≠ 2 ∧ r = some (("form" : Str), V.non)) ∨ ∃ vn ve, xs = [vn, ve] ∧ PartOk H vn ∧ PartOk H ve ∧
  ((∃ x, PartR H "nodes" 40 goodM dM vn (some x) ∧ r = some x) ∨ ∃ (n : Addr) (ns : List Str), vn = .ref n ∧ H n = some (.tup (ns.map V.str)) ∧ PartR H "nodes" 40 goodM dM vn none ∧ (∀ s ∈ ns, IsName s) ∧ PartR H "edges" 120 (goodE H ns) (dEd H) ve r))
def spCkGr (T : List (Addr × Str)) (C : Addr) : Sp := fun vs H Q E => ∃ (v : V) (r : Option (Str × V)), vs = [v] ∧ Tabs T H ∧ RG H v r ∧ (r = none → ∀ H', ExtN H H' → Tabs T H' → Q .non H') ∧ ∀ part pos, r = some (part, pos) → Fld2Y T "part" "position" C (.str part) pos H E
theorem PartOk.ext {H H' : Hp} {v : V} (h : PartOk H v) (x : ExtN H H') : PartOk H' v := by
  refine ⟨h.1.ext fun b o h z => x b o h z, fun a xs e ha => ?_⟩
  subst e
  rcases h.1 with z | ⟨_, z⟩ | ⟨_, z⟩ | ⟨_, z⟩ | ⟨b, o, z, h1, h2⟩
  · cases z
  · cases z
  · cases z
  · cases z
  · cases z
    have h3 := x a o h1 (fun ps e => by subst e; rcases h2 with ⟨_, h2⟩ | ⟨_, h2⟩ | ⟨_, h2⟩ <;> cases h2)
    rw [ha] at h3
    cases h3
    obtain ⟨l, k⟩ := h.2 a xs rfl h1
    exact ⟨l, fun y hy => (k y hy).ext fun b o h z => x b o h z⟩
theorem PartR.ext {H H' : Hp} {part : Str} {m : Nat} {good : V → Bool} {D : V → PyData} {v : V} {r : Option (Str × V)} (h : PartR H part m good D v r) (ob : Ob H v) (x : ExtN H H') : PartR H' part m good D v r := by
  rcases h with ⟨nt, e⟩ | ⟨a, xs, rfl, ha, k⟩
  · exact .inl ⟨fun a xs e2 => Law.Ob.noTup ob nt x e2, e⟩
  · exact .inr ⟨a, xs, rfl, x _ _ ha nofun, k⟩
theorem part_sp {P : Program} {w : World} {K : PySem.W.Frag} {mg : Str → Option Value} {base : Heap} {C fa : Addr} {l : List Env} {h : Heap} {H : Hp} {part : Str} {m : Nat} {good : V → Bool} {D : V → PyData} {v : V} {r : Option (Str × V)} {Pre : Hp → Prop} {sp : Sp} {Q : VK} {E : XK} (p : PartR H part m good D v r) (ok : PartOk H v) (hw : Handed P w K mg base 2 l h H fa Pre sp) (pre : ∀ H', Same H H' → Pre H')
    (call : ∀ a xs, v = .ref a → H a = some (.tup xs) → ∀ x ∈ xs, ∀ (H1 : Hp) (Q1 : VK), Same H H1 → (∀ H2, Same H1 H2 → Q1 (.bl (good x)) H2) → sp [x] H1 Q1 E0) (items : ∀ xs, ItemsOk K H good D xs)
    (er : ∀ pos, r = some (part, pos) → Fld2 "part" "position" C (.str part) pos H E) (q : r = none → ∀ H', Same H H' → Q .non H') : spPart P w K mg base C l h [.str part, v, .int m, .ref fa] H Q E := by
  refine ⟨part, v, fa, fa, m, Pre, sp, good, D, rfl, hw, ok.1, ?_⟩
  rcases p with ⟨nt, e⟩ | ⟨a, xs, rfl, ha, alt⟩
  · exact .inl ⟨nt, er _ e⟩
  · refine .inr ⟨a, xs, rfl, ha, (ok.2 a xs rfl ha).1, fun big => ?_, fun le => ⟨pre, call a xs rfl ha, items xs, fun i hi bad bef => ?_, fun good => ?_⟩⟩
    · rcases alt with ⟨_, e⟩ | ⟨le, _⟩
      · exact er _ e
      · omega
    · rcases alt with ⟨gt, _⟩ | ⟨_, ⟨k, k1, k2, k3, e⟩ | ⟨k, _⟩⟩
      · omega
      · refine er _ (?_ : r = some (part, .int i))
        rcases Nat.lt_trichotomy k i with z | z | z
        · rw [bef k z] at k2
          cases k2
        · rw [e, z]
        · rw [k3 i z] at bad
          cases bad
      · rw [k i hi] at bad
        cases bad
    · rcases alt with ⟨gt, _⟩ | ⟨_, ⟨k, k1, k2, _⟩ | ⟨_, e⟩⟩
      · omega
      · rw [good k k1] at k2
        cases k2
      · exact q e
theorem name_len {s : Str} (h : IsName s) : s.length ≤ 1000 ∧ PyData.strOk s = true := ⟨Nat.le_trans h.hi (by decide), h.sok⟩
structure QDc (P : Program) (w : World) (K : PySem.W.Frag) (mg : Str → Option Value) (base : Heap) (CE fn : Addr) : Prop where
  check_part : CalH P w K mg base (L2.CX P w) 4 "check_part" (spPart P w K mg base CE)
  is_node : Cal P w K mg base CX0 1 "is_node" spIsNdA
  MAX_NODES : ∃ u, mg "MAX_NODES" = some u ∧ RelV (.int 40) u
  MAX_EDGES : ∃ u, mg "MAX_EDGES" = some u ∧ RelV (.int 120) u
theorem ok_ckGr {f : Addr} {fd : FuncData} {c Pt : Addr} {T : List (Addr × Str)} {CE CB fn : Addr} (F : FunC K "check_graph" "check_graph" s_check_graph f fd c) (B : Bt mg) (C : QDc P w K mg base CE fn) (mN : mg "is_node" = some (.ref fn)) (TE : ErrX2 P w K mg base "InvalidGraph" "part" "position" CE CB) (TB : TabB base mg c Pt) (hT : (Pt, qEdge) ∈ T) (hu' : ∀ y ∈ T, y.1 = Pt → y.2 = qEdge) : FnG P w K mg base (L2.CX P w) 5 f fd ["candidate"] (spCkGr T CE) := by
  refine fnGC F sc_check_graph (fun vs H Q E h => ?_) (fun A outer s H vs Q E hr h => ?_)
  · obtain ⟨v, r, rfl, _⟩ := h
    rfl
  · obtain ⟨v, r, rfl, tabs, rg, q, er⟩ := h
    have nd := sc_check_graph.nd
    have hu := hr.u1
    have gN : ∃ u, mg "is_node" = some u ∧ RelV (.ref fn) u := ⟨_, mN, rfl⟩
    refine ⟨_, (pss_cons (ps_if (PW.pt (pw_or (pt_not (pt_val (pe_callB (kIsi K rfl) (by rfl) B.isinstance bb_isinstance (pa_cons (pv 0) (pa_cons (pe_ty rfl B.tuple bb_tuple) pa_nil))))) (pw_or1 (pt_cmpR (kNe K rfl hr.u64) (pe_callB (kLen K rfl) (by rfl) B.len bb_len (pa_cons (pv 0) pa_nil)) pe_int (nomark _))))) (pss_one (ps_rz2 TE hr (by decide) rfl (takes_of rfl rfl rfl rfl) rfl pe_str pe_non)) pss_nil)
  (pss_cons (ps_asg (pv 0) (kg_tup (n := 2) K rfl rfl (pgs_cons (pg_name (i := 1) nd rfl (by first | exact Or.inl rfl | exact Or.inr rfl)) (pgs_cons (pg_name (i := 2) nd rfl (by first | exact Or.inl rfl | exact Or.inr rfl)) pgs_nil))))
  (pss_cons (ps_ndefS (st := ndEdge) (T := NT T) (nm := fun _ _ => qEdge) (c := c) (P := Pt) (i := 3) rfl TB rfl (nt_mem hT) rfl (nt_one hu') (ndef_free nb_edge) rfl rfl rfl nd rfl (Or.inl rfl) (Or.inl rfl))
  (pss_cons (ps_expr (pe_cHmx C.check_part hr (by decide) rfl (takes_of rfl rfl rfl rfl) (pa_cons pe_str (pa_cons (pv 1) (pa_cons (pe_gl rfl C.MAX_NODES) (pa_cons (pe_gl rfl gN) pa_nil))))))
  (pss_one (ps_expr (pe_cHcx (js := [1]) (fr := ["nodes"]) C.check_part hr (by decide) rfl (takes_of rfl rfl rfl rfl) (fun ok => Caps.made (scope := C8.fnScope ndEdge) ok (ndef_free nb_edge) (ndef_fr nb_edge) rfl) (fun _ _ _ => rfl) (pa_cons pe_str (pa_cons (pv 2) (pa_cons (pe_gl rfl C.MAX_EDGES) (pa_cons (pv 3) pa_nil))))))))))), ?_⟩
    wtm_at "rd"
    have er0 : ∀ {E1 : XK} {v1 v2 : V} {H1 : Hp}, Fld2 "part" "position" CE v1 v2 H1 E1 → [v1, v2].length ≤ 1000 ∧ ∀ a, H1 a = none → spInit2 CE "part" "position" (.ref a :: ([v1, v2] ++ [])) (upd H1 a (exo a CE none)) (fun w H2 => w = .non ∧ ∃ (d : Addr) (fs : List (Str × V)), H2 a = some (exo a CE (some d)) ∧ H2 d = some (exd d fs) ∧ H1 d = none ∧ E1 (.ref CE) (some d) (upd (del H2 a) d (.xd fs))) (fun _ _ _ => False) := fun er => rd_mk2 fun d H' s' _ hd => er d H' s' hd
    have erS : ∀ {part : Str} {pos : V} {H1 : Hp}, r = some (part, pos) → ExtN H H1 → Tabs T H1 → Fld2 "part" "position" CE (.str part) pos H1 E := fun e x t d H' s hd => er _ _ e d H' (x.trans (ExtN.of fun b o h => s b o h)) (t.ext fun b o h => s b o h) hd
    have xH : ExtN H H := ExtN.of fun _ _ h => h
    rcases rg with ⟨ob, nt, e⟩ | ⟨a, xs, rfl, ha, rg⟩
    · obtain ⟨ty, hty, _, h2⟩ := ob.ty (K := K)
      refine rd_isi hty (t := .tup) (by decide +kernel) ?_
      rw [show isT ty .tup = false from by
        cases z : isT ty .tup with
        | false => rfl
        | true =>
          obtain ⟨b, ys, e1, e2⟩ := h2.mp z
          exact absurd e2 (nt b ys e1)]
      wtm_at "rd"
      refine rd_rz2 ?_
      wtm_at "rd"
      exact er0 (erS e xH tabs)
    refine rd_isi (ty_tup ha) (t := .tup) (by decide +kernel) ?_
    rw [show isT .tup .tup = true from by decide +kernel]
    wtm_at "rd"
    refine rd_lenT (SqT.of ha) ?_
    wtm_at "rd"
    rcases rg with ⟨ne, e⟩ | ⟨vn, ve, rfl, pn, pe, alt⟩
    · refine rd_nyes (by omega) ?_
      wtm_at "rd"
      refine rd_rz2 ?_
      wtm_at "rd"
      exact er0 (erS e xH tabs)
    refine rd_nno (by rfl) ?_
    wtm_at "rd"
    refine rd_unp (SqT.of ha) rfl ?_
    wtm_at "rd"
    refine rd_ndef ⟨nt_of tabs, fun fa c' H1 x1 t1 nf hfa hc' => ?_⟩
    have t1 := nt_to t1
    have pn1 := pn.ext x1
    have pe1 := pe.ext x1
    have callN : ∀ {H0 : Hp}, PartOk H0 vn → ∀ a xs, vn = .ref a → H0 a = some (.tup xs) → ∀ x ∈ xs, ∀ (H1 : Hp) (Q1 : VK), Same H0 H1 → (∀ H2, Same H1 H2 → Q1 (.bl (goodM x)) H2) → spIsNdA [x] H1 Q1 E0 := fun {H0} ok a xs e h x hx H1 Q1 s k => by
      obtain ⟨o, sh⟩ := ((ok.2 a xs e h).2 x hx).ob
      exact ⟨x, rfl, o.same s, sh, k⟩
    wtm_at "rd"
    refine rd_cHx ?_
    wtm_at "rd"
    intro hh _
    rcases alt with ⟨⟨prt, pos⟩, p1, e⟩ | ⟨n, ns, rfl, hn, p1, nms, p2⟩
    · refine part_sp (p1.ext pn.1 x1) pn1 (handed_up (C.is_node.handed mN _ _ _) (by decide)) (fun _ _ => trivial) (callN pn1) (fun _ => items_node) (fun pos2 e2 => ?_) (fun z => nomatch z)
      rw [e2] at e
      exact erS e x1 t1
    refine part_sp (p1.ext pn.1 x1) pn1 (handed_up (C.is_node.handed mN _ _ _) (by decide)) (fun _ _ => trivial) (callN pn1) (fun _ => items_node) (fun pos2 e2 => nomatch e2) fun _ H2 s2 => ?_
    have x2 := x1.trans (ExtN.of fun b o h => s2 b o h)
    have t2 := t1.ext fun b o h => s2 b o h
    have pe2 := pe.ext x2
    wtm_at "rd"
    refine rd_cHx ?_
    wtm_at "rd"
    intro hh2 held
    refine part_sp (Pre := fun H3 => H3 fa = some (FnO fa _) ∧ H3 c' = some (CodeO c' _)) (sp := fun vs H Q E => spNdEdge K [some (.ref n)] vs H Q E) (p2.ext pe.1 x2) pe2 (handed_up (k := 1) (.inl ⟨_, _, _, _, _, nd_edge B, held, fun H2 p => p, fun vs H Q E z => z⟩) (by decide)) (fun H3 s3 => ⟨s3 _ _ (s2 _ _ hfa), s3 _ _ (s2 _ _ hc')⟩) (fun b ys e3 hb x hx H3 Q1 s3 k => ?_) (fun _ => items_edge x2) (fun pos2 e2 => erS e2 x2 t2) fun e2 H3 s3 => ?_
    · have x3 := x2.trans (ExtN.of fun b o h => s3 b o h)
      have itH : It1 H x := by
        rcases pe.1 with z | ⟨_, z⟩ | ⟨_, z⟩ | ⟨_, z⟩ | ⟨b2, o, z, h1, h2⟩
        · rw [z] at e3; cases e3
        · rw [z] at e3; cases e3
        · rw [z] at e3; cases e3
        · rw [z] at e3; cases e3
        · rw [z] at e3
          cases e3
          have h3 := x2 b o h1 (fun ps e => by subst e; rcases h2 with ⟨_, h2⟩ | ⟨_, h2⟩ | ⟨_, h2⟩ <;> cases h2)
          rw [hb] at h3
          cases h3
          exact (pe.2 b ys z h1).2 x hx
      refine ⟨n, x, ns, rfl, rfl, SqT.of (x3 _ _ hn nofun), fun s hs => name_len (nms s hs), itH.ext fun b o h z => x3 b o h z, fun H4 s4 => ?_⟩
      have := k H4 s4
      rw [← goodE_same (H' := H3) itH.ob.1 (fun b o h z => x3 b o h z)] at this
      exact this
    · wtm_at "rd"
      exact q e2 H3 (x2.trans (ExtN.of fun b o h => s3 b o h)) (t2.ext fun b o h => s3 b o h)
end
end Law

/-! apply_moves of anything -/
namespace Law
open PySem PySem.Spec PyProof.Rows L2 U


theorem tyx_same {K : PySem.W.Frag} {H H' : Hp} {x : V} {t : Value} (h : TyX K H x t) (s : Same H H') : TyX K H' x t := by
  cases h with
  | base h =>
    cases h with
    | non => exact .base .non
    | bl x => exact .base (.bl x)
    | int x => exact .base (.int x)
    | str x => exact .base (.str x)
    | flt x => exact .base (.flt x)
    | lst e => exact .base (.lst (s _ _ e))
    | frz e => exact .base (.frz (s _ _ e))
    | tup e => exact .base (.tup (s _ _ e))
    | dK e => exact .base (.dK (s _ _ e))
    | dT e => exact .base (.dT (s _ _ e))
    | ins e a b c d f => exact .base (.ins (s _ _ e) a b c d f)
  | byt b => exact .byt b
  | set e => exact .set (s _ _ e)
  | kList e c => exact .kList e c
  | kTuple e c => exact .kTuple e c
  | kDict e c => exact .kDict e c
  | fTuple e => exact .fTuple (s _ _ e)
  | fDict e => exact .fDict (s _ _ e)
theorem CandAt.same {K : PySem.W.Frag} {H H' : Hp} {c : V} {o : Option (Str × Int)} (h : CandAt K H c o) (s : Same H H') : CandAt K H' c o := by
  cases h with
  | odd a b => exact .odd (tyx_same a s) b
  | len a b => exact .len (s _ _ a) b
  | node a b c => exact .node (s _ _ a) (tyx_same b s) c
  | val a b c => exact .val (s _ _ a) (tyx_same b s) c
  | mv a => exact .mv (s _ _ a)
section
variable {P : Program} {w : World} {K : PySem.W.Frag} {mg : Str → Option Value} {base : Heap}
end
end Law

namespace Law
open PySem PySem.Spec PyProof.Rows L2 U


section
variable {P : Program} {w : World} {K : PySem.W.Frag} {mg : Str → Option Value} {base : Heap}
end
end Law

namespace Law
open PySem PySem.Spec PyProof.Rows L2 U


section
variable {P : Program} {w : World} {K : PySem.W.Frag} {mg : Str → Option Value} {base : Heap}
end
end Law

/-! paths found level by level: paths_from, sloped_paths -/
namespace Law
open PySem PySem.Spec PyProof.Rows L2 U


theorem AdjAt.at {H : Hp} {d : Addr} {ns : List Str} {es : List (Str × Str)} {A : Str → Addr} (h : AdjAt H d ns es A) (ok : GrOk ns es) {n : Str} (hn : n ∈ ns) : H (A n) = some (.lst ((nbS es n).map V.str)) := by
  obtain ⟨ys, h1, h2, h3⟩ := h.li n hn
  rw [← nbS_of ok h2 h3]
  exact h1
/-- paths found stand at d -/
structure PathsAt (H : Hp) (d : Addr) (kp : List (Str × List Str)) (A : Str → Addr) : Prop where
  di : H d = some (.dK (kvG (keysF kp) fun n => .ref (A n)))
  li : ∀ c ∈ kp, H (A c.1) = some (.lst (c.2.map V.str))
theorem PathsAt.same {H H' : Hp} {d : Addr} {kp : List (Str × List Str)} {A : Str → Addr} (h : PathsAt H d kp A) (s : Same H H') : PathsAt H' d kp A := ⟨s _ _ h.di, fun c hc => s _ _ (h.li c hc)⟩
theorem kvG_congr {ns : List Str} {F G : Str → V} (h : ∀ n ∈ ns, F n = G n) : kvG ns F = kvG ns G := List.map_congr_left fun n hn => by rw [h n hn]
/-- one more path -/
theorem PathsAt.put {H : Hp} {d t : Addr} {kp : List (Str × List Str)} {A : Str → Addr} {o : Str} {p : List Str} (h : PathsAt H d kp A) (no : o ∉ keysF kp) (ht : H t = some (.lst (p.map V.str))) :
    PathsAt (upd H d (.dK (putK (kvG (keysF kp) fun n => .ref (A n)) (.inr o) (.ref t)))) d (kp ++ [(o, p)]) (updV A o t) := by
  refine ⟨?_, fun c hc => ?_⟩
  · rw [upd_same, kvG_new no, show keysF (kp ++ [(o, p)]) = keysF kp ++ [o] from List.map_append]
    congr 2
    refine kvG_congr fun m _ => ?_
    unfold updV
    by_cases z : m = o
    · rw [if_pos z, if_pos z]
    · rw [if_neg z, if_neg z]
  · unfold updV
    rcases List.mem_append.mp hc with hc | hc
    · rw [if_neg (fun z => no (by rw [← z]; exact List.mem_map_of_mem hc))]
      exact at_upd (ne_of (h.li c hc) h.di (by intro z; cases z)) (h.li c hc)
    · rw [List.mem_singleton] at hc
      subst hc
      rw [if_pos rfl]
      exact at_upd (ne_of ht h.di (by intro z; cases z)) ht
theorem PathsAt.off {H : Hp} {d q : Addr} {kp : List (Str × List Str)} {A : Str → Addr} {xs ys : List V} (h : PathsAt H d kp A) (hq : H q = some (.lst xs)) (off : ∀ c ∈ kp, A c.1 ≠ q) : PathsAt (upd H q (.lst ys)) d kp A :=
  ⟨at_upd (ne_of h.di hq (by intro z; cases z)) h.di, fun c hc => at_upd (off c hc) (h.li c hc)⟩
def slOk (f : Str → Int) (dir : Int) (a b : Str) : Bool := decide (slp f a b = dir)
section
variable {P : Program} {w : World} {K : PySem.W.Frag} {mg : Str → Option Value} {base : Heap}
end
end Law

/-! paths_from, components, root_paths, basis_cycles -/
namespace Law
open PySem PySem.Spec PyProof.Rows L2 U


section
variable {X : Cx} {o e : Expr} {es : List Expr} {to : TE} {t : TA} {apos cpos : Pos}
end
/-- lists of names stand, each at its own place -/
structure ListsAt (H : Hp) (l : Addr) (cs : List (Addr × List Str)) : Prop where
  li : H l = some (.lst (cs.map fun c => V.ref c.1))
  at_ : ∀ c ∈ cs, H c.1 = some (.lst (c.2.map V.str))
theorem ListsAt.same {H H' : Hp} {l : Addr} {cs : List (Addr × List Str)} (h : ListsAt H l cs) (s : Same H H') : ListsAt H' l cs := ⟨s _ _ h.li, fun c hc => s _ _ (h.at_ c hc)⟩
section
variable {P : Program} {w : World} {K : PySem.W.Frag} {mg : Str → Option Value} {base : Heap}
end
end Law

/-! root_paths, basis_cycles, path_sum, windings -/
namespace Law
open PySem PySem.Spec PyProof.Rows L2 U


abbrev rtF (ns : List Str) (es : List (Str × Str)) : List (Str × List Str) := rootsF es (compsF ns es)
section
variable {P : Program} {w : World} {K : PySem.W.Frag} {mg : Str → Option Value} {base : Heap}
end
end Law

/-! slopes as the laws count them; walks drawn -/
namespace Law
open PySem PySem.Spec PyProof.Rows L2 U


theorem use_graphB {H : Hp} {p : Addr} {most : Int} {Q : VK} {E : XK} (h : PoolAt H p) (m0 : 1 ≤ most) (m1 : most ≤ 25)
    (k : ∀ (t g n e st : Addr) (ns ord : List Str) (es : List (Addr × Str × Str)) (f : Str → Int) (H' : Hp), Go p H H' → H' t = some (.tup [.ref g, .ref st]) → GSt H' g n e st ns ord es f → 1 ≤ ns.length → (ns.length : Int) ≤ most → H t = none → H g = none → H st = none → Q (.ref t) H') : spGraph [.ref p, .int most] H Q E := by
  refine ⟨p, most, rfl, h, m0, m1, fun t g n e st ns ord es ws H' go ht hg hs ng nst l1 l2 ok pm so pro el nt => ?_⟩
  have ndo : ord.Nodup := pm.nodup_iff.mpr (asc_nodup ok.names.asc)
  refine k t g n e st ns ord es (numOf ws) H' go ht ⟨hg, ok, pm, by omega, el, ?_, fun x hx => so.at (pm.mem_iff.mpr hx), pro⟩ l1 (by omega) nt ng nst
  rw [← kvs_F so ndo]
  exact hs
section
variable {P : Program} {w : World} {K : PySem.W.Frag} {mg : Str → Option Value} {base : Heap}
end
end Law

/-! shortest_path; closed walks drawn; the law behind moves -/
namespace Law
open PySem PySem.Spec PyProof.Rows L2 U


section
variable {P : Program} {w : World} {K : PySem.W.Frag} {mg : Str → Option Value} {base : Heap}
end
end Law

/-! components as a law finds them: the plain law -/
namespace U
open PySem PySem.Spec PyProof.Rows L2
end U

/-! components as the laws find them -/
namespace Law
open PySem PySem.Spec PyProof.Rows L2 U


section
variable {P : Program} {w : World} {K : PySem.W.Frag} {mg : Str → Option Value} {base : Heap}
end
end Law

/-! as many basis cycles as edges, nodes and components tell: the plain law -/
namespace U
open PySem PySem.Spec PyProof.Rows L2
section
variable {adj : Str → List Str} {ok : Str → Str → Bool} {root : Str}
end
section
variable {ns : List Str} {es : List (Str × Str)}
end
end U

/-! k04: graphs with more edges, basis cycles as the law finds them -/
namespace Law
open PySem PySem.Spec PyProof.Rows L2 U


theorem rd_iEnumT {K : PySem.W.Frag} {ta : TA} {σ : L2.St} {H : Hp} {R : It → Hp → Prop} (h : ta σ H fun vs H1 => ∃ a xs, vs = [.ref a] ∧ SqT K H1 a xs ∧ R (Iet K a) H1) : iEnumT K ta σ H R := h
theorem cutV_drop {xs : List V} {i : Nat} (h : i ≤ xs.length) : cutV xs (some (i : Int)) none = xs.drop i := cutV_from h
def spMore : Sp := fun vs H Q _ => ∃ (p g n e : Addr) (ns : List Str) (es : List (Addr × Str × Str)), vs = [.ref p, .ref g] ∧ PoolAt H p ∧ GrS H g n e ns es ∧ ns.length ≤ 30 ∧
  ∀ (g2 e2 : Addr) (es2 : List (Addr × Str × Str)) (H' : Hp), Go p H H' → GrS H' g2 n e2 ns es2 → Q (.ref g2) H'
/-- the root paths stand at d, as the law lays them -/
structure PthAt (H : Hp) (d : Addr) (ks : List Str) (A : Str → Addr) (ns : List Str) (es : List (Str × Str)) : Prop where
  di : H d = some (.dK (kvG ks fun n => .ref (A n)))
  li : ∀ x ∈ ks, H (A x) = some (.lst ((pth (rtF ns es) x).map V.str))
theorem PthAt.same {H H' : Hp} {d : Addr} {ks : List Str} {A : Str → Addr} {ns : List Str} {es : List (Str × Str)} (h : PthAt H d ks A ns es) (s : Same H H') : PthAt H' d ks A ns es := ⟨s _ _ h.di, fun x hx => s _ _ (h.li x hx)⟩
theorem Go.grs {p : Addr} {H H' : Hp} {g n e : Addr} {ns : List Str} {es : List (Addr × Str × Str)} (hp : PoolAt H p) (b : Go p H H') (h : GrS H g n e ns es) : GrS H' g n e ns es := by
  obtain ⟨ys, hy⟩ := hp.isL
  exact ⟨h.gr.but hy b.but, h.ok, h.l2, h.l3⟩
section
variable {P : Program} {w : World} {K : PySem.W.Frag} {mg : Str → Option Value} {base : Heap}
structure E2a (P : Program) (w : World) (K : PySem.W.Frag) (mg : Str → Option Value) (base : Heap) : Prop where
  _law_draw : Cal P w K mg base CX0 1 "_law_draw" spDraw
theorem ok_more {f : Addr} {fd : FuncData} (F : Fun K "_law_with_more_edges" "_law_with_more_edges" s__law_with_more_edges f fd) (B : Bt mg) (C : E2a P w K mg base) : FnG P w K mg base CX0 2 f fd ["_law_pool_here", "_law_graph"] spMore := by
  refine fnG0 F sc__law_with_more_edges (fun vs H Q E h => ?_) (fun cdv A outer s H vs Q E hr h => ?_)
  · obtain ⟨p, g, n, e, ns, es, rfl, _⟩ := h
    rfl
  · obtain ⟨p, g, n, e, ns, es, rfl, hp, gs, nl, q⟩ := h
    have nd := sc__law_with_more_edges.nd
    have hu := hr.u1
    have hu65 : (A.deeper (envOfC "_law_with_more_edges" (defScope s__law_with_more_edges) s.heap.objs.size f cdv)).units + 65 < cLine := by
      have := hr.u100
      omega
    refine ⟨_, (pss_cons (ps_if (pt_cmpR uGt (pe_c C._law_draw hr (by decide) rfl (pa_cons (pv 0) (pa_cons pe_int pa_nil))) pe_int (nomark _)) (pss_one (ps_ret (pv 1))) pss_nil)
  (pss_cons (ps_set (i := 2) nd rfl (by first | exact Or.inl rfl | exact Or.inr rfl) (pe_callTy (kList K rfl rfl) (by rfl) B.list bb_list (pa_cons (pe_ix (kIx K rfl) (pv 1) pe_int (fun _ _ => rfl)) pa_nil)))
  (pss_cons (ps_for PassesOwn.never rfl (ki_enumT K rfl (by rfl) B.enumerate (pa_cons (pe_ix (kIx K rfl) (pv 1) pe_int (fun _ _ => rfl)) pa_nil)) (kg_tup (n := 2) K rfl rfl (pgs_cons (pg_name (i := 3) nd rfl (by first | exact Or.inl rfl | exact Or.inr rfl)) (pgs_cons (pg_name (i := 4) nd rfl (by first | exact Or.inl rfl | exact Or.inr rfl)) pgs_nil))) (pss_one (ps_for PassesOwn.never rfl (ki_tup K rfl (pe_slice (kSl K rfl) (pe_ix (kIx K rfl) (pv 1) pe_int (fun _ _ => rfl)) (po_some (pe_op (kAdd K rfl) (pv 3) pe_int)) po_none)) (pg_name (i := 5) nd rfl (by first | exact Or.inl rfl | exact Or.inr rfl)) (pss_one (ps_if (PW.pt (pw_and (pt_cmpR (kNinL K rfl hu65) (pe_tup (pa_cons (pv 4) (pa_cons (pv 5) pa_nil))) (pv 2) rfl) (pw_and1 (pt_cmpR (kEq K rfl hr.u64) (pe_c C._law_draw hr (by decide) rfl (pa_cons (pv 0) (pa_cons pe_int pa_nil))) pe_int (nomark _))))) (pss_one (ps_expr (pe_bm PySem.F.plainAttrs_list PySem.F.slot_list_append PySem.F.type_list_append mt_append (pv 2) (pa_cons (pe_tup (pa_cons (pv 4) (pa_cons (pv 5) pa_nil))) pa_nil)))) pss_nil)))))
  (pss_one (ps_ret (pe_tup (pa_cons (pe_ix (kIx K rfl) (pv 1) pe_int (fun _ _ => rfl)) (pa_cons (pe_callTy (kTuple K rfl) (by rfl) B.tuple bb_tuple (pa_cons (pe_callB (kSorted K rfl hr.u64) (by rfl) B.sorted bb_sorted (pa_cons (pv 2) pa_nil)) pa_nil)) pa_nil)))))))), ?_⟩
    have sok : ∀ x ∈ ns, PyData.strOk x = true := fun x hx => (gs.ok.names.ok x hx).sok
    have asc := gs.ok.names.asc
    wtm_at "rd"
    refine use_draw hp (by decide) (by decide) fun r H1 r0 r1 g1 => ?_
    wtm_at "rd"
    refine rd_split (fun c => ?_) (fun c => ?_)
    · wtm_at "rd"
      exact q g e es H1 g1 (Go.grs hp g1 gs)
    have gs1 := Go.grs hp g1 gs
    wtm_at "rd"
    refine rd_ixT (SqT.of gs1.gr.top) (v := .ref e) rfl ?_
    refine rd_listT (SqT.of gs1.gr.edges) ?_
    intro le fle
    have npl := g1.pool.ne fle
    have fle0 := g1.free _ fle
    have g2 := g1.new (o := .lst (es.map fun x => V.ref x.1)) fle
    have hle2 := @upd_same H1 le (.lst (es.map fun x => V.ref x.1))
    have gs2 := gs1.same (Same.new (o := .lst (es.map fun x => V.ref x.1)) fle)
    generalize upd H1 le (.lst (es.map fun x => V.ref x.1)) = H2 at g2 hle2 gs2
    wtm_at "rd"
    refine rd_iEnumT ?_
    wtm_at "rd"
    refine rd_ixT (SqT.of gs2.gr.top) (v := .ref n) rfl ?_
    wtm_at "rd"
    refine ⟨n, _, rfl, SqT.of gs2.gr.nodes, ?_⟩
    have bound : ∀ (xs : List (Addr × Str × Str)), (xs.map (·.2)).Nodup → (∀ x ∈ xs, sLt x.2.1 x.2.2 ∧ x.2.1 ∈ ns ∧ x.2.2 ∈ ns) → xs.length ≤ 900 := by
      intro xs h1 h2
      have := nodup_len h1 (ys := ns.flatMap fun a => ns.map fun b => (a, b)) fun y hy => by
        obtain ⟨x, hx, rfl⟩ := List.mem_map.mp hy
        exact List.mem_flatMap.mpr ⟨x.2.1, (h2 x hx).2.1, List.mem_map.mpr ⟨x.2.2, (h2 x hx).2.2, rfl⟩⟩
      have ln : ∀ (as bs : List Str), (as.flatMap fun a => bs.map fun b => (a, b)).length = as.length * bs.length := by
        intro as bs
        induction as with
        | nil => simp
        | cons a r ih => rw [List.flatMap_cons, List.length_append, ih, List.length_map, List.length_cons, Nat.succ_mul]; omega
      rw [ln, List.length_map] at this
      have : ns.length * ns.length ≤ 30 * 30 := Nat.mul_le_mul nl nl
      omega
    have step : ∀ {H' : Hp} {xs : List (Addr × Str × Str)} {T : Addr} {o : HO}, Go p H H' → H' T = none → H' le = some (.lst (xs.map fun x => V.ref x.1)) → (∀ x ∈ xs, H' x.1 = some (.tup [.str x.2.1, .str x.2.2])) → upd H' T o le = some (.lst (xs.map fun x => V.ref x.1)) ∧ ∀ x ∈ xs, upd H' T o x.1 = some (.tup [.str x.2.1, .str x.2.2]) :=
      fun go fT h1 h2 => ⟨at_upd (ne_of_none h1 fT) h1, fun x hx => at_upd (ne_of_none (h2 x hx) fT) (h2 x hx)⟩
    refine turnsW (walk_enumT (K := K) (a := n) (xs := ns.map V.str)) (fun i σ H' => ∃ (xs : List (Addr × Str × Str)) (u3 u4 u5 : Option V), σ = [some (.ref p), some (.ref g), some (.ref le), u3, u4, u5] ∧ Go p H H' ∧ H' le = some (.lst (xs.map fun x => V.ref x.1)) ∧
      (∀ x ∈ xs, H' x.1 = some (.tup [.str x.2.1, .str x.2.2])) ∧ (xs.map (·.2)).Nodup ∧ ∀ x ∈ xs, sLt x.2.1 x.2.2 ∧ x.2.1 ∈ ns ∧ x.2.2 ∈ ns) ⟨es, _, _, _, rfl, g2, hle2, gs2.gr.pairs, ascE_nodup gs.ok.asc, fun x hx => ⟨gs.ok.lt _ (List.mem_map_of_mem hx), gs.inE x hx⟩⟩ ?_ ?_ ?_
    · rintro i σ H' hi ⟨xs, u3, u4, u5, rfl, go, _⟩
      exact SqT.of (Go.grs hp go gs).gr.nodes
    · rintro i y σ H' H3 hi ⟨xs, u3, u4, u5, rfl, go, hle, pr, xnd, xin⟩ ⟨T, x1, y1, rfl, fT, rfl, e1, e2⟩
      have hx := Option.some.inj e1
      subst hx
      obtain ⟨hin, rfl⟩ := map_at e2
      obtain ⟨hle3, pr3⟩ := step (o := .tup [.int (i : Nat), .str ns[i]]) go fT hle pr
      have go3 := go.new (o := .tup [.int (i : Nat), .str ns[i]]) fT
      refine rd_unp (SqT.of upd_same) rfl ?_
      generalize upd H' T (.tup [.int (i : Nat), .str ns[i]]) = H3 at go3 hle3 pr3
      wtm_at "rd"
      have gs3 := Go.grs hp go3 gs
      refine rd_ixT (SqT.of gs3.gr.top) (v := .ref n) rfl ?_
      have ei : ((i : Nat) : Int) + 1 = ((i + 1 : Nat) : Int) := by omega
      wtm_at "rd"
      rw [ei]
      refine .inr ⟨n, _, rfl, SqT.of gs3.gr.nodes, fun ⟨z, _⟩ => ?_, fun _ t4 f4 => ?_⟩
      · rw [HT.sIx_nat, List.length_map] at z
        omega
      rw [cutV_drop (by rw [List.length_map]; omega), ← List.map_drop]
      obtain ⟨hle4, pr4⟩ := step (o := .tup ((ns.drop (i + 1)).map V.str)) go3 f4 hle3 pr3
      have go4 := go3.new (o := .tup ((ns.drop (i + 1)).map V.str)) f4
      have ht4 := @upd_same H3 t4 (.tup ((ns.drop (i + 1)).map V.str))
      generalize upd H3 t4 (.tup ((ns.drop (i + 1)).map V.str)) = H4 at go4 hle4 pr4 ht4
      refine rd_forT (SqT.of ht4) ?_
      have one : ∀ b ∈ ns.drop (i + 1), sLt ns[i] b := fun b hb => by
        obtain ⟨k, hk, rfl⟩ := List.mem_iff_getElem.mp hb
        rw [List.length_drop] at hk
        rw [List.getElem_drop]
        exact List.pairwise_iff_getElem.mp asc i (i + 1 + k) hin (by omega) (by omega)
      have hni := List.getElem_mem hin
      generalize ns[i] = a1 at *
      refine turnsT (K := K) (xs := (ns.drop (i + 1)).map V.str) (fun j σ H' => ∃ (xs : List (Addr × Str × Str)) (u5 : Option V), σ = [some (.ref p), some (.ref g), some (.ref le), some (.int (i : Nat)), some (.str a1), u5] ∧ Go p H H' ∧ H' t4 = some (.tup ((ns.drop (i + 1)).map V.str)) ∧ H' le = some (.lst (xs.map fun x => V.ref x.1)) ∧
        (∀ x ∈ xs, H' x.1 = some (.tup [.str x.2.1, .str x.2.2])) ∧ (xs.map (·.2)).Nodup ∧ ∀ x ∈ xs, sLt x.2.1 x.2.2 ∧ x.2.1 ∈ ns ∧ x.2.2 ∈ ns) ⟨xs, _, rfl, go4, ht4, hle4, pr4, xnd, xin⟩ ?_ ?_ ?_
      · rintro j σ H' hj ⟨xs, u5, rfl, go, ht, _⟩
        exact SqT.of ht
      · rintro j y σ H5 hy ⟨xs, u5, rfl, go5, ht5, hle5, pr5, xnd, xin⟩
        obtain ⟨hj, rfl⟩ := map_at hy
        have hb := List.getElem_mem hj
        have lt := one _ hb
        have hbn := List.mem_of_mem_drop hb
        generalize (ns.drop (i + 1))[j] = b1 at *
        wtm_at "rd"
        intro t6 f6
        obtain ⟨hle6, pr6⟩ := step (o := .tup [.str a1, .str b1]) go5 f6 hle5 pr5
        have go6 := go5.new (o := .tup [.str a1, .str b1]) f6
        have ht46 := at_upd (o := .tup [.str a1, .str b1]) (ne_of_none ht5 f6) ht5
        have ht6 := @upd_same H5 t6 (.tup [.str a1, .str b1])
        generalize upd H5 t6 (.tup [.str a1, .str b1]) = H6 at go6 hle6 pr6 ht46 ht6
        have bd := bound xs xnd xin
        have so2 : ∀ x ∈ xs.map (·.2), PyData.strOk x.1 = true ∧ PyData.strOk x.2 = true := fun x hx => by
          obtain ⟨z, hz, rfl⟩ := List.mem_map.mp hx
          exact ⟨sok _ (xin z hz).2.1, sok _ (xin z hz).2.2⟩
        wtm_at "rd"
        refine rd_ninLE (e := (a1, b1)) (SqT.of ht6) (SqL.of hle6) (fun x hx => SqT.of (pr6 x hx)) ⟨sok _ hni, sok _ hbn⟩ so2 ?_
        wtm_at "rd"
        refine rd_nsplit (fun c1 => ?_) (fun c1 => ?_)
        case refine_2 =>
          wtm_at "rd"
          exact ⟨xs, _, rfl, go6, ht46, hle6, pr6, xnd, xin⟩
        wtm_at "rd"
        refine use_draw go6.pool (by decide) (by decide) fun r2 H7 _ _ g7 => ?_
        have go7 := go6.trans g7
        have hle7 := g7.at hle6 (Ne.symm npl)
        have ht47 := g7.tup go6.pool ht46
        have pr7 : ∀ x ∈ xs, H7 x.1 = some (.tup [.str x.2.1, .str x.2.2]) := fun x hx => g7.tup go6.pool (pr6 x hx)
        wtm_at "rd"
        refine rd_split (fun c2 => ?_) (fun c2 => ?_)
        case refine_2 =>
          wtm_at "rd"
          exact ⟨xs, _, rfl, go7, ht47, hle7, pr7, xnd, xin⟩
        wtm_at "rd"
        refine rd_tyL hle7 ?_
        wtm_at "rd"
        intro t8 f8
        obtain ⟨hle8, pr8⟩ := step (o := .tup [.str a1, .str b1]) go7 f8 hle7 pr7
        have go8 := go7.new (o := .tup [.str a1, .str b1]) f8
        have ht48 := at_upd (o := .tup [.str a1, .str b1]) (ne_of_none ht47 f8) ht47
        have ht8 := @upd_same H7 t8 (.tup [.str a1, .str b1])
        have n8 : t8 ≠ le := Ne.symm (ne_of_none hle7 f8)
        generalize upd H7 t8 (.tup [.str a1, .str b1]) = H8 at go8 hle8 pr8 ht48 ht8
        wtm_at "rd"
        refine rd_append hle8 (by rw [List.length_map]; omega) ?_
        refine ⟨xs ++ [(t8, a1, b1)], _, rfl, go8.put fle0 npl, at_upd (ne_of ht48 hle8 (by intro z; cases z)) ht48, by rw [upd_same, List.map_append]; rfl, fun x hx => ?_, ?_, fun x hx => ?_⟩
        · rcases List.mem_append.mp hx with hx | hx
          · exact at_upd (ne_of (pr8 x hx) hle8 (by intro z; cases z)) (pr8 x hx)
          · rw [List.mem_singleton] at hx
            subst hx
            exact at_upd n8 ht8
        · rw [List.map_append, List.nodup_append]
          refine ⟨xnd, by simp, fun a ha b hb z => ?_⟩
          rw [List.map_cons, List.map_nil, List.mem_singleton] at hb
          rw [z, hb] at ha
          exact c1 ha
        · rcases List.mem_append.mp hx with hx | hx
          · exact xin x hx
          · rw [List.mem_singleton] at hx
            subst hx
            exact ⟨lt, hni, hbn⟩
      · rintro σ H' ⟨xs, u5, rfl, go, _, hle, pr, xnd, xin⟩
        exact ⟨xs, _, _, _, rfl, go, hle, pr, xnd, xin⟩
    · rintro σ H3 ⟨xs, u3, u4, u5, rfl, go3, hle3, pr3, xnd, xin⟩
      have gs3 := Go.grs hp go3 gs
      have bd := bound xs xnd xin
      wtm_at "rd"
      refine rd_ixT (SqT.of gs3.gr.top) (v := .ref n) rfl ?_
      wtm_at "rd"
      refine rd_sortE (SqL.of hle3) (fun x hx => SqT.of (pr3 x hx)) (by omega) ?_
      intro es2 pe se l4 f4
      have go4 := go3.new (o := .lst (es2.map fun x => V.ref x.1)) f4
      have s4 := Same.new (o := .lst (es2.map fun x => V.ref x.1)) f4
      have hl4 := @upd_same H3 l4 (.lst (es2.map fun x => V.ref x.1))
      generalize upd H3 l4 (.lst (es2.map fun x => V.ref x.1)) = H4 at go4 s4 hl4
      wtm_at "rd"
      refine rd_tupleL (SqL.of hl4) ?_
      intro e2 f5
      have go5 := go4.new (o := .tup (es2.map fun x => V.ref x.1)) f5
      have s5 := same_add (o := .tup (es2.map fun x => V.ref x.1)) s4 f5
      have he5 := @upd_same H4 e2 (.tup (es2.map fun x => V.ref x.1))
      generalize upd H4 e2 (.tup (es2.map fun x => V.ref x.1)) = H5 at go5 s5 he5
      wtm_at "rd"
      intro g2 f6
      have s6 := same_add (o := .tup [.ref n, .ref e2]) s5 f6
      have he6 := at_upd (o := .tup [.ref n, .ref e2]) (ne_of_none he5 f6) he5
      have pe2 : (es2.map (·.2)).Perm (xs.map (·.2)) := pe.map _
      refine q g2 e2 es2 _ (go5.new f6) ⟨⟨upd_same, s6 _ _ gs3.gr.nodes, he6, fun x hx => s6 _ _ (pr3 x (pe.mem_iff.mp hx))⟩, ⟨gs.ok.names, ?_, ?_, ?_⟩, gs.l2, by rw [pe.length_eq]; omega⟩
      · refine ascE_of_sorted ?_ (pe2.nodup_iff.mpr xnd)
        rw [List.pairwise_map]
        exact se
      · intro y hy
        obtain ⟨x, hx, rfl⟩ := List.mem_map.mp hy
        exact (xin x (pe.mem_iff.mp hx)).1
      · intro y hy
        obtain ⟨x, hx, rfl⟩ := List.mem_map.mp hy
        exact (xin x (pe.mem_iff.mp hx)).2
end
end Law

/-! numbered names; twenty pairs of nodes, each joined with the next pair -/
namespace U
open PySem PySem.Spec PyProof.Rows L2
/-- the k-th numbered name -/
def nmD (k : Nat) : Str := ⟨#[97 + k / 10, 97 + k % 10]⟩
theorem nmD_name {k : Nat} (h : k < 100) : IsName (nmD k) := by
  refine ⟨by show 1 ≤ 2; decide, by show 2 ≤ 8; decide, fun c hc => ?_⟩
  have : c = 97 + k / 10 ∨ c = 97 + k % 10 := by simpa [nmD] using hc
  omega
theorem nmD_lt {j k : Nat} (h : j < k) : sLt (nmD j) (nmD k) := by
  show [97 + j / 10, 97 + j % 10] < [97 + k / 10, 97 + k % 10]
  by_cases e : j / 10 = k / 10
  · rw [e]
    exact List.Lex.cons (List.Lex.rel (by omega))
  · exact List.Lex.rel (by omega)
def nmsD (n : Nat) : List Str := (List.range n).map nmD
theorem nmsD_asc (n : Nat) : Asc (nmsD n) := by
  show ((List.range n).map nmD).Pairwise sLt
  rw [List.pairwise_map]
  exact List.pairwise_lt_range.imp fun h => nmD_lt h
theorem nmsD_names {n : Nat} (h : n ≤ 100) : Names (nmsD n) := ⟨nmsD_asc n, fun y hy => by
  obtain ⟨k, hk, rfl⟩ := List.mem_map.mp hy
  exact nmD_name (by have := List.mem_range.mp hk; omega)⟩
theorem nmsD_len {n : Nat} : (nmsD n).length = n := by
  unfold nmsD
  rw [List.length_map, List.length_range]
end U

/-! numbered names -/
namespace Law
open PySem PySem.Spec PyProof.Rows L2 U


theorem lettersJ_at {i : Int} (h0 : 0 ≤ i) (h1 : i < 10) : atI (Str.ofString "abcdefghij").cps.toList i = some (97 + i.toNat) := by
  obtain ⟨n, rfl⟩ : ∃ n : Nat, i = (n : Int) := ⟨i.toNat, by omega⟩
  have all : ∀ n : Fin 10, (Str.ofString "abcdefghij").cps.toList[(n : Nat)]? = some (97 + (n : Nat)) := by decide +kernel
  have hn : n < 10 := by omega
  rw [Int.toNat_natCast]
  exact atI_nat (all ⟨n, hn⟩)
theorem lettersJ_len : (Str.ofString "abcdefghij").length ≤ 100000 := by decide +kernel
def spNumd : Sp := fun vs H Q _ => ∃ m : Int, vs = [.int m] ∧ 0 ≤ m ∧ m ≤ 100 ∧ ∀ (l : Addr) (H' : Hp), Same H H' → H l = none → H' l = some (.lst ((nmsD m.toNat).map V.str)) → Q (.ref l) H'
section
variable {P : Program} {w : World} {K : PySem.W.Frag} {mg : Str → Option Value} {base : Heap}
theorem ok_numd {f : Addr} {fd : FuncData} (F : Fun K "_law_numbered_names" "_law_numbered_names" s__law_numbered_names f fd) (B : Bt mg) : FnG P w K mg base CX0 1 f fd ["_law_many"] spNumd := by
  refine fnG0 F sc__law_numbered_names (fun vs H Q E h => ?_) (fun cdv A outer s H vs Q E hr h => ?_)
  · obtain ⟨m, rfl, _⟩ := h
    rfl
  · obtain ⟨m, rfl, m0, m1, q⟩ := h
    have nd := sc__law_numbered_names.nd
    have hu := hr.u1
    refine ⟨_, (pss_cons (ps_set (i := 1) nd rfl (by first | exact Or.inl rfl | exact Or.inr rfl) pe_str)
  (pss_one (ps_ret (pe_lc (own := [("_law_k", 2)]) rfl nd (pi_range1 rfl B.range (pa_cons (pv 0) pa_nil)) (blkOk_by (own := [("_law_k", 2)]) (N := nN__law_numbered_names) (sc := defScope s__law_numbered_names) (by decide +kernel)) (fun _ _ _ _ _ => (pg_name (i := 2) nd rfl (by first | exact Or.inl rfl | exact Or.inr rfl))) (fun _ _ _ _ _ => pts_nil) (fun _ _ _ _ _ => (pe_op (kAdd K rfl) (pe_ix (kIx K rfl) (pv 1) (pe_op uDiv (pv 2) pe_int) (fun _ _ => rfl)) (pe_ix (kIx K rfl) (pv 1) (pe_op uMod (pv 2) pe_int) (fun _ _ => rfl)))))))), ?_⟩
    wtm_at "rd"
    intro D fD
    refine lcR (fun i H' => Same H H' ∧ H' D = some (.lst ((nmsD i).map V.str))) ⟨Same.new fD, upd_same⟩ ?_ ?_
    · rintro i H' hi ⟨sb, hD⟩
      wtm_at "rd"
      refine rd_ixS lettersJ_len (lettersJ_at (by omega) (by omega)) ?_
      wtm_at "rd"
      refine rd_ixS lettersJ_len (lettersJ_at (by omega) (by omega)) ?_
      refine rd_addS (by show 1 + 1 ≤ sizeLine; decide) ?_
      refine rd_acc hD (by rw [List.length_map, nmsD_len]; omega) ?_
      refine ⟨same_put sb fD, ?_⟩
      have e : (⟨#[97 + ((0 + (i : Int)) / 10).toNat]⟩ : Str) ++ ⟨#[97 + ((0 + (i : Int)) % 10).toNat]⟩ = nmD i := by
        show (⟨#[97 + ((0 + (i : Int)) / 10).toNat, 97 + ((0 + (i : Int)) % 10).toNat]⟩ : Str) = nmD i
        unfold nmD
        rw [show ((0 + (i : Int)) / 10).toNat = i / 10 by omega, show ((0 + (i : Int)) % 10).toNat = i % 10 by omega]
      rw [upd_same, e]
      unfold nmsD
      rw [List.range_succ, List.map_append, List.map_append]
      rfl
    · rintro H' ⟨sb, hD⟩
      exact q D H' sb fD hD
end
end Law

/-! progress moves: the plain law -/
namespace U
open PySem PySem.Spec PyProof.Rows L2
def sz (ns : List Str) (h : Str → Int) : Int := (ns.map fun n => ((h n).natAbs : Int)).sum
def goP (f h : Str → Int) (m : Str × Int) : Bool := decide (0 < h m.1) && decide ((f m.1 - m.2) % 3 = 1) || decide (h m.1 < 0) && !decide ((f m.1 - m.2) % 3 = 1)
def progF (ns : List Str) (es : List (Str × Str)) (f h : Str → Int) (pn : List Str) : List (Str × Int) := (movesF ns es f pn).filter (goP f h)
def dirU (x : Int) : Int := if 0 < x then 1 else -1
/-- the value of a progress move -/
def pvF (f : Str → Int) (ys : List Str) (n : Str) (x : Int) : Option Int := if x ≠ 0 ∧ ∀ o ∈ ys, slp f n o = dirU x then some ((f n - dirU x) % 3) else none
def pmF (es : List (Str × Str)) (f h : Str → Int) (pn : List Str) (n : Str) : List (Str × Int) := match pvF f (nbS es n) n (h n) with
  | none => []
  | some v => if n ∈ pn then [] else [(n, v)]
theorem three {q : Int → Bool} {v0 : Int} {c : Bool} (h0 : 0 ≤ v0) (h2 : v0 ≤ 2) (h : ∀ v, 0 ≤ v → v ≤ 2 → q v = (decide (v = v0) && c)) : ([0, 1, 2] : List Int).filter q = if c = true then [v0] else [] := by
  have a := h 0 (by decide) (by decide)
  have b := h 1 (by decide) (by decide)
  have d := h 2 (by decide) (by decide)
  have e : v0 = 0 ∨ v0 = 1 ∨ v0 = 2 := by omega
  rcases e with rfl | rfl | rfl <;> cases c <;> simp_all [List.filter_cons]
section
variable {ns : List Str} {es : List (Str × Str)} {f h : Str → Int} {pn : List Str}
theorem prog_at (ok : EsOk ns es f) {n : Str} (hn : n ∈ ns) : (movesOf es f n).filter (goP f h) = match pvF f (nbS es n) n (h n) with
  | none => []
  | some v => [(n, v)] := by
  classical
  have tri := ok.tri n hn
  have nbr : ∀ o ∈ nbrF es n, 0 ≤ f o ∧ f o < 3 ∧ f n ≠ f o := fun o ho => by
    have a := adj_in ok (show Adj es n o from mem_nbrF.mp ho)
    exact ⟨(ok.tri o a.2.1).1, (ok.tri o a.2.1).2, a.2.2.1⟩
  have nbm : ∀ o, o ∈ nbS es n ↔ o ∈ nbrF es n := fun o => nbS_mem.trans mem_nbrF.symm
  have slo : ∀ o ∈ nbrF es n, ∀ d : Int, d = 1 ∨ d = -1 → (slp f n o = d ↔ f o ≠ (f n - d) % 3) := fun o ho d hd => by
    obtain ⟨a, b, c⟩ := nbr o ho
    unfold slp
    rcases hd with rfl | rfl <;> split <;> omega
  unfold movesOf
  rw [List.filter_map, List.filter_filter]
  have dd : dirU (h n) = 1 ∨ dirU (h n) = -1 := by
    unfold dirU
    split <;> simp
  rw [three (v0 := (f n - dirU (h n)) % 3) (c := decide (h n ≠ 0 ∧ ∀ o ∈ nbS es n, slp f n o = dirU (h n))) (by omega) (by omega) ?_]
  · unfold pvF
    by_cases c : h n ≠ 0 ∧ ∀ o ∈ nbS es n, slp f n o = dirU (h n)
    · rw [decide_eq_true c, if_pos rfl, if_pos c]
      rfl
    · rw [decide_eq_false c, if_neg Bool.false_ne_true, if_neg c]
      rfl
  · intro v v0 v2
    rw [Bool.eq_iff_iff, Bool.and_eq_true, Bool.and_eq_true, decide_eq_true_iff, decide_eq_true_iff]
    show (goP f h (n, v) = true ∧ freeB es f n v = true) ↔ _
    have fr : freeB es f n v = true ↔ (∀ o ∈ nbrF es n, f o ≠ v) ∧ v ≠ f n := by
      unfold freeB
      rw [Bool.not_eq_true', decide_eq_false_iff_not, List.mem_append, List.mem_singleton, List.mem_map, not_or]
      constructor
      · rintro ⟨a, b⟩
        exact ⟨fun o ho z => a ⟨o, ho, z⟩, b⟩
      · rintro ⟨a, b⟩
        exact ⟨fun ⟨o, ho, z⟩ => a o ho z, b⟩
    have go : goP f h (n, v) = true ↔ (0 < h n ∧ (f n - v) % 3 = 1) ∨ (h n < 0 ∧ ¬ (f n - v) % 3 = 1) := by
      unfold goP
      simp only [Bool.or_eq_true, Bool.and_eq_true, decide_eq_true_iff, Bool.not_eq_true', decide_eq_false_iff_not]
    rw [fr, go]
    constructor
    · rintro ⟨a, b, c⟩
      have ev : v = (f n - dirU (h n)) % 3 := by
        unfold dirU
        rcases a with a | a
        · rw [if_pos a.1]
          omega
        · rw [if_neg (by omega)]
          omega
      refine ⟨ev, by omega, fun o ho => (slo o ((nbm o).mp ho) _ dd).mpr ?_⟩
      rw [← ev]
      exact b o ((nbm o).mp ho)
    · rintro ⟨ev, c, k⟩
      refine ⟨?_, fun o ho => ?_, ?_⟩
      · unfold dirU at ev
        by_cases p : 0 < h n
        · rw [if_pos p] at ev
          left
          omega
        · rw [if_neg p] at ev
          right
          omega
      · rw [ev]
        exact (slo o ho _ dd).mp (k o ((nbm o).mpr ho))
      · rcases dd with z | z <;> rw [z] at ev <;> omega
theorem prog_eq (ok : EsOk ns es f) : ∀ {xs : List Str}, (∀ x ∈ xs, x ∈ ns) → progF xs es f h pn = xs.flatMap (pmF es f h pn)
  | [], _ => rfl
  | x :: r, hx => by
    have ih := prog_eq ok (xs := r) fun y hy => hx y (List.mem_cons_of_mem _ hy)
    unfold progF movesF at ih ⊢
    rw [List.flatMap_cons, List.filter_append, List.flatMap_cons, ih]
    congr 1
    unfold pmF
    by_cases c : x ∈ pn
    · rw [if_pos c]
      cases pvF f (nbS es x) x (h x) with
      | none => rfl
      | some v =>
        show _ = if x ∈ pn then [] else [(x, v)]
        rw [if_pos c]
        rfl
    · rw [if_neg c, prog_at ok (hx x List.mem_cons_self)]
      cases pvF f (nbS es x) x (h x) with
      | none => rfl
      | some v =>
        show _ = if x ∈ pn then [] else [(x, v)]
        rw [if_neg c]
theorem sz_zero : ∀ {ns : List Str}, sz ns h = 0 ↔ ∀ n ∈ ns, h n = 0
  | [] => ⟨(fun _ _ m => nomatch m), fun _ => rfl⟩
  | n :: r => by
    have ih := sz_zero (ns := r)
    have e : sz (n :: r) h = ((h n).natAbs : Int) + sz r h := List.sum_cons
    have p : ∀ xs : List Str, 0 ≤ sz xs h := fun xs => by
      induction xs with
      | nil => exact Int.le_refl _
      | cons x t ih =>
        have e : sz (x :: t) h = ((h x).natAbs : Int) + sz t h := List.sum_cons
        omega
    have := p r
    rw [e]
    constructor
    · intro z x hx
      rcases List.mem_cons.mp hx with rfl | hx
      · omega
      · exact ih.mp (by omega) x hx
    · intro z
      have a := z n List.mem_cons_self
      have b := ih.mpr fun x hx => z x (List.mem_cons_of_mem _ hx)
      omega
theorem prog_legal {m : Str × Int} (hm : m ∈ progF ns es f h pn) : Legal ns es f pn m ∧ goP f h m = true := ⟨legal_of (List.mem_filter.mp hm).1, (List.mem_filter.mp hm).2⟩
/-- the number after a progress move -/
theorem prog_dlt (ok : EsOk ns es f) {m : Str × Int} (hm : m ∈ progF ns es f h pn) : h m.1 - dlt (f m.1 - m.2) = h m.1 + (if 0 < h m.1 then -1 else 1) := by
  obtain ⟨l, g⟩ := prog_legal hm
  have go : (0 < h m.1 ∧ (f m.1 - m.2) % 3 = 1) ∨ (h m.1 < 0 ∧ ¬ (f m.1 - m.2) % 3 = 1) := by
    unfold goP at g
    simpa only [Bool.or_eq_true, Bool.and_eq_true, decide_eq_true_iff, Bool.not_eq_true', decide_eq_false_iff_not] using g
  have v := l.val
  have t := ok.tri _ l.mem
  have ne := l.own
  unfold dlt
  rcases go with ⟨a, b⟩ | ⟨a, b⟩
  · rw [if_pos a, if_neg (by omega), if_pos b]
    omega
  · have c : ¬ 0 < h m.1 := by omega
    rw [if_neg c, if_neg (by omega), if_neg b]
    omega
end
end U

/-! feasible lifts: of moves, and shifted -/
namespace U
open PySem PySem.Spec PyProof.Rows L2
section
variable {ns : List Str} {es : List (Str × Str)} {f h : Str → Int} {pn : List Str}
end
end U

/-! lifts performed, step by step -/
namespace U
open PySem PySem.Spec PyProof.Rows L2
/-- one less to go at n -/
def redU (h : Str → Int) (n : Str) : Str → Int := updf h n (h n + (if 0 < h n then -1 else 1))
section
variable {ns : List Str} {es : List (Str × Str)} {f h : Str → Int} {pn : List Str}
theorem sz_cons {n : Str} {r : List Str} : sz (n :: r) h = ((h n).natAbs : Int) + sz r h := List.sum_cons
theorem sz_off {n : Str} {v : Int} : ∀ {xs : List Str}, n ∉ xs → sz xs (updf h n v) = sz xs h
  | [], _ => rfl
  | x :: t, nm => by
    rw [sz_cons, sz_cons, sz_off fun z => nm (List.mem_cons_of_mem _ z)]
    have : x ≠ n := fun z => nm (z ▸ List.mem_cons_self)
    unfold updf
    rw [if_neg this]
theorem sz_upd {n : Str} {v : Int} : ∀ {xs : List Str}, xs.Nodup → n ∈ xs → sz xs (updf h n v) = sz xs h - ((h n).natAbs : Int) + (v.natAbs : Int)
  | x :: t, nd, hm => by
    rw [sz_cons, sz_cons]
    rw [List.nodup_cons] at nd
    by_cases e : x = n
    · subst e
      rw [sz_off nd.1]
      unfold updf
      rw [if_pos rfl]
      omega
    · rw [sz_upd nd.2 ((List.mem_cons.mp hm).resolve_left fun z => e z.symm)]
      have : updf h n v x = h x := by
        unfold updf
        rw [if_neg e]
      rw [this]
      omega
theorem sz_red {n : Str} (nd : ns.Nodup) (hn : n ∈ ns) (h0 : h n ≠ 0) : sz ns (redU h n) = sz ns h - 1 := by
  unfold redU
  rw [sz_upd nd hn]
  split <;> omega
theorem dlt_mod {d : Int} : (d - dlt d) % 3 = 0 ∧ -1 ≤ dlt d ∧ dlt d ≤ 1 := by
  unfold dlt
  split
  · omega
  · split <;> omega
/-- the moves of a lift, each the first progress move -/
inductive PerfR (ns : List Str) (es : List (Str × Str)) (pn : List Str) (f h : Str → Int) : List (Str × Int) → (Str → Int) → (Str → Int) → Prop
  | nil : PerfR ns es pn f h [] f h
  | snoc {ms : List (Str × Int)} {f' h' : Str → Int} {m : Str × Int} {r : List (Str × Int)} : PerfR ns es pn f h ms f' h' → progF ns es f' h' pn = m :: r → PerfR ns es pn f h (ms ++ [m]) (updf f' m.1 m.2) (redU h' m.1)
/-- .. or any progress move -/
inductive AnyR (ns : List Str) (es : List (Str × Str)) (pn : List Str) (f h : Str → Int) : List (Str × Int) → (Str → Int) → (Str → Int) → Prop
  | nil : AnyR ns es pn f h [] f h
  | snoc {ms : List (Str × Int)} {f' h' : Str → Int} {m : Str × Int} : AnyR ns es pn f h ms f' h' → m ∈ progF ns es f' h' pn → AnyR ns es pn f h (ms ++ [m]) (updf f' m.1 m.2) (redU h' m.1)
theorem PerfR.any {ms : List (Str × Int)} {f' h' : Str → Int} (r : PerfR ns es pn f h ms f' h') : AnyR ns es pn f h ms f' h' := by
  induction r with
  | nil => exact .nil
  | snoc _ e ih => exact .snoc ih (by rw [e]; exact List.mem_cons_self)
theorem prog_ne {m : Str × Int} (hm : m ∈ progF ns es f h pn) : h m.1 ≠ 0 := by
  have g := (prog_legal hm).2
  have go : (0 < h m.1 ∧ (f m.1 - m.2) % 3 = 1) ∨ (h m.1 < 0 ∧ ¬ (f m.1 - m.2) % 3 = 1) := by
    unfold goP at g
    simpa only [Bool.or_eq_true, Bool.and_eq_true, decide_eq_true_iff, Bool.not_eq_true', decide_eq_false_iff_not] using g
  omega
/-- a progress move: what it keeps -/
theorem prog_step (ok : EsOk ns es f) (nd : ns.Nodup) (fe : Feas ns es f h pn) {m : Str × Int} (hm : m ∈ progF ns es f h pn) :
    EsOk ns es (updf f m.1 m.2) ∧ Feas ns es (updf f m.1 m.2) (redU h m.1) pn ∧ sz ns (redU h m.1) = sz ns h - 1 ∧ ∀ n ∈ ns, (updf f m.1 m.2 n - redU h m.1 n) % 3 = (f n - h n) % 3 := by
  have lg := (prog_legal hm).1
  have e := prog_dlt ok hm
  have fe2 := feas_move ok fe lg
  rw [e] at fe2
  refine ⟨(move_keeps (f0 := f) (h := fun _ => 0) ok lg fun e _ => by omega).1, fe2, sz_red nd lg.mem (prog_ne hm), fun n hn => ?_⟩
  unfold redU
  rw [← e]
  unfold updf
  by_cases z : n = m.1
  · rw [if_pos z, if_pos z, z]
    have := dlt_mod (d := f m.1 - m.2)
    omega
  · rw [if_neg z, if_neg z]
theorem AnyR.keeps (ok : EsOk ns es f) (nd : ns.Nodup) (fe : Feas ns es f h pn) {ms : List (Str × Int)} {f' h' : Str → Int} (r : AnyR ns es pn f h ms f' h') :
    EsOk ns es f' ∧ Feas ns es f' h' pn ∧ sz ns h' + ms.length = sz ns h ∧ (∀ n ∈ ns, (f' n - h' n) % 3 = (f n - h n) % 3) ∧ Plays ns es pn f ms f' := by
  induction r with
  | nil => exact ⟨ok, fe, by simp, fun _ _ => rfl, .nil⟩
  | @snoc ms f' h' m r hm ih =>
    obtain ⟨i1, i2, i3, i4, i5⟩ := ih
    obtain ⟨s1, s2, s3, s4⟩ := prog_step i1 nd i2 hm
    refine ⟨s1, s2, ?_, fun n hn => (s4 n hn).trans (i4 n hn), .snoc i5 (prog_legal hm).1⟩
    rw [List.length_append, List.length_singleton]
    omega
/-- nothing is left: the state of the lift -/
theorem AnyR.done (ok : EsOk ns es f) (nd : ns.Nodup) (fe : Feas ns es f h pn) {ms : List (Str × Int)} {f' h' : Str → Int} (r : AnyR ns es pn f h ms f' h') (z : sz ns h' = 0) : ∀ n ∈ ns, f' n = (f n - h n) % 3 := fun n hn => by
  obtain ⟨a, _, _, b, _⟩ := r.keeps ok nd fe
  have t := a.tri n hn
  have := b n hn
  rw [sz_zero.mp z n hn] at this
  omega
/-- a lift of moves: no more than these, and the state it leads to -/
theorem plays_lift (ok : EsOk ns es f) (nd : ns.Nodup) {ms : List (Str × Int)} {f' : Str → Int} (p : Plays ns es pn f ms f') :
    EsOk ns es f' ∧ (countF f (fun _ => 0) ms).1 = f' ∧ sz ns (countF f (fun _ => 0) ms).2 ≤ ms.length ∧ ∀ n ∈ ns, f' n = (f n - (countF f (fun _ => 0) ms).2 n) % 3 := by
  induction p with
  | nil =>
    refine ⟨ok, rfl, ?_, fun n hn => ?_⟩
    · show sz ns (fun _ => 0) ≤ 0
      exact Int.le_of_eq (sz_zero.mpr fun _ _ => rfl)
    · show f n = (f n - 0) % 3
      have := ok.tri n hn
      omega
  | @snoc ms f' m p l ih =>
    obtain ⟨i1, i2, i3, i4⟩ := ih
    have ok2 := (move_keeps (f0 := f') (h := fun _ => 0) i1 l fun e _ => by omega).1
    obtain ⟨n, v⟩ := m
    rw [countF_snoc, i2]
    generalize (countF f (fun _ => 0) ms).2 = h0 at *
    have dm := dlt_mod (d := f' n - v)
    refine ⟨ok2, rfl, ?_, fun x hx => ?_⟩
    · rw [sz_upd nd l.mem, List.length_append, List.length_singleton]
      show sz ns h0 - ((h0 n).natAbs : Int) + ((h0 n + dlt (f' n - v)).natAbs : Int) ≤ _
      omega
    · have j := i4 x hx
      have t := ok2.tri x hx
      show updf f' n v x = (f x - updf h0 n (h0 n + dlt (f' n - v)) x) % 3
      have t : 0 ≤ updf f' n v x ∧ updf f' n v x < 3 := t
      unfold updf at t ⊢
      by_cases z : x = n
      · rw [if_pos z] at t ⊢
        rw [if_pos z]
        rw [z] at j ⊢
        omega
      · rw [if_neg z] at t ⊢
        rw [if_neg z]
        exact j
def plU (f : Str → Int) (ms : List (Str × Int)) : Str → Int := ms.foldl (fun f m => updf f m.1 m.2) f
def rdU (h : Str → Int) (ms : List (Str × Int)) : Str → Int := ms.foldl (fun h m => redU h m.1) h
theorem plU_snoc {ms : List (Str × Int)} {m : Str × Int} : plU f (ms ++ [m]) = updf (plU f ms) m.1 m.2 := by
  unfold plU
  rw [List.foldl_append]
  rfl
theorem rdU_snoc {ms : List (Str × Int)} {m : Str × Int} : rdU h (ms ++ [m]) = redU (rdU h ms) m.1 := by
  unfold rdU
  rw [List.foldl_append]
  rfl
theorem AnyR.ends {ms : List (Str × Int)} {f' h' : Str → Int} (r : AnyR ns es pn f h ms f' h') : f' = plU f ms ∧ h' = rdU h ms := by
  induction r with
  | nil => exact ⟨rfl, rfl⟩
  | snoc _ _ ih => exact ⟨by rw [plU_snoc, ih.1], by rw [rdU_snoc, ih.2]⟩
theorem AnyR.at {ms : List (Str × Int)} {f' h' : Str → Int} (r : AnyR ns es pn f h ms f' h') : ∀ i (hi : i < ms.length), AnyR ns es pn f h (ms.take i) (plU f (ms.take i)) (rdU h (ms.take i)) ∧ ms[i] ∈ progF ns es (plU f (ms.take i)) (rdU h (ms.take i)) pn := by
  induction r with
  | nil => exact fun i hi => absurd hi (Nat.not_lt_zero i)
  | @snoc ms f' h' m r hm ih =>
    intro i hi
    rw [List.length_append, List.length_singleton] at hi
    by_cases c : i < ms.length
    · rw [List.take_append_of_le_length (by omega), List.getElem_append_left c]
      exact ih i c
    · obtain rfl : i = ms.length := by omega
      obtain ⟨e1, e2⟩ := r.ends
      rw [List.take_append_of_le_length (Nat.le_refl _), List.take_length, List.getElem_append_right (Nat.le_refl _), ← e1, ← e2]
      simp only [Nat.sub_self, List.getElem_cons_zero]
      exact ⟨r, hm⟩
end
end U

/-! the smallest lift to a state that a feasible lift leads to: the plain law -/
namespace U
open PySem PySem.Spec PyProof.Rows L2
section
variable {ns : List Str} {es : List (Str × Str)} {f g h h0 : Str → Int} {pn : List Str}
theorem pm_mod {x y : Int} (hx : x = 1 ∨ x = -1) (hy : y = 1 ∨ y = -1) (e : x % 3 = y % 3) : x = y := by
  omega
/-- the slopes of the state that a feasible lift leads to -/
theorem feas_t (ok : EsOk ns es f) (okg : EsOk ns es g) (fe : Feas ns es f h pn) (hg : ∀ x ∈ ns, (f x - h x - g x) % 3 = 0) : ∀ e ∈ es, slp f e.1 e.2 - slp g e.1 e.2 = 2 * (h e.1 - h e.2) := fun e he => by
  have a := fit_pm.mp (fe.fit e he)
  have k : Adj es e.1 e.2 := .inl he
  obtain ⟨i1, i2, _⟩ := adj_in ok k
  have g1 := hg _ i1
  have g2 := hg _ i2
  have m1 := slp_mod ok k
  have m2 := slp_mod okg k
  have b := slp_pm g e.1 e.2
  have := pm_mod a b (by omega)
  omega
/-! ### shifts -/
/-! ### the lift found -/
/-- the lift back -/
theorem feas_back (ok : EsOk ns es f) (okg : EsOk ns es g) (fe : Feas ns es f h pn) (t : ∀ e ∈ es, slp f e.1 e.2 - slp g e.1 e.2 = 2 * (h e.1 - h e.2)) (cy : ∀ x, Cyc es g x → Cyc es f x) : Feas ns es g (fun x => - h x) pn := by
  refine ⟨fun e he => ?_, fun x hx => ?_, fun x hx => ?_⟩
  · have a := t e he
    have b := slp_pm f e.1 e.2
    rw [fit_pm]
    omega
  · have := fe.pin x hx
    show - h x = 0
    omega
  · have := fe.cyc x (cy x hx)
    show - h x = 0
    omega
end
end U

/-! the numbers along the root paths; when there is no lift: the plain law -/
namespace U
open PySem PySem.Spec PyProof.Rows L2
section
variable {ns : List Str} {es : List (Str × Str)} {f g h0 : Str → Int} {pn : List Str}
end
end U

/-! lifts back, lifts joined, the size of the smallest lift: the plain law -/
namespace U
open PySem PySem.Spec PyProof.Rows L2
section
variable {ns : List Str} {es : List (Str × Str)} {f g h : Str → Int} {pn : List Str} {dir : Int}
theorem psum_top {f : Str → Int} : ∀ {p : List Str}, Wk es p → psum f p + 1 ≤ (p.length : Int) ∨ p = [] := fun {p} => by
  induction p with
  | nil => intro _; exact .inr rfl
  | cons a r ih =>
    intro w
    cases r with
    | nil => left; rw [psum_one]; simp
    | cons b q =>
      left
      rcases ih w.2 with i | i
      · have s := slp_pm f a b
        rw [psum_cons]
        simp only [List.length_cons] at i ⊢
        omega
      · cases i
/-- all slopes are 1 where the sum is greatest -/
theorem slp_full {f : Str → Int} : ∀ {p : List Str}, Wk es p → psum f p + 1 = (p.length : Int) → SlP es f 1 p := fun {p} => by
  induction p with
  | nil => intro _ _; trivial
  | cons a r ih =>
    intro w e
    cases r with
    | nil => trivial
    | cons b q =>
      have s := slp_pm f a b
      rw [psum_cons] at e
      simp only [List.length_cons] at e
      rcases psum_top (f := f) w.2 with i | i
      · simp only [List.length_cons] at i
        have e1 : slp f a b = 1 := by omega
        exact ⟨w.1, e1, ih w.2 (by simp only [List.length_cons]; omega)⟩
      · cases i
theorem slp_sum {f : Str → Int} : ∀ {p : List Str}, SlP es f 1 p → p ≠ [] → psum f p + 1 = (p.length : Int) := fun {p} => by
  induction p with
  | nil => intro _ n; exact absurd rfl n
  | cons a r ih =>
    intro w _
    cases r with
    | nil => rw [psum_one]; rfl
    | cons b q =>
      have i := ih w.2.2 (by simp)
      rw [psum_cons, w.2.1]
      simp only [List.length_cons] at i ⊢
      omega
theorem rr_path {x y : Str} (r : Rr es f dir x y) : ∃ p, SlP es f dir p ∧ p.head? = some x ∧ p.getLast? = some y := by
  induction r with
  | refl => exact ⟨[x], trivial, rfl, rfl⟩
  | @step a b _ m o ih =>
    obtain ⟨p, i1, i2, i3⟩ := ih
    refine ⟨p ++ [b], i1.snoc i3 (nbS_mem.mp m) (of_decide_eq_true o), ?_, ?_⟩
    · cases p with
      | nil => cases i2
      | cons c r => exact i2
    · simp only [List.getLast?_append, List.getLast?_singleton, Option.some_or]
theorem path_rr : ∀ {p : List Str} {x y : Str}, SlP es f dir p → p.head? = some x → p.getLast? = some y → Rr es f dir x y := fun {p} => by
  induction p with
  | nil => intro x y _ h; cases h
  | cons a r ih =>
    intro x y w h l
    obtain rfl : a = x := by simpa using h
    cases r with
    | nil =>
      obtain rfl : a = y := by simpa using l
      exact .refl
    | cons b q =>
      have l' : (b :: q).getLast? = some y := by rw [List.getLast?_cons_cons] at l; exact l
      exact (rr_step w.1 w.2.1).trans (ih w.2.2 rfl l')
/-- cycles stay on the way of a lift -/
theorem cyc_t (okf : EsOk ns es f) (okg : EsOk ns es g) (t : ∀ e ∈ es, slp f e.1 e.2 - slp g e.1 e.2 = 2 * (h e.1 - h e.2)) {x : Str} (c : Cyc es g x) : Cyc es f x := by
  obtain ⟨y, k, e, r⟩ := c
  obtain ⟨p, p1, p2, p3⟩ := rr_path r
  have q1 := p1.snoc p3 k e
  have la : (p ++ [x]).getLast? = some x := by simp only [List.getLast?_append, List.getLast?_singleton, Option.some_or]
  have hd : (p ++ [x]).head? = some x := by
    cases p with
    | nil => cases p2
    | cons c r => exact p2
  have e1 := psum_lift okf okg t q1.wk hd la
  have e2 := slp_sum q1 (by simp)
  have q2 := slp_full (f := f) q1.wk (by omega)
  refine ⟨y, k, ?_, path_rr q2.left p2 p3⟩
  have pl : 0 < p.length := by
    cases p with
    | nil => cases p2
    | cons c r => simp
  have := (q2.at (p.length - 1) (by rw [List.length_append, List.length_singleton]; omega)).2
  have a1 : (p ++ [x])[p.length - 1]'(by rw [List.length_append]; omega) = y := by
    rw [List.getElem_append_left (by omega)]
    have := p3
    rw [List.getLast?_eq_getElem?, List.getElem?_eq_getElem (by omega)] at this
    exact Option.some.inj this
  have a2 : (p ++ [x])[p.length - 1 + 1]'(by rw [List.length_append, List.length_singleton]; omega) = x := by
    rw [List.getElem_append_right (by omega)]
    simp
  rw [a1, a2] at this
  exact this
/-- a feasible lift leads from f to g -/
def Lft (ns : List Str) (es : List (Str × Str)) (f g : Str → Int) (pn : List Str) (h : Str → Int) : Prop := Feas ns es f h pn ∧ ∀ x ∈ ns, (f x - h x - g x) % 3 = 0
theorem Lft.back (okf : EsOk ns es f) (okg : EsOk ns es g) (l : Lft ns es f g pn h) : Lft ns es g f pn fun x => - h x := by
  have t := feas_t okf okg l.1 l.2
  refine ⟨feas_back okf okg l.1 t fun x c => cyc_t okf okg t c, fun x hx => ?_⟩
  have := l.2 x hx
  show (g x - - h x - f x) % 3 = 0
  omega
theorem Lft.join {k h2 : Str → Int} (okf : EsOk ns es f) (okg : EsOk ns es g) (okk : EsOk ns es k) (l : Lft ns es f g pn h) (m : Lft ns es g k pn h2) : Lft ns es f k pn fun x => h x + h2 x := by
  have t := feas_t okf okg l.1 l.2
  have tb := feas_t okg okf (l.back okf okg).1 (l.back okf okg).2
  refine ⟨⟨fun e he => ?_, fun x hx => ?_, fun x hx => ?_⟩, fun x hx => ?_⟩
  · have a := t e he
    have b := fit_pm.mp (m.1.fit e he)
    rw [fit_pm]
    omega
  · have := l.1.pin x hx
    have := m.1.pin x hx
    omega
  · have := l.1.cyc x hx
    have := m.1.cyc x (cyc_t (h := fun x => - h x) okg okf tb hx)
    omega
  · have := l.2 x hx
    have := m.2 x hx
    show (f x - (h x + h2 x) - k x) % 3 = 0
    omega
end
end U

/-! rounds of progress moves: the plain law -/
namespace U
open PySem PySem.Spec PyProof.Rows L2
section
variable {ns : List Str} {es : List (Str × Str)} {f h : Str → Int} {pn : List Str}
theorem prog_iff (ok : EsOk ns es f) {m : Str × Int} : m ∈ progF ns es f h pn ↔ m.1 ∈ ns ∧ m.1 ∉ pn ∧ h m.1 ≠ 0 ∧ (∀ o, Adj es m.1 o → slp f m.1 o = dirU (h m.1)) ∧ m.2 = (f m.1 - dirU (h m.1)) % 3 := by
  rw [prog_eq ok fun _ h => h, List.mem_flatMap]
  constructor
  · rintro ⟨x, hx, hm⟩
    unfold pmF pvF at hm
    by_cases c : h x ≠ 0 ∧ ∀ o ∈ nbS es x, slp f x o = dirU (h x)
    · rw [if_pos c] at hm
      have hm : m ∈ (if x ∈ pn then [] else [(x, (f x - dirU (h x)) % 3)]) := hm
      split at hm
      · cases hm
      · rename_i np
        obtain rfl := List.mem_singleton.mp hm
        exact ⟨hx, np, c.1, fun o ho => c.2 o (nbS_mem.mpr ho), rfl⟩
    · rw [if_neg c] at hm
      cases hm
  · rintro ⟨a, b, c, d, e⟩
    refine ⟨m.1, a, ?_⟩
    unfold pmF pvF
    rw [if_pos ⟨c, fun o ho => d o (nbS_mem.mp ho)⟩]
    show m ∈ (if m.1 ∈ pn then [] else [(m.1, (f m.1 - dirU (h m.1)) % 3)])
    rw [if_neg b, ← e]
    exact List.mem_singleton.mpr rfl
theorem pm_shape {x : Str} : pmF es f h pn x = [] ∨ pmF es f h pn x = [(x, (f x - dirU (h x)) % 3)] := by
  unfold pmF pvF
  by_cases c : h x ≠ 0 ∧ ∀ o ∈ nbS es x, slp f x o = dirU (h x)
  · rw [if_pos c]
    show (if x ∈ pn then [] else [(x, (f x - dirU (h x)) % 3)]) = [] ∨ (if x ∈ pn then [] else [(x, (f x - dirU (h x)) % 3)]) = _
    split
    · exact .inl rfl
    · exact .inr rfl
  · rw [if_neg c]
    exact .inl rfl
theorem pm_nodup : ∀ {xs : List Str}, xs.Nodup → ((xs.flatMap (pmF es f h pn)).map (·.1)).Nodup ∧ ∀ y ∈ (xs.flatMap (pmF es f h pn)).map (·.1), y ∈ xs
  | [], _ => ⟨List.nodup_nil, fun y h => nomatch h⟩
  | x :: r, nd => by
    have nd' := List.nodup_cons.mp nd
    obtain ⟨i1, i2⟩ := pm_nodup nd'.2
    rw [List.flatMap_cons, List.map_append]
    rcases pm_shape (es := es) (f := f) (h := h) (pn := pn) (x := x) with e | e
    · rw [e]
      exact ⟨i1, fun y hy => List.mem_cons_of_mem _ (i2 y hy)⟩
    · rw [e]
      refine ⟨List.nodup_cons.mpr ⟨fun z => nd'.1 (i2 x z), i1⟩, fun y hy => ?_⟩
      rcases List.mem_cons.mp hy with z | z
      · rw [z]
        exact List.mem_cons_self
      · exact List.mem_cons_of_mem _ (i2 y z)
theorem prog_nodup (ok : EsOk ns es f) (nd : ns.Nodup) : ((progF ns es f h pn).map (·.1)).Nodup := by
  rw [prog_eq ok fun _ h => h]
  exact (pm_nodup nd).1
/-- numbers of neighbors differ by one at most -/
theorem fe_near (ok : EsOk ns es f) (fe : Feas ns es f h pn) {a b : Str} (k : Adj es a b) : slp f a b - 2 * (h a - h b) = 1 ∨ slp f a b - 2 * (h a - h b) = -1 := by
  rcases k with k | k
  · exact fit_pm.mp (fe.fit _ k)
  · have e := fit_pm.mp (fe.fit _ k)
    have s := slp_neg ok (show Adj es b a from .inl k)
    have e : slp f b a - 2 * (h b - h a) = 1 ∨ slp f b a - 2 * (h b - h a) = -1 := e
    omega
theorem prog_apart (ok : EsOk ns es f) (fe : Feas ns es f h pn) {a b : Str × Int} (ha : a ∈ progF ns es f h pn) (hb : b ∈ progF ns es f h pn) : ¬ Adj es a.1 b.1 := fun k => by
  obtain ⟨_, _, a3, a4, _⟩ := (prog_iff ok).mp ha
  obtain ⟨_, _, b3, b4, _⟩ := (prog_iff ok).mp hb
  have e1 := a4 _ k
  have e2 := b4 _ k.symm
  have e3 := slp_neg ok k
  have e4 := fe_near ok fe k
  unfold dirU at e1 e2
  split at e1 <;> split at e2 <;> omega
theorem prog_after (ok : EsOk ns es f) (nd : ns.Nodup) (fe : Feas ns es f h pn) {a b : Str × Int} (ha : a ∈ progF ns es f h pn) (hb : b ∈ progF ns es f h pn) (ne : b.1 ≠ a.1) : b ∈ progF ns es (updf f a.1 a.2) (redU h a.1) pn := by
  obtain ⟨ok', _⟩ := prog_step ok nd fe ha
  obtain ⟨b1, b2, b3, b4, b5⟩ := (prog_iff ok).mp hb
  have u1 : updf f a.1 a.2 b.1 = f b.1 := if_neg ne
  have u2 : redU h a.1 b.1 = h b.1 := if_neg ne
  refine (prog_iff ok').mpr ⟨b1, b2, by rw [u2]; exact b3, fun o ho => ?_, by rw [u1, u2]; exact b5⟩
  have no : o ≠ a.1 := fun z => prog_apart ok fe hb ha (by rw [← z]; exact ho)
  rw [slp_off ne no, u2]
  exact b4 o ho
theorem AnyR.trans {ms ms2 : List (Str × Int)} {f' h' f2 h2 : Str → Int} (a : AnyR ns es pn f h ms f' h') (b : AnyR ns es pn f' h' ms2 f2 h2) : AnyR ns es pn f h (ms ++ ms2) f2 h2 := by
  induction b with
  | nil => rw [List.append_nil]; exact a
  | snoc _ hm ih => rw [← List.append_assoc]; exact .snoc ih hm
/-- progress moves of one point, one after another -/
theorem round_any (ok : EsOk ns es f) (nd : ns.Nodup) (fe : Feas ns es f h pn) {ms : List (Str × Int)} (all : ∀ m ∈ ms, m ∈ progF ns es f h pn) (ndm : (ms.map (·.1)).Nodup) : ∀ i, i ≤ ms.length →
    AnyR ns es pn f h (ms.take i) (plU f (ms.take i)) (rdU h (ms.take i)) ∧ ∀ b ∈ progF ns es f h pn, b.1 ∉ (ms.take i).map (·.1) → b ∈ progF ns es (plU f (ms.take i)) (rdU h (ms.take i)) pn := by
  intro i
  induction i with
  | zero => exact fun _ => ⟨.nil, fun b hb _ => hb⟩
  | succ i ih =>
    intro hi
    obtain ⟨r, k⟩ := ih (by omega)
    have tk : ms.take (i + 1) = ms.take i ++ [ms[i]] := by
      rw [List.take_succ, List.getElem?_eq_getElem (by omega)]
      rfl
    have hm := all _ (List.getElem_mem (by omega : i < ms.length))
    have nin : ms[i].1 ∉ (ms.take i).map (·.1) := fun z => by
      rw [List.nodup_iff_pairwise_ne, List.pairwise_iff_getElem] at ndm
      obtain ⟨j, hj, e⟩ := List.mem_iff_getElem.mp z
      rw [List.getElem_map, List.getElem_take] at e
      rw [List.length_map, List.length_take] at hj
      have := ndm j i (by rw [List.length_map]; omega) (by rw [List.length_map]; omega) (by omega)
      rw [List.getElem_map, List.getElem_map] at this
      exact this e
    have hm' := k _ hm nin
    obtain ⟨ok', fe', _⟩ := r.keeps ok nd fe
    rw [tk, plU_snoc, rdU_snoc]
    refine ⟨.snoc r hm', fun b hb nb => ?_⟩
    rw [List.map_append, List.mem_append, not_or] at nb
    exact prog_after ok' nd fe' hm' (k b hb nb.1) fun z => nb.2 (by rw [z]; exact List.mem_singleton.mpr rfl)
theorem round_all (ok : EsOk ns es f) (nd : ns.Nodup) (fe : Feas ns es f h pn) : AnyR ns es pn f h (progF ns es f h pn) (plU f (progF ns es f h pn)) (rdU h (progF ns es f h pn)) := by
  have := (round_any ok nd fe (ms := progF ns es f h pn) (fun _ h => h) (prog_nodup ok nd) _ (Nat.le_refl _)).1
  rw [List.take_length] at this
  exact this
/-- rounds that are each all progress moves -/
inductive RoundR (ns : List Str) (es : List (Str × Str)) (pn : List Str) (f h : Str → Int) : List (List (Str × Int)) → (Str → Int) → (Str → Int) → Prop
  | nil : RoundR ns es pn f h [] f h
  | snoc {rs : List (List (Str × Int))} {f' h' : Str → Int} : RoundR ns es pn f h rs f' h' → progF ns es f' h' pn ≠ [] → RoundR ns es pn f h (rs ++ [progF ns es f' h' pn]) (plU f' (progF ns es f' h' pn)) (rdU h' (progF ns es f' h' pn))
theorem RoundR.any (ok : EsOk ns es f) (nd : ns.Nodup) (fe : Feas ns es f h pn) {rs : List (List (Str × Int))} {f' h' : Str → Int} (r : RoundR ns es pn f h rs f' h') : AnyR ns es pn f h rs.flatten f' h' := by
  induction r with
  | nil => exact .nil
  | @snoc rs f' h' r ne ih =>
    obtain ⟨ok', fe', _⟩ := ih.keeps ok nd fe
    rw [List.flatten_append]
    have := ih.trans (round_all ok' nd fe')
    simpa using this
theorem RoundR.len (ok : EsOk ns es f) (nd : ns.Nodup) (fe : Feas ns es f h pn) {rs : List (List (Str × Int))} {f' h' : Str → Int} (r : RoundR ns es pn f h rs f' h') : (rs.length : Int) + sz ns h' ≤ sz ns h := by
  induction r with
  | nil => simp
  | @snoc rs f' h' r ne ih =>
    obtain ⟨ok', fe', _⟩ := (r.any ok nd fe).keeps ok nd fe
    obtain ⟨_, _, s, _⟩ := (round_all ok' nd fe').keeps ok' nd fe'
    have : 0 < (progF ns es f' h' pn).length := List.length_pos_iff.mpr ne
    rw [List.length_append, List.length_singleton]
    omega
theorem RoundR.at {rs : List (List (Str × Int))} {f' h' : Str → Int} (r : RoundR ns es pn f h rs f' h') : ∀ i (hi : i < rs.length), ∃ f1 h1, RoundR ns es pn f h (rs.take i) f1 h1 ∧ rs[i] = progF ns es f1 h1 pn ∧ progF ns es f1 h1 pn ≠ [] ∧ RoundR ns es pn f h (rs.take (i + 1)) (plU f1 rs[i]) (rdU h1 rs[i]) := by
  induction r with
  | nil => exact fun i hi => absurd hi (Nat.not_lt_zero i)
  | @snoc rs f' h' r ne ih =>
    intro i hi
    rw [List.length_append, List.length_singleton] at hi
    by_cases c : i < rs.length
    · obtain ⟨f1, h1, a, b, d, e⟩ := ih i c
      refine ⟨f1, h1, ?_⟩
      rw [List.take_append_of_le_length (by omega), List.getElem_append_left c, List.take_append_of_le_length (by omega)]
      exact ⟨a, b, d, e⟩
    · obtain rfl : i = rs.length := by omega
      refine ⟨f', h', ?_⟩
      rw [List.take_append_of_le_length (Nat.le_refl _), List.take_length, List.getElem_append_right (Nat.le_refl _), List.take_of_length_le (by rw [List.length_append]; exact Nat.le_refl _)]
      simp only [Nat.sub_self, List.getElem_cons_zero]
      exact ⟨r, trivial, ne, .snoc r ne⟩
theorem RoundR.ends {rs : List (List (Str × Int))} {f' h' : Str → Int} (r : RoundR ns es pn f h rs f' h') : f' = plU f rs.flatten ∧ h' = rdU h rs.flatten := by
  induction r with
  | nil => exact ⟨rfl, rfl⟩
  | @snoc rs f' h' r ne ih =>
    obtain ⟨e1, e2⟩ := ih
    constructor
    · conv => lhs; rw [show plU f' = plU (plU f rs.flatten) from by rw [← e1]]
      unfold plU
      simp [List.foldl_append]
    · conv => lhs; rw [show rdU h' = rdU (rdU h rs.flatten) from by rw [← e2]]
      unfold rdU
      simp [List.foldl_append]
end
end U

/-! all states that can be reached, found breadth-first: the plain law -/
namespace U
open PySem PySem.Spec PyProof.Rows L2
section
variable {ns : List Str} {es : List (Str × Str)} {f g h : Str → Int} {pn : List Str}
/-- the states found so far, the first at of them done -/
structure RchS (ns : List Str) (es : List (Str × Str)) (pn : List Str) (f : Str → Int) (ss : List (List Int × Nat)) (at_ : Nat) : Prop where
  nd : (ss.map (·.1)).Nodup
  ok : ∀ s ∈ ss, ∃ ms f', Plays ns es pn f ms f' ∧ ms.length = s.2 ∧ s.1 = ns.map f'
  z : ∃ r, ss = (ns.map f, 0) :: r
  mono : ∀ i j (hi : i ≤ j) (hj : j < ss.length), (ss[i]'(Nat.lt_of_le_of_lt hi hj)).2 ≤ ss[j].2
  top : ∀ (h : at_ < ss.length) j (hj : j < ss.length), ss[j].2 ≤ ss[at_].2 + 1
  cl : ∀ i (h : i < ss.length), i < at_ → ∀ f1, EsOk ns es f1 → ss[i].1 = ns.map f1 → ∀ m, Legal ns es f1 pn m → ∃ k, k ≤ ss[i].2 + 1 ∧ (ns.map (updf f1 m.1 m.2), k) ∈ ss
theorem RchS.start : RchS ns es pn f [(ns.map f, 0)] 0 := by
  refine ⟨by simp, fun s hs => ?_, ⟨[], rfl⟩, fun i j hi hj => ?_, fun h j hj => ?_, fun i h hi => absurd hi (Nat.not_lt_zero _)⟩
  · rw [List.mem_singleton.mp hs]
    exact ⟨[], f, .nil, rfl, rfl⟩
  · have : j = 0 := by
      have : j < 1 := hj
      omega
    subst this
    have : i = 0 := by omega
    subst this
    exact Nat.le_refl _
  · have : j = 0 := by
      have : j < 1 := hj
      omega
    subst this
    exact Nat.zero_le _
/-- one more -/
theorem RchS.add {ss : List (List Int × Nat)} {a : Nat} (r : RchS ns es pn f ss a) (ha : a < ss.length) {f1 : Str → Int} (e1 : ss[a].1 = ns.map f1) (ok1 : EsOk ns es f1) {m : Str × Int} (lg : Legal ns es f1 pn m) (new : ns.map (updf f1 m.1 m.2) ∉ ss.map (·.1)) :
    RchS ns es pn f (ss ++ [(ns.map (updf f1 m.1 m.2), ss[a].2 + 1)]) a := by
  have at1 : ∀ j (hj : j < ss.length) (hj2 : j < (ss ++ [(ns.map (updf f1 m.1 m.2), ss[a].2 + 1)]).length), (ss ++ [(ns.map (updf f1 m.1 m.2), ss[a].2 + 1)])[j] = ss[j] := fun j hj _ => List.getElem_append_left hj
  have at2 : ∀ j (hj2 : j < (ss ++ [(ns.map (updf f1 m.1 m.2), ss[a].2 + 1)]).length), ¬ j < ss.length → (ss ++ [(ns.map (updf f1 m.1 m.2), ss[a].2 + 1)])[j] = (ns.map (updf f1 m.1 m.2), ss[a].2 + 1) := fun j hj2 hn => by
    rw [List.length_append, List.length_singleton] at hj2
    have : j = ss.length := by omega
    subst this
    rw [List.getElem_append_right (Nat.le_refl _)]
    simp
  obtain ⟨r0, ez⟩ := r.z
  refine ⟨?_, fun s hs => ?_, ⟨r0 ++ [(ns.map (updf f1 m.1 m.2), ss[a].2 + 1)], congrArg (fun l => l ++ [(ns.map (updf f1 m.1 m.2), ss[a].2 + 1)]) ez⟩, fun i j hi hj => ?_, fun h j hj => ?_, fun i h hi g1 og eg m' lm => ?_⟩
  · rw [List.map_append, List.nodup_append]
    refine ⟨r.nd, by simp, fun x hx y hy e => ?_⟩
    rw [List.map_cons, List.map_nil, List.mem_singleton] at hy
    rw [e, hy] at hx
    exact new hx
  · rcases List.mem_append.mp hs with hs | hs
    · exact r.ok s hs
    · rw [List.mem_singleton.mp hs]
      obtain ⟨ms, f', p, l, e⟩ := r.ok _ (List.getElem_mem ha)
      have ag := e.symm.trans e1
      rw [List.map_inj_left] at ag
      have lg' : Legal ns es f' pn m := ⟨lg.mem, lg.pin, lg.val, by rw [ag _ lg.mem]; exact lg.own, fun z hz => by
        have : z ∈ ns := by
          rcases hz with hz | hz
          · exact (ok1.mem _ hz).2
          · exact (ok1.mem _ hz).1
        rw [ag z this]
        exact lg.nbr z hz⟩
      refine ⟨_, _, p.snoc lg', by rw [List.length_append, l]; rfl, ?_⟩
      show ns.map (updf f1 m.1 m.2) = ns.map (updf f' m.1 m.2)
      have ee := e.symm.trans e1
      rw [List.map_inj_left] at ee
      refine List.map_congr_left fun x hx => ?_
      unfold updf
      rw [ee x hx]
  · by_cases q : j < ss.length
    · rw [at1 j q hj, at1 i (by omega) (by omega)]
      exact r.mono i j hi q
    · rw [at2 j hj q]
      by_cases q2 : i < ss.length
      · rw [at1 i q2 (by omega)]
        exact r.top ha i q2
      · rw [at2 i (by omega) q2]
        exact Nat.le_refl _
  · rw [at1 a ha h]
    by_cases q : j < ss.length
    · rw [at1 j q hj]
      exact r.top ha j q
    · rw [at2 j hj q]
      exact Nat.le_refl _
  · have q : i < ss.length := by omega
    rw [at1 i q h] at eg ⊢
    obtain ⟨k, k1, k2⟩ := r.cl i q hi g1 og eg m' lm
    exact ⟨k, k1, List.mem_append_left _ k2⟩
/-- one is done -/
theorem RchS.done {ss : List (List Int × Nat)} {a : Nat} (r : RchS ns es pn f ss a) (ha : a < ss.length) (all : ∀ f1, EsOk ns es f1 → ss[a].1 = ns.map f1 → ∀ m, Legal ns es f1 pn m → ∃ k, k ≤ ss[a].2 + 1 ∧ (ns.map (updf f1 m.1 m.2), k) ∈ ss) : RchS ns es pn f ss (a + 1) :=
  ⟨r.nd, r.ok, r.z, r.mono, fun h j hj => Nat.le_trans (r.top ha j hj) (Nat.add_le_add_right (r.mono a (a + 1) (Nat.le_succ _) h) 1), fun i h hi f1 o1 e1 m lm => by
    by_cases q : i = a
    · subst q
      exact all f1 o1 e1 m lm
    · exact r.cl i h (by omega) f1 o1 e1 m lm⟩
/-- all that moves reach is found, at its distance -/
theorem RchS.all {ss : List (List Int × Nat)} (r : RchS ns es pn f ss ss.length) (okf : EsOk ns es f) (nd : ns.Nodup) {ms : List (Str × Int)} {f' : Str → Int} (p : Plays ns es pn f ms f') : ∃ k, k ≤ ms.length ∧ (ns.map f', k) ∈ ss := by
  induction p with
  | nil =>
    obtain ⟨r0, e⟩ := r.z
    exact ⟨0, Nat.le_refl _, by rw [e]; exact List.mem_cons_self⟩
  | @snoc ms f1 m p lg ih =>
    obtain ⟨k, k1, k2⟩ := ih
    obtain ⟨ok1, _⟩ := plays_lift okf nd p
    obtain ⟨i, hi, e⟩ := List.mem_iff_getElem.mp k2
    obtain ⟨k', q1, q2⟩ := r.cl i hi hi f1 ok1 (by rw [e]) m lg
    rw [e] at q1
    refine ⟨k', ?_, q2⟩
    rw [List.length_append, List.length_singleton]
    have : k' ≤ k + 1 := q1
    omega
end
end U

/-! dicts whose keys are tuples of numbers; tuples of three values -/
namespace U
open PySem PySem.Spec PyProof.Rows L2
def allT : Nat → List (List Int)
  | 0 => [[]]
  | n + 1 => (allT n).flatMap fun s => [0 :: s, 1 :: s, 2 :: s]
theorem allT_len : ∀ n, (allT n).length = 3 ^ n
  | 0 => rfl
  | n + 1 => by
    have key : ∀ xs : List (List Int), (xs.flatMap fun s => [0 :: s, 1 :: s, 2 :: s]).length = 3 * xs.length := by
      intro xs
      induction xs with
      | nil => rfl
      | cons x r ih =>
        rw [List.flatMap_cons, List.length_append, ih, List.length_cons]
        simp only [List.length_cons, List.length_nil]
        omega
    rw [allT, key, allT_len n, Nat.pow_succ, Nat.mul_comm]
theorem allT_mem : ∀ {n : Nat} {s : List Int}, s.length = n → (∀ v ∈ s, 0 ≤ v ∧ v < 3) → s ∈ allT n
  | 0, [], _, _ => List.mem_singleton.mpr rfl
  | n + 1, v :: s, h, b => by
    have ih := allT_mem (s := s) (Nat.succ.inj h) fun w hw => b w (List.mem_cons_of_mem _ hw)
    refine List.mem_flatMap.mpr ⟨s, ih, ?_⟩
    have := b v List.mem_cons_self
    have : v = 0 ∨ v = 1 ∨ v = 2 := by omega
    rcases this with rfl | rfl | rfl <;> simp
/-- few states -/
theorem RchS.few {ns : List Str} {es : List (Str × Str)} {pn : List Str} {f : Str → Int} {ss : List (List Int × Nat)} {a : Nat} (r : RchS ns es pn f ss a) (okf : EsOk ns es f) (nd : ns.Nodup) (n7 : ns.length ≤ 7) : ss.length ≤ 2187 := by
  have := nodup_len (ys := allT ns.length) r.nd fun s hs => by
    obtain ⟨t, ht, rfl⟩ := List.mem_map.mp hs
    obtain ⟨ms, f', p, _, e⟩ := r.ok t ht
    obtain ⟨ok', _⟩ := plays_lift okf nd p
    rw [e]
    refine allT_mem (List.length_map _) fun v hv => ?_
    obtain ⟨x, hx, rfl⟩ := List.mem_map.mp hv
    exact ok'.tri x hx
  rw [List.length_map, allT_len] at this
  have : 3 ^ ns.length ≤ 3 ^ 7 := Nat.pow_le_pow_right (by decide) n7
  omega
end U

/-! slices and sums of tuples, the tuple itself told -/
namespace Law
open PySem PySem.Spec PyProof.Rows L2 U
theorem rd_slTH {K : PySem.W.Frag} {H : Hp} {Q : VK} {p : Addr} {xs : List V} {lo hi : Option Int} (hs : H p = some (.tup xs)) (h : ∀ (a : Addr) (H' : Hp), Same H H' → H' a = some (.tup (cutV xs lo hi)) → Q (.ref a) H') : rSlU K (.ref p) lo hi H Q := by
  refine .inr ⟨p, xs, rfl, SqT.of hs, fun hw => ?_, fun _ a fa => h a _ (Same.new fa) upd_same⟩
  refine h p H (fun b o h => h) ?_
  have e : cutV xs lo hi = xs := by
    unfold cutV
    rw [hw.1, hw.2]
    simp
  rw [e]
  exact hs
theorem rd_catTH {K : PySem.W.Frag} {H : Hp} {Q : VK} {p q : Addr} {xs ys : List V} (hp : H p = some (.tup xs)) (hq : H q = some (.tup ys)) (hz : xs.length + ys.length ≤ 100000) (h : ∀ (a : Addr) (H' : Hp), Same H H' → H' a = some (.tup (xs ++ ys)) → Q (.ref a) H') : rAddU K (.ref p) (.ref q) H Q := by
  refine .inr ⟨p, q, xs, ys, rfl, rfl, SqT.of hp, SqT.of hq, Nat.le_trans hz (by decide), fun e => ?_, fun _ e => ?_, fun _ _ a fa => h a _ (Same.new fa) upd_same⟩
  · refine h q H (fun b o h => h) ?_
    rw [e]
    exact hq
  · refine h p H (fun b o h => h) ?_
    rw [e, List.append_nil]
    exact hp
end Law

/-! a list turned round: its place is not that of the modules' table -/
namespace U
open PySem PySem.W PySem.Calls PyProof.Rows PyProof.V PySem.Spec L2
variable {X : Cx}
end U

/-! slices of a tuple, and of a list, backwards -/
namespace U
open PySem PySem.W PySem.Calls PyProof.Rows PyProof.V PySem.Spec L2 HT
/-- how many places a slice backwards has -/
theorem back_places (hi : Option Int) (n : Nat) : Builtin.Slice.slicePlaces (Builtin.Slice.sliceAdjust none hi (-1) (n : Int)).1 (Builtin.Slice.sliceAdjust none hi (-1) (n : Int)).2 (-1) ≤ n ∧ (Builtin.Slice.sliceAdjust none hi (-1) (n : Int)).1 = (n : Int) - 1 := by
  unfold Builtin.Slice.slicePlaces Builtin.Slice.sliceAdjust
  simp only [show ((-1 : Int) < 0) = True from by decide, if_true, show ((-1 : Int) > 0) = False from by decide, if_false, show (-(-1 : Int)) = 1 from rfl, Int.ediv_one]
  refine ⟨?_, trivial⟩
  cases hi with
  | none =>
    simp only
    split <;> omega
  | some v =>
    simp only
    split
    · split <;> omega
    · split <;> omega
section
variable {prog : Program} {w : World} {A : Around} {E : Value → Shared → Prop} {s : Shared}
theorem applied_back {sl : Addr} {vl vu vs : Value} {hi : Option Int} {n : Nat} {R : Int × Int × Nat → Shared → Prop} (hs : s.heap.IsSliceOf sl vl vu vs) (pl : IsPart vl none) (pu : IsPart vu hi) (ps : IsPart vs (some (-1)))
    (h : R ((Builtin.Slice.sliceAdjust none hi (-1) (n : Int)).1, -1, Builtin.Slice.slicePlaces (Builtin.Slice.sliceAdjust none hi (-1) (n : Int)).1 (Builtin.Slice.sliceAdjust none hi (-1) (n : Int)).2 (-1)) s) : wpAny (model prog w) A (Builtin.Slice.sliceApplied (.ref sl) (pure (n : Int))) R E s := by
  obtain ⟨o2, ho2, hc2, hd2⟩ := id hs
  unfold Builtin.Slice.sliceApplied Builtin.Slice.sliceFields
  refine wpAny_bind (wpAny_bind (wpAny_field ho2 hd2 (x := vl) rfl ?_))
  refine wpAny_bind (wpAny_field ho2 hd2 (x := vu) rfl ?_)
  refine wpAny_bind (wpAny_field ho2 hd2 (x := vs) rfl ?_)
  refine wpAny_pure (wpAny_bind (slicePart_ ps ?_))
  show wpAny _ _ (if ((-1 : Int) == 0) = true then _ else _) _ _ s
  rw [if_neg (by decide : ¬ ((-1 : Int) == 0) = true)]
  exact wpAny_bind (slicePart_ pl (wpAny_bind (slicePart_ pu (wpAny_bind (wpAny_pure (wpAny_pure h))))))
theorem getItem_back {t sl : Addr} {its : Array Value} {vl vu vs : Value} {hi : Option Int} {Q : Value → Shared → Prop} (ht : IsTup s.heap t its) (hs : s.heap.IsSliceOf sl vl vu vs) (pl : IsPart vl none) (pu : IsPart vu hi) (ps : IsPart vs (some (-1))) (hz : its.size ≤ sizeLine)
    (h : ∀ k : Nat, k ≤ its.size → Q (.ref s.heap.objs.size) { s with heap := s.heap.push { cls := .type "tuple", data := .seq ((List.range k).filterMap fun (m : Nat) => its[((its.size : Int) - 1 + (m : Int) * (-1)).toNat]?).toArray } }) : wpAny (model prog w) A (getItem (.ref t) (.ref sl)) Q E s := by
  obtain ⟨kp, lo1⟩ := back_places hi its.size
  have h := h _ kp
  obtain ⟨o2, ho2, hc2, hd2⟩ := id hs
  have isSl : s.TypeIs (.ref sl) "slice" := ⟨o2, ho2, hc2⟩
  generalize hk : Builtin.Slice.slicePlaces (Builtin.Slice.sliceAdjust none hi (-1) (its.size : Int)).1 (Builtin.Slice.sliceAdjust none hi (-1) (its.size : Int)).2 (-1) = k at *
  have fits : sizeOk (.seq ((List.range k).filterMap fun (m : Nat) => its[((its.size : Int) - 1 + (m : Int) * (-1)).toNat]?).toArray) := by
    show ((List.range k).filterMap _).toArray.size ≤ sizeLine
    rw [List.size_toArray]
    exact Nat.le_trans (List.length_filterMap_le _ _) (by rw [List.length_range]; omega)
  unfold getItem
  try with_reducible refine wpAny_holding ?_
  first
    | refine wpAny_bind (wpAny_pure ?_)
    | skip
  refine wpAny_bind (wpAny_sequenceKey ht.typeIs (by decide) (wpAny_bind (wpAny_callSpecial?_slot (name := Str.ofString "__getitem__") ht.typeIs slot_tuple_getitem (wpAny_call_entry slot_tuple_getitem ht.typeIs entry_tuple_getitem ?_ (args_tuple_getitem _ _)))))
  show wpAny _ _ (Builtin.Tuple.tupleItemsOf (.ref t) >>= _) _ _ s
  refine wpAny_bind (tupleItemsOf_ ht (wpAny_bind (wpAny_typeOf isSl ?_)))
  rw [if_pos (by decide)]
  refine wpAny_bind (applied_back hs pl pu ps ?_)
  rw [hk, lo1]
  show wpAny _ _ (if (((its.size : Int) - 1) == 0 && (-1 : Int) == 1 && k == its.size) = true then _ else _) _ _ s
  rw [if_neg (by rw [show ((-1 : Int) == 1) = false from by decide, Bool.and_false, Bool.false_and]; exact Bool.false_ne_true)]
  first
    | exact wpAny_bind (m := Builtin.Tuple.tupleExact _) (wpAny_newObj_type (wpAny_pure ⟨_, rfl, wpAny_pure h⟩) fits)
    | exact wpAny_bind (m := Builtin.Tuple.tupleExact _) (wpAny_newObj_type (wpAny_bind (wpAny_pure (wpAny_pure ⟨_, rfl, wpAny_pure h⟩))) fits)
    | exact wpAny_bind (wpAny_bind (m := Builtin.Tuple.tupleExact _) (wpAny_newObj_type (wpAny_pure (wpAny_pure ⟨_, rfl, wpAny_pure h⟩)) fits))
    | exact wpAny_bind (wpAny_bind (m := Builtin.Tuple.tupleExact _) (wpAny_newObj_type (wpAny_pure ⟨_, rfl, wpAny_pure h⟩) fits))
end
theorem vals_pick {xs : List V} {us : List Value} (r : Vals xs us) : ∀ {is : List Nat}, Vals (is.filterMap fun i => xs[i]?) (is.filterMap fun i => us[i]?)
  | [] => .nil
  | i :: is => by
    have ln := r.length
    by_cases h : i < xs.length
    · obtain ⟨u, hu, rl⟩ := r.get (List.getElem?_eq_getElem h)
      rw [List.filterMap_cons_some (List.getElem?_eq_getElem h), List.filterMap_cons_some hu]
      exact .cons rl (vals_pick r)
    · rw [List.filterMap_cons_none (List.getElem?_eq_none (by omega)), List.filterMap_cons_none (List.getElem?_eq_none (by omega))]
      exact vals_pick r
/-- t[:hi:-1] of a tuple: some of its parts -/
def tBackT (K : PySem.W.Frag) (te : TE) (hi : Option Int) : TE := fun σ H Q => te σ H fun x H1 => ∃ a xs, x = .ref a ∧ SqT K H1 a xs ∧ ∀ ys : List V, (∀ v ∈ ys, v ∈ xs) → ys.length ≤ xs.length → ∀ p, H1 p = none → Q (.ref p) (upd H1 p (.tup ys))
theorem pe_backT {X : Cx} {e : Expr} {te : TE} {up : Option Expr} {tu : TO} {hi : Option Int} {k : Nat} {p1 p2 p3 pos : Pos} (hu : PO X up tu) (htu : ∀ (σ : L2.St) (H : Hp) (R : Option Int → Hp → Prop), R hi H → tu σ H R) (he : PE X e te) : PE X (.Subscript e (.Slice none up (some (.UnaryOp .USub (.Constant (.int 1) k p1) p2)) p3) pos) (tBackT X.K te hi) := by
  have hst : PO X (some (.UnaryOp .USub (.Constant (.int 1) k p1) p2)) (tPart (tUn (rU fun i => .int (-i)) (tC (.int 1)))) := po_some (pe_un un_neg pe_int)
  refine ⟨fun pins s σ H Q I h => Subscript_ (thn (he.run pins s σ H _ I h) ?_)⟩
  rintro v s1 ⟨x, H1, I1, r1, a, xs, rfl, hx, q⟩
  cases r1
  refine wpAny_Slice (thn (po_none.run pins s1 σ H1 (fun o H2 => o = none ∧ H2 = H1) I1 ⟨rfl, rfl⟩) ?_)
  rintro vl s2 ⟨_, _, I2, pl, rfl, rfl⟩
  refine thn (hu.run pins s2 σ _ (fun o H3 => o = hi ∧ H3 = _) I2 (htu _ _ _ ⟨rfl, rfl⟩)) ?_
  rintro vu s3 ⟨_, _, I3, pu, rfl, rfl⟩
  refine thn (hst.run pins s3 σ _ (fun o H4 => o = some (-1) ∧ H4 = _) I3 ⟨1, rfl, -1, rfl, rfl, rfl⟩) ?_
  rintro vs s4 ⟨_, _, I4, ps, rfl, rfl⟩
  have I5 : L2.Inv X pins σ _ { s4 with heap := s4.heap.push { cls := .type "slice", data := .fields #[vl, vu, vs] } } := I4.kept (t' := s4.toks) fun b ob z => Heap.get?_push_of_some _ z
  obtain ⟨its, r, ht, hz⟩ := I5.tuple hx
  have ln := r.length
  show wpAny (model X.prog X.w) X.A (subscriptTail e (.Slice none up (some (.UnaryOp .USub (.Constant (.int 1) k p1) p2)) p3) (.ref a) (.ref s4.heap.objs.size)) (EP X pins σ Q) X.xe { s4 with heap := s4.heap.push { cls := .type "slice", data := .fields #[vl, vu, vs] } }
  refine tail_any (ops := [.ref a, .ref s4.heap.objs.size]) ht.typeIs PyProof.Rows.slot_tuple_getitem.lookup ?_ (by with_unfolding_all rfl)
  refine getItem_back ht (Heap.IsSliceOf.new _ vl vu vs) pl pu ps (by rw [List.size_toArray]; omega) fun m hm => ?_
  have ys := vals_pick r (is := (List.range m).map fun (i : Nat) => ((its.toArray.size : Int) - 1 + (i : Int) * (-1)).toNat)
  rw [List.filterMap_map, List.filterMap_map] at ys
  have ey : ((fun i => its[i]?) ∘ fun (i : Nat) => ((its.toArray.size : Int) - 1 + (i : Int) * (-1)).toNat) = fun (i : Nat) => its.toArray[((its.toArray.size : Int) - 1 + (i : Int) * (-1)).toNat]? := by
    funext i
    simp only [Function.comp, List.getElem?_toArray]
  rw [ey] at ys
  have small : ∀ {α : Type} (f : Nat → Option α), ((List.range m).filterMap f).length ≤ xs.length := fun f => Nat.le_trans (List.length_filterMap_le _ _) (by rw [List.length_range]; rw [List.size_toArray] at hm; omega)
  refine ⟨.ref _, _, I5.laid (t' := s4.toks) (o := .tup ((List.range m).filterMap ((fun i => xs[i]?) ∘ fun (i : Nat) => ((its.toArray.size : Int) - 1 + (i : Int) * (-1)).toNat))) (fun b ob z => Heap.get?_push_of_some _ z) (Nat.le_refl _) ?_, rfl, q _ (fun v hv => ?_) (small _) _ (I5.hok.fresh (Nat.le_refl _))⟩
  · exact ⟨Nat.le_trans (small _) hz, _, ys, IsTup.new _ _⟩
  · obtain ⟨i, _, e⟩ := List.mem_filterMap.mp hv
    exact List.mem_of_getElem? e
theorem rd_backT {K : PySem.W.Frag} {te : TE} {hi : Option Int} {σ : L2.St} {H : Hp} {Q : VK} (h : te σ H fun x H1 => ∃ a xs, x = .ref a ∧ SqT K H1 a xs ∧ ∀ ys : List V, (∀ v ∈ ys, v ∈ xs) → ys.length ≤ xs.length → ∀ p, H1 p = none → Q (.ref p) (upd H1 p (.tup ys))) : tBackT K te hi σ H Q := h
end U

/-! isinstance of a kept exception, its dict known -/
namespace U
open PySem PySem.Spec PyProof.Rows L2
section
variable {P : Program} {w : World} {A : Around} {E : Value → Shared → Prop} {K : PySem.W.Frag} {x D : Addr} {ox : Obj} {od : Option Obj}
theorem find_class (C : ExcC K D) : PySem.W.findObj K D od "__class__" = some (.bind (.builtin "getset_descriptor.__get__") (.builtin "object.__class__")) := by
  obtain ⟨cd, hc, _⟩ := PySem.W.any_some C.hd
  unfold PySem.W.findObj
  rw [hc, Option.bind_some, C.ha, Option.bind_some]
  simp [C.hn, C.ht]
theorem class_of_exc {Q : Option Value → Shared → Prop} {s : Shared} (C : ExcC K D) (X : K.In s.heap) (I : PySem.W.InstAt s.heap x ox D od) (h : Q (some (.ref D)) { s with toks := s.toks + 1 }) : wpAny (model P w) A (getAttr? (.ref x) "__class__") Q E s := by
  obtain ⟨hp, g, d, t, os⟩ := s
  have lt := I.type (M := model P w)
  have l1 := PySem.W.looks_findIn (M := model P w) X C.hg
  have l2 := PySem.W.looks_findIn (M := model P w) X C.hk
  have l3 := PySem.W.looks_find (M := model P w) X I (find_class C)
  have isB : PySem.W.Looks (model P w) hp (isInstance (.ref x) (.type "BaseException")) true := lt.andThen (PySem.W.looks_subIn X C.hs)
  have q1 : (Value.builtin "BaseException.__getattribute__" == Value.builtin "object.__getattribute__") = false := by decide +kernel
  have q2 : (onTheHeap (Value.ref D) && Value.builtin "BaseException.__getattribute__" == Value.builtin "object.__getattribute__") = false := by rw [q1] <;> rfl
  have q3 : (false && onTheHeap (Value.builtin "BaseException.__getattribute__")) = false := rfl
  unfold getAttr? getAttrBy? getAttrBy
  refine wpAny_bind (wpAny_mkText (wpAny_bind (wpAny_attempt ?_)))
  refine wpAny_holding (wpAny_bind (lt.at (wpAny_bind (l1.at ?_))))
  show wpAny _ _ (if (onTheHeap (Value.ref D) && Value.builtin "BaseException.__getattribute__" == Value.builtin "object.__getattribute__") = true then _ else _) _ _ _
  rw [q2, if_neg Bool.false_ne_true]
  unfold getAttrByItsOwn hookBefore
  refine wpAny_bind ?_
  rw [if_pos (show onTheHeap (Value.ref D) = true from rfl)]
  refine l2.at (wpAny_bind (wpAny_attempt (wpAny_holding ?_)))
  unfold callGetattribute
  rw [q3, if_neg Bool.false_ne_true]
  unfold boundAndCalled
  rw [PySem.F.excAttr_ValueError.ga.bind (.ref x)]
  refine wpAny_bind (wpAny_pure ?_)
  show wpAny _ _ (call (.builtin "BaseException.__getattribute__") [.ref x, .str "__class__" t]) _ _ _
  refine wpAny_call (PySem.codeAny_call_builtin PySem.F.excAttr_ValueError.ga.plain PySem.F.entry_bexc_ga ?_)
  have args := PySem.F.args_bexc_ga (.ref x) (.str "__class__" t)
  refine @PySem.W.check_slot (model P w) _ _ ⟨hp, g, d, t + 1, os⟩ "BaseException.__getattribute__" "BaseException" "__getattribute__" (.ref x) [.str "__class__" t] [] _ (by decide +kernel) (by decide +kernel) isB args ?_
  unfold Builtin.«object.__getattribute__»
  refine wpAny_bind (wpAny_of_eq (a := ((Value.ref x : Value), [Value.str "__class__" t])) (by first | rfl | (simp only [slotArgs]; rfl)) ?_)
  refine wpAny_bind (wpAny_pure ?_)
  refine wpAny_bind (lt.at (wpAny_bind (l3.at ?_)))
  show wpAny _ _ (holding [Value.builtin "object.__class__"] (call (.builtin "getset_descriptor.__get__") [.builtin "object.__class__", .ref x, .ref D]) >>= ret) _ _ _
  refine wpAny_bind (wpAny_holding (wpAny_call ?_))
  refine PySem.W.class_get (s := ⟨hp, g, d, t + 1, os⟩) (ox := ox) (od := od) X I C.hm ?_
  refine wpAny_pure ?_
  show wpAny _ _ (handedOut (.ref D)) _ _ _
  rw [PySem.W.handedOut_of (v := .ref D) rfl]
  first
    | exact wpAny_pure (wpAny_pure h)
    | exact wpAny_pure h
    | exact wpAny_pure (wpAny_bind (wpAny_pure (wpAny_pure h)))
theorem kitx_exc (C : ExcC K D) : PySem.W.KitX K (.ref x) (.ref D) (fun h => ∃ ox od, PySem.W.InstAt h x ox D od) where
  ty := fun _ _ _ ⟨_, _, I⟩ => I.type
  it := fun M h X _ => by
    obtain ⟨cd, hcD, _⟩ := PySem.W.any_some C.hd
    unfold PySem.W.clsIn at hcD
    split at hcD
    · rename_i ho
      intro A' Q' E' s' k q
      unfold isType loadHead
      refine wpAny_bind (wpAny_loadPart (k _ _ (X _ _ ho)) ?_)
      exact wpAny_pure q
    · cases hcD
  ne := fun h tp dd its n sl X htp => (PySem.W.handS_kitx_exc (x := x) (ox := default) C.hg C.hk C.hs C.hd C.ha C.hn C.ht C.hm).ne h tp dd its n sl X htp
  ca := fun X ⟨_, _, I⟩ k => class_of_exc C X I k
end
/-- isinstance(e, c), e kept -/
def rIsK (K : PySem.W.Frag) : List V → Hp → VK → Prop := fun xs H Q => ∃ (a C dd : Addr) (fs : List (Str × V)) (c : V) (cv : Value) (b : Bool), xs = [.ref a, c] ∧ H a = some (exk a (.ref C) (some dd)) ∧ H dd = some (.xd fs) ∧ ExcC K C ∧ (∀ u, RelV c u → u = cv) ∧ PySem.W.kitOne K (.ref C) cv = some b ∧ Q (.bl b) H
theorem kIsK {X : Cx} (K : PySem.W.Frag) (hK : X.K = K) : CallR X (.builtin "isinstance") (rIsK K) := by
  subst hK
  intro pins s σ H xs us Q I r h
  obtain ⟨a, C, dd, fs, c, cv, b, rfl, hk, hdd, T, hcv, e, q⟩ := h
  match us, r with
  | [_, u], .cons rx (.cons rt .nil) =>
    cases rx
    have ec := hcv _ rt
    subst ec
    obtain ⟨oe, vs, h1, hz, hd⟩ := exk_at I.hok hk
    have hx : ObjOk X.prog X.w H s.heap dd (.xd fs) := I.hok dd _ hdd
    obtain ⟨mA, hns, hr⟩ := hx
    obtain ⟨od, ho, hl2⟩ := lookIn_ns hns
    have J : PySem.W.InstAt s.heap a oe C (some od) := by
      refine ⟨h1, hz.1, ?_, ?_⟩
      · unfold PySem.W.notCls
        rw [hd] <;> rfl
      · rw [hz.2]
        exact ho
    exact PySem.W.kia_one (kitx_exc T) I.kIn ⟨_, _, J⟩ e (fun z => nomatch z) fun tk => ⟨.bl b, H, I.kept (t' := tk) fun _ _ z => z, rfl, q⟩
theorem rd_isK {K : PySem.W.Frag} {H : Hp} {Q : VK} {a C dd : Addr} {fs : List (Str × V)} {c : V} {cv : Value} {b : Bool} (hk : H a = some (exk a (.ref C) (some dd))) (hd : H dd = some (.xd fs)) (T : ExcC K C) (hc : ∀ u, RelV c u → u = cv) (e : PySem.W.kitOne K (.ref C) cv = some b) (h : Q (.bl b) H) : rIsK K [.ref a, c] H Q :=
  ⟨a, C, dd, fs, c, cv, b, rfl, hk, hd, T, hc, e, h⟩
end U
namespace U
open PySem PySem.Spec PyProof.Rows L2
theorem kit_refT {K : PySem.W.Frag} {D C : Addr} (h1 : PySem.W.isClsIn K C = true) (h2 : PySem.W.typeIn K (.ref C) = some (.type "type")) (h3 : PySem.W.subIn K (.ref D) (.ref C) = some true) : PySem.W.kitOne K (.ref D) (.ref C) = some true := by
  have h1' : (PySem.W.clsIn K C).isSome = true := h1
  unfold PySem.W.kitOne PySem.W.kitCls
  split
  · rfl
  · show (if ((PySem.W.clsIn K C).isSome && PySem.W.typeIn K (.ref C) == some (.type "type")) = true then PySem.W.subIn K (.ref D) (.ref C) else none) = some true
    rw [if_pos (by rw [h1', h2] <;> rfl)]
    exact h3
theorem kit_ty {K : PySem.W.Frag} {D : Addr} {T : String} {b : Bool} (h1 : PySem.W.kitMeta T = true) (h3 : PySem.W.subIn K (.ref D) (.type T) = some b) : PySem.W.kitOne K (.ref D) (.type T) = some b := by
  unfold PySem.W.kitOne PySem.W.kitCls
  show (if (Value.ref D == Value.type T) = true then some true else if PySem.W.kitMeta T = true then PySem.W.subIn K (.ref D) (.type T) else none) = some b
  rw [if_neg (fun z => nomatch (beq_iff_eq.mp z : Value.ref D = Value.type T)), if_pos h1]
  exact h3
end U

/-! repr of [graph, state, lift, pins], the lift's numbers small -/
namespace U
open PySem PySem.Spec PyProof.Rows L2
end U

/-! repr of a list of dicts of larger numbers -/
namespace U
open PySem PySem.Spec PyProof.Rows L2
end U

/-! repr of a tuple of data and dicts of numbers; a tuple == () -/
namespace U
open PySem PySem.Spec PyProof.Rows L2
theorem rd_eqNilS {K : PySem.W.Frag} {H : Hp} {Q : VK} {p q : Addr} {xs : List Str} (hp : SqL K H p (xs.map V.str)) (hq : SqL K H q []) (ok : ∀ x ∈ xs, PyData.strOk x = true) (h : Q (.bl xs.isEmpty) H) : rEqU K (.ref p) (.ref q) H Q := by
  refine ⟨_, _, .lst hp (dp_strs _), .lst hq .nil, ?_, by decide, ?_⟩
  · unfold SeqAt.shaped
    rw [PyData.canLay0, can_strs ok, PyData.depth, dep_strs]
    rfl
  · have : PyData.eqv (.list (xs.map PyData.str)) (.list []) = xs.isEmpty := by
      cases xs with
      | nil => simp [PyData.eqv, PyData.eqvAll]
      | cons _ _ => simp [PyData.eqv, PyData.eqvAll]
    rw [this]
    exact h
end U

/-! smallest_path -/
namespace Law
open PySem PySem.Spec PyProof.Rows L2 U LamX


section
variable {P : Program} {w : World} {K : PySem.W.Frag} {mg : Str → Option Value} {base : Heap}
end
end Law

/-! cycle_at, cycle_nodes, find_anchors -/
namespace Law
open PySem PySem.Spec PyProof.Rows L2 U LamX


theorem ExtN.li {H H' : Hp} (e : ExtN H H') {a : Addr} {xs : List V} (h : H a = some (.lst xs)) : H' a = some (.lst xs) := e _ _ h fun _ z => nomatch z
theorem ExtN.tu {H H' : Hp} (e : ExtN H H') {a : Addr} {xs : List V} (h : H a = some (.tup xs)) : H' a = some (.tup xs) := e _ _ h fun _ z => nomatch z
theorem ExtN.dk {H H' : Hp} (e : ExtN H H') {a : Addr} {xs : List (Key × V)} (h : H a = some (.dK xs)) : H' a = some (.dK xs) := e _ _ h fun _ z => nomatch z
theorem GSt.ext {H H' : Hp} {g n e st : Addr} {ns ord : List Str} {es : List (Addr × Str × Str)} {f : Str → Int} (h : GSt H g n e st ns ord es f) (x : ExtN H H') : GSt H' g n e st ns ord es f :=
  ⟨⟨ExtN.tu x h.gr.top, ExtN.tu x h.gr.nodes, ExtN.tu x h.gr.edges, fun y hy => ExtN.tu x (h.gr.pairs y hy)⟩, h.ok, h.pm, h.l2, h.l3, ExtN.dk x h.st, h.tri, h.pro⟩
section
variable {P : Program} {w : World} {K : PySem.W.Frag} {mg : Str → Option Value} {base : Heap}
end
end Law

/-! cycle_nodes, find_anchors -/
namespace Law
open PySem PySem.Spec PyProof.Rows L2 U LamX


section
variable {P : Program} {w : World} {K : PySem.W.Frag} {mg : Str → Option Value} {base : Heap}
end
end Law

/-! reach, cycles, anchors as the laws find them -/
namespace Law
open PySem PySem.Spec PyProof.Rows L2 U


section
variable {P : Program} {w : World} {K : PySem.W.Frag} {mg : Str → Option Value} {base : Heap}
end
end Law

/-! repr of [graph, state, pins], of moves -/
namespace Law
open PySem PySem.Spec PyProof.Rows L2 U
section
variable {K : PySem.W.Frag} {H : Hp} {Q : VK} {p q : Addr} {σ : L2.St}
end
end Law

/-! draws and tables of code objects together -/
namespace Law
open PySem PySem.Spec PyProof.Rows L2 U LamX
/-- nothing but the draws' source and the tables changes -/
structure GoN (T : List (Addr × Str)) (p : Addr) (H H' : Hp) : Prop where
  but : ∀ b o, b ≠ p → H b = some o → (∀ ps, o ≠ .tbl ps) → H' b = some o
  pool : PoolAt H' p
  tabs : Tabs T H'
theorem tabs_but {T : List (Addr × Str)} {H H' : Hp} {p : Addr} {ys : List V} (t : Tabs T H) (hp : H p = some (.lst ys)) (b : But p H H') : Tabs T H' := fun q hq => by
  obtain ⟨ps, h1, h2, h3⟩ := t q hq
  refine ⟨ps, b _ _ (ne_of h1 hp (by intro z; cases z)) h1, h2, fun pos cv hc => ?_⟩
  obtain ⟨c, e1, e2⟩ := h3 pos cv hc
  exact ⟨c, e1, b _ _ (ne_of e2 hp (by intro z; unfold CodeO at z; cases z)) e2⟩
section
variable {T : List (Addr × Str)} {p : Addr} {H H1 H' : Hp}
theorem GoN.refl (hp : PoolAt H p) (t : Tabs T H) : GoN T p H H := ⟨fun _ _ _ h _ => h, hp, t⟩
theorem GoN.trans (a : GoN T p H H1) (b : GoN T p H1 H') : GoN T p H H' := ⟨fun c o n h z => b.but c o n (a.but c o n h z) z, b.pool, b.tabs⟩
theorem GoN.of_go (t : Tabs T H) (hp : PoolAt H p) (g : Go p H H') : GoN T p H H' := ⟨fun b o n h _ => g.but b o n h, g.pool, by
  obtain ⟨ys, hy⟩ := hp.isL
  exact tabs_but t hy g.but⟩
theorem GoN.of_ext (hp : PoolAt H p) (x : ExtN H H') (t : Tabs T H') : GoN T p H H' := ⟨fun b o _ h z => x b o h z, hp.keep fun a xs h => ExtN.li x h, t⟩
theorem GoN.of_same (t : Tabs T H) (hp : PoolAt H p) (s : Same H H') : GoN T p H H' := .of_go t hp (Go.of_same hp s)
theorem GoN.go (a : GoN T p H H1) (g : Go p H1 H') : GoN T p H H' := a.trans (.of_go a.tabs a.pool g)
theorem GoN.same (a : GoN T p H H1) (s : Same H1 H') : GoN T p H H' := a.trans (.of_same a.tabs a.pool s)
theorem GoN.ext (a : GoN T p H H1) (x : ExtN H1 H') (t : Tabs T H') : GoN T p H H' := a.trans (.of_ext a.pool x t)
theorem GoN.tu (g : GoN T p H H') (hp : PoolAt H p) {a : Addr} {xs : List V} (h : H a = some (.tup xs)) : H' a = some (.tup xs) := g.but _ _ (hp.offT h) h fun _ z => nomatch z
theorem GoN.dk (g : GoN T p H H') (hp : PoolAt H p) {a : Addr} {xs : List (Key × V)} (h : H a = some (.dK xs)) : H' a = some (.dK xs) := g.but _ _ (hp.offD h) h fun _ z => nomatch z
theorem GoN.li (g : GoN T p H H') {a : Addr} {xs : List V} (n : a ≠ p) (h : H a = some (.lst xs)) : H' a = some (.lst xs) := g.but _ _ n h fun _ z => nomatch z
theorem seqL_newN {K : PySem.W.Frag} {a : Addr} {o : HO} {xs : List V} (h : SqL K H a xs) (np : H p = none) (b : GoN T p (upd H p o) H') : SqL K H' a xs := by
  rcases h with (h | ⟨o, h⟩) | h
  · exact .inl (.inl (b.but _ _ (ne_of_none h np) (at_upd (ne_of_none h np) h) fun _ z => nomatch z))
  · exact .inl (.inr ⟨o, b.but _ _ (ne_of_none h np) (at_upd (ne_of_none h np) h) fun _ z => nomatch z⟩)
  · exact .inr h
theorem sqL_ext {K : PySem.W.Frag} {a : Addr} {xs : List V} (h : SqL K H a xs) (x : ExtN H H') : SqL K H' a xs := by
  rcases h with (h | ⟨o, h⟩) | h
  · exact .inl (.inl (ExtN.li x h))
  · exact .inl (.inr ⟨o, x _ _ h fun _ z => nomatch z⟩)
  · exact .inr h
theorem TupsAt.ext {ms : List (Addr × Str × Int)} (h : TupsAt H ms) (x : ExtN H H') : TupsAt H' ms := fun m hm => ExtN.tu x (h m hm)
end
end Law

/-! k01: what is to be expected, what comes -/
namespace Law
open PySem PySem.Spec PyProof.Rows L2 U LamX NdefX


theorem rd_ninChQ {c : Nat} {z : Str} {H : Hp} {Q : VK} (h : Q (.bl (!decide (c ∈ z.cps.toList))) H) : rNotInS (.str ⟨#[c]⟩) (.str z) H Q := ⟨c, z, rfl, rfl, h⟩
def ShT (x : V) : Prop := ∀ s, x = .str s → s.length ≤ 1000 ∧ PyData.strOk s = true
theorem It1.sht {H : Hp} {v : V} (h : It1 H v) : ShT v := by
  rcases h with (rfl | ⟨i, rfl⟩ | ⟨s, rfl, l, o⟩ | ⟨a, ss, rfl, h | h, _⟩) | ⟨a, rfl, h⟩ | ⟨a, xs, rfl, h, _⟩
  · exact nofun
  · exact nofun
  · exact fun s' e => by cases e; exact ⟨l, o⟩
  · exact nofun
  · exact nofun
  · exact nofun
  · exact nofun
def spIsNm : Sp := fun vs H Q _ => ∃ x : V, vs = [x] ∧ Ob H x ∧ ShT x ∧ ∀ H' : Hp, Same H H' → Q (.bl (goodM x)) H'
def spEdg01 : Sp := fun vs H Q _ => ∃ (n : Addr) (v : V) (ns : List Str), vs = [.ref n, v] ∧ H n = some (.tup (ns.map V.str)) ∧ (∀ s ∈ ns, s.length ≤ 1000 ∧ PyData.strOk s = true) ∧ It1 H v ∧ Q (.bl (goodE H ns v)) H
/-- what is told of a would-be graph -/
def ResG (H : Hp) (x : V) (r : Option (Str × V)) : Prop := (r = none ∧ x = .non) ∨ ∃ t part pos, r = some (part, pos) ∧ x = .ref t ∧ H t = some (.tup [.str part, pos])
theorem ResG.keep {H H' : Hp} {x : V} {r : Option (Str × V)} (h : ResG H x r) (k : ∀ a xs, H a = some (.tup xs) → H' a = some (.tup xs)) : ResG H' x r := by
  rcases h with h | ⟨t, p, y, e1, e2, h⟩
  · exact .inl h
  · exact .inr ⟨t, p, y, e1, e2, k _ _ h⟩
theorem RG.ext {H H' : Hp} {v : V} {r : Option (Str × V)} (h : RG H v r) (x : ExtN H H') : RG H' v r := by
  rcases h with ⟨ob, nt, e⟩ | ⟨a, xs, rfl, ha, rg⟩
  · exact .inl ⟨ob.ext fun b o h z => x b o h z, fun a xs e => Law.Ob.noTup ob nt x e, e⟩
  · refine .inr ⟨a, xs, rfl, x _ _ ha nofun, ?_⟩
    rcases rg with z | ⟨vn, ve, e, pn, pe, alt⟩
    · exact .inl z
    · refine .inr ⟨vn, ve, e, pn.ext x, pe.ext x, ?_⟩
      rcases alt with ⟨y, p, e⟩ | ⟨n, ns, e, hn, p1, nm, p2⟩
      · exact .inl ⟨y, PartR.ext p pn.1 x, e⟩
      · refine .inr ⟨n, ns, e, x _ _ hn nofun, PartR.ext p1 pn.1 x, nm, ?_⟩
        have p3 := PartR.ext p2 pe.1 x
        rcases p3 with z | ⟨b, ys, e3, hb, k⟩
        · exact .inl z
        · refine .inr ⟨b, ys, e3, hb, ?_⟩
          have its : ∀ y ∈ ys, It1 H y := by
            rcases p2 with ⟨nt, _⟩ | ⟨b2, ys2, e4, hb2, _⟩
            · exact absurd hb (Law.Ob.noTup pe.1 nt x e3)
            · rw [e3] at e4
              cases e4
              have := x _ _ hb2 nofun
              rw [hb] at this
              cases this
              exact (pe.2 b ys e3 hb2).2
          have same : ∀ i, i < ys.length → badAt (goodE H' ns) (dEd H') ys i = badAt (goodE H ns) (dEd H) ys i := fun i hi => by
            have one : ∀ j, j < ys.length → goodE H' ns (ys[j]?.getD .non) = goodE H ns (ys[j]?.getD .non) ∧ dEd H' (ys[j]?.getD .non) = dEd H (ys[j]?.getD .non) := fun j hj => by
              rw [List.getElem?_eq_getElem hj]
              have it := its _ (List.getElem_mem hj)
              exact ⟨goodE_same it.ob.1 fun b o h z => x b o h z, dEd_same it.ob.1 fun b o h z => x b o h z⟩
            unfold badAt
            rw [(one i hi).1, (one i hi).2]
            by_cases i0 : 0 < i
            · rw [(one (i - 1) (by omega)).2]
            · rw [decide_eq_false i0, Bool.false_and, Bool.false_and]
          rcases k with z | ⟨le, ⟨i, i1, i2, i3, e5⟩ | ⟨i1, e5⟩⟩
          · exact .inl z
          · exact .inr ⟨le, .inl ⟨i, i1, by rw [same i i1]; exact i2, fun j hj => by rw [same j (by omega)]; exact i3 j hj, e5⟩⟩
          · exact .inr ⟨le, .inr ⟨fun j hj => by rw [same j hj]; exact i1 j hj, e5⟩⟩
theorem res_badG {p : Nat → Bool} {n : Nat} {part : Str} {r : Option (Str × V)} (res : (∃ i : Nat, i < n ∧ p i = true ∧ (∀ j, j < i → p j = false) ∧ r = some (part, .int i)) ∨ ((∀ i, i < n → p i = false) ∧ r = none)) {i : Nat} (hi : i < n) (b : p i = true) (bef : ∀ j, j < i → p j = false) : r = some (part, .int i) := by
  rcases res with ⟨k, k1, k2, k3, k4⟩ | ⟨k, _⟩
  · rcases Nat.lt_trichotomy k i with z | z | z
    · rw [bef k z] at k2
      cases k2
    · rw [k4, z]
    · rw [k3 i z] at b
      cases b
  · rw [k i hi] at b
    cases b
theorem res_okG {p : Nat → Bool} {n : Nat} {part : Str} {r : Option (Str × V)} (res : (∃ i : Nat, i < n ∧ p i = true ∧ (∀ j, j < i → p j = false) ∧ r = some (part, .int i)) ∨ ((∀ i, i < n → p i = false) ∧ r = none)) (ok : ∀ i, i < n → p i = false) : r = none := by
  rcases res with ⟨k, k1, k2, _⟩ | ⟨_, k⟩
  · rw [ok k k1] at k2
    cases k2
  · exact k
def spExp01 : Sp := fun vs H Q _ => ∃ (v : V) (r : Option (Str × V)), vs = [v] ∧ RG H v r ∧ ∀ (x : V) (H' : Hp), Same H H' → ResG H' x r → Q x H'
def spCall01 (T : List (Addr × Str)) : Sp := fun vs H Q _ => ∃ (v : V) (r : Option (Str × V)), vs = [v] ∧ RG H v r ∧ Tabs T H ∧ ∀ (x : V) (H' : Hp), ExtN H H' → Tabs T H' → ResG H' x r → Q x H'
structure Is01 (K : PySem.W.Frag) (mg : Str → Option Value) (CE CB : Addr) : Prop where
  cls : ExcC K CE
  gI : mg "InputError" = some (.ref CB)
  gG : mg "InvalidGraph" = some (.ref CE)
  gV : mg "ValueError" = none
  gK : mg "KeyError" = none
  iG : PySem.W.kitOne K (.ref CE) (.ref CE) = some true
  iV : PySem.W.kitOne K (.ref CE) (.type "ValueError") = some true
  iK : PySem.W.kitOne K (.ref CE) (.type "KeyError") = some false
  mI : PySem.W.exmOne K (.ref CE) (.ref CB) = some true
structure QEa (P : Program) (w : World) (K : PySem.W.Frag) (mg : Str → Option Value) (base : Heap) (T : List (Addr × Str)) (CE : Addr) : Prop where
  check_graph : Cal P w K mg base (L2.CX P w) 5 "check_graph" (spCkGr T CE)
structure QEb (P : Program) (w : World) (K : PySem.W.Frag) (mg : Str → Option Value) (base : Heap) : Prop where
  _law_is_name : Cal P w K mg base CX0 1 "_law_is_name" spIsNm
  _law_is_edge : Cal P w K mg base CX0 1 "_law_is_edge" spEdg01
section
variable {P : Program} {w : World} {K : PySem.W.Frag} {mg : Str → Option Value} {base : Heap}
theorem ok_isNm {f : Addr} {fd : FuncData} (F : Fun K "_law_is_name" "_law_is_name" s__law_is_name f fd) (B : Bt mg) : FnG P w K mg base CX0 1 f fd ["_law_candidate"] spIsNm := by
  refine fnG0 F sc__law_is_name (fun vs H Q E h => ?_) (fun cdv A outer s H vs Q E hr h => ?_)
  · obtain ⟨x, rfl, _⟩ := h
    rfl
  · obtain ⟨x, rfl, ob, sh, q⟩ := h
    have nd := sc__law_is_name.nd
    have hu := hr.u1
    have sH : Same H H := fun _ _ h => h
    refine ⟨_, (pss_cons (ps_if (PW.pt (pw_or (pt_not (pt_val (pe_callB (kIsi K rfl) (by rfl) B.isinstance bb_isinstance (pa_cons (pv 0) (pa_cons (pe_ty rfl B.str bb_str) pa_nil))))) (pw_or1 (pt_not (pt_chain uLe uLe pe_int (pe_callB (kLen K rfl) (by rfl) B.len bb_len (pa_cons (pv 0) pa_nil)) pe_int))))) (pss_one (ps_ret pe_bl)) pss_nil)
  (pss_one (ps_ret (pe_cmpR (kEq K rfl hr.u64) (pe_lc (own := [("_law_value", 1)]) rfl nd (pi_str (pv 0)) (blkOk_by (own := [("_law_value", 1)]) (N := nN__law_is_name) (sc := defScope s__law_is_name) (by decide +kernel)) (fun _ _ _ _ _ => (pg_name (i := 1) nd rfl (by first | exact Or.inl rfl | exact Or.inr rfl))) (fun _ _ _ _ _ => (pts_one (pt_cmpR op_notInS (pv 1) pe_str rfl))) (fun _ _ _ _ _ => (pv 1))) (pe_lst pa_nil) (nomark _))))), ?_⟩
    obtain ⟨ty, hty, h1, _⟩ := ob.ty (K := K)
    wtm_at "rd"
    refine rd_isi hty (t := .str) (by decide +kernel) ?_
    by_cases z : ∃ s, x = .str s
    rotate_left
    · rw [show isT ty .str = false from by
        cases z2 : isT ty .str with
        | false => rfl
        | true => exact absurd (h1.mp z2) z]
      wtm_at "rd"
      have := q H sH
      rw [goodM_no z] at this
      exact this
    rw [h1.mpr z]
    obtain ⟨s, rfl⟩ := z
    obtain ⟨l1, so⟩ := sh s rfl
    have q : ∀ H' : Hp, Same H H' → Q (.bl (nmB s)) H' := q
    wtm_at "rd"
    refine rd_lenS (by omega) ?_
    wtm_at "rd"
    by_cases c1 : 1 ≤ s.length
    rotate_left
    · refine rd_no (by omega) ?_
      wtm_at "rd"
      have := q H sH
      rw [show nmB s = false from by unfold nmB; rw [decide_eq_false c1]; rfl] at this
      exact this
    refine rd_yes (by omega) ?_
    wtm_at "rd"
    by_cases c2 : s.length ≤ 8
    rotate_left
    · refine rd_nyes (by omega) ?_
      wtm_at "rd"
      have := q H sH
      rw [show nmB s = false from by unfold nmB; rw [decide_eq_false c2, Bool.false_and, Bool.and_false]] at this
      exact this
    refine rd_nno (by omega) ?_
    wtm_at "rd"
    refine ⟨_, rfl, s, rfl, ?_⟩
    intro D fD
    have len8 : s.cps.size ≤ 8 := c2
    refine lc_it walk_str (fun i H2 => Same H H2 ∧ H2 D = some (.lst (((s.cps.toList.take i).filter fun c => !decide (c ∈ abcQ)).map fun c => V.str ⟨#[c]⟩))) ⟨Same.new fD, upd_same⟩ (fun _ _ _ _ => trivial) ?_ ?_
    · rintro i y H2 H3 hi ⟨s', hD⟩ ⟨rfl, c, hc, rfl⟩
      have hi : i < s.cps.size := hi
      have hi' : i < s.cps.toList.length := by simpa using hi
      have ec : s.cps.toList[i] = c := by
        have := Array.getElem?_eq_some_iff.mp hc
        obtain ⟨_, h⟩ := this
        rw [← h]
        simp
      rw [take_snoc hi', List.filter_append, List.map_append, ec]
      have ll : ((s.cps.toList.take i).filter fun c => !decide (c ∈ abcQ)).length ≤ 8 := Nat.le_trans (List.length_filter_le _ _) (by rw [List.length_take]; omega)
      show gName _ (V.str ⟨#[c]⟩) _ _ _
      wtm_at "rd"
      refine rd_ninChQ ?_
      by_cases cin : c ∈ abcQ
      · rw [decide_eq_true cin]
        wtm_at "rd"
        refine ⟨s', ?_⟩
        rw [hD, List.filter_cons, if_neg (by simp [cin])]
        simp
      · rw [decide_eq_false cin]
        wtm_at "rd"
        refine rd_acc hD (by rw [List.length_map]; omega) ?_
        refine ⟨same_put s' fD, ?_⟩
        rw [upd_same, List.filter_cons, if_pos (by simp [cin])]
        rfl
    · rintro H2 ⟨s', hD⟩
      have e0 : s.cps.toList.take s.cps.size = s.cps.toList := List.take_of_length_le (by simp)
      rw [e0] at hD
      wtm_at "rd"
      intro l0 fl0
      have k0 := Same.new (o := .lst []) fl0
      have em : ((s.cps.toList.filter fun c => !decide (c ∈ abcQ)).map fun c => V.str ⟨#[c]⟩) = ((s.cps.toList.filter fun c => !decide (c ∈ abcQ)).map fun c => (⟨#[c]⟩ : Str)).map V.str := by rw [List.map_map]; rfl
      rw [em] at hD
      refine rd_eqNilS (SqL.of (k0 _ _ hD)) (SqL.of upd_same) (fun y hy => ?_) ?_
      · obtain ⟨c, hc, rfl⟩ := List.mem_map.mp hy
        have cin := (List.mem_filter.mp hc).1
        unfold PyData.strOk at so ⊢
        rw [Array.all_eq_true_iff_forall_mem] at so ⊢
        intro x hx
        have : x = c := by simpa using hx
        rw [this]
        exact so c (by simpa using cin)
      have := q _ (s'.trans k0)
      rw [show nmB s = ((s.cps.toList.filter fun c => !decide (c ∈ abcQ)).map fun c => (⟨#[c]⟩ : Str)).isEmpty from by
        unfold nmB
        rw [decide_eq_true c1, decide_eq_true c2, Bool.true_and, Bool.true_and, Bool.eq_iff_iff, List.all_eq_true, List.isEmpty_iff, List.map_eq_nil_iff, List.filter_eq_nil_iff]
        exact ⟨fun h c hc => by have := h c hc; simpa using this, fun h c hc => by have := h c hc; simpa using this⟩] at this
      exact this
theorem ok_edg01 {f : Addr} {fd : FuncData} (F : Fun K "_law_is_edge" "_law_is_edge" s__law_is_edge f fd) (B : Bt mg) : FnG P w K mg base CX0 1 f fd ["_law_nodes", "_law_candidate"] spEdg01 := by
  refine fnG0 F sc__law_is_edge (fun vs H Q E h => ?_) (fun cdv A outer s H vs Q E hr h => ?_)
  · obtain ⟨n, v, ns, rfl, _⟩ := h
    rfl
  · obtain ⟨n, v, ns, rfl, hn, ok, it, q⟩ := h
    have nd := sc__law_is_edge.nd
    have hu := hr.u1
    have hu65 : (A.deeper (envOfC "_law_is_edge" (defScope s__law_is_edge) s.heap.objs.size f cdv)).units + 65 < cLine := by
      have := hr.u100
      omega
    have sH : Same H H := fun _ _ h => h
    refine ⟨_, (pss_cons (ps_if (PW.pt (pw_or (pt_not (pt_val (pe_callB (kIsi K rfl) (by rfl) B.isinstance bb_isinstance (pa_cons (pv 1) (pa_cons (pe_ty rfl B.tuple bb_tuple) pa_nil))))) (pw_or1 (pt_cmpR (kNe K rfl hr.u64) (pe_callB (kLen K rfl) (by rfl) B.len bb_len (pa_cons (pv 1) pa_nil)) pe_int (nomark _))))) (pss_one (ps_ret pe_bl)) pss_nil)
  (pss_cons (ps_if (PW.pt (pw_or (pt_cmpR (kNotInT K rfl hu65) (pe_ix (kIx K rfl) (pv 1) pe_int (fun _ _ => rfl)) (pv 0) rfl) (pw_or1 (pt_cmpR (kNotInT K rfl hu65) (pe_ix (kIx K rfl) (pv 1) pe_int (fun _ _ => rfl)) (pv 0) rfl)))) (pss_one (ps_ret pe_bl)) pss_nil)
  (pss_one (ps_ret (pe_cmpR uLt (pe_ix (kIx K rfl) (pv 1) pe_int (fun _ _ => rfl)) (pe_ix (kIx K rfl) (pv 1) pe_int (fun _ _ => rfl)) (nomark _)))))), ?_⟩
    wtm_at "rd"
    obtain ⟨ty, hty, _, h2⟩ := it.ob.1.ty (K := K)
    refine rd_isi hty (t := .tup) (by decide +kernel) ?_
    by_cases z : ∃ a xs, v = .ref a ∧ H a = some (.tup xs)
    rotate_left
    · rw [show isT ty .tup = false from by
        cases z2 : isT ty .tup with
        | false => rfl
        | true => exact absurd (h2.mp z2) z]
      wtm_at "rd"
      have := q
      rw [goodE_no (fun a x y e1 e2 => z ⟨a, _, e1, e2⟩)] at this
      exact this
    rw [h2.mpr z]
    obtain ⟨a, xs, rfl, ha⟩ := z
    have parts := it.parts ha
    wtm_at "rd"
    refine rd_lenT (SqT.of ha) ?_
    wtm_at "rd"
    by_cases c2 : xs.length = 2
    rotate_left
    · refine rd_nyes (by omega) ?_
      wtm_at "rd"
      have := q
      rw [goodE_no (fun b x y e1 e2 => by
        rw [← V.ref.inj e1, ha] at e2
        cases e2
        exact c2 rfl)] at this
      exact this
    refine rd_nno (by omega) ?_
    obtain ⟨x, y, rfl⟩ : ∃ x y, xs = [x, y] := by
      match xs, c2 with
      | [x, y], _ => exact ⟨x, y, rfl⟩
    have px := parts x List.mem_cons_self
    have py := parts y (List.mem_cons_of_mem _ List.mem_cons_self)
    have fin : ∀ b : Bool, goodE H ns (.ref a) = b → Q (.bl b) H := fun b e => by
      have := q
      rw [e] at this
      exact this
    have noX : (∀ s, x ≠ .str s) ∨ (∀ s, y ≠ .str s) → goodE H ns (.ref a) = false := fun h => goodE_no fun b s s2 e1 e2 => by
      rw [← V.ref.inj e1, ha] at e2
      cases e2
      rcases h with h | h
      · exact h s rfl
      · exact h s2 rfl
    wtm_at "rd"
    refine rd_ixT (SqT.of ha) (v := x) rfl ?_
    wtm_at "rd"
    refine rd_ninPt (SqT.of hn) ok px ?_
    cases bx : inB ns x with
    | false =>
      wtm_at "rd"
      refine fin false ?_
      by_cases zx : ∃ s, x = .str s
      · obtain ⟨s, rfl⟩ := zx
        by_cases zy : ∃ s, y = .str s
        · obtain ⟨s2, rfl⟩ := zy
          rw [goodE_of ha, ← inB_str, bx]
          rfl
        · exact noX (.inr fun s e => zy ⟨s, e⟩)
      · exact noX (.inl fun s e => zx ⟨s, e⟩)
    | true =>
      wtm_at "rd"
      refine rd_ixT (SqT.of ha) (v := y) rfl ?_
      wtm_at "rd"
      refine rd_ninPt (SqT.of hn) ok py ?_
      obtain ⟨s, rfl⟩ : ∃ s, x = .str s := by
        cases x with
        | str s => exact ⟨s, rfl⟩
        | _ => exact absurd bx Bool.false_ne_true
      cases by_ : inB ns y with
      | false =>
        wtm_at "rd"
        refine fin false ?_
        by_cases zy : ∃ s, y = .str s
        · obtain ⟨s2, rfl⟩ := zy
          rw [goodE_of ha, ← inB_str, ← inB_str, bx, by_]
          rfl
        · exact noX (.inr fun s e => zy ⟨s, e⟩)
      | true =>
        obtain ⟨s2, rfl⟩ : ∃ s, y = .str s := by
          cases y with
          | str s => exact ⟨s, rfl⟩
          | _ => exact absurd by_ Bool.false_ne_true
        wtm_at "rd"
        refine rd_ixT (SqT.of ha) (v := .str s) rfl ?_
        wtm_at "rd"
        refine rd_ixT (SqT.of ha) (v := .str s2) rfl ?_
        wtm_at "rd"
        refine fin _ ?_
        rw [goodE_of ha, ← inB_str, ← inB_str, bx, by_, Bool.true_and, Bool.true_and]
theorem ok_exp01 {f : Addr} {fd : FuncData} (F : Fun K "_law_compute_expected" "_law_compute_expected" s__law_compute_expected f fd) (B : Bt mg) (C : QEb P w K mg base) : FnG P w K mg base CX0 2 f fd ["_law_candidate"] spExp01 := by
  refine fnG0 F sc__law_compute_expected (fun vs H Q E h => ?_) (fun cdv A outer s H vs Q E hr h => ?_)
  · obtain ⟨v, r, rfl, _⟩ := h
    rfl
  · obtain ⟨v, r, rfl, rg, q⟩ := h
    have nd := sc__law_compute_expected.nd
    have hu := hr.u1
    refine ⟨_, (pss_cons (ps_if (PW.pt (pw_or (pt_not (pt_val (pe_callB (kIsi K rfl) (by rfl) B.isinstance bb_isinstance (pa_cons (pv 0) (pa_cons (pe_ty rfl B.tuple bb_tuple) pa_nil))))) (pw_or1 (pt_cmpR (kNe K rfl hr.u64) (pe_callB (kLen K rfl) (by rfl) B.len bb_len (pa_cons (pv 0) pa_nil)) pe_int (nomark _))))) (pss_one (ps_ret (pe_tup (pa_cons pe_str (pa_cons pe_non pa_nil))))) pss_nil)
  (pss_cons (ps_for PassesOwn.never rfl (ki_list K rfl (pe_lst (pa_cons (pe_tup (pa_cons pe_str (pa_cons (pe_ix (kIx K rfl) (pv 0) pe_int (fun _ _ => rfl)) (pa_cons pe_int pa_nil)))) (pa_cons (pe_tup (pa_cons pe_str (pa_cons (pe_ix (kIx K rfl) (pv 0) pe_int (fun _ _ => rfl)) (pa_cons pe_int pa_nil)))) pa_nil)))) (kg_tup (n := 3) K rfl rfl (pgs_cons (pg_name (i := 1) nd rfl (by first | exact Or.inl rfl | exact Or.inr rfl)) (pgs_cons (pg_name (i := 2) nd rfl (by first | exact Or.inl rfl | exact Or.inr rfl)) (pgs_cons (pg_name (i := 3) nd rfl (by first | exact Or.inl rfl | exact Or.inr rfl)) pgs_nil)))) (pss_cons (ps_if (PW.pt (pw_or (pt_not (pt_val (pe_callB (kIsi K rfl) (by rfl) B.isinstance bb_isinstance (pa_cons (pv 2) (pa_cons (pe_ty rfl B.tuple bb_tuple) pa_nil))))) (pw_or1 (pt_cmpR uGt (pe_callB (kLen K rfl) (by rfl) B.len bb_len (pa_cons (pv 2) pa_nil)) (pv 3) (nomark _))))) (pss_one (ps_ret (pe_tup (pa_cons (pv 1) (pa_cons pe_non pa_nil))))) pss_nil)
  (pss_one (ps_for PassesOwn.never rfl (ki_enumT K rfl (by rfl) B.enumerate (pa_cons (pv 2) pa_nil)) (kg_tup (n := 2) K rfl rfl (pgs_cons (pg_name (i := 4) nd rfl (by first | exact Or.inl rfl | exact Or.inr rfl)) (pgs_cons (pg_name (i := 5) nd rfl (by first | exact Or.inl rfl | exact Or.inr rfl)) pgs_nil))) (pss_cons (ps_set (i := 6) nd rfl (by first | exact Or.inl rfl | exact Or.inr rfl) (pe_c C._law_is_name hr (by decide) rfl (pa_cons (pv 5) pa_nil)))
  (pss_cons (ps_if (pt_cmpR (kEq K rfl hr.u64) (pv 1) pe_str (nomark _)) (pss_one (ps_set (i := 6) nd rfl (by first | exact Or.inl rfl | exact Or.inr rfl) (pe_c C._law_is_edge hr (by decide) rfl (pa_cons (pe_ix (kIx K rfl) (pv 0) pe_int (fun _ _ => rfl)) (pa_cons (pv 5) pa_nil))))) pss_nil)
  (pss_one (ps_if (PW.pt (pw_or (pt_not (pt_val (pv 6))) (pw_or1 (PW.pt (pw_and (pt_cmpR uGt (pv 4) pe_int (nomark _)) (pw_and1 (pt_not (pt_cmpR (kLtD K rfl hr.u64) (pe_ix (kIx K rfl) (pv 2) (pe_op uSub (pv 4) pe_int) (fun _ _ => rfl)) (pv 5) (nomark _))))))))) (pss_one (ps_ret (pe_tup (pa_cons (pv 1) (pa_cons (pv 4) pa_nil))))) pss_nil))))))))
  (pss_one (ps_ret pe_non)))), ?_⟩
    wtm_at "rd"
    have form : ∀ {H1 : Hp}, r = some (("form" : Str), V.non) → Same H H1 → ∀ t : Addr, H1 t = none → Q (.ref t) (upd H1 t (.tup [.str "form", .non])) := fun e s t ft => q _ _ (s.trans (Same.new ft)) (.inr ⟨t, _, _, e, rfl, upd_same⟩)
    have sH : Same H H := fun _ _ h => h
    rcases rg with ⟨ob, nt, e⟩ | ⟨a, xs, rfl, ha, rg⟩
    · obtain ⟨ty, hty, _, h2⟩ := ob.ty (K := K)
      refine rd_isi hty (t := .tup) (by decide +kernel) ?_
      rw [show isT ty .tup = false from by
        cases z : isT ty .tup with
        | false => rfl
        | true =>
          obtain ⟨b, ys, e1, e2⟩ := h2.mp z
          exact absurd e2 (nt b ys e1)]
      wtm_at "rd"
      exact form e sH
    refine rd_isi (ty_tup ha) (t := .tup) (by decide +kernel) ?_
    rw [show isT .tup .tup = true from by decide +kernel]
    wtm_at "rd"
    refine rd_lenT (SqT.of ha) ?_
    wtm_at "rd"
    rcases rg with ⟨ne, e⟩ | ⟨vn, ve, rfl, pn, pe, alt⟩
    · refine rd_nyes (by omega) ?_
      wtm_at "rd"
      exact form e sH
    refine rd_nno (by rfl) ?_
    wtm_at "rd"
    refine rd_ixT (SqT.of ha) (v := vn) rfl ?_
    wtm_at "rd"
    intro t1 ft1
    have k1 := Same.new (o := .tup [.str "nodes", vn, .int 40]) ft1
    have ht1 := @upd_same H t1 (.tup [.str "nodes", vn, .int 40])
    have s1 := k1
    generalize upd H t1 (.tup [.str "nodes", vn, .int 40]) = H1 at *
    wtm_at "rd"
    refine rd_ixT (SqT.of (s1 _ _ ha)) (v := ve) rfl ?_
    wtm_at "rd"
    intro t2 ft2
    have k2 := Same.new (o := .tup [.str "edges", ve, .int 120]) ft2
    have ht2 := @upd_same H1 t2 (.tup [.str "edges", ve, .int 120])
    have ht1 := k2 _ _ ht1
    have s1 := s1.trans k2
    generalize upd H1 t2 (.tup [.str "edges", ve, .int 120]) = H2 at *
    wtm_at "rd"
    intro l0 fl0
    have k3 := Same.new (o := .lst [.ref t1, .ref t2]) fl0
    have hl0 := @upd_same H2 l0 (.lst [.ref t1, .ref t2])
    have ht1 := k3 _ _ ht1
    have ht2 := k3 _ _ ht2
    have s3 := s1.trans k3
    generalize upd H2 l0 (.lst [.ref t1, .ref t2]) = H3 at *
    clear k1 k2 k3 ft1 ft2 fl0 s1
    refine rd_forL (SqL.of hl0) ?_
    obtain ⟨rn, pr, l1, l2⟩ : ∃ rn, PartR H "nodes" 40 goodM dM vn rn ∧ (∀ x, rn = some x → r = some x) ∧ (rn = none → ∃ (n : Addr) (ns : List Str), vn = .ref n ∧ H n = some (.tup (ns.map V.str)) ∧ (∀ s ∈ ns, IsName s) ∧ PartR H "edges" 120 (goodE H ns) (dEd H) ve r) := by
      rcases alt with ⟨x, p1, e⟩ | ⟨n, ns, e, hn, p1, nms, p2⟩
      · exact ⟨some x, p1, (fun y e2 => by rw [e, e2]), fun z => nomatch z⟩
      · exact ⟨none, p1, (fun y e2 => nomatch e2), fun _ => ⟨n, ns, e, hn, nms, p2⟩⟩
    clear alt
    have keep3 : ∀ {Hx : Hp}, Same H Hx → True := fun _ => trivial
    refine turnsL (K := K) (xs := [V.ref t1, .ref t2]) (fun i σ H' => ∃ u1 u2 u3 u4 u5 u6 : Option V, σ = [some (.ref a), u1, u2, u3, u4, u5, u6] ∧ (Same H H' ∧ (H' l0 = some (.lst [.ref t1, .ref t2]) ∧ H' t1 = some (.tup [.str "nodes", vn, .int 40]) ∧ H' t2 = some (.tup [.str "edges", ve, .int 120]))) ∧ (i = 0 ∨ (i = 1 ∧ ∃ (n : Addr) (ns : List Str), vn = .ref n ∧ H n = some (.tup (ns.map V.str)) ∧ (∀ s ∈ ns, IsName s) ∧ PartR H "edges" 120 (goodE H ns) (dEd H) ve r) ∨ (i = 2 ∧ r = none))) ⟨_, _, _, _, _, _, rfl, ⟨s3, hl0, ht1, ht2⟩, .inl rfl⟩ ?_ ?_ ?_
    · rintro i σ H' hi ⟨u1, u2, u3, u4, u5, u6, rfl, ⟨_, hl, _, _⟩, _⟩
      exact SqL.of hl
    · rintro i y σ H' hy ⟨u1, u2, u3, u4, u5, u6, rfl, ⟨s1, hl, h1, h2'⟩, st⟩
      match i, hy with
      | 0, hy =>
        have ey : y = .ref t1 := (Option.some.inj hy).symm
        subst ey
        refine rd_unp (SqT.of h1) rfl ?_
        wtm_at "rd"
        have ob1 := pn.1.same s1
        obtain ⟨ty, hty, _, h2⟩ := ob1.ty (K := K)
        refine rd_isi hty (t := .tup) (by decide +kernel) ?_
        rcases pr with ⟨nt, e⟩ | ⟨b, ys, evv, hb, alt⟩
        · rw [show isT ty .tup = false from by
            cases z : isT ty .tup with
            | false => rfl
            | true =>
              obtain ⟨b, ys, e1, e2⟩ := h2.mp z
              exact absurd e2 (Law.Ob.noTup pn.1 nt (ExtN.of fun b o h => s1 b o h) e1)]
          wtm_at "rd"
          intro t ft
          exact q _ _ (s1.trans (Same.new ft)) (.inr ⟨t, _, _, l1 _ e, rfl, upd_same⟩)
        subst evv
        rw [h2.mpr ⟨b, ys, rfl, s1 _ _ hb⟩]
        wtm_at "rd"
        refine rd_lenT (SqT.of (s1 _ _ hb)) ?_
        wtm_at "rd"
        rcases alt with ⟨gt, e⟩ | ⟨le, res⟩
        · refine rd_yes (by omega) ?_
          wtm_at "rd"
          intro t ft
          exact q _ _ (s1.trans (Same.new ft)) (.inr ⟨t, _, _, l1 _ e, rfl, upd_same⟩)
        refine rd_no (by omega) ?_
        have its := (pn.2 b ys rfl hb).2
        wtm_at "rd"
        refine rd_iEnumTq ?_
        wtm_at "rd"
        refine ⟨b, ys, rfl, SqT.of (s1 _ _ hb), ?_⟩
        refine turnsW (walk_enumT (K := K) (a := b) (xs := ys)) (fun i σ H' => ∃ w4 w5 w6 : Option V, σ = [some (.ref a), some (.str "nodes"), some (.ref b), some (.int 40), w4, w5, w6] ∧ (Same H H' ∧ (H' l0 = some (.lst [.ref t1, .ref t2]) ∧ H' t1 = some (.tup [.str "nodes", .ref b, .int 40]) ∧ H' t2 = some (.tup [.str "edges", ve, .int 120]))) ∧ ∀ j, j < i → badAt goodM dM ys j = false) ⟨_, _, _, rfl, ⟨s1, hl, h1, h2'⟩, (fun j z => absurd z (Nat.not_lt_zero j))⟩ ?_ ?_ ?_
        · rintro i σ H' hi ⟨w4, w5, w6, rfl, ⟨s2, _⟩, _⟩
          exact SqT.of (s2 _ _ hb)
        · rintro i y σ H' H4 hi ⟨w4, w5, w6, rfl, ⟨s2, g1, g2, g3⟩, bef⟩ ⟨T, x1, y1, rfl, fT, rfl, e1, e2⟩
          have e2 : ys[i]? = some y1 := e2
          have hx := Option.some.inj e1
          subst hx
          have hin : i < ys.length := (List.getElem?_eq_some_iff.mp e2).1
          have hy : y1 ∈ ys := List.mem_of_getElem? e2
          have kT := Same.new (o := .tup [.int (i : Nat), y1]) fT
          refine rd_unp (SqT.of upd_same) rfl ?_
          have s4 := s2.trans kT
          generalize upd H' T (.tup [.int (i : Nat), y1]) = H4 at *
          have bdef : badAt goodM dM ys i = (!goodM y1 || (decide (0 < i) && !PySem.W.dataLt (dM (ys[i - 1]?.getD .non)) (dM y1))) := by
            unfold badAt
            rw [e2]
            rfl
          have it := its y1 hy
          wtm_at "rd"
          refine ⟨y1, rfl, it.ob.1.same s4, it.sht, fun H5 s5 => ?_⟩
          have g5 : H5 l0 = some (.lst [.ref t1, .ref t2]) ∧ H5 t1 = some (.tup [.str "nodes", .ref b, .int 40]) ∧ H5 t2 = some (.tup [.str "edges", ve, .int 120]) := ⟨s5 _ _ (kT _ _ g1), s5 _ _ (kT _ _ g2), s5 _ _ (kT _ _ g3)⟩
          have s5 := s4.trans s5
          have fin : badAt goodM dM ys i = true → ∀ (t : Addr), H5 t = none → Q (.ref t) (upd H5 t (.tup [.str "nodes", .int (i : Nat)])) := fun bd t ft => q _ _ (s5.trans (Same.new ft)) (.inr ⟨t, _, _, l1 _ (res_badG res hin bd bef), rfl, upd_same⟩)
          wtm_at "rd"
          refine rd_no (by decide +kernel) ?_
          wtm_at "rd"
          cases c : goodM y1 with
          | false =>
            wtm_at "rd"
            refine fun t ft => fin ?_ t ft
            rw [bdef, c]
            rfl
          | true =>
            wtm_at "rd"
            by_cases i0 : 0 < i
            · have l2 : i - 1 < ys.length := by omega
              have e3 := List.getElem?_eq_getElem l2
              have z2 : ys[i - 1] ∈ ys := List.getElem_mem l2
              have gg2 : goodM ys[i - 1] = true := by
                have := bef (i - 1) (by omega)
                unfold badAt at this
                rw [e3] at this
                simp only [Option.getD_some, Bool.or_eq_false_iff] at this
                simpa using this.1
              have ok := items_node (K := K) (H := H5) (xs := ys)
              refine rd_yes (show (0 : Int) < (i : Int) by omega) ?_
              wtm_at "rd"
              refine rd_ixT (SqT.of (s5 _ _ hb)) (v := ys[i - 1]) (by rw [show ((i : Int) - 1) = ((i - 1 : Nat) : Int) by omega]; exact atI_nat e3) ?_
              wtm_at "rd"
              refine ⟨dM ys[i - 1], dM y1, ok.dp _ z2 gg2 _ (fun _ _ h => h), ok.dp _ hy c _ (fun _ _ h => h), ok.al _ z2 _ hy gg2 c, (ok.nn _ z2 gg2).1, (ok.nn _ z2 gg2).2, ?_⟩
              rw [e3, c] at bdef
              simp only [Option.getD_some, Bool.not_true, Bool.false_or, decide_eq_true i0, Bool.true_and] at bdef
              cases lt : PySem.W.dataLt (dM ys[i - 1]) (dM y1) with
              | true =>
                rw [lt] at bdef
                wtm_at "rd"
                exact ⟨_, _, _, rfl, ⟨s5, g5⟩, fun j hj => by
                  by_cases z : j < i
                  · exact bef j z
                  · rw [show j = i by omega]
                    exact bdef⟩
              | false =>
                rw [lt] at bdef
                wtm_at "rd"
                exact fun t ft => fin bdef t ft
            · refine rd_no (show ¬ ((0 : Int) < (i : Int)) by omega) ?_
              wtm_at "rd"
              rw [c, decide_eq_false i0] at bdef
              exact ⟨_, _, _, rfl, ⟨s5, g5⟩, fun j hj => by
                by_cases z : j < i
                · exact bef j z
                · rw [show j = i by omega]
                  exact bdef⟩
        rintro σ H' ⟨w4, w5, w6, rfl, s2, bef⟩
        exact ⟨_, _, _, _, _, _, rfl, s2, .inr (.inl ⟨rfl, l2 (res_okG res bef)⟩)⟩
      | 1, hy =>
        have ey : y = .ref t2 := (Option.some.inj hy).symm
        subst ey
        obtain ⟨n, ns, rfl, hn, nms, pr⟩ : ∃ (n : Addr) (ns : List Str), vn = .ref n ∧ H n = some (.tup (ns.map V.str)) ∧ (∀ s ∈ ns, IsName s) ∧ PartR H "edges" 120 (goodE H ns) (dEd H) ve r := by
          rcases st with z | ⟨_, z⟩ | ⟨z, _⟩
          · cases z
          · exact z
          · cases z
        have l1e : ∀ x, r = some x → r = some x := fun _ e => e
        have l2e : r = none → r = none := fun e => e
        refine rd_unp (SqT.of h2') rfl ?_
        wtm_at "rd"
        have ob1 := pe.1.same s1
        obtain ⟨ty, hty, _, h2⟩ := ob1.ty (K := K)
        refine rd_isi hty (t := .tup) (by decide +kernel) ?_
        rcases pr with ⟨nt, e⟩ | ⟨b, ys, evv, hb, alt⟩
        · rw [show isT ty .tup = false from by
            cases z : isT ty .tup with
            | false => rfl
            | true =>
              obtain ⟨b, ys, e1, e2⟩ := h2.mp z
              exact absurd e2 (Law.Ob.noTup pe.1 nt (ExtN.of fun b o h => s1 b o h) e1)]
          wtm_at "rd"
          intro t ft
          exact q _ _ (s1.trans (Same.new ft)) (.inr ⟨t, _, _, l1e _ e, rfl, upd_same⟩)
        subst evv
        rw [h2.mpr ⟨b, ys, rfl, s1 _ _ hb⟩]
        wtm_at "rd"
        refine rd_lenT (SqT.of (s1 _ _ hb)) ?_
        wtm_at "rd"
        rcases alt with ⟨gt, e⟩ | ⟨le, res⟩
        · refine rd_yes (by omega) ?_
          wtm_at "rd"
          intro t ft
          exact q _ _ (s1.trans (Same.new ft)) (.inr ⟨t, _, _, l1e _ e, rfl, upd_same⟩)
        refine rd_no (by omega) ?_
        have its := (pe.2 b ys rfl hb).2
        wtm_at "rd"
        refine rd_iEnumTq ?_
        wtm_at "rd"
        refine ⟨b, ys, rfl, SqT.of (s1 _ _ hb), ?_⟩
        refine turnsW (walk_enumT (K := K) (a := b) (xs := ys)) (fun i σ H' => ∃ w4 w5 w6 : Option V, σ = [some (.ref a), some (.str "edges"), some (.ref b), some (.int 120), w4, w5, w6] ∧ (Same H H' ∧ (H' l0 = some (.lst [.ref t1, .ref t2]) ∧ H' t1 = some (.tup [.str "nodes", .ref n, .int 40]) ∧ H' t2 = some (.tup [.str "edges", .ref b, .int 120]))) ∧ ∀ j, j < i → badAt (goodE H ns) (dEd H) ys j = false) ⟨_, _, _, rfl, ⟨s1, hl, h1, h2'⟩, (fun j z => absurd z (Nat.not_lt_zero j))⟩ ?_ ?_ ?_
        · rintro i σ H' hi ⟨w4, w5, w6, rfl, ⟨s2, _⟩, _⟩
          exact SqT.of (s2 _ _ hb)
        · rintro i y σ H' H4 hi ⟨w4, w5, w6, rfl, ⟨s2, g1, g2, g3⟩, bef⟩ ⟨T, x1, y1, rfl, fT, rfl, e1, e2⟩
          have e2 : ys[i]? = some y1 := e2
          have hx := Option.some.inj e1
          subst hx
          have hin : i < ys.length := (List.getElem?_eq_some_iff.mp e2).1
          have hy : y1 ∈ ys := List.mem_of_getElem? e2
          have kT := Same.new (o := .tup [.int (i : Nat), y1]) fT
          refine rd_unp (SqT.of upd_same) rfl ?_
          have s4 := s2.trans kT
          generalize upd H' T (.tup [.int (i : Nat), y1]) = H4 at *
          have bdef : badAt (goodE H ns) (dEd H) ys i = (!(goodE H ns) y1 || (decide (0 < i) && !PySem.W.dataLt ((dEd H) (ys[i - 1]?.getD .non)) ((dEd H) y1))) := by
            unfold badAt
            rw [e2]
            rfl
          have it := its y1 hy
          wtm_at "rd"
          refine ⟨y1, rfl, it.ob.1.same s4, it.sht, fun H5 s5 => ?_⟩
          have g5 : H5 l0 = some (.lst [.ref t1, .ref t2]) ∧ H5 t1 = some (.tup [.str "nodes", .ref n, .int 40]) ∧ H5 t2 = some (.tup [.str "edges", .ref b, .int 120]) := ⟨s5 _ _ (kT _ _ g1), s5 _ _ (kT _ _ g2), s5 _ _ (kT _ _ g3)⟩
          have s5 := s4.trans s5
          have fin : badAt (goodE H ns) (dEd H) ys i = true → ∀ (t : Addr), H5 t = none → Q (.ref t) (upd H5 t (.tup [.str "edges", .int (i : Nat)])) := fun bd t ft => q _ _ (s5.trans (Same.new ft)) (.inr ⟨t, _, _, l1e _ (res_badG res hin bd bef), rfl, upd_same⟩)
          wtm_at "rd"
          refine rd_yes rfl ?_
          wtm_at "rd"
          refine rd_ixT (SqT.of (s5 _ _ ha)) (v := .ref n) rfl ?_
          wtm_at "rd"
          refine ⟨n, y1, ns, rfl, s5 _ _ hn, fun s hs => name_len (nms s hs), it.ext fun b o h _ => s5 b o h, ?_⟩
          rw [goodE_same (H := H) it.ob.1 (fun b o h _ => s5 b o h)]
          wtm_at "rd"
          cases c : (goodE H ns) y1 with
          | false =>
            wtm_at "rd"
            refine fun t ft => fin ?_ t ft
            rw [bdef, c]
            rfl
          | true =>
            wtm_at "rd"
            by_cases i0 : 0 < i
            · have l2 : i - 1 < ys.length := by omega
              have e3 := List.getElem?_eq_getElem l2
              have z2 : ys[i - 1] ∈ ys := List.getElem_mem l2
              have gg2 : (goodE H ns) ys[i - 1] = true := by
                have := bef (i - 1) (by omega)
                unfold badAt at this
                rw [e3] at this
                simp only [Option.getD_some, Bool.or_eq_false_iff] at this
                simpa using this.1
              have ok := items_edge (K := K) (H := H) (H2 := H5) (ns := ns) (xs := ys) (ExtN.of fun b o h => s5 b o h)
              refine rd_yes (show (0 : Int) < (i : Int) by omega) ?_
              wtm_at "rd"
              refine rd_ixT (SqT.of (s5 _ _ hb)) (v := ys[i - 1]) (by rw [show ((i : Int) - 1) = ((i - 1 : Nat) : Int) by omega]; exact atI_nat e3) ?_
              wtm_at "rd"
              refine ⟨(dEd H) ys[i - 1], (dEd H) y1, ok.dp _ z2 gg2 _ (fun _ _ h => h), ok.dp _ hy c _ (fun _ _ h => h), ok.al _ z2 _ hy gg2 c, (ok.nn _ z2 gg2).1, (ok.nn _ z2 gg2).2, ?_⟩
              rw [e3, c] at bdef
              simp only [Option.getD_some, Bool.not_true, Bool.false_or, decide_eq_true i0, Bool.true_and] at bdef
              cases lt : PySem.W.dataLt ((dEd H) ys[i - 1]) ((dEd H) y1) with
              | true =>
                rw [lt] at bdef
                wtm_at "rd"
                exact ⟨_, _, _, rfl, ⟨s5, g5⟩, fun j hj => by
                  by_cases z : j < i
                  · exact bef j z
                  · rw [show j = i by omega]
                    exact bdef⟩
              | false =>
                rw [lt] at bdef
                wtm_at "rd"
                exact fun t ft => fin bdef t ft
            · refine rd_no (show ¬ ((0 : Int) < (i : Int)) by omega) ?_
              wtm_at "rd"
              rw [c, decide_eq_false i0] at bdef
              exact ⟨_, _, _, rfl, ⟨s5, g5⟩, fun j hj => by
                by_cases z : j < i
                · exact bef j z
                · rw [show j = i by omega]
                  exact bdef⟩
        rintro σ H' ⟨w4, w5, w6, rfl, s2, bef⟩
        exact ⟨_, _, _, _, _, _, rfl, s2, .inr (.inr ⟨rfl, l2e (res_okG res bef)⟩)⟩
      | i + 2, hy => cases hy
    rintro σ H' ⟨u1, u2, u3, u4, u5, u6, rfl, ⟨s1, _⟩, st⟩
    wtm_at "rd"
    have e : r = none := by
      rcases st with z | ⟨z, _⟩ | ⟨_, z⟩
      · cases z
      · cases z
      · exact z
    exact q _ _ s1 (.inl ⟨e, rfl⟩)
end
end Law

/-! k01: what comes, what is tried -/
namespace Law
open PySem PySem.Spec PyProof.Rows L2 U LamX NdefX


theorem blt_VE : bootBuiltins (Str.ofString "ValueError") = some (.type "ValueError") := by kernel_rfl
theorem blt_KE : bootBuiltins (Str.ofString "KeyError") = some (.type "KeyError") := by kernel_rfl
theorem rd_tXk01 {K : PySem.W.Frag} {f : Str} {te : TE} {σ : L2.St} {H : Hp} {Q : VK} (h : te σ H fun x H1 => ∃ (a C dd : Addr) (fs : List (Str × V)) (v : V), x = .ref a ∧ H1 a = some (exk a (.ref C) (some dd)) ∧ XfC K C ∧ PySem.W.findIn K (.ref C) f = some none ∧ H1 dd = some (.xd fs) ∧ fs.lookup f = some v ∧ Q v H1) : tXk K f te σ H Q := h
theorem lk01_a {p q : V} : List.lookup ("position" : Str) [("position", q), ("part", p)] = some q := by
  have e : (("position" : Str) == ("position" : Str)) = true := beq_self_eq_true _
  simp only [List.lookup, e]
theorem lk01_b {p q : V} : List.lookup ("part" : Str) [("position", q), ("part", p)] = some p := by
  have e1 : (("part" : Str) == ("position" : Str)) = false := by decide
  have e : (("part" : Str) == ("part" : Str)) = true := beq_self_eq_true _
  simp only [List.lookup, e1, e]
/-- the heap without the draws' source -/
def hidQ (p : Addr) (H : Hp) : Hp := fun a => if a = p then none else H a
theorem hidQ_at {p a : Addr} {H : Hp} {o : HO} (n : a ≠ p) (h : H a = some o) : hidQ p H a = some o := by
  unfold hidQ
  rw [if_neg n]
  exact h
theorem hidQ_sub {p : Addr} {H : Hp} : ExtN (hidQ p H) H := fun a o h _ => by
  unfold hidQ at h
  split at h
  · cases h
  · exact h
theorem hidQ_go {p : Addr} {H H' : Hp} (g : Go p H H') : ExtN (hidQ p H) (hidQ p H') := fun a o h _ => by
  unfold hidQ at h ⊢
  split at h
  · cases h
  · rename_i n
    rw [if_neg n]
    exact g.but a o n h
theorem hidQ_same {p : Addr} {H H' : Hp} (s : Same H H') : ExtN (hidQ p H) (hidQ p H') := fun a o h _ => by
  unfold hidQ at h ⊢
  split at h
  · cases h
  · rename_i n
    rw [if_neg n]
    exact s a o h
/-- every would-be part has its answer -/
theorem part_ex {H : Hp} {part : Str} {m : Nat} {good : V → Bool} {D : V → PyData} {v : V} (h : Ob H v) : ∃ r, PartR H part m good D v r := by
  by_cases z : ∃ a xs, v = .ref a ∧ H a = some (.tup xs)
  · obtain ⟨a, xs, rfl, ha⟩ := z
    by_cases c : m < xs.length
    · exact ⟨_, .inr ⟨a, xs, rfl, ha, .inl ⟨c, rfl⟩⟩⟩
    · have fo : ∀ (p : Nat → Bool) n, (∃ i, i < n ∧ p i = true ∧ ∀ j, j < i → p j = false) ∨ ∀ i, i < n → p i = false := fun p n => by
        induction n with
        | zero => exact .inr fun i h => absurd h (Nat.not_lt_zero i)
        | succ n ih =>
          rcases ih with ⟨i, h, z⟩ | h
          · exact .inl ⟨i, by omega, z⟩
          · cases c : p n with
            | true => exact .inl ⟨n, by omega, c, h⟩
            | false =>
              refine .inr fun i hi => ?_
              by_cases z : i = n
              · rw [z]
                exact c
              · exact h i (by omega)
      rcases fo (badAt good D xs) xs.length with ⟨i, k1, k2, k3⟩ | k
      · exact ⟨_, .inr ⟨a, xs, rfl, ha, .inr ⟨by omega, .inl ⟨i, k1, k2, k3, rfl⟩⟩⟩⟩
      · exact ⟨_, .inr ⟨a, xs, rfl, ha, .inr ⟨by omega, .inr ⟨k, rfl⟩⟩⟩⟩
  · exact ⟨_, .inl ⟨fun a xs e h => z ⟨a, xs, e, h⟩, rfl⟩⟩
theorem all_names : ∀ {xs : List V}, (∀ i, i < xs.length → badAt goodM dM xs i = false) → ∃ ns : List Str, xs = ns.map V.str ∧ ∀ s ∈ ns, IsName s := fun {xs} h => by
  have g : ∀ x ∈ xs, goodM x = true := fun x hx => by
    obtain ⟨i, hi, rfl⟩ := List.mem_iff_getElem.mp hx
    have := h i hi
    unfold badAt at this
    rw [List.getElem?_eq_getElem hi] at this
    simp only [Option.getD_some, Bool.or_eq_false_iff] at this
    simpa using this.1
  clear h
  induction xs with
  | nil => exact ⟨[], rfl, fun s hs => nomatch hs⟩
  | cons x r ih =>
    obtain ⟨ns, e, nm⟩ := ih fun y hy => g y (List.mem_cons_of_mem _ hy)
    obtain ⟨s, rfl, ns1⟩ := goodM_str (g x List.mem_cons_self)
    refine ⟨s :: ns, by rw [e]; rfl, fun y hy => ?_⟩
    rcases List.mem_cons.mp hy with rfl | hy
    · exact ns1
    · exact nm y hy
theorem rg_ex {H : Hp} {a vn ve : _} (ha : H a = some (.tup [vn, ve])) (pn : PartOk H vn) (pe : PartOk H ve) : ∃ r, RG H (.ref a) r := by
  obtain ⟨rn, p⟩ := part_ex (H := H) (part := "nodes") (m := 40) (good := goodM) (D := dM) pn.1
  cases rn with
  | some x => exact ⟨some x, .inr ⟨a, _, rfl, ha, .inr ⟨vn, ve, rfl, pn, pe, .inl ⟨x, p, rfl⟩⟩⟩⟩
  | none =>
    have p0 := p
    rcases p with ⟨_, z⟩ | ⟨n, xs, rfl, hn, ⟨_, z⟩ | ⟨le, ⟨_, _, _, _, z⟩ | ⟨k, _⟩⟩⟩
    · cases z
    · cases z
    · cases z
    obtain ⟨ns, rfl, nm⟩ := all_names k
    obtain ⟨r, p2⟩ := part_ex (H := H) (part := "edges") (m := 120) (good := goodE H ns) (D := dEd H) pe.1
    exact ⟨r, .inr ⟨a, _, rfl, ha, .inr ⟨.ref n, ve, rfl, pn, pe, .inr ⟨n, ns, rfl, hn, p0, nm, p2⟩⟩⟩⟩
/-- a right graph is one -/
theorem rg_good {H : Hp} {g n e : Addr} {ns : List Str} {es : List (Addr × Str × Str)} (gr : GrAt H g n e ns es) (l1 : ns.length ≤ 40) (l2 : es.length ≤ 120) (nm : ∀ x ∈ ns, IsName x) (asc : ns.Pairwise sLt) (mem : ∀ x ∈ es, x.2.1 ∈ ns ∧ x.2.2 ∈ ns ∧ sLt x.2.1 x.2.2) (ascE : es.Pairwise fun x y => PySem.W.dataLt (.tuple [.str x.2.1, .str x.2.2]) (.tuple [.str y.2.1, .str y.2.2]) = true) : RG H (.ref g) none := by
  have okN : PartOk H (.ref n) := ⟨.inr (.inr (.inr (.inr ⟨n, _, rfl, gr.nodes, .inr (.inl ⟨_, rfl⟩)⟩))), fun a xs e h => by
    rw [← V.ref.inj e, gr.nodes] at h
    cases h
    refine ⟨by rw [List.length_map]; omega, fun x hx => ?_⟩
    obtain ⟨s, hs, rfl⟩ := List.mem_map.mp hx
    exact .inl (.inr (.inr (.inl ⟨s, rfl, name_len (nm s hs)⟩)))⟩
  have okE : PartOk H (.ref e) := ⟨.inr (.inr (.inr (.inr ⟨e, _, rfl, gr.edges, .inr (.inl ⟨_, rfl⟩)⟩))), fun a xs e h => by
    rw [← V.ref.inj e, gr.edges] at h
    cases h
    refine ⟨by rw [List.length_map]; omega, fun x hx => ?_⟩
    obtain ⟨y, hy, rfl⟩ := List.mem_map.mp hx
    refine .inr (.inr ⟨y.1, _, rfl, gr.pairs y hy, fun z hz => ?_⟩)
    obtain ⟨m1, m2, _⟩ := mem y hy
    rcases List.mem_cons.mp hz with rfl | hz
    · exact .inr (.inr (.inl ⟨_, rfl, name_len (nm _ m1)⟩))
    · rw [List.mem_singleton.mp hz]
      exact .inr (.inr (.inl ⟨_, rfl, name_len (nm _ m2)⟩))⟩
  refine .inr ⟨g, _, rfl, gr.top, .inr ⟨.ref n, .ref e, rfl, okN, okE, .inr ⟨n, ns, rfl, gr.nodes, .inr ⟨n, _, rfl, gr.nodes, .inr ⟨by rw [List.length_map]; omega, .inr ⟨fun i hi => ?_, rfl⟩⟩⟩, nm, .inr ⟨e, _, rfl, gr.edges, .inr ⟨by rw [List.length_map]; omega, .inr ⟨fun i hi => ?_, rfl⟩⟩⟩⟩⟩⟩
  · rw [List.length_map] at hi
    have at_ : ∀ j (hj : j < ns.length), (ns.map V.str)[j]?.getD .non = .str ns[j] := fun j hj => by
      rw [List.getElem?_map, List.getElem?_eq_getElem hj]
      rfl
    unfold badAt
    rw [at_ i hi, show goodM (.str ns[i]) = true from nmB_iff.mpr (nm _ (List.getElem_mem hi))]
    by_cases i0 : 0 < i
    · rw [at_ (i - 1) (by omega), show PySem.W.dataLt (dM (.str ns[i - 1])) (dM (.str ns[i])) = true from by
        show PySem.W.dataLt (.str ns[i - 1]) (.str ns[i]) = true
        rw [PySem.W.dataLt_str]
        exact decide_eq_true (List.pairwise_iff_getElem.mp asc (i - 1) i (by omega) hi (by omega))]
      simp
    · rw [decide_eq_false i0]
      rfl
  · rw [List.length_map] at hi
    have at_ : ∀ j (hj : j < es.length), (es.map fun x => V.ref x.1)[j]?.getD .non = .ref es[j].1 := fun j hj => by
      rw [List.getElem?_map, List.getElem?_eq_getElem hj]
      rfl
    have hp := gr.pairs _ (List.getElem_mem hi)
    obtain ⟨m1, m2, m3⟩ := mem _ (List.getElem_mem hi)
    unfold badAt
    rw [at_ i hi, goodE_of hp, decide_eq_true m1, decide_eq_true m2, show decide (es[i].2.1.cps.toList < es[i].2.2.cps.toList) = true from decide_eq_true m3]
    by_cases i0 : 0 < i
    · rw [at_ (i - 1) (by omega), dEd_at hp, dEd_at (gr.pairs _ (List.getElem_mem (show i - 1 < es.length by omega))), List.pairwise_iff_getElem.mp ascE (i - 1) i (by omega) hi (by omega)]
      simp
    · rw [decide_eq_false i0]
      rfl
theorem part_r {H : Hp} {part : Str} {m : Nat} {good : V → Bool} {D : V → PyData} {v : V} {r : Option (Str × V)} (h : PartR H part m good D v r) : r = none ∨ ∃ pos, r = some (part, pos) ∧ (pos = .non ∨ ∃ i, pos = .int i) := by
  rcases h with ⟨_, e⟩ | ⟨_, _, _, _, ⟨_, e⟩ | ⟨_, ⟨i, _, _, _, e⟩ | ⟨_, e⟩⟩⟩
  · exact .inr ⟨_, e, .inl rfl⟩
  · exact .inr ⟨_, e, .inl rfl⟩
  · exact .inr ⟨_, e, .inr ⟨_, rfl⟩⟩
  · exact .inl e
theorem rg_r {H : Hp} {v : V} {r : Option (Str × V)} (h : RG H v r) : r = none ∨ ∃ part pos, r = some (part, pos) ∧ PyData.strOk part = true ∧ (pos = .non ∨ ∃ i, pos = .int i) := by
  rcases h with ⟨_, _, e⟩ | ⟨_, _, _, _, ⟨_, e⟩ | ⟨_, _, _, _, _, ⟨x, p, e⟩ | ⟨_, _, _, _, _, _, p⟩⟩⟩
  · exact .inr ⟨_, _, e, by decide +kernel, .inl rfl⟩
  · exact .inr ⟨_, _, e, by decide +kernel, .inl rfl⟩
  · rcases part_r p with z | ⟨pos, z, k⟩
    · cases z
    · exact .inr ⟨_, pos, by rw [e, z], by decide +kernel, k⟩
  · rcases part_r p with z | ⟨pos, z, k⟩
    · exact .inl z
    · exact .inr ⟨_, pos, z, by decide +kernel, k⟩
theorem rd_neG {K : PySem.W.Frag} {H : Hp} {Q : VK} {x x2 : V} {r : Option (Str × V)} (h1 : ResG H x r) (h2 : ResG H x2 r) (hr : r = none ∨ ∃ part pos, r = some (part, pos) ∧ PyData.strOk part = true ∧ (pos = .non ∨ ∃ i, pos = .int i)) (h : Q (.bl false) H) : rNeU K x x2 H Q := by
  rcases h1 with ⟨e, rfl⟩ | ⟨t, p1, y, e, rfl, ht⟩ <;> rcases h2 with ⟨e2, rfl⟩ | ⟨t2, p2, y2, e2, rfl, ht2⟩
  · exact h
  · rw [e] at e2
    cases e2
  · rw [e] at e2
    cases e2
  · rw [e] at e2
    cases e2
    rcases hr with z | ⟨p3, y3, z, ok, k⟩
    · rw [z] at e
      cases e
    · rw [z] at e
      cases e
      have sh : ∀ d : PyData, (d = .none ∨ ∃ i, d = .int i) → SeqAt.shaped (.tuple [.str p1, d]) = true := fun d hd => by
        unfold SeqAt.shaped
        rcases hd with rfl | ⟨i, rfl⟩ <;> simp [PyData.canLay0, PyData.canLayAll0, PyData.depth, PyData.depthAll, ok]
      rcases k with rfl | ⟨i, rfl⟩
      · exact rd_neSame (d := .tuple [.str p1, .none]) (.tup (SqT.of ht) (.cons (.str _) (.cons .non .nil))) (.tup (SqT.of ht2) (.cons (.str _) (.cons .non .nil))) (sh _ (.inl rfl)) h
      · exact rd_neSame (d := .tuple [.str p1, .int i]) (.tup (SqT.of ht) (.cons (.str _) (.cons (.int _) .nil))) (.tup (SqT.of ht2) (.cons (.str _) (.cons (.int _) .nil))) (sh _ (.inr ⟨i, rfl⟩)) h
theorem cutV_in01 {xs : List V} {lo hi : Option Int} : (∀ v ∈ cutV xs lo hi, v ∈ xs) ∧ (cutV xs lo hi).length ≤ xs.length := by
  refine ⟨fun v hv => ?_, cutV_length xs lo hi⟩
  unfold cutV at hv
  exact List.mem_of_mem_drop (List.mem_of_mem_take hv)
def spVit : Sp := fun vs H Q _ => ∃ (p its : Addr) (xs : List V) (iv : V), vs = [.ref p, .ref its, iv] ∧ PoolAt H p ∧ H its = some (.tup xs) ∧ xs.length ≤ 1000 ∧ (∀ x ∈ xs, It1 (hidQ p H) x) ∧ It1 (hidQ p H) iv ∧
  ∀ (v : V) (H' : Hp), Go p H H' → PartOk (hidQ p H') v → Q v H'
def spVar01 : Sp := fun vs H Q _ => ∃ (p g n e : Addr) (ns : List Str) (es : List (Addr × Str × Str)), vs = [.ref p, .ref g] ∧ PoolAt H p ∧ GrAt H g n e ns es ∧ 1 ≤ ns.length ∧ ns.length ≤ 100 ∧ es.length ≤ 900 ∧ (∀ x ∈ ns, IsName x) ∧ (∀ x ∈ es, x.2.1 ∈ ns ∧ x.2.2 ∈ ns) ∧
  ∀ (t : Addr) (vn ve : V) (H' : Hp), Go p H H' → H' t = some (.tup [vn, ve]) → PartOk (hidQ p H') vn → PartOk (hidQ p H') ve → Q (.ref t) H'
structure QFb (P : Program) (w : World) (K : PySem.W.Frag) (mg : Str → Option Value) (base : Heap) : Prop where
  _law_draw : Cal P w K mg base CX0 1 "_law_draw" spDraw
structure QFc (P : Program) (w : World) (K : PySem.W.Frag) (mg : Str → Option Value) (base : Heap) : Prop where
  _law_draw : Cal P w K mg base CX0 1 "_law_draw" spDraw
  _law_make_variant_items : Cal P w K mg base CX0 2 "_law_make_variant_items" spVit
section
variable {P : Program} {w : World} {K : PySem.W.Frag} {mg : Str → Option Value} {base : Heap}
theorem ok_call01 {f : Addr} {fd : FuncData} {T : List (Addr × Str)} {CE CB fI : Addr} (F : Fun K "_law_call" "_law_call" s__law_call f fd) (B : Bt mg) (C : QEa P w K mg base T CE) (TE : OwnX K mg "InvalidGraph" "part" CE CB fI) (no2 : PySem.W.findIn K (.ref CE) "position" = some none) (I : Is01 K mg CE CB) : FnG P w K mg base CX0 6 f fd ["_law_candidate"] (spCall01 T) := by
  refine fnG0 F sc__law_call (fun vs H Q E h => ?_) (fun cdv A outer s H vs Q E hr h => ?_)
  · obtain ⟨v, r, rfl, _⟩ := h
    rfl
  · obtain ⟨v, r, rfl, rg, tabs, q⟩ := h
    have nd := sc__law_call.nd
    have hu := hr.u1
    have gG : ∃ u, mg "InvalidGraph" = some u ∧ RelV (.ref CE) u := ⟨_, I.gG, rfl⟩
    refine ⟨_, (pss_cons (ps_set (i := 1) nd rfl (by first | exact Or.inl rfl | exact Or.inr rfl) pe_non)
  (pss_cons (ps_try_keep (i := 2) (Wout := fun _ _ _ _ => False) rfl rfl nd rfl rfl ⟨rfl, by decide, Or.inl I.gI⟩ L2.takes0 (fun W pn xe tk _ => pss_one (ps_if (pt_cmpR uIsNot (pe_cX C.check_graph hr (by decide) rfl tk (pa_cons (pv 0) pa_nil)) pe_non (nomark _)) (pss_one (ps_ret pe_str)) pss_nil)) (fun a pn => pss_one (ps_set (i := 1) nd rfl (Or.inl rfl) (pv 2))))
  (pss_cons (ps_if (pt_cmpR uIs (pv 1) pe_non (nomark _)) (pss_one (ps_ret pe_non)) pss_nil)
  (pss_cons (ps_if (PW.pt (pw_or (pt_not (pt_val (pe_callB (kIsK K rfl) (by rfl) B.isinstance bb_isinstance (pa_cons (pv 1) (pa_cons (pe_gl rfl gG) pa_nil))))) (pw_or1 (pt_not (pt_val (pe_callB (kIsK K rfl) (by rfl) B.isinstance bb_isinstance (pa_cons (pv 1) (pa_cons (pe_ty rfl I.gV blt_VE) pa_nil)))))))) (pss_one (ps_ret pe_str)) pss_nil)
  (pss_cons (ps_if (pt_val (pe_callB (kIsK K rfl) (by rfl) B.isinstance bb_isinstance (pa_cons (pv 1) (pa_cons (pe_ty rfl I.gK blt_KE) pa_nil)))) (pss_one (ps_ret pe_str)) pss_nil)
  (pss_one (ps_ret (pe_tup (pa_cons (pe_xk (pv 1)) (pa_cons (pe_xk (pv 1)) pa_nil)))))))))), ?_⟩
    wtm_at "rd"
    refine ⟨v, r, rfl, tabs, rg, fun e H' x t => ?_, fun part pos e d H' x t hd => ⟨true, I.mI, (fun z => nomatch z), fun _ a2 na => ?_⟩⟩
    · wtm_at "rd"
      refine rd_nno rfl ?_
      wtm_at "rd"
      refine rd_yes rfl ?_
      wtm_at "rd"
      exact q _ _ x t (.inl ⟨e, rfl⟩)
    · have k := Same.new (o := exk a2 (.ref CE) (some d)) na
      have ha2 := @upd_same H' a2 (exk a2 (.ref CE) (some d))
      have hd2 := k _ _ hd
      have x2 := x.trans (ExtN.of fun b o h => k b o h)
      have t2 := t.ext fun b o h => k b o h
      generalize upd H' a2 (exk a2 (.ref CE) (some d)) = H2 at ha2 hd2 x2 t2
      wtm_at "rd"
      refine rd_no (fun z => by cases z) ?_
      wtm_at "rd"
      refine rd_isK ha2 hd2 I.cls (fun u hu => hu) I.iG ?_
      wtm_at "rd"
      refine rd_isK ha2 hd2 I.cls (fun u hu => hu) I.iV ?_
      wtm_at "rd"
      refine rd_isK ha2 hd2 I.cls (fun u hu => hu) I.iK ?_
      wtm_at "rd"
      refine rd_tXk01 ?_
      wtm_at "rd"
      refine ⟨a2, CE, d, _, _, rfl, ha2, TE.xf, TE.no, hd2, lk01_b, ?_⟩
      wtm_at "rd"
      refine rd_tXk01 ?_
      wtm_at "rd"
      refine ⟨a2, CE, d, _, _, rfl, ha2, TE.xf, no2, hd2, lk01_a, ?_⟩
      wtm_at "rd"
      intro tt ft
      exact q _ _ (x2.trans (ExtN.of fun b o h => Same.new ft b o h)) (t2.ext fun b o h => Same.new ft b o h) (.inr ⟨tt, _, _, e, rfl, upd_same⟩)
theorem ok_vit {f : Addr} {fd : FuncData} (F : Fun K "_law_make_variant_items" "_law_make_variant_items" s__law_make_variant_items f fd) (B : Bt mg) (C : QFb P w K mg base) : FnG P w K mg base CX0 2 f fd ["_law_pool_here", "_law_items", "_law_invalid"] spVit := by
  refine fnG0 F sc__law_make_variant_items (fun vs H Q E h => ?_) (fun cdv A outer s H vs Q E hr h => ?_)
  · obtain ⟨p, its, xs, iv, rfl, _⟩ := h
    rfl
  · obtain ⟨p, its, xs, iv, rfl, hp, hi, lx, itx, itv, q⟩ := h
    have nd := sc__law_make_variant_items.nd
    have hu := hr.u1
    refine ⟨_, (pss_cons (ps_set (i := 3) nd rfl (by first | exact Or.inl rfl | exact Or.inr rfl) (pe_c C._law_draw hr (by decide) rfl (pa_cons (pv 0) (pa_cons (pe_op (kAdd K rfl) (pe_callB (kLen K rfl) (by rfl) B.len bb_len (pa_cons (pv 1) pa_nil)) pe_int) pa_nil))))
  (pss_cons (ps_set (i := 4) nd rfl (by first | exact Or.inl rfl | exact Or.inr rfl) (pe_c C._law_draw hr (by decide) rfl (pa_cons (pv 0) (pa_cons pe_int pa_nil))))
  (pss_cons (ps_if (pt_cmpR (kEq K rfl hr.u64) (pv 4) pe_int (nomark _)) (pss_one (ps_ret (pe_op (kAdd K rfl) (pe_op (kAdd K rfl) (pe_slice (kSl K rfl) (pv 1) po_none (po_some (pv 3))) (pe_tup (pa_cons (pv 2) pa_nil))) (pe_slice (kSl K rfl) (pv 1) (po_some (pv 3)) po_none)))) pss_nil)
  (pss_cons (ps_if (pt_cmpR (kEq K rfl hr.u64) (pv 4) pe_int (nomark _)) (pss_one (ps_ret (pe_op (kAdd K rfl) (pe_op (kAdd K rfl) (pe_slice (kSl K rfl) (pv 1) po_none (po_some (pv 3))) (pe_tup (pa_cons (pv 2) pa_nil))) (pe_slice (kSl K rfl) (pv 1) (po_some (pe_op (kAdd K rfl) (pv 3) pe_int)) po_none)))) pss_nil)
  (pss_cons (ps_if (pt_cmpR (kEq K rfl hr.u64) (pv 4) pe_int (nomark _)) (pss_one (ps_ret (pe_op (kAdd K rfl) (pe_slice (kSl K rfl) (pv 1) po_none (po_some (pv 3))) (pe_slice (kSl K rfl) (pv 1) (po_some (pe_op (kAdd K rfl) (pv 3) pe_int)) po_none)))) pss_nil)
  (pss_cons (ps_if (pt_cmpR (kEq K rfl hr.u64) (pv 4) pe_int (nomark _)) (pss_one (ps_ret (pe_op (kAdd K rfl) (pe_op (kAdd K rfl) (pe_slice (kSl K rfl) (pv 1) po_none (po_some (pv 3))) (pe_slice (kSl K rfl) (pv 1) (po_some (pv 3)) (po_some (pe_op (kAdd K rfl) (pv 3) pe_int)))) (pe_slice (kSl K rfl) (pv 1) (po_some (pv 3)) po_none)))) pss_nil)
  (pss_cons (ps_if (pt_cmpR (kEq K rfl hr.u64) (pv 4) pe_int (nomark _)) (pss_cons (ps_set (i := 5) nd rfl (by first | exact Or.inl rfl | exact Or.inr rfl) (pe_op (kAdd K rfl) (pe_slice (kSl K rfl) (pv 1) (po_some (pe_op (kAdd K rfl) (pv 3) pe_int)) (po_some (pe_op (kAdd K rfl) (pv 3) pe_int))) (pe_slice (kSl K rfl) (pv 1) (po_some (pv 3)) (po_some (pe_op (kAdd K rfl) (pv 3) pe_int)))))
  (pss_one (ps_ret (pe_op (kAdd K rfl) (pe_op (kAdd K rfl) (pe_slice (kSl K rfl) (pv 1) po_none (po_some (pv 3))) (pv 5)) (pe_slice (kSl K rfl) (pv 1) (po_some (pe_op (kAdd K rfl) (pv 3) pe_int)) po_none))))) pss_nil)
  (pss_one (ps_ret (pe_ix (kIx K rfl) (pe_lst (pa_cons (pe_callTy (kList K rfl rfl) (by rfl) B.list bb_list (pa_cons (pv 1) pa_nil)) (pa_cons pe_non (pa_cons ((pe_backT po_none (fun _ _ _ h => h)) (pv 1)) (pa_cons pe_dnewK pa_nil))))) (pe_c C._law_draw hr (by decide) rfl (pa_cons (pv 0) (pa_cons pe_int pa_nil))) (fun _ _ => rfl))))))))))), ?_⟩
    wtm_at "rd"
    refine rd_lenT (SqT.of hi) ?_
    wtm_at "rd"
    refine use_draw hp (by omega) (by omega) fun r H1 r0 r1 g1 => ?_
    obtain ⟨at1, rfl⟩ : ∃ k : Nat, r = (k : Int) := ⟨r.toNat, by omega⟩
    wtm_at "rd"
    refine use_draw g1.pool (by decide) (by decide) fun r2 H2 _ _ g2 => ?_
    have g2 := g1.trans g2
    have hp2 := g2.pool
    have hc := g2.tup hp hi
    have itx2 : ∀ x ∈ xs, It1 (hidQ p H2) x := fun x hx => (itx x hx).ext fun a o h z => hidQ_go g2 a o h z
    have itv2 : It1 (hidQ p H2) iv := itv.ext fun a o h z => hidQ_go g2 a o h z
    clear hi itx itv g1 hp
    have cin := fun lo hi => (@cutV_in01 xs lo hi).1
    have cln := fun lo hi => (@cutV_in01 xs lo hi).2
    have mk : ∀ {Hx : Hp} {t : Addr} {ys : List V}, Same H2 Hx → Hx t = some (.tup ys) → ys.length ≤ 100000 → (∀ v ∈ ys, v ∈ xs ∨ v = iv) → PartOk (hidQ p Hx) (.ref t) := fun {Hx t ys} sx ht l h => by
      have nt : t ≠ p := (Go.of_same hp2 sx).pool.offT ht
      have ht' := hidQ_at nt ht
      refine ⟨.inr (.inr (.inr (.inr ⟨t, _, rfl, ht', .inr (.inl ⟨_, rfl⟩)⟩))), fun a zs e hz => ?_⟩
      rw [← V.ref.inj e, ht'] at hz
      cases hz
      refine ⟨l, fun x hx => ?_⟩
      rcases h x hx with h | rfl
      · exact (itx2 x h).ext fun a o h z => hidQ_same sx a o h z
      · exact itv2.ext fun a o h z => hidQ_same sx a o h z
    wtm_at "rd"
    refine rd_split (fun c0 => ?_) (fun c0 => ?_)
    · wtm_at "rd"
      refine rd_slTH hc fun a1 K2 s3 ha1 => ?_
      have hc := s3 _ _ hc
      have sN := s3
      wtm_at "rd"
      intro t4 ft4
      have k6 := Same.new (o := .tup [iv]) ft4
      have ht4 := @upd_same K2 t4 (.tup [iv])
      have ha1 := k6 _ _ ha1
      have hc := k6 _ _ hc
      have sN := sN.trans k6
      generalize upd K2 t4 (.tup [iv]) = K5 at *
      refine rd_catTH ha1 ht4 (by have := cln none (some (at1 : Int)); have := cln (some (at1 : Int)) none; have := cln (some ((at1 : Int) + 1)) none; have := cln (some ((at1 : Int) + 2)) none; have := cln (some (at1 : Int)) (some ((at1 : Int) + 1)); have := cln (some ((at1 : Int) + 1)) (some ((at1 : Int) + 2)); (try simp only [List.length_append, List.length_singleton]); omega) fun a7 K8 s9 ha7 => ?_
      have hc := s9 _ _ hc
      have sN := sN.trans s9
      wtm_at "rd"
      refine rd_slTH hc fun a10 K11 s12 ha10 => ?_
      have ha7 := s12 _ _ ha7
      have hc := s12 _ _ hc
      have sN := sN.trans s12
      refine rd_catTH ha7 ha10 (by have := cln none (some (at1 : Int)); have := cln (some (at1 : Int)) none; have := cln (some ((at1 : Int) + 1)) none; have := cln (some ((at1 : Int) + 2)) none; have := cln (some (at1 : Int)) (some ((at1 : Int) + 1)); have := cln (some ((at1 : Int) + 1)) (some ((at1 : Int) + 2)); (try simp only [List.length_append, List.length_singleton]); omega) fun a13 K14 s15 ha13 => ?_
      have hc := s15 _ _ hc
      have sN := sN.trans s15
      wtm_at "rd"
      refine q _ _ (g2.trans (Go.of_same hp2 sN)) (mk sN ha13 (by have := cln none (some (at1 : Int)); have := cln (some (at1 : Int)) none; have := cln (some ((at1 : Int) + 1)) none; have := cln (some ((at1 : Int) + 2)) none; have := cln (some (at1 : Int)) (some ((at1 : Int) + 1)); have := cln (some ((at1 : Int) + 1)) (some ((at1 : Int) + 2)); (try simp only [List.length_append, List.length_singleton]); omega) fun v hv => ?_)
      rcases List.mem_append.mp hv with hv | hv
      · rcases List.mem_append.mp hv with hv | hv
        · exact .inl (cin _ _ v hv)
        · exact .inr (List.mem_singleton.mp hv)
      · exact .inl (cin _ _ v hv)
    wtm_at "rd"
    refine rd_split (fun c1 => ?_) (fun c1 => ?_)
    · wtm_at "rd"
      refine rd_slTH hc fun a16 K17 s18 ha16 => ?_
      have hc := s18 _ _ hc
      have sN := s18
      wtm_at "rd"
      intro t19 ft19
      have k21 := Same.new (o := .tup [iv]) ft19
      have ht19 := @upd_same K17 t19 (.tup [iv])
      have ha16 := k21 _ _ ha16
      have hc := k21 _ _ hc
      have sN := sN.trans k21
      generalize upd K17 t19 (.tup [iv]) = K20 at *
      refine rd_catTH ha16 ht19 (by have := cln none (some (at1 : Int)); have := cln (some (at1 : Int)) none; have := cln (some ((at1 : Int) + 1)) none; have := cln (some ((at1 : Int) + 2)) none; have := cln (some (at1 : Int)) (some ((at1 : Int) + 1)); have := cln (some ((at1 : Int) + 1)) (some ((at1 : Int) + 2)); (try simp only [List.length_append, List.length_singleton]); omega) fun a22 K23 s24 ha22 => ?_
      have hc := s24 _ _ hc
      have sN := sN.trans s24
      wtm_at "rd"
      refine rd_slTH hc fun a25 K26 s27 ha25 => ?_
      have ha22 := s27 _ _ ha22
      have hc := s27 _ _ hc
      have sN := sN.trans s27
      refine rd_catTH ha22 ha25 (by have := cln none (some (at1 : Int)); have := cln (some (at1 : Int)) none; have := cln (some ((at1 : Int) + 1)) none; have := cln (some ((at1 : Int) + 2)) none; have := cln (some (at1 : Int)) (some ((at1 : Int) + 1)); have := cln (some ((at1 : Int) + 1)) (some ((at1 : Int) + 2)); (try simp only [List.length_append, List.length_singleton]); omega) fun a28 K29 s30 ha28 => ?_
      have hc := s30 _ _ hc
      have sN := sN.trans s30
      wtm_at "rd"
      refine q _ _ (g2.trans (Go.of_same hp2 sN)) (mk sN ha28 (by have := cln none (some (at1 : Int)); have := cln (some (at1 : Int)) none; have := cln (some ((at1 : Int) + 1)) none; have := cln (some ((at1 : Int) + 2)) none; have := cln (some (at1 : Int)) (some ((at1 : Int) + 1)); have := cln (some ((at1 : Int) + 1)) (some ((at1 : Int) + 2)); (try simp only [List.length_append, List.length_singleton]); omega) fun v hv => ?_)
      rcases List.mem_append.mp hv with hv | hv
      · rcases List.mem_append.mp hv with hv | hv
        · exact .inl (cin _ _ v hv)
        · exact .inr (List.mem_singleton.mp hv)
      · exact .inl (cin _ _ v hv)
    wtm_at "rd"
    refine rd_split (fun c2 => ?_) (fun c2 => ?_)
    · wtm_at "rd"
      refine rd_slTH hc fun a31 K32 s33 ha31 => ?_
      have hc := s33 _ _ hc
      have sN := s33
      wtm_at "rd"
      refine rd_slTH hc fun a34 K35 s36 ha34 => ?_
      have ha31 := s36 _ _ ha31
      have hc := s36 _ _ hc
      have sN := sN.trans s36
      refine rd_catTH ha31 ha34 (by have := cln none (some (at1 : Int)); have := cln (some (at1 : Int)) none; have := cln (some ((at1 : Int) + 1)) none; have := cln (some ((at1 : Int) + 2)) none; have := cln (some (at1 : Int)) (some ((at1 : Int) + 1)); have := cln (some ((at1 : Int) + 1)) (some ((at1 : Int) + 2)); (try simp only [List.length_append, List.length_singleton]); omega) fun a37 K38 s39 ha37 => ?_
      have hc := s39 _ _ hc
      have sN := sN.trans s39
      wtm_at "rd"
      refine q _ _ (g2.trans (Go.of_same hp2 sN)) (mk sN ha37 (by have := cln none (some (at1 : Int)); have := cln (some (at1 : Int)) none; have := cln (some ((at1 : Int) + 1)) none; have := cln (some ((at1 : Int) + 2)) none; have := cln (some (at1 : Int)) (some ((at1 : Int) + 1)); have := cln (some ((at1 : Int) + 1)) (some ((at1 : Int) + 2)); (try simp only [List.length_append, List.length_singleton]); omega) fun v hv => ?_)
      rcases List.mem_append.mp hv with hv | hv
      · exact .inl (cin _ _ v hv)
      · exact .inl (cin _ _ v hv)
    wtm_at "rd"
    refine rd_split (fun c3 => ?_) (fun c3 => ?_)
    · wtm_at "rd"
      refine rd_slTH hc fun a40 K41 s42 ha40 => ?_
      have hc := s42 _ _ hc
      have sN := s42
      wtm_at "rd"
      refine rd_slTH hc fun a43 K44 s45 ha43 => ?_
      have ha40 := s45 _ _ ha40
      have hc := s45 _ _ hc
      have sN := sN.trans s45
      refine rd_catTH ha40 ha43 (by have := cln none (some (at1 : Int)); have := cln (some (at1 : Int)) none; have := cln (some ((at1 : Int) + 1)) none; have := cln (some ((at1 : Int) + 2)) none; have := cln (some (at1 : Int)) (some ((at1 : Int) + 1)); have := cln (some ((at1 : Int) + 1)) (some ((at1 : Int) + 2)); (try simp only [List.length_append, List.length_singleton]); omega) fun a46 K47 s48 ha46 => ?_
      have hc := s48 _ _ hc
      have sN := sN.trans s48
      wtm_at "rd"
      refine rd_slTH hc fun a49 K50 s51 ha49 => ?_
      have ha46 := s51 _ _ ha46
      have hc := s51 _ _ hc
      have sN := sN.trans s51
      refine rd_catTH ha46 ha49 (by have := cln none (some (at1 : Int)); have := cln (some (at1 : Int)) none; have := cln (some ((at1 : Int) + 1)) none; have := cln (some ((at1 : Int) + 2)) none; have := cln (some (at1 : Int)) (some ((at1 : Int) + 1)); have := cln (some ((at1 : Int) + 1)) (some ((at1 : Int) + 2)); (try simp only [List.length_append, List.length_singleton]); omega) fun a52 K53 s54 ha52 => ?_
      have hc := s54 _ _ hc
      have sN := sN.trans s54
      wtm_at "rd"
      refine q _ _ (g2.trans (Go.of_same hp2 sN)) (mk sN ha52 (by have := cln none (some (at1 : Int)); have := cln (some (at1 : Int)) none; have := cln (some ((at1 : Int) + 1)) none; have := cln (some ((at1 : Int) + 2)) none; have := cln (some (at1 : Int)) (some ((at1 : Int) + 1)); have := cln (some ((at1 : Int) + 1)) (some ((at1 : Int) + 2)); (try simp only [List.length_append, List.length_singleton]); omega) fun v hv => ?_)
      rcases List.mem_append.mp hv with hv | hv
      · rcases List.mem_append.mp hv with hv | hv
        · exact .inl (cin _ _ v hv)
        · exact .inl (cin _ _ v hv)
      · exact .inl (cin _ _ v hv)
    wtm_at "rd"
    refine rd_split (fun c4 => ?_) (fun c4 => ?_)
    · wtm_at "rd"
      refine rd_slTH hc fun a55 K56 s57 ha55 => ?_
      have hc := s57 _ _ hc
      have sN := s57
      wtm_at "rd"
      refine rd_slTH hc fun a58 K59 s60 ha58 => ?_
      have ha55 := s60 _ _ ha55
      have hc := s60 _ _ hc
      have sN := sN.trans s60
      refine rd_catTH ha55 ha58 (by have := cln none (some (at1 : Int)); have := cln (some (at1 : Int)) none; have := cln (some ((at1 : Int) + 1)) none; have := cln (some ((at1 : Int) + 2)) none; have := cln (some (at1 : Int)) (some ((at1 : Int) + 1)); have := cln (some ((at1 : Int) + 1)) (some ((at1 : Int) + 2)); (try simp only [List.length_append, List.length_singleton]); omega) fun a61 K62 s63 ha61 => ?_
      have hc := s63 _ _ hc
      have sN := sN.trans s63
      wtm_at "rd"
      refine rd_slTH hc fun a64 K65 s66 ha64 => ?_
      have ha61 := s66 _ _ ha61
      have hc := s66 _ _ hc
      have sN := sN.trans s66
      wtm_at "rd"
      refine rd_catTH ha64 ha61 (by have := cln none (some (at1 : Int)); have := cln (some (at1 : Int)) none; have := cln (some ((at1 : Int) + 1)) none; have := cln (some ((at1 : Int) + 2)) none; have := cln (some (at1 : Int)) (some ((at1 : Int) + 1)); have := cln (some ((at1 : Int) + 1)) (some ((at1 : Int) + 2)); (try simp only [List.length_append, List.length_singleton]); omega) fun a67 K68 s69 ha67 => ?_
      have hc := s69 _ _ hc
      have sN := sN.trans s69
      wtm_at "rd"
      refine rd_slTH hc fun a70 K71 s72 ha70 => ?_
      have ha67 := s72 _ _ ha67
      have hc := s72 _ _ hc
      have sN := sN.trans s72
      refine rd_catTH ha67 ha70 (by have := cln none (some (at1 : Int)); have := cln (some (at1 : Int)) none; have := cln (some ((at1 : Int) + 1)) none; have := cln (some ((at1 : Int) + 2)) none; have := cln (some (at1 : Int)) (some ((at1 : Int) + 1)); have := cln (some ((at1 : Int) + 1)) (some ((at1 : Int) + 2)); (try simp only [List.length_append, List.length_singleton]); omega) fun a73 K74 s75 ha73 => ?_
      have hc := s75 _ _ hc
      have sN := sN.trans s75
      wtm_at "rd"
      refine q _ _ (g2.trans (Go.of_same hp2 sN)) (mk sN ha73 (by have := cln none (some (at1 : Int)); have := cln (some (at1 : Int)) none; have := cln (some ((at1 : Int) + 1)) none; have := cln (some ((at1 : Int) + 2)) none; have := cln (some (at1 : Int)) (some ((at1 : Int) + 1)); have := cln (some ((at1 : Int) + 1)) (some ((at1 : Int) + 2)); (try simp only [List.length_append, List.length_singleton]); omega) fun v hv => ?_)
      rcases List.mem_append.mp hv with hv | hv
      · rcases List.mem_append.mp hv with hv | hv
        · exact .inl (cin _ _ v hv)
        · rcases List.mem_append.mp hv with hv | hv
          · exact .inl (cin _ _ v hv)
          · exact .inl (cin _ _ v hv)
      · exact .inl (cin _ _ v hv)
    wtm_at "rd"
    refine rd_listT (SqT.of hc) ?_
    intro l76 fl76
    have k78 := Same.new (o := .lst xs) fl76
    have hl76 := @upd_same H2 l76 (.lst xs)
    have ml76 : l76 ≠ p := Ne.symm ((Go.of_same hp2 (fun _ _ z => z : Same H2 H2)).pool.ne fl76)
    have hc := k78 _ _ hc
    have sN := k78
    generalize upd H2 l76 (.lst xs) = K77 at *
    wtm_at "rd"
    refine rd_backT ?_
    wtm_at "rd"
    refine ⟨its, xs, rfl, SqT.of hc, fun ys yin yl a79 fa79 => ?_⟩
    have k81 := Same.new (o := .tup ys) fa79
    have ha79 := @upd_same K77 a79 (.tup ys)
    have hl76 := k81 _ _ hl76
    have hc := k81 _ _ hc
    have sN := sN.trans k81
    generalize upd K77 a79 (.tup ys) = K80 at *
    wtm_at "rd"
    intro d82 fd82
    have k84 := Same.new (o := .dK []) fd82
    have hd82 := @upd_same K80 d82 (.dK [])
    have hl76 := k84 _ _ hl76
    have ha79 := k84 _ _ ha79
    have hc := k84 _ _ hc
    have sN := sN.trans k84
    generalize upd K80 d82 (.dK []) = K83 at *
    have md : d82 ≠ p := (Go.of_same hp2 sN).pool.offD hd82
    wtm_at "rd"
    intro l85 fl85
    have k87 := Same.new (o := .lst [.ref l76, .non, .ref a79, .ref d82]) fl85
    have hl85 := @upd_same K83 l85 (.lst [.ref l76, .non, .ref a79, .ref d82])
    have hl76 := k87 _ _ hl76
    have ha79 := k87 _ _ ha79
    have hd82 := k87 _ _ hd82
    have ml85 : l85 ≠ p := Ne.symm ((Go.of_same hp2 sN).pool.ne fl85)
    have hc := k87 _ _ hc
    have sN := sN.trans k87
    generalize upd K83 l85 (.lst [.ref l76, .non, .ref a79, .ref d82]) = K86 at *
    have ca79 := mk sN ha79 (by omega) fun v hv => .inl (yin v hv)
    have all4 : ∀ v ∈ ([.ref l76, .non, .ref a79, .ref d82] : List V), PartOk (hidQ p K86) v := fun v hv => by
      simp only [List.mem_cons, List.not_mem_nil, or_false] at hv
      rcases hv with rfl | rfl | rfl | rfl
      · have hh := hidQ_at ml76 hl76
        exact ⟨.inr (.inr (.inr (.inr ⟨l76, _, rfl, hh, .inl ⟨_, rfl⟩⟩))), fun a zs e hz => by rw [← V.ref.inj e, hh] at hz; cases hz⟩
      · exact ⟨.inl rfl, nofun⟩
      · exact ca79
      · have hh := hidQ_at md hd82
        exact ⟨.inr (.inr (.inr (.inr ⟨d82, _, rfl, hh, .inr (.inr ⟨_, rfl⟩)⟩))), fun a zs e hz => by rw [← V.ref.inj e, hh] at hz; cases hz⟩
    have len4 : ([.ref l76, .non, .ref a79, .ref d82] : List V).length = 4 := rfl
    generalize ([.ref l76, .non, .ref a79, .ref d82] : List V) = L4 at *
    wtm_at "rd"
    refine use_draw (Go.of_same hp2 sN).pool (by decide) (by decide) fun r HZ z0 z1 gZ => ?_
    obtain ⟨i6, rfl⟩ : ∃ k : Nat, r = (k : Int) := ⟨r.toNat, by omega⟩
    have i6l : i6 < L4.length := by omega
    refine rd_ixL (SqL.of (gZ.at hl85 ml85)) (v := L4[i6]) (atI_nat (List.getElem?_eq_getElem i6l)) ?_
    exact q _ HZ ((g2.trans (Go.of_same hp2 sN)).trans gZ) ((all4 _ (List.getElem_mem i6l)).ext (hidQ_go gZ))
theorem ok_var01 {f : Addr} {fd : FuncData} (F : Fun K "_law_make_variant" "_law_make_variant" s__law_make_variant f fd) (B : Bt mg) (C : QFc P w K mg base) : FnG P w K mg base CX0 3 f fd ["_law_pool_here", "_law_graph"] spVar01 := by
  refine fnG0 F sc__law_make_variant (fun vs H Q E h => ?_) (fun cdv A outer s H vs Q E hr h => ?_)
  · obtain ⟨p, g, n, e, ns, es, rfl, _⟩ := h
    rfl
  · obtain ⟨p, g, n, e, ns, es, rfl, hp, gr, n1, n100, e900, nm, mem, q⟩ := h
    have nd := sc__law_make_variant.nd
    have hu := hr.u1
    refine ⟨_, (pss_cons (ps_set (i := 2) nd rfl (by first | exact Or.inl rfl | exact Or.inr rfl) (pe_lst (pa_cons pe_str (pa_cons pe_str (pa_cons pe_str (pa_cons pe_str (pa_cons pe_str (pa_cons pe_non (pa_cons pe_int (pa_cons (pe_tup (pa_cons pe_str pa_nil)) (pa_cons (pe_lst (pa_cons pe_str pa_nil)) (pa_cons pe_str (pa_cons pe_str (pa_cons pe_str pa_nil))))))))))))))
  (pss_cons (ps_set (i := 3) nd rfl (by first | exact Or.inl rfl | exact Or.inr rfl) (pe_ix (kIx K rfl) (pv 2) (pe_c C._law_draw hr (by decide) rfl (pa_cons (pv 0) (pa_cons (pe_callB (kLen K rfl) (by rfl) B.len bb_len (pa_cons (pv 2) pa_nil)) pa_nil))) (fun _ _ => rfl)))
  (pss_cons (ps_if (pt_cmpR (kEq K rfl hr.u64) (pe_c C._law_draw hr (by decide) rfl (pa_cons (pv 0) (pa_cons pe_int pa_nil))) pe_int (nomark _)) (pss_one (ps_ret (pe_tup (pa_cons (pe_c C._law_make_variant_items hr (by decide) rfl (pa_cons (pv 0) (pa_cons (pe_ix (kIx K rfl) (pv 1) pe_int (fun _ _ => rfl)) (pa_cons (pv 3) pa_nil)))) (pa_cons (pe_ix (kIx K rfl) (pv 1) pe_int (fun _ _ => rfl)) pa_nil))))) pss_nil)
  (pss_cons (ps_set (i := 4) nd rfl (by first | exact Or.inl rfl | exact Or.inr rfl) (pe_ix (kIx K rfl) (pe_ix (kIx K rfl) (pv 1) pe_int (fun _ _ => rfl)) (pe_c C._law_draw hr (by decide) rfl (pa_cons (pv 0) (pa_cons (pe_callB (kLen K rfl) (by rfl) B.len bb_len (pa_cons (pe_ix (kIx K rfl) (pv 1) pe_int (fun _ _ => rfl)) pa_nil)) pa_nil))) (fun _ _ => rfl)))
  (pss_cons (ps_set (i := 5) nd rfl (by first | exact Or.inl rfl | exact Or.inr rfl) (pe_ix (kIx K rfl) (pe_ix (kIx K rfl) (pv 1) pe_int (fun _ _ => rfl)) (pe_c C._law_draw hr (by decide) rfl (pa_cons (pv 0) (pa_cons (pe_callB (kLen K rfl) (by rfl) B.len bb_len (pa_cons (pe_ix (kIx K rfl) (pv 1) pe_int (fun _ _ => rfl)) pa_nil)) pa_nil))) (fun _ _ => rfl)))
  (pss_cons (ps_set (i := 6) nd rfl (by first | exact Or.inl rfl | exact Or.inr rfl) (pe_lst (pa_cons (pe_tup (pa_cons (pv 4) (pa_cons (pv 5) pa_nil))) (pa_cons (pe_tup (pa_cons (pv 4) (pa_cons (pv 3) pa_nil))) (pa_cons (pe_tup (pa_cons (pv 3) (pa_cons (pv 4) pa_nil))) (pa_cons (pe_tup (pa_cons (pv 4) pa_nil)) (pa_cons (pe_lst (pa_cons (pv 4) (pa_cons (pv 5) pa_nil))) (pa_cons (pe_tup (pa_cons (pv 4) (pa_cons (pv 5) (pa_cons (pv 4) pa_nil)))) (pa_cons (pv 3) (pa_cons pe_dnewK pa_nil))))))))))
  (pss_one (ps_ret (pe_tup (pa_cons (pe_ix (kIx K rfl) (pv 1) pe_int (fun _ _ => rfl)) (pa_cons (pe_c C._law_make_variant_items hr (by decide) rfl (pa_cons (pv 0) (pa_cons (pe_ix (kIx K rfl) (pv 1) pe_int (fun _ _ => rfl)) (pa_cons (pe_ix (kIx K rfl) (pv 6) (pe_c C._law_draw hr (by decide) rfl (pa_cons (pv 0) (pa_cons (pe_callB (kLen K rfl) (by rfl) B.len bb_len (pa_cons (pv 6) pa_nil)) pa_nil))) (fun _ _ => rfl)) pa_nil)))) pa_nil))))))))))), ?_⟩
    wtm_at "rd"
    have gr_go : ∀ {Ha Hb : Hp}, PoolAt Ha p → Go p Ha Hb → GrAt Ha g n e ns es → GrAt Hb g n e ns es := fun ha gg h => ⟨gg.tup ha h.top, gg.tup ha h.nodes, gg.tup ha h.edges, fun y hy => gg.tup ha (h.pairs y hy)⟩
    intro t1 ft1
    have k1 := Same.new (o := .tup [.str "a"]) ft1
    have ht1 := @upd_same H t1 (.tup [.str "a"])
    have s1 := k1
    generalize upd H t1 (.tup [.str "a"]) = H1 at *
    wtm_at "rd"
    intro l1 fl1
    have k2 := Same.new (o := .lst [.str "a"]) fl1
    have hl1 := @upd_same H1 l1 (.lst [.str "a"])
    have ht1 := k2 _ _ ht1
    have ml1 : l1 ≠ p := Ne.symm ((Go.of_same hp s1).pool.ne fl1)
    have s1 := s1.trans k2
    generalize upd H1 l1 (.lst [.str "a"]) = H2 at *
    wtm_at "rd"
    intro lv flv
    have k3 := Same.new (o := .lst [.str "", .str "A", .str "a b", .str "abcdefghi", .str "abcdefgh", .non, .int 5, .ref t1, .ref l1, .str "a1", .str "zz", .str "a\n"]) flv
    have hlv := @upd_same H2 lv (.lst [.str "", .str "A", .str "a b", .str "abcdefghi", .str "abcdefgh", .non, .int 5, .ref t1, .ref l1, .str "a1", .str "zz", .str "a\n"])
    have ht1 := k3 _ _ ht1
    have hl1 := k3 _ _ hl1
    have mlv : lv ≠ p := Ne.symm ((Go.of_same hp s1).pool.ne flv)
    have s1 := s1.trans k3
    generalize upd H2 lv (.lst [.str "", .str "A", .str "a b", .str "abcdefghi", .str "abcdefgh", .non, .int 5, .ref t1, .ref l1, .str "a1", .str "zz", .str "a\n"]) = H3 at *
    have g3 := Go.of_same hp s1
    have hp3 := g3.pool
    have mt1 : t1 ≠ p := hp3.offT ht1
    have aok : ∀ s ∈ [("a" : Str)], s.length ≤ 1000 ∧ PyData.strOk s = true := fun s hs => by
      rw [List.mem_singleton.mp hs]
      exact ⟨by decide +kernel, by decide +kernel⟩
    have ivs : ∀ v ∈ [V.str "", .str "A", .str "a b", .str "abcdefghi", .str "abcdefgh", .non, .int 5, .ref t1, .ref l1, .str "a1", .str "zz", .str "a\n"], Pt (hidQ p H3) v := fun v hv => by
      simp only [List.mem_cons, List.not_mem_nil, or_false] at hv
      rcases hv with rfl | rfl | rfl | rfl | rfl | rfl | rfl | rfl | rfl | rfl | rfl | rfl
      · exact .inr (.inr (.inl ⟨_, rfl, by decide +kernel, by decide +kernel⟩))
      · exact .inr (.inr (.inl ⟨_, rfl, by decide +kernel, by decide +kernel⟩))
      · exact .inr (.inr (.inl ⟨_, rfl, by decide +kernel, by decide +kernel⟩))
      · exact .inr (.inr (.inl ⟨_, rfl, by decide +kernel, by decide +kernel⟩))
      · exact .inr (.inr (.inl ⟨_, rfl, by decide +kernel, by decide +kernel⟩))
      · exact .inl rfl
      · exact .inr (.inl ⟨_, rfl⟩)
      · exact .inr (.inr (.inr ⟨t1, ["a"], rfl, .inl (hidQ_at mt1 ht1), aok⟩))
      · exact .inr (.inr (.inr ⟨l1, ["a"], rfl, .inr (hidQ_at ml1 hl1), aok⟩))
      · exact .inr (.inr (.inl ⟨_, rfl, by decide +kernel, by decide +kernel⟩))
      · exact .inr (.inr (.inl ⟨_, rfl, by decide +kernel, by decide +kernel⟩))
      · exact .inr (.inr (.inl ⟨_, rfl, by decide +kernel, by decide +kernel⟩))
    have len12 : [V.str "", .str "A", .str "a b", .str "abcdefghi", .str "abcdefgh", .non, .int 5, .ref t1, .ref l1, .str "a1", .str "zz", .str "a\n"].length = 12 := rfl
    generalize [V.str "", .str "A", .str "a b", .str "abcdefghi", .str "abcdefgh", .non, .int 5, .ref t1, .ref l1, .str "a1", .str "zz", .str "a\n"] = L at *
    have gr3 := gr_go hp g3 gr
    clear k1 k2 k3 ft1 fl1 flv ht1 hl1 ml1 mt1 s1 gr aok
    wtm_at "rd"
    refine rd_lenL (SqL.of hlv) ?_
    rw [len12]
    wtm_at "rd"
    refine use_draw hp3 (by decide) (by decide) fun r H4 w0 w1 g4 => ?_
    obtain ⟨k, rfl⟩ : ∃ k : Nat, r = (k : Int) := ⟨r.toNat, by omega⟩
    have hk : k < L.length := by omega
    refine rd_ixL (SqL.of (g4.at hlv mlv)) (v := L[k]) (atI_nat (List.getElem?_eq_getElem hk)) ?_
    have iv4 := (ivs _ (List.getElem_mem hk)).ext fun a o _ h z => hidQ_go g4 a o h z
    generalize L[k] = iv at *
    have gr4 := gr_go hp3 g4 gr3
    have g14 := g3.trans g4
    have hp4 := g4.pool
    clear ivs len12 hlv mlv hk gr3 g3 g4 hp3
    have nodes_it : ∀ {Hx : Hp}, ∀ x ∈ ns.map V.str, It1 Hx x := fun {Hx} x hx => by
      obtain ⟨s, hs, rfl⟩ := List.mem_map.mp hx
      exact .inl (.inr (.inr (.inl ⟨s, rfl, name_len (nm s hs)⟩)))
    have strPt : ∀ {Hx : Hp} {s : Str}, s ∈ ns → Pt Hx (.str s) := fun {Hx s} hs => .inr (.inr (.inl ⟨s, rfl, name_len (nm s hs)⟩))
    have edges_it : ∀ {Hx : Hp}, PoolAt Hx p → GrAt Hx g n e ns es → ∀ x ∈ es.map (fun y => V.ref y.1), It1 (hidQ p Hx) x := fun {Hx} hpx gx x hx => by
      obtain ⟨y, hy, rfl⟩ := List.mem_map.mp hx
      have hyp := gx.pairs y hy
      refine .inr (.inr ⟨y.1, _, rfl, hidQ_at (hpx.offT hyp) hyp, fun z hz => ?_⟩)
      obtain ⟨m1, m2⟩ := mem y hy
      rcases List.mem_cons.mp hz with rfl | hz
      · exact strPt m1
      · rw [List.mem_singleton.mp hz]
        exact strPt m2
    have okN : ∀ {Hx : Hp}, PoolAt Hx p → GrAt Hx g n e ns es → PartOk (hidQ p Hx) (.ref n) := fun {Hx} hpx gx => by
      have hh := hidQ_at (hpx.offT gx.nodes) gx.nodes
      refine ⟨.inr (.inr (.inr (.inr ⟨n, _, rfl, hh, .inr (.inl ⟨_, rfl⟩)⟩))), fun a xs e' h => ?_⟩
      rw [← V.ref.inj e', hh] at h
      cases h
      exact ⟨by rw [List.length_map]; omega, nodes_it⟩
    have okE : ∀ {Hx : Hp}, PoolAt Hx p → GrAt Hx g n e ns es → PartOk (hidQ p Hx) (.ref e) := fun {Hx} hpx gx => by
      have hh := hidQ_at (hpx.offT gx.edges) gx.edges
      refine ⟨.inr (.inr (.inr (.inr ⟨e, _, rfl, hh, .inr (.inl ⟨_, rfl⟩)⟩))), fun a xs e' h => ?_⟩
      rw [← V.ref.inj e', hh] at h
      cases h
      exact ⟨by rw [List.length_map]; omega, edges_it hpx gx⟩
    wtm_at "rd"
    refine use_draw hp4 (by decide) (by decide) fun r2 H5 _ _ g5 => ?_
    have gr5 := gr_go hp4 g5 gr4
    have iv5 := iv4.ext fun a o _ h z => hidQ_go g5 a o h z
    have g15 := g14.trans g5
    have hp5 := g5.pool
    clear gr4 iv4 g14 g5 hp4
    wtm_at "rd"
    refine rd_split (fun c => ?_) (fun c => ?_)
    · wtm_at "rd"
      refine rd_ixT (SqT.of gr5.top) (v := .ref n) rfl ?_
      wtm_at "rd"
      refine ⟨p, n, _, iv, rfl, hp5, gr5.nodes, by rw [List.length_map]; omega, nodes_it, .inl iv5, fun v H6 g6 pv6 => ?_⟩
      have gr6 := gr_go hp5 g6 gr5
      wtm_at "rd"
      refine rd_ixT (SqT.of gr6.top) (v := .ref e) rfl ?_
      wtm_at "rd"
      intro tr ftr
      have kt := Same.new (o := .tup [v, .ref e]) ftr
      exact q tr v (.ref e) _ ((g15.trans g6).trans (Go.of_same g6.pool kt)) upd_same (pv6.ext (hidQ_same kt)) ((okE g6.pool gr6).ext (hidQ_same kt))
    wtm_at "rd"
    refine rd_ixT (SqT.of gr5.top) (v := .ref n) rfl ?_
    wtm_at "rd"
    refine rd_ixT (SqT.of gr5.top) (v := .ref n) rfl ?_
    wtm_at "rd"
    refine rd_lenT (SqT.of gr5.nodes) ?_
    rw [List.length_map]
    wtm_at "rd"
    refine use_draw hp5 (by omega) (by omega) fun r3 H6 y0 y1 g6 => ?_
    obtain ⟨k1, rfl⟩ : ∃ k : Nat, r3 = (k : Int) := ⟨r3.toNat, by omega⟩
    have hk1 : k1 < ns.length := by omega
    have gr6 := gr_go hp5 g6 gr5
    refine rd_ixT (SqT.of gr6.nodes) (v := .str ns[k1]) (atI_nat (by rw [List.getElem?_map, List.getElem?_eq_getElem hk1]; rfl)) ?_
    have m1 := List.getElem_mem hk1
    generalize ns[k1] = one at *
    have hp6 := g6.pool
    wtm_at "rd"
    refine rd_ixT (SqT.of gr6.top) (v := .ref n) rfl ?_
    wtm_at "rd"
    refine rd_ixT (SqT.of gr6.top) (v := .ref n) rfl ?_
    wtm_at "rd"
    refine rd_lenT (SqT.of gr6.nodes) ?_
    rw [List.length_map]
    wtm_at "rd"
    refine use_draw hp6 (by omega) (by omega) fun r4 H7 x0 x1 g7 => ?_
    obtain ⟨k2, rfl⟩ : ∃ k : Nat, r4 = (k : Int) := ⟨r4.toNat, by omega⟩
    have hk2 : k2 < ns.length := by omega
    have gr7 := gr_go hp6 g7 gr6
    refine rd_ixT (SqT.of gr7.nodes) (v := .str ns[k2]) (atI_nat (by rw [List.getElem?_map, List.getElem?_eq_getElem hk2]; rfl)) ?_
    have m2 := List.getElem_mem hk2
    generalize ns[k2] = two at *
    have g67 := g6.trans g7
    have iv7 := iv5.ext fun a o _ h z => hidQ_go g67 a o h z
    have g17 := g15.trans g67
    have hp7 := g7.pool
    clear gr5 gr6 hp5 hp6 g6 g7 g67 g15 iv5 hk1 hk2
    have sN : Same H7 H7 := fun _ _ h => h
    wtm_at "rd"
    intro u1 fu1
    have ku1 := Same.new (o := .tup [.str one, .str two]) fu1
    have hu1 := @upd_same H7 u1 (.tup [.str one, .str two])
    have mu1 : u1 ≠ p := Ne.symm ((Go.of_same hp7 sN).pool.ne fu1)
    have sN := sN.trans ku1
    generalize upd H7 u1 (.tup [.str one, .str two]) = Ju1 at *
    wtm_at "rd"
    intro u2 fu2
    have ku2 := Same.new (o := .tup [.str one, iv]) fu2
    have hu2 := @upd_same Ju1 u2 (.tup [.str one, iv])
    have mu2 : u2 ≠ p := Ne.symm ((Go.of_same hp7 sN).pool.ne fu2)
    have hu1 := ku2 _ _ hu1
    have sN := sN.trans ku2
    generalize upd Ju1 u2 (.tup [.str one, iv]) = Ju2 at *
    wtm_at "rd"
    intro u3 fu3
    have ku3 := Same.new (o := .tup [iv, .str one]) fu3
    have hu3 := @upd_same Ju2 u3 (.tup [iv, .str one])
    have mu3 : u3 ≠ p := Ne.symm ((Go.of_same hp7 sN).pool.ne fu3)
    have hu1 := ku3 _ _ hu1
    have hu2 := ku3 _ _ hu2
    have sN := sN.trans ku3
    generalize upd Ju2 u3 (.tup [iv, .str one]) = Ju3 at *
    wtm_at "rd"
    intro u4 fu4
    have ku4 := Same.new (o := .tup [.str one]) fu4
    have hu4 := @upd_same Ju3 u4 (.tup [.str one])
    have mu4 : u4 ≠ p := Ne.symm ((Go.of_same hp7 sN).pool.ne fu4)
    have hu1 := ku4 _ _ hu1
    have hu2 := ku4 _ _ hu2
    have hu3 := ku4 _ _ hu3
    have sN := sN.trans ku4
    generalize upd Ju3 u4 (.tup [.str one]) = Ju4 at *
    wtm_at "rd"
    intro u5 fu5
    have ku5 := Same.new (o := .lst [.str one, .str two]) fu5
    have hu5 := @upd_same Ju4 u5 (.lst [.str one, .str two])
    have mu5 : u5 ≠ p := Ne.symm ((Go.of_same hp7 sN).pool.ne fu5)
    have hu1 := ku5 _ _ hu1
    have hu2 := ku5 _ _ hu2
    have hu3 := ku5 _ _ hu3
    have hu4 := ku5 _ _ hu4
    have sN := sN.trans ku5
    generalize upd Ju4 u5 (.lst [.str one, .str two]) = Ju5 at *
    wtm_at "rd"
    intro u6 fu6
    have ku6 := Same.new (o := .tup [.str one, .str two, .str one]) fu6
    have hu6 := @upd_same Ju5 u6 (.tup [.str one, .str two, .str one])
    have mu6 : u6 ≠ p := Ne.symm ((Go.of_same hp7 sN).pool.ne fu6)
    have hu1 := ku6 _ _ hu1
    have hu2 := ku6 _ _ hu2
    have hu3 := ku6 _ _ hu3
    have hu4 := ku6 _ _ hu4
    have hu5 := ku6 _ _ hu5
    have sN := sN.trans ku6
    generalize upd Ju5 u6 (.tup [.str one, .str two, .str one]) = Ju6 at *
    wtm_at "rd"
    intro u7 fu7
    have ku7 := Same.new (o := .dK []) fu7
    have hu7 := @upd_same Ju6 u7 (.dK [])
    have mu7 : u7 ≠ p := Ne.symm ((Go.of_same hp7 sN).pool.ne fu7)
    have hu1 := ku7 _ _ hu1
    have hu2 := ku7 _ _ hu2
    have hu3 := ku7 _ _ hu3
    have hu4 := ku7 _ _ hu4
    have hu5 := ku7 _ _ hu5
    have hu6 := ku7 _ _ hu6
    have sN := sN.trans ku7
    generalize upd Ju6 u7 (.dK []) = Ju7 at *
    wtm_at "rd"
    intro lw flw
    have klw := Same.new (o := .lst [.ref u1, .ref u2, .ref u3, .ref u4, .ref u5, .ref u6, iv, .ref u7]) flw
    have hlw := @upd_same Ju7 lw (.lst [.ref u1, .ref u2, .ref u3, .ref u4, .ref u5, .ref u6, iv, .ref u7])
    have mlw : lw ≠ p := Ne.symm ((Go.of_same hp7 sN).pool.ne flw)
    have hu1 := klw _ _ hu1
    have hu2 := klw _ _ hu2
    have hu3 := klw _ _ hu3
    have hu4 := klw _ _ hu4
    have hu5 := klw _ _ hu5
    have hu6 := klw _ _ hu6
    have hu7 := klw _ _ hu7
    have sN := sN.trans klw
    generalize upd Ju7 lw (.lst [.ref u1, .ref u2, .ref u3, .ref u4, .ref u5, .ref u6, iv, .ref u7]) = Jlw at *
    have ivN : Pt (hidQ p Jlw) iv := iv7.ext fun a o _ h z => hidQ_same sN a o h z
    have its8 : ∀ v ∈ ([.ref u1, .ref u2, .ref u3, .ref u4, .ref u5, .ref u6, iv, .ref u7] : List V), It1 (hidQ p Jlw) v := fun v hv => by
      have tp : ∀ {u : Addr} {ys : List V}, u ≠ p → Jlw u = some (.tup ys) → (∀ y ∈ ys, y = .str one ∨ y = .str two ∨ y = iv) → It1 (hidQ p Jlw) (.ref u) := fun {u ys} m h k => .inr (.inr ⟨u, ys, rfl, hidQ_at m h, fun y hy => by
        rcases k y hy with rfl | rfl | rfl
        · exact strPt m1
        · exact strPt m2
        · exact ivN⟩)
      simp only [List.mem_cons, List.not_mem_nil, or_false] at hv
      rcases hv with rfl | rfl | rfl | rfl | rfl | rfl | rfl | rfl
      · exact tp mu1 hu1 fun y hy => by
          simp only [List.mem_cons, List.not_mem_nil, or_false] at hy
          exact hy.elim .inl fun z => .inr (.inl z)
      · exact tp mu2 hu2 fun y hy => by
          simp only [List.mem_cons, List.not_mem_nil, or_false] at hy
          exact hy.elim .inl fun z => .inr (.inr z)
      · exact tp mu3 hu3 fun y hy => by
          simp only [List.mem_cons, List.not_mem_nil, or_false] at hy
          exact hy.elim (fun z => .inr (.inr z)) .inl
      · exact tp mu4 hu4 fun y hy => .inl (List.mem_singleton.mp hy)
      · exact .inl (.inr (.inr (.inr ⟨u5, [one, two], rfl, .inr (hidQ_at mu5 hu5), fun s hs => by
          rcases List.mem_cons.mp hs with rfl | hs
          · exact name_len (nm _ m1)
          · rw [List.mem_singleton.mp hs]
            exact name_len (nm _ m2)⟩)))
      · exact tp mu6 hu6 fun y hy => by
          simp only [List.mem_cons, List.not_mem_nil, or_false] at hy
          rcases hy with z | z | z
          · exact .inl z
          · exact .inr (.inl z)
          · exact .inl z
      · exact .inl ivN
      · exact .inr (.inl ⟨u7, rfl, hidQ_at mu7 hu7⟩)
    have len8 : ([.ref u1, .ref u2, .ref u3, .ref u4, .ref u5, .ref u6, iv, .ref u7] : List V).length = 8 := rfl
    generalize ([.ref u1, .ref u2, .ref u3, .ref u4, .ref u5, .ref u6, iv, .ref u7] : List V) = L8 at *
    have gN := Go.of_same hp7 sN
    have grN := gr_go hp7 gN gr7
    have g18 := g17.trans gN
    have hpN := gN.pool
    clear gr7 gN g17 hp7 hu1 hu2 hu3 hu4 hu5 hu6 hu7 mu1 mu2 mu3 mu4 mu5 mu6 mu7 fu1 fu2 fu3 fu4 fu5 fu6 fu7 flw ivN iv7 sN ku1 ku2 ku3 ku4 ku5 ku6 ku7 klw
    wtm_at "rd"
    refine rd_ixT (SqT.of grN.top) (v := .ref n) rfl ?_
    wtm_at "rd"
    refine rd_ixT (SqT.of grN.top) (v := .ref e) rfl ?_
    wtm_at "rd"
    refine rd_lenL (SqL.of hlw) ?_
    rw [len8]
    wtm_at "rd"
    refine use_draw hpN (by decide) (by decide) fun r5 H9 p0 p1 g9 => ?_
    obtain ⟨k5, rfl⟩ : ∃ k : Nat, r5 = (k : Int) := ⟨r5.toNat, by omega⟩
    have hk5 : k5 < L8.length := by omega
    refine rd_ixL (SqL.of (g9.at hlw mlw)) (v := L8[k5]) (atI_nat (List.getElem?_eq_getElem hk5)) ?_
    have itv := (its8 _ (List.getElem_mem hk5)).ext fun a o h z => hidQ_go g9 a o h z
    generalize L8[k5] = ev at *
    have gr9 := gr_go hpN g9 grN
    wtm_at "rd"
    refine ⟨p, e, _, ev, rfl, g9.pool, gr9.edges, by rw [List.length_map]; omega, edges_it g9.pool gr9, itv, fun v HA gA pvA => ?_⟩
    have grA := gr_go g9.pool gA gr9
    wtm_at "rd"
    intro tr ftr
    have kt := Same.new (o := .tup [.ref n, v]) ftr
    exact q tr (.ref n) v _ ((g18.trans (g9.trans gA)).trans (Go.of_same gA.pool kt)) upd_same ((okN gA.pool grA).ext (hidQ_same kt)) (pvA.ext (hidQ_same kt))
end
end Law

/-! own exceptions with one field over any built-in class of the plain kind -/
namespace U
open PySem PySem.Spec PyProof.Rows L2
section
variable {P : Program} {w : World} {A : Around} {R : Result → Shared → Prop} {hp : Heap} {g : Array GenState} {d : Drawn} {t : Nat} {os : OsState} {B newId initId : String} {bmB : List Value}
end
section
variable {X : Cx} {pins : List (Addr × Obj)} {σ : L2.St} {H : Hp} {s : Shared} {a C dx : Addr} {f : Str} {y : V} {u : Value} {B newId initId : String} {bmB : List Value}
variable {o e : Expr} {es : List Expr} {to te : TE} {ta : TA} {p p' p1 p2 pos : Pos}
end
section
variable {X : Cx} {W : WX} {j : Nat} {x f : Str} {B newId initId : String} {bmB : List Value} {C : Addr} {e : Expr} {te : TE} {p p2 pos : Pos}
end
section
variable {K : PySem.W.Frag} {H : Hp} {Q : VK} {D : Ends} {σ : L2.St} {newId : String} {bmB : List Value} {ta : TA} {te : TE}
end
end U

/-! own exceptions over KeyError: made by LookupError's __new__ -/
namespace U
open PySem PySem.Spec PyProof.Rows L2
section
variable {M : Model} {A : Around} {E : Value → Shared → Prop} {h : Heap} {g : Array GenState} {d : Drawn} {t : Nat} {os : OsState}
variable {nm q : Str} {C N : Addr} {bs bm bmN : List Value} {hdct : Bool} {sn : List Str} {sub : List Value} {ab : Bool} {col : Option Bool} {dd : Option Addr} {k0 k1 k2 k3 k5 : Option Value} {NB newId iI : String}
end
section
variable {P : Program} {w : World} {A : Around} {R : Result → Shared → Prop} {h : Heap} {g : Array GenState} {d : Drawn} {t : Nat} {os : OsState}
variable {nm q : Str} {C N : Addr} {bs bm bmN : List Value} {hdct : Bool} {sn : List Str} {sub : List Value} {ab : Bool} {col : Option Bool} {dd : Option Addr} {k0 k1 k2 k3 k5 : Option Value} {NB newId iI : String}
end
end U

/-! UnknownNode; check_node, neighbors -/
namespace Law
open PySem PySem.Spec PyProof.Rows L2 U


/-- no node -/
def NotN (K : PySem.W.Frag) (H : Hp) (ns : List Str) (x : V) : Prop := (∃ t, TyIs K H x t ∧ isT t .str = false) ∨ ∃ s, x = .str s ∧ s ∉ ns
theorem NotN.same {K : PySem.W.Frag} {H H' : Hp} {ns : List Str} {x : V} (h : NotN K H ns x) (s : Same H H') : NotN K H' ns x := by
  rcases h with ⟨t, h1, h2⟩ | h
  · exact .inl ⟨t, tyx_same h1 s, h2⟩
  · exact .inr h
section
variable {P : Program} {w : World} {K : PySem.W.Frag} {mg : Str → Option Value} {base : Heap}
end
end Law

/-! what laws try besides nodes -/
namespace Law
open PySem PySem.Spec PyProof.Rows L2 U


theorem shows_gr {ns : List Str} {es : List (Str × Str)} (h1 : ∀ n ∈ ns, IsName n) (h2 : ∀ e ∈ es, IsName e.1 ∧ IsName e.2) (l1 : ns.length ≤ 100) (l2 : es.length ≤ 1000) : Shows (dGr ns es) := by
  obtain ⟨a, b, c, d⟩ := lvs_strs h1
  obtain ⟨a2, b2, c2, d2⟩ := lvs_edges h2
  refine ⟨?_, ?_, ?_, ?_⟩
  · simp only [PyData.showable, PyData.showableAll, b, b2, Bool.and_self]
  · simp only [PyData.leavesShort, PyData.leavesShortAll, a, a2, Bool.and_self]
  · simp only [PyData.bulk, PyData.bulkAll]
    omega
  · simp only [PyData.depth, PyData.depthAll]
    omega
theorem dp_edgesT {K : PySem.W.Frag} {H : Hp} : ∀ (es2 : List (Addr × Str × Str)), (∀ x ∈ es2, H x.1 = some (.tup [.str x.2.1, .str x.2.2])) → DpAll K H (es2.map fun x => V.ref x.1) ((es2.map (·.2)).map fun e => PyData.tuple [.str e.1, .str e.2])
  | [], _ => .nil
  | x :: xs, hx => .cons (.tup (SqT.of (hx x List.mem_cons_self)) (.cons (.str _) (.cons (.str _) .nil))) (dp_edgesT xs fun y hy => hx y (List.mem_cons_of_mem _ hy))
theorem hasD_strs : ∀ {ns : List Str}, PyData.hasDictAll (ns.map PyData.str) = false
  | [] => by simp [PyData.hasDictAll]
  | n :: r => by
    rw [List.map_cons, PyData.hasDictAll, PyData.hasDict, hasD_strs]
    rfl
theorem hasD_edges : ∀ {es : List (Str × Str)}, PyData.hasDictAll (es.map fun e => PyData.tuple [.str e.1, .str e.2]) = false
  | [] => by simp [PyData.hasDictAll]
  | n :: r => by
    rw [List.map_cons, PyData.hasDictAll, hasD_edges]
    simp [PyData.hasDict, PyData.hasDictAll]
theorem rp_gr {K : PySem.W.Frag} {H : Hp} {g n e : Addr} {ns : List Str} {es : List (Addr × Str × Str)} (gs : GrS H g n e ns es) : Rp K H (.ref g) (dGr ns (es.map (·.2))).shown := by
  have nm := gs.ok.names.ok
  refine .of (.tup (SqT.of gs.gr.top) (.cons (.tup (SqT.of gs.gr.nodes) (dp_strs _)) (.cons (.tup (SqT.of gs.gr.edges) (dp_edgesT es gs.gr.pairs)) .nil))) ?_ (shows_gr nm (fun e he => ?_) gs.l2 (by rw [List.length_map]; exact gs.l3))
  · rw [PyData.hasDict, PyData.hasDictAll, PyData.hasDict, hasD_strs, PyData.hasDictAll, PyData.hasDict, hasD_edges, PyData.hasDictAll]
    rfl
  · obtain ⟨z1, z2⟩ := gs.ok.mem e he
    exact ⟨nm _ z1, nm _ z2⟩
/-- what the law tries besides nodes -/
def Cand (K : PySem.W.Frag) (H : Hp) (ns : List Str) (x : V) : Prop := NotN K H ns x ∧ ∃ S, Rp K H x S
theorem Cand.same {K : PySem.W.Frag} {H H' : Hp} {ns : List Str} {x : V} (h : Cand K H ns x) (s : Same H H') : Cand K H' ns x := ⟨h.1.same s, h.2.imp fun _ r => r.same s⟩
section
variable {K : PySem.W.Frag} {H : Hp} {ns : List Str}
end
end Law

/-! k01's law -/
namespace Law
open PySem PySem.Spec PyProof.Rows L2 U LamX NdefX


theorem eLt_data {a b : Str × Str} (h : eLt a b) : PySem.W.dataLt (.tuple [.str a.1, .str a.2]) (.tuple [.str b.1, .str b.2]) = true := by
  rw [PySem.W.dataLt_pair (by simp [PySem.W.alike]) (by simp [PySem.W.alike]), PySem.W.dataLt_str, PySem.W.dataLt_str]
  simp only [PyData.eqv, beq_iff_eq]
  rcases h with h | ⟨e, h⟩
  · have n : ¬ a.1 = b.1 := fun e => sLt_irrefl _ (by rw [e] at h; exact h)
    rw [if_neg n]
    exact decide_eq_true h
  · rw [if_pos e]
    have n : ¬ a.2 = b.2 := fun e => sLt_irrefl _ (by rw [e] at h; exact h)
    rw [if_neg n]
    exact decide_eq_true h
theorem grs_rg {H : Hp} {g n e : Addr} {ns : List Str} {es : List (Addr × Str × Str)} (gs : GrS H g n e ns es) (l : ns.length ≤ 9) : RG H (.ref g) none ∧ es.length ≤ 81 := by
  have l2 : es.length ≤ 81 := by
    have := nodup_len (ascE_nodup gs.ok.asc) (ys := ns.flatMap fun a => ns.map fun b => (a, b)) fun y hy => List.mem_flatMap.mpr ⟨y.1, (gs.ok.mem _ hy).1, List.mem_map.mpr ⟨y.2, (gs.ok.mem _ hy).2, rfl⟩⟩
    have ln : ∀ (as bs : List Str), (as.flatMap fun a => bs.map fun b => (a, b)).length = as.length * bs.length := by
      intro as bs
      induction as with
      | nil => simp
      | cons a r ih => rw [List.flatMap_cons, List.length_append, ih, List.length_map, List.length_cons, Nat.succ_mul]; omega
    rw [ln, List.length_map] at this
    have : ns.length * ns.length ≤ 9 * 9 := Nat.mul_le_mul l l
    omega
  refine ⟨rg_good gs.gr (by omega) (by omega) gs.ok.names.ok gs.ok.names.asc (fun x hx => ⟨(gs.inE x hx).1, (gs.inE x hx).2, gs.ok.lt _ (List.mem_map_of_mem hx)⟩) ?_, l2⟩
  have := gs.ok.asc
  rw [show AscE (es.map (·.2)) = (es.map (·.2)).Pairwise eLt from rfl, List.pairwise_map] at this
  exact this.imp fun h => eLt_data h
def spGreat (T : List (Addr × Str)) : Sp := fun vs H Q _ => vs = [] ∧ Tabs T H ∧ ∀ H' : Hp, ExtN H H' → Tabs T H' → Q (.bl true) H'
def spLaw (K : PySem.W.Frag) (T : Addr) : Sp := fun vs H Q _ => ∃ (a : Addr) (nums : List Int), vs = [.ref a] ∧ SqL K H a (nums.map V.int) ∧ nums.length ≤ 63 ∧ Tabs [(T, qEdge)] H ∧ ∀ H' : Hp, Q (.bl true) H'
section
variable {P : Program} {w : World} {K : PySem.W.Frag} {mg : Str → Option Value} {base : Heap}
structure N1g (P : Program) (w : World) (K : PySem.W.Frag) (mg : Str → Option Value) (base : Heap) (T : List (Addr × Str)) : Prop where
  _law_numbered_names : Cal P w K mg base CX0 1 "_law_numbered_names" spNumd
  _law_compute_expected : Cal P w K mg base CX0 2 "_law_compute_expected" spExp01
  _law_call : Cal P w K mg base CX0 6 "_law_call" (spCall01 T)
  MAX_NODES : ∃ u, mg "MAX_NODES" = some u ∧ RelV (.int 40) u
  MAX_EDGES : ∃ u, mg "MAX_EDGES" = some u ∧ RelV (.int 120) u
theorem ok_great {f : Addr} {fd : FuncData} {T : List (Addr × Str)} (F : Fun K "_law_great_holds" "_law_great_holds" s__law_great_holds f fd) (B : Bt mg) (C : N1g P w K mg base T) : FnG P w K mg base CX0 7 f fd [] (spGreat T) := by
  refine fnG0 F sc__law_great_holds (fun vs H Q E h => ?_) (fun cdv A outer s H vs Q E hr h => ?_)
  · obtain ⟨rfl, _⟩ := h
    rfl
  · obtain ⟨rfl, tabs, q⟩ := h
    have nd := sc__law_great_holds.nd
    have hu := hr.u1
    refine ⟨_, (pss_cons (ps_set (i := 0) nd rfl (by first | exact Or.inl rfl | exact Or.inr rfl) (pe_callTy (kTuple K rfl) (by rfl) B.tuple bb_tuple (pa_cons (pe_c C._law_numbered_names hr (by decide) rfl (pa_cons pe_int pa_nil)) pa_nil)))
  (pss_cons (ps_set (i := 1) nd rfl (by first | exact Or.inl rfl | exact Or.inr rfl) (pe_lst pa_nil))
  (pss_cons (ps_for PassesOwn.never rfl (pi_range1 rfl B.range (pa_cons pe_int pa_nil)) (pg_name (i := 2) nd rfl (by first | exact Or.inl rfl | exact Or.inr rfl)) (pss_one (ps_set (i := 1) nd rfl (by first | exact Or.inl rfl | exact Or.inr rfl) (pe_op (kAdd K rfl) (pv 1) (pe_lc (own := [("_law_far", 3)]) rfl nd (pi_range2 rfl B.range (pa_cons pe_int (pa_cons pe_int pa_nil))) (blkOk_by (own := [("_law_far", 3)]) (N := nN__law_great_holds) (sc := defScope s__law_great_holds) (by decide +kernel)) (fun _ _ _ _ _ => (pg_name (i := 3) nd rfl (by first | exact Or.inl rfl | exact Or.inr rfl))) (fun _ _ _ _ _ => pts_nil) (fun _ _ _ _ _ => (pe_tup (pa_cons (pe_ix (kIx K rfl) (pv 0) (pv 2) (fun _ _ => rfl)) (pa_cons (pe_ix (kIx K rfl) (pv 0) (pe_op (kAdd K rfl) (pv 2) (pv 3)) (fun _ _ => rfl)) pa_nil)))))))))
  (pss_cons (ps_for PassesOwn.never rfl (ki_list K rfl (pe_lst (pa_cons pe_int (pa_cons pe_int pa_nil)))) (pg_name (i := 4) nd rfl (by first | exact Or.inl rfl | exact Or.inr rfl)) (pss_one (ps_for PassesOwn.never rfl (ki_list K rfl (pe_lst (pa_cons pe_int (pa_cons pe_int (pa_cons pe_int pa_nil))))) (pg_name (i := 5) nd rfl (by first | exact Or.inl rfl | exact Or.inr rfl)) (pss_cons (ps_set (i := 6) nd rfl (by first | exact Or.inl rfl | exact Or.inr rfl) (pe_tup (pa_cons (pe_slice (kSl K rfl) (pv 0) po_none (po_some (pv 4))) (pa_cons (pe_callTy (kTuple K rfl) (by rfl) B.tuple bb_tuple (pa_cons (pe_slice (kSl K rfl) (pv 1) po_none (po_some (pv 5))) pa_nil)) pa_nil))))
  (pss_one (ps_if (pt_cmpR (kNe K rfl hr.u64) (pe_c C._law_call hr (by decide) rfl (pa_cons (pv 6) pa_nil)) (pe_c C._law_compute_expected hr (by decide) rfl (pa_cons (pv 6) pa_nil)) (nomark _)) (pss_one (ps_ret pe_bl)) pss_nil))))))
  (pss_one (ps_ret (pe_and (pe_cmpR (kEq K rfl hr.u64) (pe_gl rfl C.MAX_NODES) pe_int (nomark _)) (pe_and (pe_cmpR (kEq K rfl hr.u64) (pe_gl rfl C.MAX_EDGES) pe_int (nomark _)) (pe_one (pe_cmpR uIs (pe_c C._law_call hr (by decide) rfl (pa_cons (pe_tup (pa_cons (pe_tup pa_nil) (pa_cons (pe_tup pa_nil) pa_nil))) pa_nil)) pe_non (nomark _))))))))))), ?_⟩
    wtm_at "rd"
    refine ⟨41, rfl, by decide, by decide, fun l0 H0 s0 _ hl0 => ?_⟩
    have nmo := (nmsD_names (n := 41) (by decide)).ok
    have n41 : (nmsD 41).length = 41 := nmsD_len
    have hl0 : H0 l0 = some (.lst ((nmsD 41).map V.str)) := hl0
    generalize nmsD 41 = ns at *
    wtm_at "rd"
    refine rd_tupleL (SqL.of hl0) ?_
    intro tn ftn
    have k1 := Same.new (o := .tup (ns.map V.str)) ftn
    have htn := @upd_same H0 tn (.tup (ns.map V.str))
    have s1 := s0.trans k1
    generalize upd H0 tn (.tup (ns.map V.str)) = H1 at *
    wtm_at "rd"
    intro le fle
    have k2 := Same.new (o := .lst []) fle
    have hle := @upd_same H1 le (.lst [])
    have htn := k2 _ _ htn
    have s2 := s1.trans k2
    generalize upd H1 le (.lst []) = H2 at *
    have tb2 := tabs.ext fun b o h => s2 b o h
    have x02 := ExtN.of fun b o h => s2 b o h
    clear hl0 k1 k2 ftn fle s0 s1 s2 tabs
    wtm_at "rd"
    refine turnsR (fun i σ H' => ∃ (u2 u3 u4 u5 u6 : Option V) (le : Addr) (es : List (Addr × Str × Str)), σ = [some (.ref tn), some (.ref le), u2, u3, u4, u5, u6] ∧ Same H2 H' ∧ H' le = some (.lst (es.map fun x => V.ref x.1)) ∧ es.length = 7 * i ∧ ∀ x ∈ es, H' x.1 = some (.tup [.str x.2.1, .str x.2.2]) ∧ x.2.1 ∈ ns ∧ x.2.2 ∈ ns) ⟨_, _, _, _, _, le, [], rfl, (fun _ _ h => h), hle, rfl, fun x hx => nomatch hx⟩ ?_ ?_
    · rintro i σ H' hi ⟨u2, u3, u4, u5, u6, le, es, rfl, s, hle, len, pr⟩
      have hi : i < 20 := hi
      have htn' := s _ _ htn
      wtm_at "rd"
      refine ⟨1, 8, rfl, ⟨by decide, by decide, by decide, by decide⟩, ?_⟩
      intro D fD
      refine lcR (fun j H4 => Same H' H4 ∧ ∃ es2 : List (Addr × Str × Str), H4 D = some (.lst (es2.map fun x => V.ref x.1)) ∧ es2.length = j ∧ ∀ x ∈ es2, H4 x.1 = some (.tup [.str x.2.1, .str x.2.2]) ∧ x.2.1 ∈ ns ∧ x.2.2 ∈ ns) ⟨Same.new fD, [], upd_same, rfl, fun x hx => nomatch hx⟩ ?_ ?_
      · rintro j H4 hj ⟨s4, es2, hD, len2, pr2⟩
        have hj : j < 7 := hj
        have htn4 := s4 _ _ htn'
        have l1 : i < ns.length := by omega
        have l2 : i + (1 + j) < ns.length := by omega
        wtm_at "rd"
        refine rd_ixT (SqT.of htn4) (v := .str ns[i]) (by rw [show ((0 : Int) + (i : Int)) = ((i : Nat) : Int) by omega]; exact atI_nat (by rw [List.getElem?_map, List.getElem?_eq_getElem l1]; rfl)) ?_
        wtm_at "rd"
        refine rd_ixT (SqT.of htn4) (v := .str ns[i + (1 + j)]) (by rw [show ((0 : Int) + (i : Int) + (1 + (j : Int))) = ((i + (1 + j) : Nat) : Int) by omega]; exact atI_nat (by rw [List.getElem?_map, List.getElem?_eq_getElem l2]; rfl)) ?_
        have m1 := List.getElem_mem l1
        have m2 := List.getElem_mem l2
        generalize ns[i] = xa at *
        generalize ns[i + (1 + j)] = xb at *
        wtm_at "rd"
        intro te fte
        have kt := Same.new (o := .tup [.str xa, .str xb]) fte
        have hte := @upd_same H4 te (.tup [.str xa, .str xb])
        have hD5 := kt _ _ hD
        generalize upd H4 te (.tup [.str xa, .str xb]) = H5 at *
        refine rd_acc hD5 (by rw [List.length_map]; omega) ?_
        refine ⟨same_put (s4.trans kt) fD, es2 ++ [(te, xa, xb)], by rw [upd_same, List.map_append]; rfl, by rw [List.length_append, List.length_singleton]; omega, fun x hx => ?_⟩
        rcases List.mem_append.mp hx with hx | hx
        · obtain ⟨h1, h2⟩ := pr2 x hx
          exact ⟨at_upd (ne_of (kt _ _ h1) hD5 nofun) (kt _ _ h1), h2⟩
        · rw [List.mem_singleton.mp hx]
          exact ⟨at_upd (ne_of hte hD5 nofun) hte, m1, m2⟩
      rintro H4 ⟨s4, es2, hD, len2, pr2⟩
      have len2 : es2.length = 7 := len2
      wtm_at "rd"
      refine rd_catL (s4 _ _ hle) hD (by rw [List.length_map, List.length_map]; omega) ?_
      intro l2 fl2
      have k3 := Same.new (o := .lst (es.map (fun x => V.ref x.1) ++ es2.map fun x => V.ref x.1)) fl2
      have e12 : es.map (fun x => V.ref x.1) ++ es2.map (fun x => V.ref x.1) = (es ++ es2).map fun x => V.ref x.1 := by rw [List.map_append]
      have hl2 := @upd_same H4 l2 (.lst (es.map (fun x => V.ref x.1) ++ es2.map fun x => V.ref x.1))
      rw [e12] at hl2 k3
      wtm_at "rd"
      rw [e12]
      refine ⟨_, _, _, _, _, l2, es ++ es2, rfl, (s.trans s4).trans k3, hl2, by rw [List.length_append]; omega, fun x hx => ?_⟩
      rcases List.mem_append.mp hx with hx | hx
      · obtain ⟨h1, h2⟩ := pr x hx
        exact ⟨k3 _ _ (s4 _ _ h1), h2⟩
      · obtain ⟨h1, h2⟩ := pr2 x hx
        exact ⟨k3 _ _ h1, h2⟩
    rintro σ H3 ⟨u2, u3, u4, u5, u6, le, es, rfl, s3, hle, len, pr⟩
    have len : es.length = 140 := len
    have htn := s3 _ _ htn
    have tb3 := tb2.ext fun b o h => s3 b o h
    have x03 := x02.trans (ExtN.of fun b o h => s3 b o h)
    clear x02 tb2 s3
    wtm_at "rd"
    intro lm flm
    have k4 := Same.new (o := .lst [.int 40, .int 41]) flm
    have hlm := @upd_same H3 lm (.lst [.int 40, .int 41])
    have htn := k4 _ _ htn
    have hle := k4 _ _ hle
    have pr := fun x hx => (⟨k4 _ _ (pr x hx).1, (pr x hx).2⟩ : _ ∧ _)
    have tb4 := tb3.ext fun b o h => k4 b o h
    have x04 := x03.trans (ExtN.of fun b o h => k4 b o h)
    generalize upd H3 lm (.lst [.int 40, .int 41]) = H4 at *
    clear tb3 x03 flm k4
    refine rd_forL (SqL.of hlm) ?_
    refine turnsL (K := K) (xs := [V.int 40, .int 41]) (fun i σ H' => ∃ u2 u3 u4 u5 u6 : Option V, σ = [some (.ref tn), some (.ref le), u2, u3, u4, u5, u6] ∧ ExtN H4 H' ∧ Tabs T H') ⟨_, _, _, _, _, rfl, ExtN.of (fun _ _ h => h), tb4⟩ ?_ ?_ ?_
    · rintro i σ H' hi ⟨u2, u3, u4, u5, u6, rfl, x, _⟩
      exact SqL.of (ExtN.li x hlm)
    · rintro i y σ H' hy ⟨u2, u3, u4, u5, u6, rfl, x, tb⟩
      obtain ⟨many, rfl⟩ : ∃ m : Int, y = .int m := by
        match i, hy with
        | 0, hy => exact ⟨40, (Option.some.inj hy).symm⟩
        | 1, hy => exact ⟨41, (Option.some.inj hy).symm⟩
        | i + 2, hy => cases hy
      wtm_at "rd"
      intro lo flo
      have k5 := Same.new (o := .lst [.int 0, .int 120, .int 121]) flo
      have hlo := @upd_same H' lo (.lst [.int 0, .int 120, .int 121])
      have x5 := x.trans (ExtN.of fun b o h => k5 b o h)
      have tb5 := tb.ext fun b o h => k5 b o h
      generalize upd H' lo (.lst [.int 0, .int 120, .int 121]) = H5 at *
      clear k5 flo
      refine rd_forL (SqL.of hlo) ?_
      refine turnsL (K := K) (xs := [V.int 0, .int 120, .int 121]) (fun i σ H' => ∃ u2 u3 u5 u6 : Option V, σ = [some (.ref tn), some (.ref le), u2, u3, some (.int many), u5, u6] ∧ ExtN H5 H' ∧ Tabs T H') ⟨_, _, _, _, rfl, ExtN.of (fun _ _ h => h), tb5⟩ ?_ ?_ ?_
      · rintro i σ H' hi ⟨u2, u3, u5, u6, rfl, x, _⟩
        exact SqL.of (ExtN.li x hlo)
      · rintro i y σ H' hy ⟨u2, u3, u5, u6, rfl, x, tb⟩
        obtain ⟨most, rfl⟩ : ∃ m : Int, y = .int m := by
          match i, hy with
          | 0, hy => exact ⟨0, (Option.some.inj hy).symm⟩
          | 1, hy => exact ⟨120, (Option.some.inj hy).symm⟩
          | 2, hy => exact ⟨121, (Option.some.inj hy).symm⟩
          | i + 3, hy => cases hy
        have x6 := x5.trans x
        wtm_at "rd"
        refine rd_slTH (ExtN.tu x6 htn) fun a1 H6 s6 ha1 => ?_
        have x7 := x6.trans (ExtN.of fun b o h => s6 b o h)
        have tb7 := tb.ext fun b o h => s6 b o h
        wtm_at "rd"
        refine rd_slL (SqL.of (ExtN.li x7 hle)) ?_
        intro l8 fl8
        have k8 := Same.new (o := .lst (cutV (es.map fun x => V.ref x.1) none (some most))) fl8
        have hl8 := @upd_same H6 l8 (.lst (cutV (es.map fun x => V.ref x.1) none (some most)))
        have ha1 := k8 _ _ ha1
        have x8 := x7.trans (ExtN.of fun b o h => k8 b o h)
        have tb8 := tb7.ext fun b o h => k8 b o h
        have xi8 : ExtN H5 _ := (x.trans (ExtN.of fun b o h => s6 b o h)).trans (ExtN.of fun b o h => k8 b o h)
        generalize upd H6 l8 (.lst (cutV (es.map fun x => V.ref x.1) none (some most))) = H8 at *
        clear x7 tb7 k8 fl8 s6 x
        refine rd_tupleL (SqL.of hl8) ?_
        intro t9 ft9
        have k9 := Same.new (o := .tup (cutV (es.map fun x => V.ref x.1) none (some most))) ft9
        have ht9 := @upd_same H8 t9 (.tup (cutV (es.map fun x => V.ref x.1) none (some most)))
        have ha1 := k9 _ _ ha1
        have x9 := x8.trans (ExtN.of fun b o h => k9 b o h)
        have tb9 := tb8.ext fun b o h => k9 b o h
        have xi9 := xi8.trans (ExtN.of fun b o h => k9 b o h)
        generalize upd H8 t9 (.tup (cutV (es.map fun x => V.ref x.1) none (some most))) = H9 at *
        clear x8 tb8 k9 ft9 hl8 xi8
        wtm_at "rd"
        intro tg ftg
        have kg := Same.new (o := .tup [.ref a1, .ref t9]) ftg
        have htg := @upd_same H9 tg (.tup [.ref a1, .ref t9])
        have ha1 := kg _ _ ha1
        have ht9 := kg _ _ ht9
        have xg := x9.trans (ExtN.of fun b o h => kg b o h)
        have tbg := tb9.ext fun b o h => kg b o h
        have xig := xi9.trans (ExtN.of fun b o h => kg b o h)
        generalize upd H9 tg (.tup [.ref a1, .ref t9]) = HG at *
        clear x9 tb9 kg ftg xi9
        have okN : PartOk HG (.ref a1) := ⟨.inr (.inr (.inr (.inr ⟨a1, _, rfl, ha1, .inr (.inl ⟨_, rfl⟩)⟩))), fun b ys e h => by
          rw [← V.ref.inj e, ha1] at h
          cases h
          have c := @cutV_in01 (ns.map V.str) none (some many)
          refine ⟨by have := c.2; rw [List.length_map] at this; omega, fun y hy => ?_⟩
          obtain ⟨s, hs, rfl⟩ := List.mem_map.mp (c.1 y hy)
          exact .inl (.inr (.inr (.inl ⟨s, rfl, name_len (nmo s hs)⟩)))⟩
        have okE : PartOk HG (.ref t9) := ⟨.inr (.inr (.inr (.inr ⟨t9, _, rfl, ht9, .inr (.inl ⟨_, rfl⟩)⟩))), fun b ys e h => by
          rw [← V.ref.inj e, ht9] at h
          cases h
          have c := @cutV_in01 (es.map fun x => V.ref x.1) none (some most)
          refine ⟨by have := c.2; rw [List.length_map] at this; omega, fun y hy => ?_⟩
          obtain ⟨z, hz, rfl⟩ := List.mem_map.mp (c.1 y hy)
          obtain ⟨h1, h2, h3⟩ := pr z hz
          refine .inr (.inr ⟨z.1, _, rfl, ExtN.tu xg h1, fun v hv => ?_⟩)
          rcases List.mem_cons.mp hv with rfl | hv
          · exact .inr (.inr (.inl ⟨_, rfl, name_len (nmo _ h2)⟩))
          · rw [List.mem_singleton.mp hv]
            exact .inr (.inr (.inl ⟨_, rfl, name_len (nmo _ h3)⟩))⟩
        obtain ⟨r, rg⟩ := rg_ex htg okN okE
        wtm_at "rd"
        refine ⟨.ref tg, r, rfl, rg, tbg, fun y1 HA xA tA r1 => ?_⟩
        wtm_at "rd"
        refine ⟨.ref tg, r, rfl, rg.ext xA, fun y2 HB sB r2 => ?_⟩
        refine rd_neG (r1.keep fun b xs h => sB _ _ h) r2 (rg_r rg) ?_
        wtm_at "rd"
        exact ⟨_, _, _, _, rfl, (xig.trans xA).trans (ExtN.of fun b o h => sB b o h), tA.ext fun b o h => sB b o h⟩
      rintro σ H' ⟨u2, u3, u5, u6, rfl, x, tb⟩
      exact ⟨_, _, _, _, _, rfl, x5.trans x, tb⟩
    rintro σ H5 ⟨u2, u3, u4, u5, u6, rfl, x5, tb5⟩
    have x5 := x04.trans x5
    wtm_at "rd"
    refine rd_yes rfl ?_
    wtm_at "rd"
    refine rd_yes rfl ?_
    wtm_at "rd"
    intro ta fta
    have ka := Same.new (o := .tup []) fta
    have hta := @upd_same H5 ta (.tup [])
    have x6 := x5.trans (ExtN.of fun b o h => ka b o h)
    have tb6 := tb5.ext fun b o h => ka b o h
    generalize upd H5 ta (.tup []) = H6 at *
    wtm_at "rd"
    intro tb ftb
    have kb := Same.new (o := .tup []) ftb
    have htb := @upd_same H6 tb (.tup [])
    have hta := kb _ _ hta
    have x7 := x6.trans (ExtN.of fun b o h => kb b o h)
    have tb7 := tb6.ext fun b o h => kb b o h
    generalize upd H6 tb (.tup []) = H7 at *
    wtm_at "rd"
    intro tg ftg
    have kg := Same.new (o := .tup [.ref ta, .ref tb]) ftg
    have htg := @upd_same H7 tg (.tup [.ref ta, .ref tb])
    have hta := kg _ _ hta
    have htb := kg _ _ htb
    have x8 := x7.trans (ExtN.of fun b o h => kg b o h)
    have tb8 := tb7.ext fun b o h => kg b o h
    generalize upd H7 tg (.tup [.ref ta, .ref tb]) = H8 at *
    wtm_at "rd"
    refine ⟨.ref tg, none, rfl, rg_good (ns := []) (es := []) ⟨htg, hta, htb, fun x hx => nomatch hx⟩ (by decide) (by decide) (fun x hx => nomatch hx) List.Pairwise.nil (fun x hx => nomatch hx) List.Pairwise.nil, tb8, fun y1 HA xA tA r1 => ?_⟩
    have ey : y1 = .non := by
      rcases r1 with ⟨_, z⟩ | ⟨_, _, _, z, _⟩
      · exact z
      · cases z
    subst ey
    wtm_at "rd"
    exact q _ (x8.trans xA) tA
structure N1c (P : Program) (w : World) (K : PySem.W.Frag) (mg : Str → Option Value) (base : Heap) (T : List (Addr × Str)) : Prop where
  _law_great_holds : Cal P w K mg base CX0 7 "_law_great_holds" (spGreat T)
  _law_pool : Cal P w K mg base CX0 1 "_law_pool" (spPool K)
  _law_draw_graph : Cal P w K mg base CX0 3 "_law_draw_graph" spGraph
  _law_with_more_edges : Cal P w K mg base CX0 2 "_law_with_more_edges" spMore
  _law_compute_expected : Cal P w K mg base CX0 2 "_law_compute_expected" spExp01
  _law_call : Cal P w K mg base CX0 6 "_law_call" (spCall01 T)
  _law_make_variant : Cal P w K mg base CX0 3 "_law_make_variant" spVar01
  _law_is_name : Cal P w K mg base CX0 1 "_law_is_name" spIsNm
  is_node : Cal P w K mg base CX0 1 "is_node" spIsNdA
theorem ok_law {f : Addr} {fd : FuncData} {T : Addr} (F : Fun K "law" "law" s_law f fd) (B : Bt mg) (C : N1c P w K mg base [(T, qEdge)]) : FnG P w K mg base CX0 8 f fd ["_law_script"] (spLaw K T) := by
  refine fnG0 F sc_law (fun vs H Q E h => ?_) (fun cdv A outer s H vs Q E hr h => ?_)
  · obtain ⟨a, nums, rfl, _⟩ := h
    rfl
  · obtain ⟨a, nums, rfl, hs, hl, tabs, q⟩ := h
    have nd := sc_law.nd
    have hu := hr.u1
    refine ⟨_, (pss_cons (ps_if (pt_not (pt_val (pe_cG0 C._law_great_holds hr (by decide) rfl pass0))) (pss_one (ps_ret pe_bl)) pss_nil)
  (pss_cons (ps_for PassesOwn.never rfl (ki_list K rfl (pe_lst (pa_cons pe_non (pa_cons (pe_tup pa_nil) (pa_cons (pe_tup (pa_cons (pe_tup pa_nil) pa_nil)) (pa_cons (pe_tup (pa_cons (pe_tup pa_nil) (pa_cons (pe_tup pa_nil) (pa_cons (pe_tup pa_nil) pa_nil)))) (pa_cons (pe_lst (pa_cons (pe_tup pa_nil) (pa_cons (pe_tup pa_nil) pa_nil))) (pa_cons pe_dnewK (pa_cons pe_str (pa_cons (pe_tup (pa_cons (pe_tup pa_nil) (pa_cons pe_non pa_nil))) (pa_cons (pe_tup (pa_cons (pe_lst pa_nil) (pa_cons (pe_tup pa_nil) pa_nil))) (pa_cons (pe_tup (pa_cons (pe_tup (pa_cons pe_str pa_nil)) (pa_cons (pe_lst pa_nil) pa_nil))) pa_nil)))))))))))) (pg_name (i := 1) nd rfl (by first | exact Or.inl rfl | exact Or.inr rfl)) (pss_one (ps_if (pt_cmpR (kNe K rfl hr.u64) (pe_c C._law_call hr (by decide) rfl (pa_cons (pv 1) pa_nil)) (pe_c C._law_compute_expected hr (by decide) rfl (pa_cons (pv 1) pa_nil)) (nomark _)) (pss_one (ps_ret pe_bl)) pss_nil)))
  (pss_cons (ps_for PassesOwn.never rfl (pi_range1 rfl B.range (pa_cons (pe_callB (cMax rfl) (by rfl) B.max bb_max (pa_cons pe_int (pa_cons (pe_callB (cMin rfl) (by rfl) B.min bb_min (pa_cons pe_int (pa_cons (pe_callB (kLen K rfl) (by rfl) B.len bb_len (pa_cons (pv 0) pa_nil)) pa_nil))) pa_nil))) pa_nil)) (pg_name (i := 2) nd rfl (by first | exact Or.inl rfl | exact Or.inr rfl)) (pss_cons (ps_set (i := 3) nd rfl (by first | exact Or.inl rfl | exact Or.inr rfl) (pe_c C._law_pool hr (by decide) rfl (pa_cons (pv 0) (pa_cons (pv 2) pa_nil))))
  (pss_cons (ps_asg (pe_c C._law_draw_graph hr (by decide) rfl (pa_cons (pv 3) (pa_cons pe_int pa_nil))) (kg_tup (n := 2) K rfl rfl (pgs_cons (pg_name (i := 4) nd rfl (by first | exact Or.inl rfl | exact Or.inr rfl)) (pgs_cons (pg_name (i := 5) nd rfl (by first | exact Or.inl rfl | exact Or.inr rfl)) pgs_nil))))
  (pss_cons (ps_set (i := 4) nd rfl (by first | exact Or.inl rfl | exact Or.inr rfl) (pe_c C._law_with_more_edges hr (by decide) rfl (pa_cons (pv 3) (pa_cons (pv 4) pa_nil))))
  (pss_cons (ps_set (i := 6) nd rfl (by first | exact Or.inl rfl | exact Or.inr rfl) (pe_callB (kReprV K rfl hr.g hr.u64) (by rfl) B.repr bb_repr (pa_cons (pv 4) pa_nil)))
  (pss_cons (ps_if (PW.pt (pw_or (pt_cmpR uIsNot (pe_c C._law_call hr (by decide) rfl (pa_cons (pv 4) pa_nil)) pe_non (nomark _)) (pw_or1 (pt_cmpR (kNe K rfl hr.u64) (pe_callB (kReprV K rfl hr.g hr.u64) (by rfl) B.repr bb_repr (pa_cons (pv 4) pa_nil)) (pv 6) (nomark _))))) (pss_one (ps_ret pe_bl)) pss_nil)
  (pss_cons (ps_for PassesOwn.never rfl (pi_range1 rfl B.range (pa_cons pe_int pa_nil)) (pg_name (i := 7) nd rfl (by first | exact Or.inl rfl | exact Or.inr rfl)) (pss_cons (ps_set (i := 8) nd rfl (by first | exact Or.inl rfl | exact Or.inr rfl) (pe_c C._law_make_variant hr (by decide) rfl (pa_cons (pv 3) (pa_cons (pv 4) pa_nil))))
  (pss_one (ps_if (pt_cmpR (kNe K rfl hr.u64) (pe_c C._law_call hr (by decide) rfl (pa_cons (pv 8) pa_nil)) (pe_c C._law_compute_expected hr (by decide) rfl (pa_cons (pv 8) pa_nil)) (nomark _)) (pss_one (ps_ret pe_bl)) pss_nil))))
  (pss_one (ps_for PassesOwn.never rfl (ki_list K rfl (pe_op (kAdd K rfl) (pe_callTy (kList K rfl rfl) (by rfl) B.list bb_list (pa_cons (pe_ix (kIx K rfl) (pv 4) pe_int (fun _ _ => rfl)) pa_nil)) (pe_lst (pa_cons pe_str (pa_cons pe_str (pa_cons pe_str (pa_cons pe_str (pa_cons pe_int (pa_cons pe_non (pa_cons (pe_tup (pa_cons pe_str pa_nil)) (pa_cons (pe_lst (pa_cons pe_str pa_nil)) (pa_cons pe_str (pa_cons pe_bl (pa_cons pe_dnewK pa_nil)))))))))))))) (pg_name (i := 1) nd rfl (by first | exact Or.inl rfl | exact Or.inr rfl)) (pss_one (ps_if (pt_cmpR (kNe K rfl hr.u64) (pe_callB cRepr (by rfl) B.repr bb_repr (pa_cons (pe_c C.is_node hr (by decide) rfl (pa_cons (pv 1) pa_nil)) pa_nil)) (pe_callB cRepr (by rfl) B.repr bb_repr (pa_cons (pe_c C._law_is_name hr (by decide) rfl (pa_cons (pv 1) pa_nil)) pa_nil)) (nomark _)) (pss_one (ps_ret pe_bl)) pss_nil)))))))))))
  (pss_one (ps_ret pe_bl))))), ?_⟩
    generalize [(T, qEdge)] = TT at *
    wtm_at "rd"
    refine ⟨rfl, tabs, fun H1 x1 tb1 => ?_⟩
    have sJ : Same H1 H1 := fun _ _ h => h
    wtm_at "rd"
    intro t1 ft1
    have kt1 := Same.new (o := .tup []) ft1
    have ht1 := @upd_same H1 t1 (.tup [])
    have sJ := sJ.trans kt1
    generalize upd H1 t1 (.tup []) = Jt1 at *
    clear kt1 ft1
    wtm_at "rd"
    intro t2 ft2
    have kt2 := Same.new (o := .tup []) ft2
    have ht2 := @upd_same Jt1 t2 (.tup [])
    have ht1 := kt2 _ _ ht1
    have sJ := sJ.trans kt2
    generalize upd Jt1 t2 (.tup []) = Jt2 at *
    clear kt2 ft2
    wtm_at "rd"
    intro t3 ft3
    have kt3 := Same.new (o := .tup [.ref t2]) ft3
    have ht3 := @upd_same Jt2 t3 (.tup [.ref t2])
    have ht1 := kt3 _ _ ht1
    have ht2 := kt3 _ _ ht2
    have sJ := sJ.trans kt3
    generalize upd Jt2 t3 (.tup [.ref t2]) = Jt3 at *
    clear kt3 ft3
    wtm_at "rd"
    intro t4 ft4
    have kt4 := Same.new (o := .tup []) ft4
    have ht4 := @upd_same Jt3 t4 (.tup [])
    have ht1 := kt4 _ _ ht1
    have ht2 := kt4 _ _ ht2
    have ht3 := kt4 _ _ ht3
    have sJ := sJ.trans kt4
    generalize upd Jt3 t4 (.tup []) = Jt4 at *
    clear kt4 ft4
    wtm_at "rd"
    intro t5 ft5
    have kt5 := Same.new (o := .tup []) ft5
    have ht5 := @upd_same Jt4 t5 (.tup [])
    have ht1 := kt5 _ _ ht1
    have ht2 := kt5 _ _ ht2
    have ht3 := kt5 _ _ ht3
    have ht4 := kt5 _ _ ht4
    have sJ := sJ.trans kt5
    generalize upd Jt4 t5 (.tup []) = Jt5 at *
    clear kt5 ft5
    wtm_at "rd"
    intro t6 ft6
    have kt6 := Same.new (o := .tup []) ft6
    have ht6 := @upd_same Jt5 t6 (.tup [])
    have ht1 := kt6 _ _ ht1
    have ht2 := kt6 _ _ ht2
    have ht3 := kt6 _ _ ht3
    have ht4 := kt6 _ _ ht4
    have ht5 := kt6 _ _ ht5
    have sJ := sJ.trans kt6
    generalize upd Jt5 t6 (.tup []) = Jt6 at *
    clear kt6 ft6
    wtm_at "rd"
    intro t7 ft7
    have kt7 := Same.new (o := .tup [.ref t4, .ref t5, .ref t6]) ft7
    have ht7 := @upd_same Jt6 t7 (.tup [.ref t4, .ref t5, .ref t6])
    have ht1 := kt7 _ _ ht1
    have ht2 := kt7 _ _ ht2
    have ht3 := kt7 _ _ ht3
    have ht4 := kt7 _ _ ht4
    have ht5 := kt7 _ _ ht5
    have ht6 := kt7 _ _ ht6
    have sJ := sJ.trans kt7
    generalize upd Jt6 t7 (.tup [.ref t4, .ref t5, .ref t6]) = Jt7 at *
    clear kt7 ft7
    wtm_at "rd"
    intro t8 ft8
    have kt8 := Same.new (o := .tup []) ft8
    have ht8 := @upd_same Jt7 t8 (.tup [])
    have ht1 := kt8 _ _ ht1
    have ht2 := kt8 _ _ ht2
    have ht3 := kt8 _ _ ht3
    have ht4 := kt8 _ _ ht4
    have ht5 := kt8 _ _ ht5
    have ht6 := kt8 _ _ ht6
    have ht7 := kt8 _ _ ht7
    have sJ := sJ.trans kt8
    generalize upd Jt7 t8 (.tup []) = Jt8 at *
    clear kt8 ft8
    wtm_at "rd"
    intro t9 ft9
    have kt9 := Same.new (o := .tup []) ft9
    have ht9 := @upd_same Jt8 t9 (.tup [])
    have ht1 := kt9 _ _ ht1
    have ht2 := kt9 _ _ ht2
    have ht3 := kt9 _ _ ht3
    have ht4 := kt9 _ _ ht4
    have ht5 := kt9 _ _ ht5
    have ht6 := kt9 _ _ ht6
    have ht7 := kt9 _ _ ht7
    have ht8 := kt9 _ _ ht8
    have sJ := sJ.trans kt9
    generalize upd Jt8 t9 (.tup []) = Jt9 at *
    clear kt9 ft9
    wtm_at "rd"
    intro l1 fl1
    have kl1 := Same.new (o := .lst [.ref t8, .ref t9]) fl1
    have hl1 := @upd_same Jt9 l1 (.lst [.ref t8, .ref t9])
    have ht1 := kl1 _ _ ht1
    have ht2 := kl1 _ _ ht2
    have ht3 := kl1 _ _ ht3
    have ht4 := kl1 _ _ ht4
    have ht5 := kl1 _ _ ht5
    have ht6 := kl1 _ _ ht6
    have ht7 := kl1 _ _ ht7
    have ht8 := kl1 _ _ ht8
    have ht9 := kl1 _ _ ht9
    have sJ := sJ.trans kl1
    generalize upd Jt9 l1 (.lst [.ref t8, .ref t9]) = Jl1 at *
    clear kl1 fl1
    wtm_at "rd"
    intro d1 fd1
    have kd1 := Same.new (o := .dK []) fd1
    have hd1 := @upd_same Jl1 d1 (.dK [])
    have ht1 := kd1 _ _ ht1
    have ht2 := kd1 _ _ ht2
    have ht3 := kd1 _ _ ht3
    have ht4 := kd1 _ _ ht4
    have ht5 := kd1 _ _ ht5
    have ht6 := kd1 _ _ ht6
    have ht7 := kd1 _ _ ht7
    have ht8 := kd1 _ _ ht8
    have ht9 := kd1 _ _ ht9
    have hl1 := kd1 _ _ hl1
    have sJ := sJ.trans kd1
    generalize upd Jl1 d1 (.dK []) = Jd1 at *
    clear kd1 fd1
    wtm_at "rd"
    intro ta fta
    have kta := Same.new (o := .tup []) fta
    have hta := @upd_same Jd1 ta (.tup [])
    have ht1 := kta _ _ ht1
    have ht2 := kta _ _ ht2
    have ht3 := kta _ _ ht3
    have ht4 := kta _ _ ht4
    have ht5 := kta _ _ ht5
    have ht6 := kta _ _ ht6
    have ht7 := kta _ _ ht7
    have ht8 := kta _ _ ht8
    have ht9 := kta _ _ ht9
    have hl1 := kta _ _ hl1
    have hd1 := kta _ _ hd1
    have sJ := sJ.trans kta
    generalize upd Jd1 ta (.tup []) = Jta at *
    clear kta fta
    wtm_at "rd"
    intro tb ftb
    have ktb := Same.new (o := .tup [.ref ta, .non]) ftb
    have htb := @upd_same Jta tb (.tup [.ref ta, .non])
    have ht1 := ktb _ _ ht1
    have ht2 := ktb _ _ ht2
    have ht3 := ktb _ _ ht3
    have ht4 := ktb _ _ ht4
    have ht5 := ktb _ _ ht5
    have ht6 := ktb _ _ ht6
    have ht7 := ktb _ _ ht7
    have ht8 := ktb _ _ ht8
    have ht9 := ktb _ _ ht9
    have hl1 := ktb _ _ hl1
    have hd1 := ktb _ _ hd1
    have hta := ktb _ _ hta
    have sJ := sJ.trans ktb
    generalize upd Jta tb (.tup [.ref ta, .non]) = Jtb at *
    clear ktb ftb
    wtm_at "rd"
    intro l2 fl2
    have kl2 := Same.new (o := .lst []) fl2
    have hl2 := @upd_same Jtb l2 (.lst [])
    have ht1 := kl2 _ _ ht1
    have ht2 := kl2 _ _ ht2
    have ht3 := kl2 _ _ ht3
    have ht4 := kl2 _ _ ht4
    have ht5 := kl2 _ _ ht5
    have ht6 := kl2 _ _ ht6
    have ht7 := kl2 _ _ ht7
    have ht8 := kl2 _ _ ht8
    have ht9 := kl2 _ _ ht9
    have hl1 := kl2 _ _ hl1
    have hd1 := kl2 _ _ hd1
    have hta := kl2 _ _ hta
    have htb := kl2 _ _ htb
    have sJ := sJ.trans kl2
    generalize upd Jtb l2 (.lst []) = Jl2 at *
    clear kl2 fl2
    wtm_at "rd"
    intro tc ftc
    have ktc := Same.new (o := .tup []) ftc
    have htc := @upd_same Jl2 tc (.tup [])
    have ht1 := ktc _ _ ht1
    have ht2 := ktc _ _ ht2
    have ht3 := ktc _ _ ht3
    have ht4 := ktc _ _ ht4
    have ht5 := ktc _ _ ht5
    have ht6 := ktc _ _ ht6
    have ht7 := ktc _ _ ht7
    have ht8 := ktc _ _ ht8
    have ht9 := ktc _ _ ht9
    have hl1 := ktc _ _ hl1
    have hd1 := ktc _ _ hd1
    have hta := ktc _ _ hta
    have htb := ktc _ _ htb
    have hl2 := ktc _ _ hl2
    have sJ := sJ.trans ktc
    generalize upd Jl2 tc (.tup []) = Jtc at *
    clear ktc ftc
    wtm_at "rd"
    intro td ftd
    have ktd := Same.new (o := .tup [.ref l2, .ref tc]) ftd
    have htd := @upd_same Jtc td (.tup [.ref l2, .ref tc])
    have ht1 := ktd _ _ ht1
    have ht2 := ktd _ _ ht2
    have ht3 := ktd _ _ ht3
    have ht4 := ktd _ _ ht4
    have ht5 := ktd _ _ ht5
    have ht6 := ktd _ _ ht6
    have ht7 := ktd _ _ ht7
    have ht8 := ktd _ _ ht8
    have ht9 := ktd _ _ ht9
    have hl1 := ktd _ _ hl1
    have hd1 := ktd _ _ hd1
    have hta := ktd _ _ hta
    have htb := ktd _ _ htb
    have hl2 := ktd _ _ hl2
    have htc := ktd _ _ htc
    have sJ := sJ.trans ktd
    generalize upd Jtc td (.tup [.ref l2, .ref tc]) = Jtd at *
    clear ktd ftd
    wtm_at "rd"
    intro te fte
    have kte := Same.new (o := .tup [.str "a"]) fte
    have hte := @upd_same Jtd te (.tup [.str "a"])
    have ht1 := kte _ _ ht1
    have ht2 := kte _ _ ht2
    have ht3 := kte _ _ ht3
    have ht4 := kte _ _ ht4
    have ht5 := kte _ _ ht5
    have ht6 := kte _ _ ht6
    have ht7 := kte _ _ ht7
    have ht8 := kte _ _ ht8
    have ht9 := kte _ _ ht9
    have hl1 := kte _ _ hl1
    have hd1 := kte _ _ hd1
    have hta := kte _ _ hta
    have htb := kte _ _ htb
    have hl2 := kte _ _ hl2
    have htc := kte _ _ htc
    have htd := kte _ _ htd
    have sJ := sJ.trans kte
    generalize upd Jtd te (.tup [.str "a"]) = Jte at *
    clear kte fte
    wtm_at "rd"
    intro l3 fl3
    have kl3 := Same.new (o := .lst []) fl3
    have hl3 := @upd_same Jte l3 (.lst [])
    have ht1 := kl3 _ _ ht1
    have ht2 := kl3 _ _ ht2
    have ht3 := kl3 _ _ ht3
    have ht4 := kl3 _ _ ht4
    have ht5 := kl3 _ _ ht5
    have ht6 := kl3 _ _ ht6
    have ht7 := kl3 _ _ ht7
    have ht8 := kl3 _ _ ht8
    have ht9 := kl3 _ _ ht9
    have hl1 := kl3 _ _ hl1
    have hd1 := kl3 _ _ hd1
    have hta := kl3 _ _ hta
    have htb := kl3 _ _ htb
    have hl2 := kl3 _ _ hl2
    have htc := kl3 _ _ htc
    have htd := kl3 _ _ htd
    have hte := kl3 _ _ hte
    have sJ := sJ.trans kl3
    generalize upd Jte l3 (.lst []) = Jl3 at *
    clear kl3 fl3
    wtm_at "rd"
    intro tf ftf
    have ktf := Same.new (o := .tup [.ref te, .ref l3]) ftf
    have htf := @upd_same Jl3 tf (.tup [.ref te, .ref l3])
    have ht1 := ktf _ _ ht1
    have ht2 := ktf _ _ ht2
    have ht3 := ktf _ _ ht3
    have ht4 := ktf _ _ ht4
    have ht5 := ktf _ _ ht5
    have ht6 := ktf _ _ ht6
    have ht7 := ktf _ _ ht7
    have ht8 := ktf _ _ ht8
    have ht9 := ktf _ _ ht9
    have hl1 := ktf _ _ hl1
    have hd1 := ktf _ _ hd1
    have hta := ktf _ _ hta
    have htb := ktf _ _ htb
    have hl2 := ktf _ _ hl2
    have htc := ktf _ _ htc
    have htd := ktf _ _ htd
    have hte := ktf _ _ hte
    have hl3 := ktf _ _ hl3
    have sJ := sJ.trans ktf
    generalize upd Jl3 tf (.tup [.ref te, .ref l3]) = Jtf at *
    clear ktf ftf
    wtm_at "rd"
    intro lc flc
    have klc := Same.new (o := .lst [.non, .ref t1, .ref t3, .ref t7, .ref l1, .ref d1, .str "web", .ref tb, .ref td, .ref tf]) flc
    have hlc := @upd_same Jtf lc (.lst [.non, .ref t1, .ref t3, .ref t7, .ref l1, .ref d1, .str "web", .ref tb, .ref td, .ref tf])
    have ht1 := klc _ _ ht1
    have ht2 := klc _ _ ht2
    have ht3 := klc _ _ ht3
    have ht4 := klc _ _ ht4
    have ht5 := klc _ _ ht5
    have ht6 := klc _ _ ht6
    have ht7 := klc _ _ ht7
    have ht8 := klc _ _ ht8
    have ht9 := klc _ _ ht9
    have hl1 := klc _ _ hl1
    have hd1 := klc _ _ hd1
    have hta := klc _ _ hta
    have htb := klc _ _ htb
    have hl2 := klc _ _ hl2
    have htc := klc _ _ htc
    have htd := klc _ _ htd
    have hte := klc _ _ hte
    have hl3 := klc _ _ hl3
    have htf := klc _ _ htf
    have sJ := sJ.trans klc
    generalize upd Jtf lc (.lst [.non, .ref t1, .ref t3, .ref t7, .ref l1, .ref d1, .str "web", .ref tb, .ref td, .ref tf]) = Jlc at *
    clear klc flc
    have oL : ∀ {u : Addr} {ys : List V}, Jlc u = some (.lst ys) → Ob Jlc (.ref u) ∧ NTup Jlc (.ref u) := fun {u ys} h => ⟨.inr (.inr (.inr (.inr ⟨u, _, rfl, h, .inl ⟨_, rfl⟩⟩))), fun b zs e z => by rw [← V.ref.inj e, h] at z; cases z⟩
    have oE : ∀ {u : Addr}, Jlc u = some (.tup []) → PartOk Jlc (.ref u) := fun {u} h => ⟨.inr (.inr (.inr (.inr ⟨u, _, rfl, h, .inr (.inl ⟨_, rfl⟩)⟩))), fun b zs e z => by
      rw [← V.ref.inj e, h] at z
      cases z
      exact ⟨by decide, fun x hx => nomatch hx⟩⟩
    have oP : ∀ {u : Addr} {ys : List V}, Jlc u = some (.lst ys) → PartOk Jlc (.ref u) := fun {u ys} h => ⟨(oL h).1, fun b zs e z => absurd z ((oL h).2 b zs e)⟩
    have rgs : ∀ v ∈ ([.non, .ref t1, .ref t3, .ref t7, .ref l1, .ref d1, .str "web", .ref tb, .ref td, .ref tf] : List V), ∃ r, RG Jlc v r := fun v hv => by
      simp only [List.mem_cons, List.not_mem_nil, or_false] at hv
      rcases hv with rfl | rfl | rfl | rfl | rfl | rfl | rfl | rfl | rfl | rfl
      · exact ⟨_, .inl ⟨.inl rfl, nofun, rfl⟩⟩
      · exact ⟨_, .inr ⟨t1, _, rfl, ht1, .inl ⟨by decide, rfl⟩⟩⟩
      · exact ⟨_, .inr ⟨t3, _, rfl, ht3, .inl ⟨by simp, rfl⟩⟩⟩
      · exact ⟨_, .inr ⟨t7, _, rfl, ht7, .inl ⟨by simp, rfl⟩⟩⟩
      · exact ⟨_, .inl ⟨(oL hl1).1, (oL hl1).2, rfl⟩⟩
      · exact ⟨_, .inl ⟨.inr (.inr (.inr (.inr ⟨d1, _, rfl, hd1, .inr (.inr ⟨_, rfl⟩)⟩))), (fun b zs e z => by rw [← V.ref.inj e, hd1] at z; cases z), rfl⟩⟩
      · exact ⟨_, .inl ⟨.inr (.inr (.inr (.inl ⟨_, rfl⟩))), nofun, rfl⟩⟩
      · exact rg_ex htb (oE hta) ⟨.inl rfl, nofun⟩
      · exact rg_ex htd (oP hl2) (oE htc)
      · refine rg_ex htf ⟨.inr (.inr (.inr (.inr ⟨te, _, rfl, hte, .inr (.inl ⟨_, rfl⟩)⟩))), fun b zs e z => ?_⟩ (oP hl3)
        rw [← V.ref.inj e, hte] at z
        cases z
        refine ⟨by simp, fun x hx => ?_⟩
        rw [List.mem_singleton.mp hx]
        exact .inl (.inr (.inr (.inl ⟨_, rfl, by decide +kernel, by decide +kernel⟩)))
    have xJ := x1.trans (ExtN.of fun b o h => sJ b o h)
    have tbJ := tb1.ext fun b o h => sJ b o h
    generalize ([.non, .ref t1, .ref t3, .ref t7, .ref l1, .ref d1, .str "web", .ref tb, .ref td, .ref tf] : List V) = L10 at *
    clear ht1 ht2 ht3 ht4 ht5 ht6 ht7 ht8 ht9 hl1 hd1 hta htb hl2 htc htd hte hl3 htf oL oE oP x1 tb1 sJ tabs
    refine rd_forL (SqL.of hlc) ?_
    refine turnsL (K := K) (xs := L10) (fun i σ H' => (∃ us : List (Option V), us.length = 8 ∧ σ = some (.ref a) :: us) ∧ ExtN Jlc H' ∧ Tabs TT H') ⟨⟨_, rfl, rfl⟩, ExtN.of (fun _ _ h => h), tbJ⟩ ?_ ?_ ?_
    · rintro i σ H' hi ⟨_, x, _⟩
      exact SqL.of (ExtN.li x hlc)
    · rintro i y σ H' hy ⟨⟨us, lu, rfl⟩, x, tb⟩
      obtain ⟨u1, u2, u3, u4, u5, u6, u7, u8, rfl⟩ : ∃ u1 u2 u3 u4 u5 u6 u7 u8, us = [u1, u2, u3, u4, u5, u6, u7, u8] := by
        match us, lu with
        | [u1, u2, u3, u4, u5, u6, u7, u8], _ => exact ⟨_, _, _, _, _, _, _, _, rfl⟩
      obtain ⟨r, rg⟩ := rgs y (List.mem_of_getElem? hy)
      have rg := rg.ext x
      wtm_at "rd"
      refine ⟨y, r, rfl, rg, tb, fun y1 HA xA tA r1 => ?_⟩
      wtm_at "rd"
      refine ⟨y, r, rfl, rg.ext xA, fun y2 HB sB r2 => ?_⟩
      refine rd_neG (r1.keep fun b xs h => sB _ _ h) r2 (rg_r rg) ?_
      wtm_at "rd"
      exact ⟨⟨_, rfl, rfl⟩, (x.trans xA).trans (ExtN.of fun b o h => sB b o h), tA.ext fun b o h => sB b o h⟩
    rintro σ H2 ⟨⟨us, lu, rfl⟩, x2, tb2⟩
    obtain ⟨u1, u2, u3, u4, u5, u6, u7, u8, rfl⟩ : ∃ u1 u2 u3 u4 u5 u6 u7 u8, us = [u1, u2, u3, u4, u5, u6, u7, u8] := by
      match us, lu with
      | [u1, u2, u3, u4, u5, u6, u7, u8], _ => exact ⟨_, _, _, _, _, _, _, _, rfl⟩
    have hs2 := sqL_ext hs (xJ.trans x2)
    clear rgs hlc xJ tbJ x2 hs
    wtm_at "rd"
    refine rd_lenL hs2 ?_
    rw [List.length_map]
    wtm_at "rd"
    refine turnsR (fun i σ H' => (∃ us : List (Option V), us.length = 8 ∧ σ = some (.ref a) :: us) ∧ SqL K H' a (nums.map V.int) ∧ Tabs TT H') ⟨⟨_, rfl, rfl⟩, hs2, tb2⟩ ?_ ?_
    · rintro i σ H0 hi ⟨⟨us, lu, rfl⟩, hs, tabs⟩
      have hi : i < 64 := by omega
      obtain ⟨u1, u2, u3, u4, u5, u6, u7, u8, rfl⟩ : ∃ u1 u2 u3 u4 u5 u6 u7 u8, us = [u1, u2, u3, u4, u5, u6, u7, u8] := by
        match us, lu with
        | [u1, u2, u3, u4, u5, u6, u7, u8], _ => exact ⟨_, _, _, _, _, _, _, _, rfl⟩
      wtm_at "rd"
      refine ⟨a, nums, i, by rw [Int.zero_add], hs, by omega, fun p big seed np pok => ?_⟩
      have hp : PoolAt (upd H0 p (poolO big seed)) p := ⟨big, seed, upd_same, pok⟩
      have tb0 : Tabs TT (upd H0 p (poolO big seed)) := tabs.ext (Same.new np)
      have keep : ∀ {H' : Hp}, GoN TT p (upd H0 p (poolO big seed)) H' → SqL K H' a (nums.map V.int) := fun {H'} g => seqL_newN hs np g
      generalize upd H0 p (poolO big seed) = H1 at hp keep tb0
      clear hs tabs np pok
      wtm_at "rd"
      refine use_graphB hp (by decide) (by decide) fun t g0 n e0 st ns ord es0 f H2 g2 ht gst n1 n9 _ _ _ => ?_
      refine rd_unp (SqT.of ht) rfl ?_
      wtm_at "rd"
      refine ⟨p, g0, n, e0, ns, es0, rfl, g2.pool, gst.grs, by omega, fun g e es H3 g3 gs => ?_⟩
      have x3 := (GoN.of_go tb0 hp g2).go g3
      have l9 : ns.length ≤ 9 := by omega
      have nmo := gs.ok.names.ok
      clear g2 g3 gst ht hp tb0 n9 tb2 hs2
      wtm_at "rd"
      refine rd_reprV (rp_gr gs) ?_
      generalize hSS : (dGr ns (es.map (·.2))).shown = SS
      obtain ⟨rgG, e81⟩ := grs_rg gs l9
      wtm_at "rd"
      refine ⟨.ref g, none, rfl, rgG, x3.tabs, fun v4 H4 xe4 tb4 r4 => ?_⟩
      have ev : v4 = .non := by
        rcases r4 with ⟨_, z⟩ | ⟨_, _, _, z, _⟩
        · exact z
        · cases z
      subst ev
      have x4 := x3.ext xe4 tb4
      have gs4 : GrS H4 g n e ns es := ⟨grAt_extQ gs.gr xe4, gs.ok, gs.l2, gs.l3⟩
      clear gs rgG x3 xe4 tb4 r4
      wtm_at "rd"
      refine rd_nno rfl ?_
      wtm_at "rd"
      refine rd_reprV (rp_gr gs4) ?_
      rw [hSS]
      wtm_at "rd"
      refine rd_nno rfl ?_
      wtm_at "rd"
      have hp4 := x4.pool
      have gr4 := gs4.gr
      have inE := gs4.inE
      clear gs4
      have gr_n : ∀ {Ha Hb : Hp}, PoolAt Ha p → GoN TT p Ha Hb → GrAt Ha g n e ns es → GrAt Hb g n e ns es := fun ha gg h => ⟨gg.tu ha h.top, gg.tu ha h.nodes, gg.tu ha h.edges, fun y hy => gg.tu ha (h.pairs y hy)⟩
      refine turnsR (fun j σ H' => ∃ w7 w8 : Option V, σ = [some (.ref a), u1, some (.int (0 + (i : Int))), some (.ref p), some (.ref g), some (.ref st), some (.str SS), w7, w8] ∧ GoN TT p H4 H') ⟨_, _, rfl, GoN.refl hp4 x4.tabs⟩ ?_ ?_
      · rintro j σ HA hj ⟨w7, w8, rfl, xa⟩
        have grA := gr_n hp4 xa gr4
        wtm_at "rd"
        refine ⟨p, g, n, e, ns, es, rfl, xa.pool, grA, n1, by omega, by omega, nmo, inE, fun tg vn ve HB gB htg pn pe => ?_⟩
        have xB := xa.go gB
        obtain ⟨r, rg⟩ := rg_ex htg (pn.ext hidQ_sub) (pe.ext hidQ_sub)
        wtm_at "rd"
        refine ⟨.ref tg, r, rfl, rg, xB.tabs, fun y1 HC xC tC r1 => ?_⟩
        wtm_at "rd"
        refine ⟨.ref tg, r, rfl, rg.ext xC, fun y2 HD sD r2 => ?_⟩
        refine rd_neG (r1.keep fun b xs h => sD _ _ h) r2 (rg_r rg) ?_
        wtm_at "rd"
        exact ⟨_, _, rfl, (xB.ext xC tC).same sD⟩
      rintro σ HA ⟨w7, w8, rfl, xa⟩
      have grA := gr_n hp4 xa gr4
      have xA := x4.trans xa
      clear xa gr4 hp4 x4
      wtm_at "rd"
      refine rd_ixT (SqT.of grA.top) (v := .ref n) rfl ?_
      refine rd_listT (SqT.of grA.nodes) ?_
      intro c0 fc0
      have kc0 := Same.new (o := .lst (ns.map V.str)) fc0
      have hc0 := @upd_same HA c0 (.lst (ns.map V.str))
      have grA := grA.same kc0
      have xA := xA.same kc0
      generalize upd HA c0 (.lst (ns.map V.str)) = HB at hc0 grA xA
      clear kc0 fc0
      wtm_at "rd"
      intro c1 fc1
      have kc1 := Same.new (o := .tup [.str "a"]) fc1
      have hc1 := @upd_same HB c1 (.tup [.str "a"])
      have hc0 := kc1 _ _ hc0
      have grA := grA.same kc1
      have xA := xA.same kc1
      generalize upd HB c1 (.tup [.str "a"]) = HC at hc1 hc0 grA xA
      clear kc1 fc1
      wtm_at "rd"
      intro c2 fc2
      have kc2 := Same.new (o := .lst [.str "a"]) fc2
      have hc2 := @upd_same HC c2 (.lst [.str "a"])
      have hc0 := kc2 _ _ hc0
      have hc1 := kc2 _ _ hc1
      have grA := grA.same kc2
      have xA := xA.same kc2
      generalize upd HC c2 (.lst [.str "a"]) = HD at hc2 hc0 hc1 grA xA
      clear kc2 fc2
      wtm_at "rd"
      intro c3 fc3
      have kc3 := Same.new (o := .dK []) fc3
      have hc3 := @upd_same HD c3 (.dK [])
      have hc0 := kc3 _ _ hc0
      have hc1 := kc3 _ _ hc1
      have hc2 := kc3 _ _ hc2
      have grA := grA.same kc3
      have xA := xA.same kc3
      generalize upd HD c3 (.dK []) = HE at hc3 hc0 hc1 hc2 grA xA
      clear kc3 fc3
      wtm_at "rd"
      intro c4 fc4
      have kc4 := Same.new (o := .lst [.str "", .str "A", .str "abcdefgh", .str "abcdefghi", .int 5, .non, .ref c1, .ref c2, .str "a\n", .bl true, .ref c3]) fc4
      have hc4 := @upd_same HE c4 (.lst [.str "", .str "A", .str "abcdefgh", .str "abcdefghi", .int 5, .non, .ref c1, .ref c2, .str "a\n", .bl true, .ref c3])
      have hc0 := kc4 _ _ hc0
      have hc1 := kc4 _ _ hc1
      have hc2 := kc4 _ _ hc2
      have hc3 := kc4 _ _ hc3
      have grA := grA.same kc4
      have xA := xA.same kc4
      generalize upd HE c4 (.lst [.str "", .str "A", .str "abcdefgh", .str "abcdefghi", .int 5, .non, .ref c1, .ref c2, .str "a\n", .bl true, .ref c3]) = HF at hc4 hc0 hc1 hc2 hc3 grA xA
      clear kc4 fc4
      refine rd_catL hc0 hc4 (by rw [List.length_map]; show ns.length + 11 ≤ 100000; omega) ?_
      intro c5 fc5
      have kc5 := Same.new (o := .lst (ns.map V.str ++ [.str "", .str "A", .str "abcdefgh", .str "abcdefghi", .int 5, .non, .ref c1, .ref c2, .str "a\n", .bl true, .ref c3])) fc5
      have hc5 := @upd_same HF c5 (.lst (ns.map V.str ++ [.str "", .str "A", .str "abcdefgh", .str "abcdefghi", .int 5, .non, .ref c1, .ref c2, .str "a\n", .bl true, .ref c3]))
      have hc1 := kc5 _ _ hc1
      have hc2 := kc5 _ _ hc2
      have hc3 := kc5 _ _ hc3
      have grA := grA.same kc5
      have xA := xA.same kc5
      generalize upd HF c5 (.lst (ns.map V.str ++ [.str "", .str "A", .str "abcdefgh", .str "abcdefghi", .int 5, .non, .ref c1, .ref c2, .str "a\n", .bl true, .ref c3])) = HG at hc5 hc1 hc2 hc3 grA xA
      clear kc5 fc5
      have obs : ∀ v ∈ ns.map V.str ++ [.str "", .str "A", .str "abcdefgh", .str "abcdefghi", .int 5, .non, .ref c1, .ref c2, .str "a\n", .bl true, .ref c3], Ob HG v ∧ ShT v := fun v hv => by
        have stp : ∀ {s : Str}, s.length ≤ 1000 → PyData.strOk s = true → Ob HG (.str s) ∧ ShT (.str s) := fun h1 h2 => ⟨.inr (.inr (.inr (.inl ⟨_, rfl⟩))), fun s' e => by cases e; exact ⟨h1, h2⟩⟩
        rcases List.mem_append.mp hv with hv | hv
        · obtain ⟨s, hs, rfl⟩ := List.mem_map.mp hv
          exact stp (name_len (nmo s hs)).1 (name_len (nmo s hs)).2
        simp only [List.mem_cons, List.not_mem_nil, or_false] at hv
        rcases hv with rfl | rfl | rfl | rfl | rfl | rfl | rfl | rfl | rfl | rfl | rfl
        · exact stp (by decide +kernel) (by decide +kernel)
        · exact stp (by decide +kernel) (by decide +kernel)
        · exact stp (by decide +kernel) (by decide +kernel)
        · exact stp (by decide +kernel) (by decide +kernel)
        · exact ⟨.inr (.inr (.inl ⟨_, rfl⟩)), nofun⟩
        · exact ⟨.inl rfl, nofun⟩
        · exact ⟨.inr (.inr (.inr (.inr ⟨c1, _, rfl, hc1, .inr (.inl ⟨_, rfl⟩)⟩))), nofun⟩
        · exact ⟨.inr (.inr (.inr (.inr ⟨c2, _, rfl, hc2, .inl ⟨_, rfl⟩⟩))), nofun⟩
        · exact stp (by decide +kernel) (by decide +kernel)
        · exact ⟨.inr (.inl ⟨_, rfl⟩), nofun⟩
        · exact ⟨.inr (.inr (.inr (.inr ⟨c3, _, rfl, hc3, .inr (.inr ⟨_, rfl⟩)⟩))), nofun⟩
      generalize ns.map V.str ++ [.str "", .str "A", .str "abcdefgh", .str "abcdefghi", .int 5, .non, .ref c1, .ref c2, .str "a\n", .bl true, .ref c3] = LL at *
      clear hc1 hc2 hc3 hc4
      refine rd_forL (SqL.of hc5) ?_
      refine turnsL (K := K) (xs := LL) (fun j σ H' => ∃ w1 : Option V, σ = [some (.ref a), w1, some (.int (0 + (i : Int))), some (.ref p), some (.ref g), some (.ref st), some (.str SS), w7, w8] ∧ Same HG H') ⟨_, rfl, fun _ _ h => h⟩ ?_ ?_ ?_
      · rintro j σ H' hj ⟨w1, rfl, s⟩
        exact SqL.of (s _ _ hc5)
      · rintro j y σ H' hy ⟨w1, rfl, s⟩
        obtain ⟨ob, sh⟩ := obs y (List.mem_of_getElem? hy)
        wtm_at "rd"
        refine ⟨y, rfl, ob.same s, fun s' e => (sh s' e).1, fun H5 s5 => ?_⟩
        wtm_at "rd"
        refine ⟨y, rfl, (ob.same s).same s5, sh, fun H6 s6 => ?_⟩
        wtm_at "rd"
        refine rd_nno rfl ?_
        wtm_at "rd"
        exact ⟨_, rfl, (s.trans s5).trans s6⟩
      rintro σ H' ⟨w1, rfl, s⟩
      have xF := xA.same s
      exact ⟨⟨_, rfl, rfl⟩, keep xF, xF.tabs⟩
    · rintro σ H' ⟨⟨us, lu, rfl⟩, _⟩
      wtm_at "rd"
      exact q _
end
end Law

/-! the law's own head, one table of code objects tracked -/
namespace U
open PySem PySem.Spec PyProof.Rows L2 LamX
theorem law_GT {P : Program} {w : World} {K : PySem.W.Frag} {mg mb : Str → Option Value} {k : Nat} {fa a c T : Addr} {fd : FuncData} {x : Str} {sp : Sp} {s₁ : Shared} {vs : List Value} {ns : List Int}
    (KX : K.In s₁.heap) (hns : s₁.heap.Ns mainGlobals mg) (hb : s₁.heap.Ns builtinsNs mb) (hbb : ∀ x : Str, x ≠ "__name__" → mb x = bootBuiltins x) (hlim : s₁.heap.NoLimit) (hg : s₁.gens = #[])
    (hT : s₁.heap.get? T = some { cls := .none, data := .fields #[] }) (nT : K.lookup T = none) (CH : PySem.W.CodeHd s₁.heap c T)
    (hbm : ∃ (bm : Addr) (ob : Obj), mg "__builtins__" = some (.ref bm) ∧ bm ≠ builtinsNs ∧ s₁.heap.get? bm = some ob ∧ ob.cls = .type "module" ∧ ob.dict = some builtinsNs ∧ ob.data = .plain)
    (ha : s₁.heap.get? a = some { cls := .type "list", data := .seq vs.toArray }) (hi : IntsAre vs ns) (hl : ns.length ≤ sizeLine) (hr : Room k callerA)
    (F : ∀ base : Heap, K.In base → base.Ns mainGlobals mg → TabB base mg c T → FnG P w K mg base CX0 k fa fd [x] sp) (hbind : ∀ (s : Shared) (u : Value), BindsTo s fd ⟨[u], []⟩ [(x, u)])
    (hsp : ∀ H : Hp, H T = some (.tbl #[]) → SqL K H a (ns.map V.int) → sp [.ref a] H (fun v _ => v = .bl true) fun _ _ _ => False) :
    codeAny (model P w) callerA (.call (.ref fa) ⟨[.ref a], []⟩) (fun r s' => r = .ok (.ret (.bool true)) ∧ OldK s₁.heap s'.heap ∧ s'.os = s₁.os ∧ AllBare s'.gens) s₁ := by
  have rv := vals_ints hi
  have lenV := hi.length
  have aT : a ≠ T := fun z => by
    rw [z, hT] at ha
    have := congrArg Obj.data (Option.some.inj ha)
    cases this
  have main : ∀ H : Hp, H T = some (.tbl #[]) → (∀ b, H b = none ∨ b = T ∨ ∃ o xs, H b = some (.frz o (.lst xs))) → SqL K H a (ns.map V.int) → HOk P w H s₁.heap → (∀ b, H b ≠ none → b = a ∨ b = T) → (H a ≠ none → K.lookup a = none) →
      codeAny (model P w) callerA (.call (.ref fa) ⟨[.ref a], []⟩) (fun r s' => r = .ok (.ret (.bool true)) ∧ OldK s₁.heap s'.heap ∧ s'.os = s₁.os ∧ AllBare s'.gens) s₁ := by
    intro H hH only seq ok two own
    have unseen : ∀ {b : Addr} {o : Obj}, s₁.heap.get? b = some o → (∀ vs n, o.data ≠ .seq vs n) → o.data ≠ .fields #[] → H b = none := by
      intro b o e d1 d2
      cases q : H b with
      | none => rfl
      | some u =>
        rcases two b (by rw [q]; simp) with rfl | rfl
        · obtain rfl := Option.some.inj (ha.symm.trans e)
          exact (d1 _ _ rfl).elim
        · obtain rfl := Option.some.inj (hT.symm.trans e)
          exact (d2 rfl).elim
    have stays : ∀ {b : Addr} {m : Str → Option Value}, s₁.heap.Ns b m → (hidT s₁.heap H).Ns b m := by
      rintro b m ⟨o, es, ep, e, d, r⟩
      exact ⟨o, es, ep, hidT_get e (unseen e (fun _ _ z => by rw [d] at z; cases z) fun z => by rw [d] at z; cases z), d, r⟩
    have kin : K.In (hidT s₁.heap H) := by
      intro b o e
      refine hidT_get (KX b o e) ?_
      cases q : H b with
      | none => rfl
      | some u =>
        rcases two b (by rw [q]; simp) with rfl | rfl
        · rw [own (by rw [q]; simp)] at e
          cases e
        · rw [nT] at e
          cases e
    have md : Mod K mg (hidT s₁.heap H) := ⟨kin, stays hns, ⟨mb, stays hb, hbb⟩, by
      obtain ⟨mc, h1, h2⟩ := hlim
      exact ⟨mc, stays h1, h2⟩⟩
    have tab : TabB (hidT s₁.heap H) mg c T := by
      refine ⟨?_, ?_, fun z => ?_⟩
      · obtain ⟨o, us, file, tf, flags, tg, inF, text, tt, e1, r1, r2, r3, r4, r5, r6, r7, r8, r9⟩ := CH
        refine ⟨o, us, file, tf, flags, tg, inF, text, tt, hidT_get e1 (unseen e1 (fun _ _ z => by rw [r2] at z; cases z) fun z => ?_), r1, r2, r3, r4, r5, r6, r7, r8, r9⟩
        rw [r2] at z
        obtain rfl := Data.fields.inj z
        simp at r3
      · obtain ⟨bm, ob, b1, b2, b3, b4, b5, b6⟩ := hbm
        refine ⟨bm, ob, b1, b2, fun z => ?_, fun z => ?_, hidT_get b3 (unseen b3 (fun _ _ z => by rw [b6] at z; cases z) fun z => by rw [b6] at z; cases z), b4, b5, b6⟩
        · obtain ⟨o, es, ep, e, hd, _⟩ := hns
          rw [z, e] at b3
          obtain rfl := Option.some.inj b3
          rw [hd] at b6
          cases b6
        · rw [z, hT] at b3
          obtain rfl := Option.some.inj b3
          cases b6
      · obtain ⟨o, es, ep, e, hd, _⟩ := hns
        rw [z, hT] at e
        obtain rfl := Option.some.inj e
        cases hd
    have e0 : Env0 P w K mg (hidT s₁.heap H) callerA [] s₁ H := ⟨rfl, md, fun b o e => of_hidT e, Nat.le_of_eq (hidT_size _ _), trivial, fun b z => (List.not_mem_nil z).elim, ok, .of_eq hg⟩
    refine codeAny_mono ((F _ kin (stays hns) tab).go callerA [] s₁ H ⟨[.ref a], []⟩ [.ref a] [.ref a] _ _ ⟨hr, rfl⟩ e0 (hbind s₁ (.ref a)) (.cons rfl .nil) (hsp H hH seq)) ?_
    intro r s' h
    cases r with
    | error e => exact h.elim
    | ok fl =>
      cases fl with
      | next => exact h.elim
      | brk => exact h.elim
      | cont => exact h.elim
      | ret u =>
        obtain ⟨v, H', os, bare, un, ok', r', q⟩ := h
        have q' : v = .bl true := q
        subst q'
        obtain rfl : u = Value.bool true := r'
        have key : ∀ b o, b ≠ T → s₁.heap.get? b = some o → s'.heap.get? b = some o := by
          intro b o nb e
          cases q : H b with
          | none => exact un.keep b o e q (fun z => (List.not_mem_nil z).elim) (fun z => (List.not_mem_nil z).elim)
          | some u =>
            rcases only b with z | z | ⟨ob, xs, z⟩
            · rw [q] at z; cases z
            · exact (nb z).elim
            · obtain ⟨e1, _⟩ := ok b _ z
              obtain ⟨e2, _⟩ := ok' b _ (un.frzs b ob _ z)
              exact (Option.some.inj (e1.symm.trans e)) ▸ e2
        obtain ⟨more, z⟩ := un.tbls T #[] hH
        have grown := ok' T _ z
        refine ⟨rfl, ⟨fun b o e => ?_, fun b o e => ?_⟩, os, bare⟩
        · by_cases hb : b = T
          · subst hb
            obtain rfl := Option.some.inj (hT.symm.trans e)
            exact .inr (.inl ⟨(CH.tab hT).isCodeTable, rfl, #[], _, rfl, grown⟩)
          · exact .inl (key b o hb e)
        · by_cases hb : b = T
          · subst hb
            exact ⟨_, grown⟩
          · exact ⟨o, key b o hb e⟩
  cases hk : K.lookup a with
  | some o =>
    obtain rfl := Option.some.inj (ha.symm.trans (KX a o hk))
    refine main (fun b => if b = T then some (.tbl #[]) else none) (if_pos rfl) (fun b => ?_) (.inr ⟨_, vs.toArray, _, hk, rfl, rfl, rfl, ?_, by simpa using rv⟩) (fun b u z => ?_) (fun b z => ?_) fun z => (z (if_neg aT)).elim
    · by_cases e : b = T
      · exact .inr (.inl e)
      · exact .inl (if_neg e)
    · rw [List.size_toArray, lenV]
      exact hl
    · by_cases e : b = T
      · subst e
        obtain rfl := Option.some.inj ((if_pos rfl).symm.trans z)
        exact hT
      · exact nomatch (if_neg e).symm.trans z
    · by_cases e : b = T
      · exact .inr e
      · exact absurd (if_neg e) z
  | none =>
    refine main (fun b => if b = a then some (.frz { cls := .type "list", data := .seq vs.toArray } (.lst (ns.map V.int))) else if b = T then some (.tbl #[]) else none) ((if_neg aT.symm).trans (if_pos rfl)) (fun b => ?_) (.inl (.inr ⟨_, if_pos rfl⟩)) (fun b u z => ?_) (fun b z => ?_) fun _ => hk
    · by_cases hb : b = a
      · exact .inr (.inr ⟨_, _, if_pos hb⟩)
      · by_cases e : b = T
        · exact .inr (.inl e)
        · exact .inl ((if_neg hb).trans (if_neg e))
    · by_cases hb : b = a
      · subst hb
        obtain rfl := Option.some.inj ((if_pos rfl).symm.trans z)
        exact ⟨ha, by rw [List.length_map]; exact hl, vs, _, rv, ha⟩
      · by_cases e : b = T
        · subst e
          obtain rfl := Option.some.inj (((if_neg hb).trans (if_pos rfl)).symm.trans z)
          exact hT
        · exact nomatch ((if_neg hb).trans (if_neg e)).symm.trans z
    · by_cases hb : b = a
      · exact .inl hb
      · by_cases e : b = T
        · exact .inr e
        · exact absurd ((if_neg hb).trans (if_neg e)) z
/-- the same, the table told by the fragment -/
theorem walk_GY {l : PySem.W.OpenLaw} {n k : Nat} {q : Program} {loose : List Str} {XP : (Str → Option Value) → Heap → Prop} {YP : World → Heap → Prop} {d dy : DefRec} {K : Params → PySem.W.Frag} {sp : PySem.W.Frag → Addr → Sp} {x y : Str}
    (hn : l.most = some n) (hn2 : n ≤ sizeLine) (hdf : d.params.defaults = []) (hr : Room k callerA) (hrec : (recsOf q).find? (fun e => e.name == y) = some dy)
    (hY : ∀ (w : World) (h : Heap), YP w h → (K w.params).In h)
    (F : ∀ (w : World) (mg : Str → Option Value) (fa : Addr) (h : Heap), (K w.params).In h → h.Ns mainGlobals mg → mg d.name = some (.ref fa) →
      ∃ (fd : FuncData) (c T : Addr), PySem.W.tabIn (K w.params) y = some (c, T) ∧ (K w.params).lookup T = none ∧ (∀ (s : Shared) (u : Value), BindsTo s fd ⟨[u], []⟩ [(x, u)]) ∧
        ∀ base : Heap, (K w.params).In base → base.Ns mainGlobals mg → TabB base mg c T → FnG l.prog w (K w.params) mg base CX0 k fa fd [x] (sp (K w.params) T))
    (hsp : ∀ (K : PySem.W.Frag) (T : Addr) (H : Hp) (a : Addr) (ns : List Int), ns.length ≤ n → H T = some (.tbl #[]) → SqL K H a (ns.map V.int) → sp K T [.ref a] H (fun v _ => v = .bl true) fun _ _ _ => False) :
    PySem.W.WalkO q loose XP YP l.row.toRowW d [] (fun f vs => PySem.call f vs) := by
  refine Att.attach_callB hn hdf ?_
  intro w s₀ s₁ mg mb fa o pm cd doc a vs ns G Y ho hd hcd hmg hobj hints hlen bits hg
  obtain ⟨fd, c, T, hin, nT, hb, hF⟩ := F w mg fa _ (hY w _ Y) G.T.g hmg
  obtain ⟨CH, hT⟩ := PySem.W.tab_of G.T (hY w _ Y) hrec hin
  exact law_GT (hY w _ Y) G.T.g G.T.b G.T.builtins G.T.nolimit hg hT nT CH G.T.bmain hobj hints (Nat.le_trans hlen hn2) hr hF hb fun H h1 seq => hsp _ T H a ns hlen h1 seq
end U
namespace U
open PySem PySem.Spec PyProof.Rows L2
theorem tab_mk {K : PySem.W.Frag} {x : Str} {f c T : Addr} {oc oc2 : Value} {od od2 : Option Addr} {fd : FuncData} {sl sl2 : Array (Option Value)} {vs : Array Value} (h1 : PySem.W.nsIn K mainGlobals x = some (some (.ref f))) (h2 : K.lookup f = some ⟨oc, od, .func fd, sl⟩) (h3 : fd.code = .ref c)
    (h4 : K.lookup c = some ⟨oc2, od2, .fields vs, sl2⟩) (h5 : (vs[11]? : Option Value) = some (.ref T)) : PySem.W.tabIn K x = some (c, T) := by
  unfold PySem.W.tabIn
  rw [h1]
  simp only
  rw [h2]
  simp only
  rw [h3]
  simp only
  rw [h4]
  simp only
  rw [h5]
end U

end
namespace Law
open PySem PySem.Spec PyProof.Rows L2 U LamX
theorem all_mk {l : PySem.W.OpenLaw} {w : World} {K : PySem.W.Frag} {h : Heap} {mg : Str → Option Value} {fa : Addr} (X : K.In h) (G : h.Ns mainGlobals mg) (hfa : mg "law" = some (.ref fa))
    {od0 an0 : Option Addr} {sl0 : Array (Option Value)} {f0 : Addr} {oc0 kV0 dc0 pm0 cd0 ct0 : Value}
    {od1 an1 : Option Addr} {sl1 : Array (Option Value)} {f1 : Addr} {oc1 kV1 dc1 pm1 cd1 ct1 : Value}
    {od2 an2 : Option Addr} {sl2 : Array (Option Value)} {f2 : Addr} {oc2 kV2 dc2 pm2 cd2 ct2 : Value}
    {od3 an3 : Option Addr} {sl3 : Array (Option Value)} {f3 : Addr} {oc3 kV3 dc3 pm3 ct3 : Value} {C0 T0 : Addr} {ocC : Value} {odC : Option Addr} {vsC : Array Value} {slC : Array (Option Value)}
    {od4 an4 : Option Addr} {sl4 : Array (Option Value)} {f4 : Addr} {oc4 kV4 dc4 pm4 cd4 ct4 : Value}
    {od5 an5 : Option Addr} {sl5 : Array (Option Value)} {f5 : Addr} {oc5 kV5 dc5 pm5 cd5 ct5 : Value}
    {od6 an6 : Option Addr} {sl6 : Array (Option Value)} {f6 : Addr} {oc6 kV6 dc6 pm6 cd6 ct6 : Value}
    {od7 an7 : Option Addr} {sl7 : Array (Option Value)} {f7 : Addr} {oc7 kV7 dc7 pm7 cd7 ct7 : Value}
    {od8 an8 : Option Addr} {sl8 : Array (Option Value)} {f8 : Addr} {oc8 kV8 dc8 pm8 cd8 ct8 : Value}
    {od9 an9 : Option Addr} {sl9 : Array (Option Value)} {f9 : Addr} {oc9 kV9 dc9 pm9 cd9 ct9 : Value}
    {od10 an10 : Option Addr} {sl10 : Array (Option Value)} {f10 : Addr} {oc10 kV10 dc10 pm10 cd10 ct10 : Value}
    {od11 an11 : Option Addr} {sl11 : Array (Option Value)} {f11 : Addr} {oc11 kV11 dc11 pm11 cd11 ct11 : Value}
    {od12 an12 : Option Addr} {sl12 : Array (Option Value)} {f12 : Addr} {oc12 kV12 dc12 pm12 cd12 ct12 : Value}
    {od13 an13 : Option Addr} {sl13 : Array (Option Value)} {f13 : Addr} {oc13 kV13 dc13 pm13 cd13 ct13 : Value}
    {od14 an14 : Option Addr} {sl14 : Array (Option Value)} {f14 : Addr} {oc14 kV14 dc14 pm14 cd14 ct14 : Value}
    {od15 an15 : Option Addr} {sl15 : Array (Option Value)} {f15 : Addr} {oc15 kV15 dc15 pm15 cd15 ct15 : Value}
    {od16 an16 : Option Addr} {sl16 : Array (Option Value)} {f16 : Addr} {oc16 kV16 dc16 pm16 cd16 ct16 : Value}
    {od17 an17 : Option Addr} {sl17 : Array (Option Value)} {f17 : Addr} {oc17 kV17 dc17 pm17 cd17 ct17 : Value}
    {od18 an18 : Option Addr} {sl18 : Array (Option Value)} {f18 : Addr} {oc18 kV18 dc18 pm18 cd18 ct18 : Value}
    {od19 an19 : Option Addr} {sl19 : Array (Option Value)} {f19 : Addr} {oc19 kV19 dc19 pm19 cd19 ct19 : Value}
    {od20 an20 : Option Addr} {sl20 : Array (Option Value)} {f20 : Addr} {oc20 kV20 dc20 pm20 cd20 ct20 : Value}
    {tk0 : Tok}
    {tk1 : Tok}
    {tk2 : Tok}
    {tk3 : Tok}
    {CB : Addr}
    {CE0 fE0 : Addr} {nmE0 qE0 : Str} {NE0 : Addr} {bsE0 : List Value} {snE0 : List Str} {subE0 : List Value} {abE0 : Bool} {colE0 : Option Bool} {ddE0 : Option Addr} {mA0 mB0 mC0 mD0 mE0 : Option Value} {odE0 anE0 : Option Addr} {slE0 : Array (Option Value)} {ocE0 kVE0 dcE0 pmE0 cdE0 ctE0 : Value}
    (a0 : PySem.W.nsIn K mainGlobals "is_node" = some (some (.ref f0))) (l0 : K.lookup f0 = some ⟨oc0, od0, .func (PySem.W.fnOf "is_node" "is_node" (defArgs s_is_node) (defBody s_is_node) (defScope s_is_node) .none kV0 dc0 pm0 an0 cd0 ct0), sl0⟩) (c0 : PySem.W.codeIn K cd0 "is_node" = true) (k0 : PySem.W.keepIn K (.ref f0) = true)
    (a1 : PySem.W.nsIn K mainGlobals "first_invalid" = some (some (.ref f1))) (l1 : K.lookup f1 = some ⟨oc1, od1, .func (PySem.W.fnOf "first_invalid" "first_invalid" (defArgs s_first_invalid) (defBody s_first_invalid) (defScope s_first_invalid) .none kV1 dc1 pm1 an1 cd1 ct1), sl1⟩) (c1 : PySem.W.codeIn K cd1 "first_invalid" = true) (k1 : PySem.W.keepIn K (.ref f1) = true)
    (a2 : PySem.W.nsIn K mainGlobals "check_part" = some (some (.ref f2))) (l2 : K.lookup f2 = some ⟨oc2, od2, .func (PySem.W.fnOf "check_part" "check_part" (defArgs s_check_part) (defBody s_check_part) (defScope s_check_part) .none kV2 dc2 pm2 an2 cd2 ct2), sl2⟩) (c2 : PySem.W.codeIn K cd2 "check_part" = true) (k2 : PySem.W.keepIn K (.ref f2) = true)
    (a3 : PySem.W.nsIn K mainGlobals "check_graph" = some (some (.ref f3))) (l3 : K.lookup f3 = some ⟨oc3, od3, .func (PySem.W.fnOf "check_graph" "check_graph" (defArgs s_check_graph) (defBody s_check_graph) (defScope s_check_graph) .none kV3 dc3 pm3 an3 (.ref C0) ct3), sl3⟩) (c3 : PySem.W.codeIn K (.ref C0) "check_graph" = true) (k3 : PySem.W.keepIn K (.ref f3) = true) (tl0 : K.lookup C0 = some ⟨ocC, odC, .fields vsC, slC⟩) (tl1 : (vsC[11]? : Option Value) = some (.ref T0)) (ty1 : K.lookup T0 = none)
    (a4 : PySem.W.nsIn K mainGlobals "_law_pool" = some (some (.ref f4))) (l4 : K.lookup f4 = some ⟨oc4, od4, .func (PySem.W.fnOf "_law_pool" "_law_pool" (defArgs s__law_pool) (defBody s__law_pool) (defScope s__law_pool) .none kV4 dc4 pm4 an4 cd4 ct4), sl4⟩) (c4 : PySem.W.codeIn K cd4 "_law_pool" = true) (k4 : PySem.W.keepIn K (.ref f4) = true)
    (a5 : PySem.W.nsIn K mainGlobals "_law_draw" = some (some (.ref f5))) (l5 : K.lookup f5 = some ⟨oc5, od5, .func (PySem.W.fnOf "_law_draw" "_law_draw" (defArgs s__law_draw) (defBody s__law_draw) (defScope s__law_draw) .none kV5 dc5 pm5 an5 cd5 ct5), sl5⟩) (c5 : PySem.W.codeIn K cd5 "_law_draw" = true) (k5 : PySem.W.keepIn K (.ref f5) = true)
    (a6 : PySem.W.nsIn K mainGlobals "_law_draw_names" = some (some (.ref f6))) (l6 : K.lookup f6 = some ⟨oc6, od6, .func (PySem.W.fnOf "_law_draw_names" "_law_draw_names" (defArgs s__law_draw_names) (defBody s__law_draw_names) (defScope s__law_draw_names) .none kV6 dc6 pm6 an6 cd6 ct6), sl6⟩) (c6 : PySem.W.codeIn K cd6 "_law_draw_names" = true) (k6 : PySem.W.keepIn K (.ref f6) = true)
    (a7 : PySem.W.nsIn K mainGlobals "_law_shuffle" = some (some (.ref f7))) (l7 : K.lookup f7 = some ⟨oc7, od7, .func (PySem.W.fnOf "_law_shuffle" "_law_shuffle" (defArgs s__law_shuffle) (defBody s__law_shuffle) (defScope s__law_shuffle) .none kV7 dc7 pm7 an7 cd7 ct7), sl7⟩) (c7 : PySem.W.codeIn K cd7 "_law_shuffle" = true) (k7 : PySem.W.keepIn K (.ref f7) = true)
    (a8 : PySem.W.nsIn K mainGlobals "_law_edge_of" = some (some (.ref f8))) (l8 : K.lookup f8 = some ⟨oc8, od8, .func (PySem.W.fnOf "_law_edge_of" "_law_edge_of" (defArgs s__law_edge_of) (defBody s__law_edge_of) (defScope s__law_edge_of) .none kV8 dc8 pm8 an8 cd8 ct8), sl8⟩) (c8 : PySem.W.codeIn K cd8 "_law_edge_of" = true) (k8 : PySem.W.keepIn K (.ref f8) = true)
    (a9 : PySem.W.nsIn K mainGlobals "_law_wants_edge" = some (some (.ref f9))) (l9 : K.lookup f9 = some ⟨oc9, od9, .func (PySem.W.fnOf "_law_wants_edge" "_law_wants_edge" (defArgs s__law_wants_edge) (defBody s__law_wants_edge) (defScope s__law_wants_edge) .none kV9 dc9 pm9 an9 cd9 ct9), sl9⟩) (c9 : PySem.W.codeIn K cd9 "_law_wants_edge" = true) (k9 : PySem.W.keepIn K (.ref f9) = true)
    (a10 : PySem.W.nsIn K mainGlobals "_law_draw_graph" = some (some (.ref f10))) (l10 : K.lookup f10 = some ⟨oc10, od10, .func (PySem.W.fnOf "_law_draw_graph" "_law_draw_graph" (defArgs s__law_draw_graph) (defBody s__law_draw_graph) (defScope s__law_draw_graph) .none kV10 dc10 pm10 an10 cd10 ct10), sl10⟩) (c10 : PySem.W.codeIn K cd10 "_law_draw_graph" = true) (k10 : PySem.W.keepIn K (.ref f10) = true)
    (a11 : PySem.W.nsIn K mainGlobals "_law_numbered_names" = some (some (.ref f11))) (l11 : K.lookup f11 = some ⟨oc11, od11, .func (PySem.W.fnOf "_law_numbered_names" "_law_numbered_names" (defArgs s__law_numbered_names) (defBody s__law_numbered_names) (defScope s__law_numbered_names) .none kV11 dc11 pm11 an11 cd11 ct11), sl11⟩) (c11 : PySem.W.codeIn K cd11 "_law_numbered_names" = true) (k11 : PySem.W.keepIn K (.ref f11) = true)
    (a12 : PySem.W.nsIn K mainGlobals "_law_is_name" = some (some (.ref f12))) (l12 : K.lookup f12 = some ⟨oc12, od12, .func (PySem.W.fnOf "_law_is_name" "_law_is_name" (defArgs s__law_is_name) (defBody s__law_is_name) (defScope s__law_is_name) .none kV12 dc12 pm12 an12 cd12 ct12), sl12⟩) (c12 : PySem.W.codeIn K cd12 "_law_is_name" = true) (k12 : PySem.W.keepIn K (.ref f12) = true)
    (a13 : PySem.W.nsIn K mainGlobals "_law_is_edge" = some (some (.ref f13))) (l13 : K.lookup f13 = some ⟨oc13, od13, .func (PySem.W.fnOf "_law_is_edge" "_law_is_edge" (defArgs s__law_is_edge) (defBody s__law_is_edge) (defScope s__law_is_edge) .none kV13 dc13 pm13 an13 cd13 ct13), sl13⟩) (c13 : PySem.W.codeIn K cd13 "_law_is_edge" = true) (k13 : PySem.W.keepIn K (.ref f13) = true)
    (a14 : PySem.W.nsIn K mainGlobals "_law_compute_expected" = some (some (.ref f14))) (l14 : K.lookup f14 = some ⟨oc14, od14, .func (PySem.W.fnOf "_law_compute_expected" "_law_compute_expected" (defArgs s__law_compute_expected) (defBody s__law_compute_expected) (defScope s__law_compute_expected) .none kV14 dc14 pm14 an14 cd14 ct14), sl14⟩) (c14 : PySem.W.codeIn K cd14 "_law_compute_expected" = true) (k14 : PySem.W.keepIn K (.ref f14) = true)
    (a15 : PySem.W.nsIn K mainGlobals "_law_call" = some (some (.ref f15))) (l15 : K.lookup f15 = some ⟨oc15, od15, .func (PySem.W.fnOf "_law_call" "_law_call" (defArgs s__law_call) (defBody s__law_call) (defScope s__law_call) .none kV15 dc15 pm15 an15 cd15 ct15), sl15⟩) (c15 : PySem.W.codeIn K cd15 "_law_call" = true) (k15 : PySem.W.keepIn K (.ref f15) = true)
    (a16 : PySem.W.nsIn K mainGlobals "_law_make_variant_items" = some (some (.ref f16))) (l16 : K.lookup f16 = some ⟨oc16, od16, .func (PySem.W.fnOf "_law_make_variant_items" "_law_make_variant_items" (defArgs s__law_make_variant_items) (defBody s__law_make_variant_items) (defScope s__law_make_variant_items) .none kV16 dc16 pm16 an16 cd16 ct16), sl16⟩) (c16 : PySem.W.codeIn K cd16 "_law_make_variant_items" = true) (k16 : PySem.W.keepIn K (.ref f16) = true)
    (a17 : PySem.W.nsIn K mainGlobals "_law_make_variant" = some (some (.ref f17))) (l17 : K.lookup f17 = some ⟨oc17, od17, .func (PySem.W.fnOf "_law_make_variant" "_law_make_variant" (defArgs s__law_make_variant) (defBody s__law_make_variant) (defScope s__law_make_variant) .none kV17 dc17 pm17 an17 cd17 ct17), sl17⟩) (c17 : PySem.W.codeIn K cd17 "_law_make_variant" = true) (k17 : PySem.W.keepIn K (.ref f17) = true)
    (a18 : PySem.W.nsIn K mainGlobals "_law_great_holds" = some (some (.ref f18))) (l18 : K.lookup f18 = some ⟨oc18, od18, .func (PySem.W.fnOf "_law_great_holds" "_law_great_holds" (defArgs s__law_great_holds) (defBody s__law_great_holds) (defScope s__law_great_holds) .none kV18 dc18 pm18 an18 cd18 ct18), sl18⟩) (c18 : PySem.W.codeIn K cd18 "_law_great_holds" = true) (k18 : PySem.W.keepIn K (.ref f18) = true)
    (a19 : PySem.W.nsIn K mainGlobals "_law_with_more_edges" = some (some (.ref f19))) (l19 : K.lookup f19 = some ⟨oc19, od19, .func (PySem.W.fnOf "_law_with_more_edges" "_law_with_more_edges" (defArgs s__law_with_more_edges) (defBody s__law_with_more_edges) (defScope s__law_with_more_edges) .none kV19 dc19 pm19 an19 cd19 ct19), sl19⟩) (c19 : PySem.W.codeIn K cd19 "_law_with_more_edges" = true) (k19 : PySem.W.keepIn K (.ref f19) = true)
    (a20 : PySem.W.nsIn K mainGlobals "law" = some (some (.ref f20))) (l20 : K.lookup f20 = some ⟨oc20, od20, .func (PySem.W.fnOf "law" "law" (defArgs s_law) (defBody s_law) (defScope s_law) .none kV20 dc20 pm20 an20 cd20 ct20), sl20⟩) (c20 : PySem.W.codeIn K cd20 "law" = true) (k20 : PySem.W.keepIn K (.ref f20) = true)
    (z0 : PySem.W.nsIn K mainGlobals "len" = some none)
    (z1 : PySem.W.nsIn K mainGlobals "abs" = some none)
    (z2 : PySem.W.nsIn K mainGlobals "max" = some none)
    (z3 : PySem.W.nsIn K mainGlobals "min" = some none)
    (z4 : PySem.W.nsIn K mainGlobals "sorted" = some none)
    (z5 : PySem.W.nsIn K mainGlobals "isinstance" = some none)
    (z6 : PySem.W.nsIn K mainGlobals "int" = some none)
    (z7 : PySem.W.nsIn K mainGlobals "list" = some none)
    (z8 : PySem.W.nsIn K mainGlobals "tuple" = some none)
    (z9 : PySem.W.nsIn K mainGlobals "str" = some none)
    (z10 : PySem.W.nsIn K mainGlobals "range" = some none)
    (z11 : PySem.W.nsIn K mainGlobals "enumerate" = some none)
    (z12 : PySem.W.nsIn K mainGlobals "dict" = some none)
    (z13 : PySem.W.nsIn K mainGlobals "sum" = some none)
    (z14 : PySem.W.nsIn K mainGlobals "all" = some none)
    (z15 : PySem.W.nsIn K mainGlobals "any" = some none)
    (z16 : PySem.W.nsIn K mainGlobals "repr" = some none)
    (z17 : PySem.W.nsIn K mainGlobals "set" = some none)
    (z18 : PySem.W.nsIn K mainGlobals "zip" = some none)
    (z19 : PySem.W.nsIn K mainGlobals "reversed" = some none)
    (z20 : PySem.W.nsIn K mainGlobals "bool" = some none)
    (w0 : PySem.W.nsIn K mainGlobals "LETTERS" = some (some (.str "abcdefghijklmnopqrstuvwxyz" tk0)))
    (w1 : PySem.W.nsIn K mainGlobals "MAX_EDGES" = some (some (.int 120 tk1)))
    (w2 : PySem.W.nsIn K mainGlobals "MAX_NAME" = some (some (.int 8 tk2)))
    (w3 : PySem.W.nsIn K mainGlobals "MAX_NODES" = some (some (.int 40 tk3)))
    (y0 : PySem.W.nsIn K mainGlobals "InputError" = some (some (.ref CB))) (y1 : PySem.W.keepIn K (.ref CB) = true) (y2 : PySem.W.subIn K (.ref CB) (.type "BaseException") = some true) (y3 : PySem.W.typeIn K (.ref CB) = some (.type "type")) (y4 : PySem.W.isClsIn K CB = true)
    (y5 : PySem.W.specialIn K (.ref CB) "__getattribute__" = some (some (.builtin "type.__getattribute__"))) (y6 : PySem.W.readsIn K CB (.type "type") = true) (y7 : PySem.W.findCls K (.ref CB) (.type "type") "__init__" = some (.val (.builtin "ValueError.__init__")))
    (xa0 : PySem.W.nsIn K mainGlobals "InvalidGraph" = some (some (.ref CE0))) (xb0 : K.lookup CE0 = some (excClassObj nmE0 qE0 CE0 NE0 bsE0 [.ref CB, .type "ValueError", .type "Exception", .type "BaseException", .type "object"] true snE0 subE0 abE0 colE0 ddE0 mA0 mB0 mC0 mD0 mE0 "ValueError.__new__")) (xc0 : PySem.W.findIn K (.ref CE0) "__setattr__" = some (some (.builtin "object.__setattr__"))) (xd0 : PySem.W.findIn K (.ref CE0) "__getattribute__" = some (some (.builtin "BaseException.__getattribute__"))) (xe0 : PySem.W.findIn K (.ref CE0) "__getattr__" = some none) (xf0 : PySem.W.findIn K (.ref CE0) "part" = some none) (xg0 : PySem.W.findIn K (.ref CE0) "__init__" = some (some (.ref fE0))) (xh0 : PySem.W.typeIn K (.ref fE0) = some (.type "function")) (xi0 : K.lookup fE0 = some ⟨ocE0, odE0, .func (PySem.W.fnOf "__init__" "InvalidGraph.__init__" (defArgs s_InvalidGraph_init) (defBody s_InvalidGraph_init) (defScope s_InvalidGraph_init) .none kVE0 dcE0 pmE0 anE0 cdE0 ctE0), slE0⟩) (xj0 : PySem.W.codeIn K cdE0 "InvalidGraph.__init__" = true) (xk0 : PySem.W.keepIn K (.ref fE0) = true) (xl0 : PySem.W.keepIn K (.ref CE0) = true) (xm0 : PySem.W.subIn K (.ref CE0) (.type "BaseException") = some true) (xn0 : PySem.W.typeIn K (.ref CE0) = some (.type "type")) (xo0 : PySem.W.hasDictIn K CE0 = true) (xp0 : PySem.W.isClsIn K CE0 = true) (xq0 : PySem.W.subIn K (.ref CE0) (.ref CE0) = some true) (xr0 : PySem.W.subIn K (.ref CE0) (.ref CB) = some true)
    (xz0 : PySem.W.findIn K (.ref CE0) "position" = some none)
    (xu0 : PySem.W.findIn K (.ref CE0) "__class__" = some (some (.builtin "object.__class__"))) (xv0 : PySem.W.specialIn K (.builtin "object.__class__") "__get__" = some (some (.builtin "getset_descriptor.__get__"))) (xw0 : PySem.W.takesIn K (.builtin "object.__class__") = some true) (xx0 : PySem.W.mroIn K CE0 (.type "object") = some true)
    (zv0 : PySem.W.nsIn K mainGlobals "ValueError" = some none)
    (zv1 : PySem.W.nsIn K mainGlobals "KeyError" = some none)
    (zv2 : PySem.W.subIn K (.ref CE0) (.type "ValueError") = some true)
    (zv3 : PySem.W.subIn K (.ref CE0) (.type "KeyError") = some false) :
    ∃ (fd : FuncData) (c T : Addr), PySem.W.tabIn K "check_graph" = some (c, T) ∧ K.lookup T = none ∧ (∀ (s : Shared) (u : Value), BindsTo s fd ⟨[u], []⟩ [("_law_script", u)]) ∧ ∀ base : Heap, K.In base → base.Ns mainGlobals mg → TabB base mg c T → FnG l.prog w K mg base CX0 8 fa fd ["_law_script"] (spLaw K T) := by
  have e := hfa.symm.trans (PySem.W.mg_of X G a20)
  cases e
  have n_len := PySem.W.mg_none_of X G z0
  have n_abs := PySem.W.mg_none_of X G z1
  have n_max := PySem.W.mg_none_of X G z2
  have n_min := PySem.W.mg_none_of X G z3
  have n_sorted := PySem.W.mg_none_of X G z4
  have n_isinstance := PySem.W.mg_none_of X G z5
  have n_int := PySem.W.mg_none_of X G z6
  have n_list := PySem.W.mg_none_of X G z7
  have n_tuple := PySem.W.mg_none_of X G z8
  have n_str := PySem.W.mg_none_of X G z9
  have n_range := PySem.W.mg_none_of X G z10
  have n_enumerate := PySem.W.mg_none_of X G z11
  have n_dict := PySem.W.mg_none_of X G z12
  have n_sum := PySem.W.mg_none_of X G z13
  have n_all := PySem.W.mg_none_of X G z14
  have n_any := PySem.W.mg_none_of X G z15
  have n_repr := PySem.W.mg_none_of X G z16
  have n_set := PySem.W.mg_none_of X G z17
  have n_zip := PySem.W.mg_none_of X G z18
  have n_reversed := PySem.W.mg_none_of X G z19
  have n_bool := PySem.W.mg_none_of X G z20
  have B : Bt mg := { len := n_len, abs := n_abs, max := n_max, min := n_min, sorted := n_sorted, isinstance := n_isinstance, int := n_int, list := n_list, tuple := n_tuple, str := n_str, range := n_range, enumerate := n_enumerate, dict := n_dict, sum := n_sum, all := n_all, any := n_any, repr := n_repr, set := n_set, zip := n_zip, reversed := n_reversed }
  have g_LETTERS : ∃ u, mg "LETTERS" = some u ∧ RelV (.str "abcdefghijklmnopqrstuvwxyz") u := ⟨_, PySem.W.mg_of X G w0, ⟨_, rfl⟩⟩
  have g_MAX_EDGES : ∃ u, mg "MAX_EDGES" = some u ∧ RelV (.int 120) u := ⟨_, PySem.W.mg_of X G w1, ⟨_, rfl⟩⟩
  have g_MAX_NAME : ∃ u, mg "MAX_NAME" = some u ∧ RelV (.int 8) u := ⟨_, PySem.W.mg_of X G w2, ⟨_, rfl⟩⟩
  have g_MAX_NODES : ∃ u, mg "MAX_NODES" = some u ∧ RelV (.int 40) u := ⟨_, PySem.W.mg_of X G w3, ⟨_, rfl⟩⟩
  have F0 := fun_mk (st := s_is_node) l0 c0 k0
  have b0 := F0.binds (ps := ["candidate"]) fun _ _ _ _ _ _ us hl => match us, hl with | [_], _ => rfl
  have F1 := fun_mk (st := s_first_invalid) l1 c1 k1
  have b1 := F1.binds (ps := ["items", "is_valid"]) fun _ _ _ _ _ _ us hl => match us, hl with | [_, _], _ => rfl
  have F2 := fun_mk (st := s_check_part) l2 c2 k2
  have b2 := F2.binds (ps := ["part", "items", "limit", "is_valid"]) fun _ _ _ _ _ _ us hl => match us, hl with | [_, _, _, _], _ => rfl
  have F3 := fun_mk (st := s_check_graph) l3 c3 k3
  have FC3 : FunC K "check_graph" "check_graph" s_check_graph f3 _ C0 := ⟨⟨_, _, _, _, _, _, _, _, rfl, l3, c3⟩⟩
  have b3 := F3.binds (ps := ["candidate"]) fun _ _ _ _ _ _ us hl => match us, hl with | [_], _ => rfl
  have F4 := fun_mk (st := s__law_pool) l4 c4 k4
  have b4 := F4.binds (ps := ["_law_script", "_law_k"]) fun _ _ _ _ _ _ us hl => match us, hl with | [_, _], _ => rfl
  have F5 := fun_mk (st := s__law_draw) l5 c5 k5
  have b5 := F5.binds (ps := ["_law_pool_here", "_law_many"]) fun _ _ _ _ _ _ us hl => match us, hl with | [_, _], _ => rfl
  have F6 := fun_mk (st := s__law_draw_names) l6 c6 k6
  have b6 := F6.binds (ps := ["_law_pool_here", "_law_many"]) fun _ _ _ _ _ _ us hl => match us, hl with | [_, _], _ => rfl
  have F7 := fun_mk (st := s__law_shuffle) l7 c7 k7
  have b7 := F7.binds (ps := ["_law_pool_here", "_law_some"]) fun _ _ _ _ _ _ us hl => match us, hl with | [_, _], _ => rfl
  have F8 := fun_mk (st := s__law_edge_of) l8 c8 k8
  have b8 := F8.binds (ps := ["_law_one", "_law_other"]) fun _ _ _ _ _ _ us hl => match us, hl with | [_, _], _ => rfl
  have F9 := fun_mk (st := s__law_wants_edge) l9 c9 k9
  have b9 := F9.binds (ps := ["_law_pool_here", "_law_kind", "_law_at", "_law_position", "_law_many"]) fun _ _ _ _ _ _ us hl => match us, hl with | [_, _, _, _, _], _ => rfl
  have F10 := fun_mk (st := s__law_draw_graph) l10 c10 k10
  have b10 := F10.binds (ps := ["_law_pool_here", "_law_most"]) fun _ _ _ _ _ _ us hl => match us, hl with | [_, _], _ => rfl
  have F11 := fun_mk (st := s__law_numbered_names) l11 c11 k11
  have b11 := F11.binds (ps := ["_law_many"]) fun _ _ _ _ _ _ us hl => match us, hl with | [_], _ => rfl
  have F12 := fun_mk (st := s__law_is_name) l12 c12 k12
  have b12 := F12.binds (ps := ["_law_candidate"]) fun _ _ _ _ _ _ us hl => match us, hl with | [_], _ => rfl
  have F13 := fun_mk (st := s__law_is_edge) l13 c13 k13
  have b13 := F13.binds (ps := ["_law_nodes", "_law_candidate"]) fun _ _ _ _ _ _ us hl => match us, hl with | [_, _], _ => rfl
  have F14 := fun_mk (st := s__law_compute_expected) l14 c14 k14
  have b14 := F14.binds (ps := ["_law_candidate"]) fun _ _ _ _ _ _ us hl => match us, hl with | [_], _ => rfl
  have F15 := fun_mk (st := s__law_call) l15 c15 k15
  have b15 := F15.binds (ps := ["_law_candidate"]) fun _ _ _ _ _ _ us hl => match us, hl with | [_], _ => rfl
  have F16 := fun_mk (st := s__law_make_variant_items) l16 c16 k16
  have b16 := F16.binds (ps := ["_law_pool_here", "_law_items", "_law_invalid"]) fun _ _ _ _ _ _ us hl => match us, hl with | [_, _, _], _ => rfl
  have F17 := fun_mk (st := s__law_make_variant) l17 c17 k17
  have b17 := F17.binds (ps := ["_law_pool_here", "_law_graph"]) fun _ _ _ _ _ _ us hl => match us, hl with | [_, _], _ => rfl
  have F18 := fun_mk (st := s__law_great_holds) l18 c18 k18
  have b18 := F18.binds (ps := []) fun _ _ _ _ _ _ us hl => match us, hl with | [], _ => rfl
  have F19 := fun_mk (st := s__law_with_more_edges) l19 c19 k19
  have b19 := F19.binds (ps := ["_law_pool_here", "_law_graph"]) fun _ _ _ _ _ _ us hl => match us, hl with | [_, _], _ => rfl
  have F20 := fun_mk (st := s_law) l20 c20 k20
  have b20 := F20.binds (ps := ["_law_script"]) fun _ _ _ _ _ _ us hl => match us, hl with | [_], _ => rfl
  have own0 := own_mk (x := "InvalidGraph") (f := "part") (PySem.W.mg_of X G xa0) (PySem.W.mg_of X G y0) xb0 xc0 xd0 xe0 xf0 xg0 xh0 xl0 xm0 xn0 xo0 xp0 xq0 y1 y2 y3 y4 xr0 y5 y6 y7
  have FE0 := fun_mk (st := s_InvalidGraph_init) xi0 xj0 xk0
  have bE0 := FE0.binds (ps := ["self", "part", "position"]) fun _ _ _ _ _ _ us hl => match us, hl with | [_, _, _], _ => rfl
  have is01 : Is01 K mg CE0 CB := ⟨⟨xd0, xe0, xm0, xo0, xu0, xv0, xw0, xx0⟩, PySem.W.mg_of X G y0, PySem.W.mg_of X G xa0, PySem.W.mg_none_of X G zv0, PySem.W.mg_none_of X G zv1, kit_refT xp0 xn0 xq0, kit_ty (by decide +kernel) zv2, kit_ty (by decide +kernel) zv3, exm_sub xm0 y2 y4 y3 xr0⟩
  refine ⟨PySem.W.fnOf "law" "law" (defArgs s_law) (defBody s_law) (defScope s_law) .none kV20 dc20 pm20 an20 cd20 ct20, C0, T0, tab_mk a3 l3 rfl tl0 tl1, ty1, fun s v => .of_eq rfl, fun base _ _ TB => ?_⟩
  have err0 : ErrX2 l.prog w K mg base "InvalidGraph" "part" "position" CE0 CB := ⟨⟨_, _, own0, ok_initIG FE0 own0 xz0, bE0⟩, xz0⟩
  have c_is_node : Cal l.prog w K mg base (CX0) 1 "is_node" (spIsNdA) := ⟨⟨_, _, _, ok_isNdA F0 B g_MAX_NAME g_LETTERS, PySem.W.mg_of X G a0, k0, b0⟩⟩
  have c_first_invalid : CalH l.prog w K mg base (CX0) 3 "first_invalid" (spInv l.prog w K mg base 2) := ⟨⟨_, _, _, ok_inv F1 (by decide) B, PySem.W.mg_of X G a1, k1, b1⟩⟩
  have c_check_part : CalH l.prog w K mg base (L2.CX l.prog w) 4 "check_part" (spPart l.prog w K mg base CE0) := ⟨⟨_, _, _, ok_part F2 B ⟨c_first_invalid⟩ err0, PySem.W.mg_of X G a2, k2, b2⟩⟩
  have c_check_graph : Cal l.prog w K mg base (L2.CX l.prog w) 5 "check_graph" (spCkGr [(T0, qEdge)] CE0) := ⟨⟨_, _, _, ok_ckGr FC3 B ⟨c_check_part, c_is_node, g_MAX_NODES, g_MAX_EDGES⟩ (PySem.W.mg_of X G a0) err0 TB (List.mem_singleton.mpr rfl) (fun y hy _ => by rw [List.mem_singleton.mp hy]), PySem.W.mg_of X G a3, k3, b3⟩⟩
  have c__law_pool : Cal l.prog w K mg base (CX0) 1 "_law_pool" (spPool K) := ⟨⟨_, _, _, ok_pool F4 B, PySem.W.mg_of X G a4, k4, b4⟩⟩
  have c__law_draw : Cal l.prog w K mg base (CX0) 1 "_law_draw" (spDraw) := ⟨⟨_, _, _, ok_draw F5 B, PySem.W.mg_of X G a5, k5, b5⟩⟩
  have c__law_draw_names : Cal l.prog w K mg base (CX0) 2 "_law_draw_names" (spNames) := ⟨⟨_, _, _, ok_names F6 B ⟨c__law_draw⟩, PySem.W.mg_of X G a6, k6, b6⟩⟩
  have c__law_shuffle : Cal l.prog w K mg base (CX0) 2 "_law_shuffle" (spShuf K) := ⟨⟨_, _, _, ok_shuffle F7 B ⟨c__law_draw⟩, PySem.W.mg_of X G a7, k7, b7⟩⟩
  have c__law_edge_of : Cal l.prog w K mg base (CX0) 1 "_law_edge_of" (spEdgeOf) := ⟨⟨_, _, _, ok_edge_of F8 B, PySem.W.mg_of X G a8, k8, b8⟩⟩
  have c__law_wants_edge : Cal l.prog w K mg base (CX0) 2 "_law_wants_edge" (spWants) := ⟨⟨_, _, _, ok_wants F9 B ⟨c__law_draw⟩, PySem.W.mg_of X G a9, k9, b9⟩⟩
  have c__law_draw_graph : Cal l.prog w K mg base (CX0) 3 "_law_draw_graph" (spGraph) := ⟨⟨_, _, _, ok_draw_graph F10 B ⟨c__law_draw, c__law_draw_names, c__law_shuffle, c__law_edge_of, c__law_wants_edge⟩, PySem.W.mg_of X G a10, k10, b10⟩⟩
  have c__law_numbered_names : Cal l.prog w K mg base (CX0) 1 "_law_numbered_names" (spNumd) := ⟨⟨_, _, _, ok_numd F11 B, PySem.W.mg_of X G a11, k11, b11⟩⟩
  have c__law_is_name : Cal l.prog w K mg base (CX0) 1 "_law_is_name" (spIsNm) := ⟨⟨_, _, _, ok_isNm F12 B, PySem.W.mg_of X G a12, k12, b12⟩⟩
  have c__law_is_edge : Cal l.prog w K mg base (CX0) 1 "_law_is_edge" (spEdg01) := ⟨⟨_, _, _, ok_edg01 F13 B, PySem.W.mg_of X G a13, k13, b13⟩⟩
  have c__law_compute_expected : Cal l.prog w K mg base (CX0) 2 "_law_compute_expected" (spExp01) := ⟨⟨_, _, _, ok_exp01 F14 B ⟨c__law_is_name, c__law_is_edge⟩, PySem.W.mg_of X G a14, k14, b14⟩⟩
  have c__law_call : Cal l.prog w K mg base (CX0) 6 "_law_call" (spCall01 [(T0, qEdge)]) := ⟨⟨_, _, _, ok_call01 F15 B ⟨c_check_graph⟩ own0 xz0 is01, PySem.W.mg_of X G a15, k15, b15⟩⟩
  have c__law_make_variant_items : Cal l.prog w K mg base (CX0) 2 "_law_make_variant_items" (spVit) := ⟨⟨_, _, _, ok_vit F16 B ⟨c__law_draw⟩, PySem.W.mg_of X G a16, k16, b16⟩⟩
  have c__law_make_variant : Cal l.prog w K mg base (CX0) 3 "_law_make_variant" (spVar01) := ⟨⟨_, _, _, ok_var01 F17 B ⟨c__law_draw, c__law_make_variant_items⟩, PySem.W.mg_of X G a17, k17, b17⟩⟩
  have c__law_great_holds : Cal l.prog w K mg base (CX0) 7 "_law_great_holds" (spGreat [(T0, qEdge)]) := ⟨⟨_, _, _, ok_great F18 B ⟨c__law_numbered_names, c__law_compute_expected, c__law_call, g_MAX_NODES, g_MAX_EDGES⟩, PySem.W.mg_of X G a18, k18, b18⟩⟩
  have c__law_with_more_edges : Cal l.prog w K mg base (CX0) 2 "_law_with_more_edges" (spMore) := ⟨⟨_, _, _, ok_more F19 B ⟨c__law_draw⟩, PySem.W.mg_of X G a19, k19, b19⟩⟩
  exact ok_law F20 B ⟨c__law_great_holds, c__law_pool, c__law_draw_graph, c__law_with_more_edges, c__law_compute_expected, c__law_call, c__law_make_variant, c__law_is_name, c_is_node⟩
theorem walk {l : PySem.W.OpenLaw} {q : Program} {loose : List Str} {XP : (Str → Option Value) → Heap → Prop} {YP : World → Heap → Prop} {d dy : DefRec} {K : Params → PySem.W.Frag} (hn : l.most = some 63) (hdf : d.params.defaults = []) (hrec : (recsOf q).find? (fun e => e.name == ("check_graph" : Str)) = some dy)
    (hY : ∀ (w : World) (h : Heap), YP w h → (K w.params).In h)
    (F : ∀ (w : World) (mg : Str → Option Value) (fa : Addr) (h : Heap), (K w.params).In h → h.Ns mainGlobals mg → mg d.name = some (.ref fa) →
      ∃ (fd : FuncData) (c T : Addr), PySem.W.tabIn (K w.params) "check_graph" = some (c, T) ∧ (K w.params).lookup T = none ∧ (∀ (s : Shared) (u : Value), BindsTo s fd ⟨[u], []⟩ [("_law_script", u)]) ∧ ∀ base : Heap, (K w.params).In base → base.Ns mainGlobals mg → TabB base mg c T → FnG l.prog w (K w.params) mg base CX0 8 fa fd ["_law_script"] (spLaw (K w.params) T)) :
    PySem.W.WalkO q loose XP YP l.row.toRowW d [] (fun f vs => PySem.call f vs) :=
  walk_GY (n := 63) (k := 8) (x := "_law_script") (y := "check_graph") (sp := spLaw) hn (by decide) hdf ⟨rfl, by decide, by decide⟩ hrec hY F fun K T H a ns hl hT hS => ⟨a, ns, rfl, hS, hl, (fun p hp => by
    rw [List.mem_singleton] at hp
    rw [hp]
    exact TabS.nil hT), fun _ => rfl⟩
end Law
open PySem PySem.W PyProof.Rows
set_option maxRecDepth 100000 in
set_option maxHeartbeats 0 in
theorem PySem.Challenge.cw_threeturned_k01_graphs_checked_holds : PySem.Challenge.rw_threeturned_k01_graphs_checked.Holds := by
  w_on; o_law; k_head; (case hw => w_witness2)
  k_fill
  refine Law.walk (l := PySem.Challenge.rw_threeturned_k01_graphs_checked) rfl rfl rfl (fun w h Y => PySem.W.km_in_of Y) ?F
  case F =>
    intro w mg fa h KX G hmg
    refine' Law.all_mk KX G hmg ?a0 ?l0 ?c0 ?k0 ?a1 ?l1 ?c1 ?k1 ?a2 ?l2 ?c2 ?k2 ?a3 ?l3 ?c3 ?k3 ?tl0 ?tl1 ?ty1 ?a4 ?l4 ?c4 ?k4 ?a5 ?l5 ?c5 ?k5 ?a6 ?l6 ?c6 ?k6 ?a7 ?l7 ?c7 ?k7 ?a8 ?l8 ?c8 ?k8 ?a9 ?l9 ?c9 ?k9 ?a10 ?l10 ?c10 ?k10 ?a11 ?l11 ?c11 ?k11 ?a12 ?l12 ?c12 ?k12 ?a13 ?l13 ?c13 ?k13 ?a14 ?l14 ?c14 ?k14 ?a15 ?l15 ?c15 ?k15 ?a16 ?l16 ?c16 ?k16 ?a17 ?l17 ?c17 ?k17 ?a18 ?l18 ?c18 ?k18 ?a19 ?l19 ?c19 ?k19 ?a20 ?l20 ?c20 ?k20 ?z0 ?z1 ?z2 ?z3 ?z4 ?z5 ?z6 ?z7 ?z8 ?z9 ?z10 ?z11 ?z12 ?z13 ?z14 ?z15 ?z16 ?z17 ?z18 ?z19 ?z20 ?w0 ?w1 ?w2 ?w3 ?y0 ?y1 ?y2 ?y3 ?y4 ?y5 ?y6 ?y7 ?xa0 ?xb0 ?xc0 ?xd0 ?xe0 ?xf0 ?xg0 ?xh0 ?xi0 ?xj0 ?xk0 ?xl0 ?xm0 ?xn0 ?xo0 ?xp0 ?xq0 ?xr0 ?xz0 ?xu0 ?xv0 ?xw0 ?xx0 ?zv0 ?zv1 ?zv2 ?zv3
    (case a0 => k_is); (case l0 => k_is); (case c0 => k_is); (case k0 => k_is)
    (case a1 => k_is); (case l1 => k_is); (case c1 => k_is); (case k1 => k_is)
    (case a2 => k_is); (case l2 => k_is); (case c2 => k_is); (case k2 => k_is)
    (case a3 => k_is); (case l3 => k_is); (case c3 => k_is); (case k3 => k_is)
    (case tl0 => k_is); (case tl1 => exact rfl); (case ty1 => kernel_rfl); (case a4 => k_is)
    (case l4 => k_is); (case c4 => k_is); (case k4 => k_is); (case a5 => k_is)
    (case l5 => k_is); (case c5 => k_is); (case k5 => k_is); (case a6 => k_is)
    (case l6 => k_is); (case c6 => k_is); (case k6 => k_is); (case a7 => k_is)
    (case l7 => k_is); (case c7 => k_is); (case k7 => k_is); (case a8 => k_is)
    (case l8 => k_is); (case c8 => k_is); (case k8 => k_is); (case a9 => k_is)
    (case l9 => k_is); (case c9 => k_is); (case k9 => k_is); (case a10 => k_is)
    (case l10 => k_is); (case c10 => k_is); (case k10 => k_is); (case a11 => k_is)
    (case l11 => k_is); (case c11 => k_is); (case k11 => k_is); (case a12 => k_is)
    (case l12 => k_is); (case c12 => k_is); (case k12 => k_is); (case a13 => k_is)
    (case l13 => k_is); (case c13 => k_is); (case k13 => k_is); (case a14 => k_is)
    (case l14 => k_is); (case c14 => k_is); (case k14 => k_is); (case a15 => k_is)
    (case l15 => k_is); (case c15 => k_is); (case k15 => k_is); (case a16 => k_is)
    (case l16 => k_is); (case c16 => k_is); (case k16 => k_is); (case a17 => k_is)
    (case l17 => k_is); (case c17 => k_is); (case k17 => k_is); (case a18 => k_is)
    (case l18 => k_is); (case c18 => k_is); (case k18 => k_is); (case a19 => k_is)
    (case l19 => k_is); (case c19 => k_is); (case k19 => k_is); (case a20 => k_is)
    (case l20 => k_is); (case c20 => k_is); (case k20 => k_is); (case z0 => k_is)
    (case z1 => k_is); (case z2 => k_is); (case z3 => k_is); (case z4 => k_is)
    (case z5 => k_is); (case z6 => k_is); (case z7 => k_is); (case z8 => k_is)
    (case z9 => k_is); (case z10 => k_is); (case z11 => k_is); (case z12 => k_is)
    (case z13 => k_is); (case z14 => k_is); (case z15 => k_is); (case z16 => k_is)
    (case z17 => k_is); (case z18 => k_is); (case z19 => k_is); (case z20 => k_is)
    (case w0 => k_is); (case w1 => k_is); (case w2 => k_is); (case w3 => k_is)
    (case y0 => k_is); (case y1 => k_is); (case y2 => k_is); (case y3 => k_is)
    (case y4 => k_is); (case y5 => k_is); (case y6 => k_is); (case y7 => k_is)
    (case xa0 => k_is); (case xb0 => k_is); (case xc0 => k_is); (case xd0 => k_is)
    (case xe0 => k_is); (case xf0 => k_is); (case xg0 => k_is); (case xh0 => k_is)
    (case xi0 => k_is); (case xj0 => k_is); (case xk0 => k_is); (case xl0 => k_is)
    (case xm0 => k_is); (case xn0 => k_is); (case xo0 => k_is); (case xp0 => k_is)
    (case xq0 => k_is); (case xr0 => k_is); (case xz0 => k_is); (case xu0 => k_is)
    (case xv0 => k_is); (case xw0 => k_is); (case xx0 => k_is); (case zv0 => k_is)
    (case zv1 => k_is); (case zv2 => k_is); (case zv3 => k_is)

