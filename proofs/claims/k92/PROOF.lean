import PyProof.Rows.All
import Wide.All
import OpenK.AllK
import Wide.FinOn
import HandS.ForMost
import HandS.Exc
import HandS.EndBits
import HandS.Wide
import HandS.Codes
import HandS.TupAny
import HandS.IsInst
import HandS.Walk
import HandS.Flow
import HandS.SetKeys
import HandS.SortKw
import HandS.Style
import KE.SortData
import HandS.More
import HandS.DictComp
import HandS.Defaults
import HandS.Deep
import PyProof.RowDictHeap
import PyProof.ReprRoads
import PyProof.ReprBulk
import HandS.Finally
import PyProof.DictUpdate
import HandS.ExcInit
import HandS.ExcIs
import HandS.ExcField
import PyProof.P3In
import HandS.Conv
import KE.KDictSum
import HandS.DictTup
import HandS.ListItems
import PySem.Challenge.RW_threeturned_k92_formatting_and_parsing
import HandS.Text
import PyProof.Rows.StrDigitsNeg
import PyProof.FitsInt
import HandS.FStr
import KE.IntTextLaws
import HandS.Nested
import HandS.Lambda
import KE.DataMinKey
import KE.GoesEnum
import KE.GoesMore
import KE.DataCmp
import HandS.Iter
import HandS.Steps
import HandS.StrMore
import HandS.MapJoin
import HandS.RaiseMore
import HandS.WordsExc
import HandS.DeepEq
import PyProof.NeKinds
import HandS.EndTab
set_option Elab.async false
set_option linter.all false
set_option maxRecDepth 100000
set_option maxHeartbeats 4000000
/-! calls with room and with nothing being shown (guards known) -/
namespace U
open PySem PySem.Spec PyProof.Rows L2

/-- room for k calls, and no repr is under way -/
structure Rm (k : Nat) (A : Around) : Prop where
  r : Room k A
  g : A.guards = some []
theorem Rm.mono {j k : Nat} {A : Around} (h : Rm k A) (hj : j ≤ k) : Rm j A := ⟨h.r.mono hj, h.g⟩
theorem Rm.deeper {k : Nat} {A : Around} (h : Rm (k + 1) A) (env : Env) : Rm k (A.deeper env) := ⟨h.r.deeper env, h.g⟩
theorem Rm.u1 {k : Nat} {A : Around} (h : Rm k A) : A.units + 1 < cLine := by
  have z := h.r.un
  omega
theorem Rm.u64 {k : Nat} {A : Around} (h : Rm k A) : A.units + 64 < cLine := h.r.units
theorem Rm.u0 {k : Nat} {A : Around} (h : Rm k A) : A.units < cLine := by
  have z := h.r.un
  omega
theorem Rm.u100 {k : Nat} {A : Around} (h : Rm k A) : A.units + 150 < cLine := by
  have z := h.r.un
  omega

/-- the def at f keeps the promise sp -/
structure FnG (P : Program) (w : World) (K : PySem.W.Frag) (mg : Str → Option Value) (base : Heap) (CX : CXT) (k : Nat) (f : Addr) (fd : FuncData) (ps : List Str) (sp : Sp) : Prop where
  len : ∀ vs H Q E, sp vs H Q E → vs.length = ps.length
  go : ∀ (A : Around) (outer : List Env) (s : Shared) (H : Hp) (args : Args) (us : List Value) (vs : List V) (Q : VK) (E : XK), Rm k A →
    Env0 P w K mg base A outer s H → BindsTo s fd args (ps.zip us) → Vals vs us → sp vs H Q E → codeAny (model P w) A (.call (.ref f) args) (CR CX outer P w H s Q E) s
/-- room ran out of is no way: L2's own promise serves -/
theorem FnG.of {P : Program} {w : World} {K : PySem.W.Frag} {mg : Str → Option Value} {base : Heap} {CX : CXT} {k : Nat} {f : Addr} {fd : FuncData} {ps : List Str} {sp : Sp} (F : FnOk P w K mg base CX k f fd ps sp) : FnG P w K mg base CX k f fd ps sp :=
  ⟨F.len, fun A outer s H args us vs Q E hr => F.run A outer s H args us vs Q E hr.r⟩

section
variable {P : Program} {w : World} {K : PySem.W.Frag} {mg : Str → Option Value} {base : Heap} {CX : CXT}
/-- a def by its body -/
theorem fnG {x qual : Str} {st : Stmt} {f : Addr} {fd : FuncData} {N ps : List Str} {k : Nat} {sp : Sp} (F : Fun K x qual st f fd) (S : FnScope N ps (defScope st)) (len : ∀ vs H Q E, sp vs H Q E → vs.length = ps.length)
    (body : ∀ (cdv : Value) (A : Around) (outer : List Env) (s : Shared) (H : Hp) (vs : List V) (Q : VK) (E : XK), Rm k (A.deeper (envOfC qual (defScope st) s.heap.objs.size f cdv)) → sp vs H Q E →
      ∃ t, PSs (cxOf CX P w K mg base N qual (defScope st) f cdv A outer s H E) (defBody st) t ∧ t { nx := fun _ H' => Q .non H', rt := Q } (start N vs) H) :
    FnG P w K mg base CX (k + 1) f fd ps sp := by
  obtain ⟨oc, od, kV, doc, pm, an, cdv, ct, osl, rfl, lk, hcd⟩ := F.ex
  refine ⟨len, fun A outer s H args us vs Q E room e0 bd rel want => ?_⟩
  have count := len _ _ _ _ want
  have kin : K.In s.heap := e0.mod.kin.keeps fun b o e => (e0.bs b o e).1
  have kinds : ∀ y ∈ ps.zip us, (defScope st).names.lookup y.1 = some .local ∨ ((defScope st).names.lookup y.1 = some .cell ∧ ((cellsFrom (s.heap.objs.size + 1) (defScope st).names []).lookup y.1).isSome = true) := by
    rintro ⟨n, v⟩ hy
    cases S.par n (List.of_mem_zip hy).1 with
    | inl q => exact .inl q
    | inr q => exact .inr ⟨q, PySem.W.cellsFrom_some _ _ _ (.inl q)⟩
  apply codeAny_call_function room.r.depth (kin _ _ lk) rfl S.co S.gen rfl (PySem.W.codeRec_of kin hcd) (bd _ _ _ _ _)
  apply wpAny_newFunctionEnv_cells S.kind kinds
  intro env he s1 x
  subst he
  have lim : s.heap.NoLimit := e0.mod.nolimit.keeps fun b o e => (e0.bs b o e).1
  refine ⟨lim.keeps x.toInCall.keep, codeAny_func ?_⟩
  obtain ⟨t, ht, want'⟩ := body cdv A outer s H vs Q E (room.deeper _) want
  have I := inv_start (CX := CX) (P := P) (w := w) (K := K) (mg := mg) (base := base) (E := E) S room.r.hd e0 count rel x
  refine wpAny_mono (ht.run [] s1 (start N vs) H _ I want') ?_ fun e s' hs => hs
  intro fl s' hs
  cases fl with
  | ret u =>
    obtain ⟨v, σ', H', J, rv, q⟩ := hs
    exact ⟨v, H', J.os, J.bare, J.base, J.hok, rv, q⟩
  | next =>
    obtain ⟨σ', H', J, q⟩ := hs
    exact ⟨V.non, H', J.os, J.bare, J.base, J.hok, rfl, q⟩
  | brk => exact hs.elim fun _ z => z.elim fun _ z => z.2.elim
  | cont => exact hs.elim fun _ z => z.elim fun _ z => z.2.elim
/-- a def that no exception leaves -/
theorem fnG0 {x qual : Str} {st : Stmt} {f : Addr} {fd : FuncData} {N ps : List Str} {k : Nat} {sp : Sp} (F : Fun K x qual st f fd) (S : FnScope N ps (defScope st)) (len : ∀ vs H Q E, sp vs H Q E → vs.length = ps.length)
    (body : ∀ (cdv : Value) (A : Around) (outer : List Env) (s : Shared) (H : Hp) (vs : List V) (Q : VK) (E : XK), Rm k (A.deeper (envOfC qual (defScope st) s.heap.objs.size f cdv)) → sp vs H Q E →
      ∃ t, PSs (cxOf CX0 P w K mg base N qual (defScope st) f cdv A outer s H E).nox (defBody st) t ∧ t { nx := fun _ H' => Q .non H', rt := Q } (start N vs) H) :
    FnG P w K mg base CX0 (k + 1) f fd ps sp := fnG F S len fun cdv A outer s H vs Q E hr h => by
  obtain ⟨t, p, q⟩ := body cdv A outer s H vs Q E hr h
  exact ⟨t, p.nox, q⟩
/-- a def that may be called by its global name -/
structure Cal (P : Program) (w : World) (K : PySem.W.Frag) (mg : Str → Option Value) (base : Heap) (CX : CXT) (k : Nat) (x : Str) (sp : Sp) : Prop where
  ex : ∃ (f : Addr) (fd : FuncData) (ps : List Str), FnG P w K mg base CX k f fd ps sp ∧ mg x = some (.ref f) ∧ PySem.W.keepIn K (.ref f) = true ∧ Binds K fd ps []
end

section
variable {X : Cx} {CX : L2.CXT} {k j : Nat} {f : Addr} {fd : FuncData} {ps : List Str} {sp : Sp} {E : XK} {x : Str} {p pos : Pos} {e : Expr} {es : List Expr} {t : TA}
theorem callG {pins : List (Addr × Obj)} {σ : L2.St} {H : Hp} {s : Shared} {Q : VK} {us : List Value} {vs : List V} (F : FnG X.prog X.w X.K X.mg X.base CX k f fd ps sp) (hr : Rm k X.A) (hb : Binds X.K fd ps []) (hx : Passes CX X E)
    (I : Inv X pins σ H s) (r : Vals vs us) (h : sp vs H Q E) : wpAny (model X.prog X.w) X.A (call (.ref f) us) (EP X pins σ Q) X.xe s := by
  have count : us.length = ps.length := r.length ▸ F.len _ _ _ _ h
  have bd := hb s us I.kIn (by rw [List.append_nil]; exact count)
  rw [List.append_nil] at bd
  refine wpAny_call (codeAny_mono (F.go X.A X.stack s H ⟨us, []⟩ us vs Q E hr I.env0 bd r h) ?_)
  intro res s' hq
  cases res with
  | error er => exact hx pins σ H s er s' I hq
  | ok fl =>
    cases fl with
    | ret u => exact I.after hq
    | next => exact hq.elim
    | brk => exact hq.elim
    | cont => exact hq.elim
/-- f(..): the promise -/
def tC1 (sp : Sp) (E : XK) (t : TA) : TE := fun σ H Q => t σ H fun vs H1 => sp vs H1 Q E
theorem pe_cG (c : Cal X.prog X.w X.K X.mg X.base CX k x sp) (hr : Rm j X.A) (hk : k ≤ j) (hg : Gl X x) (hx : Passes CX X E) (ha : PA X (e :: es) t)
    (hdb : (x == ("__debug__" : Str)) = false := by decide) (he : starEach (e :: es) X.env = (false, eval e X.env) :: starEach es X.env := by rfl) (hpl : (backTo pos (starEach es X.env)).any (·.1) = false := by rfl) :
    PE X (.Call (.Name x p) (e :: es) [] pos) (tC1 sp E t) := by
  obtain ⟨f, fd, ps, F, hm, kp, b⟩ := c.ex
  refine ⟨fun pins s σ H Q I h => wpAny_Call_Name_kw (ld_glob I hg hm ?_ hdb)⟩
  refine PySem.W.callWith_K (h₀ := X.base) I.ok.mod.kin kp (thn (ha.run pos pins s σ H _ I h) ?_) he hpl
  rintro us s1 ⟨vs, H1, I1, r, q⟩
  exact ⟨I1.kIn, callG F (hr.mono hk) b hx I1 r q⟩
/-- f() -/
theorem pe_cG0 (c : Cal X.prog X.w X.K X.mg X.base CX k x sp) (hr : Rm j X.A) (hk : k ≤ j) (hg : Gl X x) (hx : Passes CX X E)
    (hdb : (x == ("__debug__" : Str)) = false := by decide) : PE X (.Call (.Name x p) [] [] pos) (tC1 sp E tNil) := by
  obtain ⟨f, fd, ps, F, hm, kp, b⟩ := c.ex
  refine ⟨fun pins s σ H Q I h => wpAny_Call_Name_kw (ld_glob I hg hm ?_ hdb)⟩
  exact PySem.W.callWith_K0 I.kIn kp (callG (us := []) F (hr.mono hk) b hx I .nil h)
theorem pe_c (c : Cal X.prog X.w X.K X.mg X.base CX0 k x sp) (hr : Rm j X.A) (hk : k ≤ j) (hg : Gl X x) (ha : PA X (e :: es) t)
    (hdb : (x == ("__debug__" : Str)) = false := by decide) (he : starEach (e :: es) X.env = (false, eval e X.env) :: starEach es X.env := by rfl) (hpl : (backTo pos (starEach es X.env)).any (·.1) = false := by rfl) :
    PE X (.Call (.Name x p) (e :: es) [] pos) (tC1 sp E0 t) := pe_cG c hr hk hg pass0 ha hdb he hpl
/-- .. what is raised is wished for at the caller's slots -/
def tC2 (sp : Sp) (W : WX) (t : TA) : TE := fun σ H Q => t σ H fun vs H1 => sp vs H1 Q fun cls d H' => W cls d σ H'
theorem pe_cX {W : WX} (c : Cal X.prog X.w X.K X.mg X.base (L2.CX X.prog X.w) k x sp) (hr : Rm j X.A) (hk : k ≤ j) (hg : Gl X x) (tk : Takes X W) (ha : PA X (e :: es) t)
    (hdb : (x == ("__debug__" : Str)) = false := by decide) (he : starEach (e :: es) X.env = (false, eval e X.env) :: starEach es X.env := by rfl) (hpl : (backTo pos (starEach es X.env)).any (·.1) = false := by rfl) :
    PE X (.Call (.Name x p) (e :: es) [] pos) (tC2 sp W t) := by
  obtain ⟨f, fd, ps, F, hm, kp, b⟩ := c.ex
  refine ⟨fun pins s σ H Q I h => wpAny_Call_Name_kw (ld_glob I hg hm ?_ hdb)⟩
  refine PySem.W.callWith_K (h₀ := X.base) I.ok.mod.kin kp (thn (ha.run pos pins s σ H _ I h) ?_) he hpl
  rintro us s1 ⟨vs, H1, I1, r, q⟩
  refine ⟨I1.kIn, ?_⟩
  have count : us.length = ps.length := r.length ▸ F.len _ _ _ _ q
  have bd := b s1 us I1.kIn (by rw [List.append_nil]; exact count)
  rw [List.append_nil] at bd
  refine wpAny_call (codeAny_mono (F.go X.A X.stack s1 H1 ⟨us, []⟩ us vs _ _ (hr.mono hk) I1.env0 bd r q) ?_)
  intro res s' hq
  cases res with
  | error er => exact tk er s' (XE.of_call I1 (fun cls d H' z => z) hq)
  | ok fl =>
    cases fl with
    | ret u => exact I1.after hq
    | next => exact hq.elim
    | brk => exact hq.elim
    | cont => exact hq.elim
end

/-! ### the law's own head -/
end U

/-! operators by the values that come: one rule an operator -/
namespace U
open PySem PySem.Spec PyProof.Rows L2
section
variable {X : Cx}

/-! ### names of the world -/
theorem bb_len : bootBuiltins "len" = some (.builtin "len") := by decide +kernel
theorem bb_abs : bootBuiltins "abs" = some (.builtin "abs") := by decide +kernel
theorem bb_max : bootBuiltins "max" = some (.builtin "max") := by decide +kernel
theorem bb_min : bootBuiltins "min" = some (.builtin "min") := by decide +kernel
theorem bb_sorted : bootBuiltins "sorted" = some (.builtin "sorted") := by decide +kernel
theorem bb_all : bootBuiltins "all" = some (.builtin "all") := by decide +kernel
theorem bb_isinstance : bootBuiltins "isinstance" = some (.builtin "isinstance") := by decide +kernel
theorem bb_int : bootBuiltins "int" = some (.type "int") := by decide +kernel
theorem bb_list : bootBuiltins "list" = some (.type "list") := by decide +kernel
theorem bb_tuple : bootBuiltins "tuple" = some (.type "tuple") := by decide +kernel
theorem bb_dict : bootBuiltins "dict" = some (.type "dict") := by decide +kernel
theorem bb_str : bootBuiltins "str" = some (.type "str") := by decide +kernel
theorem pe_ty {x : Str} {T : String} {pos : Pos} (hg : Gl X x) (hm : X.mg x = none) (hv : bootBuiltins x = some (.type T)) (hn : x ≠ "__name__" := by decide) (hd : (x == ("__debug__" : Str)) = false := by decide) :
    PE X (.Name x pos) (tC (.ty T)) := pe_bltn hg hm hv rfl hn hd
theorem pe_gl {x : Str} {v : V} {pos : Pos} (hg : Gl X x) (h : ∃ u, X.mg x = some u ∧ RelV v u) (hd : (x == ("__debug__" : Str)) = false := by decide) : PE X (.Name x pos) (tC v) := by
  obtain ⟨u, hm, r⟩ := h
  exact pe_glob hg hm r hd

/-! ### + - * % // ** -/
/-- what is wanted where a new list, a new tuple comes -/
def nL (xs : List V) (H : Hp) (Q : VK) : Prop := ∀ p, H p = none → Q (.ref p) (upd H p (.lst xs))
def nT (xs : List V) (H : Hp) (Q : VK) : Prop := ∀ p, H p = none → Q (.ref p) (upd H p (.tup xs))
def rAddU (K : PySem.W.Frag) : R2 := fun x y H Q => match x, y with
  | .int i, .int j => Q (.int (i + j)) H
  | .str a, .str b => a.length + b.length ≤ sizeLine ∧ Q (.str (a ++ b)) H
  | .ref a, .ref b => (∃ xs ys, H a = some (.lst xs) ∧ H b = some (.lst ys) ∧ xs.length + ys.length ≤ sizeLine ∧ nL (xs ++ ys) H Q) ∨ rCatA K (.ref a) (.ref b) H Q
  | _, _ => False
theorem uAdd : OpR X (binaryOp .Add) (rAddU X.K) := by
  intro pins s σ H x y v u Q I rx ry h
  cases x <;> cases y <;> first | exact h.elim | skip
  · exact op_add pins s σ H _ _ v u Q I rx ry ⟨_, _, rfl, rfl, h⟩
  · exact op_add_str pins s σ H _ _ v u Q I rx ry ⟨_, _, rfl, rfl, h⟩
  · rcases h with ⟨xs, ys, h1, h2, h3, h4⟩ | h
    · exact op_cat pins s σ H _ _ v u Q I rx ry ⟨_, _, _, _, rfl, rfl, h1, h2, h3, h4⟩
    · exact op_catA pins s σ H _ _ v u Q I rx ry h
def rSubU : R2 := fun x y H Q => match x, y with
  | .int i, .int j => Q (.int (i - j)) H
  | _, _ => False
theorem uSub : OpR X (binaryOp .Sub) rSubU := by
  intro pins s σ H x y v u Q I rx ry h
  cases x <;> cases y <;> first | exact h.elim | exact op_sub pins s σ H _ _ v u Q I rx ry ⟨_, _, rfl, rfl, h⟩
/-- a text k times -/
def timesS (z : Str) (k : Int) : Str := ⟨((List.replicate k.toNat z.cps.toList).flatten).toArray⟩
theorem timesS_one (z : Str) : timesS z 1 = z := by
  unfold timesS
  simp
theorem timesS_neg {z : Str} {k : Int} (h : k < 1) : timesS z k = Str.empty := by
  unfold timesS
  have e : k.toNat = 0 := by omega
  rw [e]
  rfl
theorem fold_rep (a : Array Nat) : ∀ (n : Nat) (acc : Array Nat), (List.replicate n a).foldl (· ++ ·) acc = acc ++ ((List.replicate n a.toList).flatten).toArray
  | 0, acc => by simp
  | n + 1, acc => by
    rw [List.replicate_succ, List.foldl_cons, fold_rep a n, List.replicate_succ, List.flatten_cons]
    apply Array.ext'
    simp
theorem timesS_nil {z : Str} {k : Int} (h : z.length = 0) : timesS z k = z := by
  obtain ⟨a⟩ := z
  have e : a = #[] := Array.size_eq_zero_iff.mp h
  subst e
  unfold timesS
  have : (List.replicate k.toNat ([] : List Nat)).flatten = [] := by
    rw [List.flatten_eq_nil_iff]
    intro l hl
    exact List.eq_of_mem_replicate hl
  show (⟨((List.replicate k.toNat ([] : List Nat)).flatten).toArray⟩ : Str) = ⟨#[]⟩
  rw [this]
def rMulU : R2 := fun x y H Q => match x, y with
  | .int i, .int j => (CMul i j ∨ CMulW i j) ∧ Q (.int (i * j)) H
  | .str z, .int k => (0 ≤ k ∧ k ≤ 1000 ∧ z.length ≤ 1000) ∧ Q (.str (timesS z k)) H
  | .ref l, .int k => rRep (.ref l) (.int k) H Q
  | _, _ => False
theorem uMul : OpR X (binaryOp .Mult) rMulU := by
  intro pins s σ H x y v u Q I rx ry h
  cases x <;> cases y <;> first | exact h.elim | skip
  · obtain ⟨c | c, h⟩ := h
    · exact op_mul pins s σ H _ _ v u Q I rx ry ⟨_, _, rfl, rfl, c, h⟩
    · exact op_mulW pins s σ H _ _ v u Q I rx ry ⟨_, _, rfl, rfl, c, h⟩
  · rename_i z k
    obtain ⟨⟨h0, h1, hz⟩, q⟩ := h
    obtain ⟨t, rfl⟩ := rx
    obtain ⟨t', rfl⟩ := ry
    have hl : z.length * k.toNat ≤ 1000 * 1000 := Nat.mul_le_mul hz (by omega)
    refine P.mul_str ?_ ?_ ?_ ?_
    · have a : ¬ k < -(2 ^ 63) := by omega
      have b : ¬ k ≥ 2 ^ 63 := by omega
      rw [decide_eq_false a, decide_eq_false b]
      rfl
    · intro _ _ bad
      have : (z.length : Int) ≤ 1000 := by omega
      have e : (1000 : Int) ≤ (2 ^ 63 - 1) / k := by
        rw [Int.le_ediv_iff_mul_le (by omega)]
        have : (1000 : Int) * k ≤ 1000 * 1000 := Int.mul_le_mul_of_nonneg_left h1 (by decide)
        omega
      omega
    · intro _ _
      unfold Builtin.Str.tooLong
      have : z.length * k.toNat ≤ sizeLine := Nat.le_trans hl (by decide)
      simp
      exact this
    · split
      · rename_i hk
        rw [timesS_neg hk] at q
        exact ⟨by decide, ⟨.str Str.empty, H, I.tok _, ⟨_, rfl⟩, q⟩⟩
      · split
        · rename_i hk hc
          have e : timesS z k = z := by
            rcases (Bool.or_eq_true _ _).mp hc with c | c
            · have : k = 1 := by simpa using c
              rw [this, timesS_one]
            · exact timesS_nil (by simpa using c)
          rw [e] at q
          exact ⟨.str z, H, I.tok _, ⟨_, rfl⟩, q⟩
        · have e : (⟨(List.replicate k.toNat z.cps).foldl (· ++ ·) #[]⟩ : Str) = timesS z k := by
            rw [fold_rep]
            unfold timesS
            congr 1
            simp
          rw [e]
          refine ⟨?_, ⟨.str (timesS z k), H, I.tok _, ⟨_, rfl⟩, q⟩⟩
          have : (timesS z k).length = k.toNat * z.length := by
            unfold timesS Str.length
            simp
          rw [this, Nat.mul_comm]
          exact Nat.le_trans hl (by decide)
  · exact op_rep pins s σ H _ _ v u Q I rx ry h
def rModU : R2 := fun x y H Q => match x, y with
  | .int i, .int j => 0 < j ∧ Q (.int (i % j)) H
  | _, _ => False
theorem uMod : OpR X (binaryOp .Mod) rModU := by
  intro pins s σ H x y v u Q I rx ry h
  cases x <;> cases y <;> first | exact h.elim | exact op_mod pins s σ H _ _ v u Q I rx ry ⟨_, _, rfl, rfl, h.1, h.2⟩
def rDivU : R2 := fun x y H Q => match x, y with
  | .int i, .int j => (0 < j ∧ j < 1073741824) ∧ Q (.int (i / j)) H
  | _, _ => False
theorem uDiv : OpR X (binaryOp .FloorDiv) rDivU := by
  intro pins s σ H x y v u Q I rx ry h
  cases x <;> cases y <;> first | exact h.elim | exact op_fdiv pins s σ H _ _ v u Q I rx ry ⟨_, _, rfl, rfl, h.1, h.2⟩
def rPowU : R2 := fun x y H Q => match x, y with
  | .int i, .int j => CPow i j ∧ Q (.int (i ^ j.toNat)) H
  | _, _ => False
theorem uPow : OpR X (binaryOp .Pow) rPowU := by
  intro pins s σ H x y v u Q I rx ry h
  cases x <;> cases y <;> first | exact h.elim | exact op_pow pins s σ H _ _ v u Q I rx ry ⟨_, _, rfl, rfl, h.1, h.2⟩

/-! ### < <= > >= -/
def rLtU : R2 := fun x y H Q => match x, y with
  | .int i, .int j => Q (.bl (decide (i < j))) H
  | .str a, .str b => Q (.bl (decide (a.cps.toList < b.cps.toList))) H
  | _, _ => False
theorem uLt : OpR X (compareOp .Lt) rLtU := by
  intro pins s σ H x y v u Q I rx ry h
  cases x <;> cases y <;> first | exact h.elim | exact op_lt pins s σ H _ _ v u Q I rx ry ⟨_, _, rfl, rfl, h⟩ | exact op_lt_str pins s σ H _ _ v u Q I rx ry ⟨_, _, rfl, rfl, h⟩
def rLeU : R2 := fun x y H Q => match x, y with
  | .int i, .int j => Q (.bl (decide (i ≤ j))) H
  | _, _ => False
theorem uLe : OpR X (compareOp .LtE) rLeU := by
  intro pins s σ H x y v u Q I rx ry h
  cases x <;> cases y <;> first | exact h.elim | exact op_le pins s σ H _ _ v u Q I rx ry ⟨_, _, rfl, rfl, h⟩
def rGtU : R2 := fun x y H Q => match x, y with
  | .int i, .int j => Q (.bl (decide (j < i))) H
  | _, _ => False
theorem uGt : OpR X (compareOp .Gt) rGtU := by
  intro pins s σ H x y v u Q I rx ry h
  cases x <;> cases y <;> first | exact h.elim | exact op_gt pins s σ H _ _ v u Q I rx ry ⟨_, _, rfl, rfl, h⟩
def rGeU : R2 := fun x y H Q => match x, y with
  | .int i, .int j => Q (.bl (decide (j ≤ i))) H
  | _, _ => False
theorem uGe : OpR X (compareOp .GtE) rGeU := by
  intro pins s σ H x y v u Q I rx ry h
  cases x <;> cases y <;> first | exact h.elim | exact op_ge pins s σ H _ _ v u Q I rx ry ⟨_, _, rfl, rfl, h⟩

/-! ### == != is, is not -/
/-- == of any two: what is told of them is data -/
def eqB (x y : V) : Option Bool := match x, y with
  | .int i, .int j => some (decide (i = j))
  | .str a, .str b => some (decide (a = b))
  | .bl a, .bl b => some (decide (a = b))
  | .non, .non => some true
  | .int _, .str _ => some false
  | .str _, .int _ => some false
  | .non, .str _ => some false
  | .str _, .non => some false
  | .non, .int _ => some false
  | .int _, .non => some false
  | .bl _, .str _ => some false
  | .str _, .bl _ => some false
  | .bl _, .non => some false
  | .non, .bl _ => some false
  | _, _ => none
theorem eqB_scal {x y : V} {b : Bool} (h : eqB x y = some b) : scal x y = true ∧ decide (x = y) = b := by
  cases x <;> cases y <;> simp_all [eqB, scal]
def rEqU (K : PySem.W.Frag) : R2 := fun x y H Q => match eqB x y with
  | some b => Q (.bl b) H
  | none => rEqD K x y H Q
def rNeU (K : PySem.W.Frag) : R2 := fun x y H Q => match eqB x y with
  | some b => Q (.bl (!b)) H
  | none => rNeD K x y H Q
theorem uEq' (hu : X.A.units + 64 < cLine) : OpR X (compareOp .Eq) (rEqU X.K) := by
  intro pins s σ H x y v u Q I rx ry h
  unfold rEqU at h
  cases e : eqB x y with
  | some b =>
    rw [e] at h
    obtain ⟨z1, z2⟩ := eqB_scal e
    exact op_eq pins s σ H _ _ v u Q I rx ry ⟨z1, by rw [z2]; exact h⟩
  | none =>
    rw [e] at h
    exact op_eqD hu pins s σ H _ _ v u Q I rx ry h
theorem uNe' (hu : X.A.units + 64 < cLine) : OpR X (compareOp .NotEq) (rNeU X.K) := by
  intro pins s σ H x y v u Q I rx ry h
  unfold rNeU at h
  cases e : eqB x y with
  | some b =>
    rw [e] at h
    obtain ⟨z1, z2⟩ := eqB_scal e
    exact op_ne pins s σ H _ _ v u Q I rx ry ⟨z1, by rw [z2]; exact h⟩
  | none =>
    rw [e] at h
    exact op_neD hu pins s σ H _ _ v u Q I rx ry h
def rIsU : R2 := fun x y H Q => match y with
  | .non => Q (.bl (decide (x = .non))) H
  | .bl b => ∃ a, x = .bl a ∧ Q (.bl (decide (a = b))) H
  | _ => False
theorem uIs : OpR X (compareOp .Is) rIsU := by
  intro pins s σ H x y v u Q I rx ry h
  cases y <;> first | exact h.elim | exact op_isN pins s σ H _ _ v u Q I rx ry ⟨rfl, h⟩ | skip
  obtain ⟨a, rfl, h⟩ := h
  exact op_isBl pins s σ H _ _ v u Q I rx ry ⟨_, _, rfl, rfl, h⟩
def rIsNotU : R2 := fun x y H Q => match y with
  | .non => Q (.bl (!decide (x = .non))) H
  | .bl b => ∃ a, x = .bl a ∧ Q (.bl (!decide (a = b))) H
  | _ => False
theorem uIsNot : OpR X (compareOp .IsNot) rIsNotU := by
  intro pins s σ H x y v u Q I rx ry h
  cases y <;> first | exact h.elim | exact op_notN pins s σ H _ _ v u Q I rx ry ⟨rfl, h⟩ | skip
  obtain ⟨a, rfl, h⟩ := h
  exact op_notBl pins s σ H _ _ v u Q I rx ry ⟨_, _, rfl, rfl, h⟩

/-! ### in, not in: lists and tuples -/
def rInU (K : PySem.W.Frag) : R2 := fun x y H Q => match y with
  | .ref p => ∃ xs, (SqL K H p xs ∨ SqT K H p xs) ∧ ((flatV x = true ∧ xs.all flatV = true ∧ Q (.bl (inV x xs)) H))
  | _ => False
theorem uIn : OpR X (compareOp .In) (rInU X.K) := by
  intro pins s σ H x y v u Q I rx ry h
  cases y <;> first | exact h.elim | skip
  obtain ⟨xs, h1, h2, h3, h4⟩ := h
  exact op_in_seq pins s σ H _ _ v u Q I rx ry ⟨_, xs, rfl, h1, h2, h3, h4⟩
def rNotInU (K : PySem.W.Frag) : R2 := fun x y H Q => match y with
  | .ref p => ∃ xs, (SqL K H p xs ∨ SqT K H p xs) ∧ ((flatV x = true ∧ xs.all flatV = true ∧ Q (.bl (!inV x xs)) H))
  | _ => False
theorem uNotIn : OpR X (compareOp .NotIn) (rNotInU X.K) := by
  intro pins s σ H x y v u Q I rx ry h
  cases y <;> first | exact h.elim | skip
  obtain ⟨xs, h1, h2, h3, h4⟩ := h
  exact op_notIn_seq pins s σ H _ _ v u Q I rx ry ⟨_, xs, rfl, h1, h2, h3, h4⟩

/-! ### o[i], o[a:b] -/
def rIxU (K : PySem.W.Frag) : R2 := fun x y H Q => match x, y with
  | .str z, .int i => z.length ≤ sizeLine ∧ ∃ c, atI z.cps.toList i = some c ∧ Q (.str ⟨#[c]⟩) H
  | .ref p, .int i => ∃ xs, (SqL K H p xs ∨ SqT K H p xs) ∧ ∃ v, atI xs i = some v ∧ Q v H
  | _, _ => False
theorem uIx : IxR X (rIxU X.K) := by
  intro a b pins s σ H x y v u Q I rx ry h hs
  cases x <;> cases y <;> first | exact h.elim | skip
  · obtain ⟨h1, c, h2, h3⟩ := h
    exact ix_str a b pins s σ H _ _ v u Q I rx ry ⟨_, _, c, rfl, rfl, h1, h2, h3⟩ hs
  · obtain ⟨xs, h1 | h1, w', h2, h3⟩ := h
    · exact ix_list a b pins s σ H _ _ v u Q I rx ry ⟨_, xs, _, w', rfl, rfl, h1, h2, h3⟩ hs
    · exact ix_tup a b pins s σ H _ _ v u Q I rx ry ⟨_, xs, _, w', rfl, rfl, h1, h2, h3⟩ hs
end
end U

/-! slices, built-in functions by the values that come -/
namespace U
open PySem PySem.Spec PyProof.Rows L2
section
variable {X : Cx}
/-! ### slices -/
def rSlU (K : PySem.W.Frag) : V → Option Int → Option Int → Hp → VK → Prop := fun x lo hi H Q => match x with
  | .str z => z.length ≤ sizeLine ∧ Q (.str (cutS z lo hi)) H
  | .ref a => (∃ xs, SqL K H a xs ∧ nL (cutV xs lo hi) H Q) ∨ rSlA K (.ref a) lo hi H Q
  | _ => False
theorem uSl : SlR X (rSlU X.K) := by
  intro pins s σ H x v vl vu lo hi sl Q I rx hs pl pu h
  cases x <;> first | exact h.elim | skip
  · exact sl_str pins s σ H _ v vl vu lo hi sl Q I rx hs pl pu ⟨_, rfl, h.1, h.2⟩
  · rcases h with ⟨xs, h1, h2⟩ | h
    · exact sl_list pins s σ H _ v vl vu lo hi sl Q I rx hs pl pu ⟨_, xs, rfl, h1, h2⟩
    · exact sl_tupA pins s σ H _ v vl vu lo hi sl Q I rx hs pl pu h

/-! ### len, abs, max, min, int, list, tuple -/
def rLenU (K : PySem.W.Frag) : List V → Hp → VK → Prop := fun xs H Q => match xs with
  | [.str z] => z.length ≤ sizeLine ∧ Q (.int z.length) H
  | [.ref p] => (∃ ys, (SqL K H p ys ∨ SqT K H p ys) ∧ Q (.int ys.length) H) ∨ ∃ kvs, H p = some (.dK kvs) ∧ Q (.int kvs.length) H
  | _ => False
theorem cLen : CallR X (.builtin "len") (rLenU X.K) := by
  intro pins s σ H xs us Q I r h
  match xs, h with
  | [.str z], h => exact call_len_str pins s σ H _ us Q I r ⟨z, rfl, h.1, h.2⟩
  | [.ref p], .inl ⟨ys, h1, h2⟩ => exact call_len_seq pins s σ H _ us Q I r ⟨p, ys, rfl, h1, h2⟩
  | [.ref p], .inr ⟨kvs, h1, h2⟩ => exact call_lenD pins s σ H _ us Q I r ⟨p, kvs, rfl, h1, h2⟩
def rAbsU : List V → Hp → VK → Prop := fun xs H Q => match xs with
  | [.int i] => Q (.int (i.natAbs : Int)) H
  | _ => False
theorem cAbs : CallR X (.builtin "abs") rAbsU := by
  intro pins s σ H xs us Q I r h
  match xs, h with
  | [.int i], h =>
    refine call_abs pins s σ H _ us Q I r ⟨i, rfl, ?_⟩
    have e : (if i < 0 then -i else i) = (i.natAbs : Int) := by split <;> omega
    rw [e]
    exact h
def rMaxU : List V → Hp → VK → Prop := fun xs H Q => match xs with
  | [.int i, .int j] => Q (.int (max i j)) H
  | _ => False
theorem cMax (hc : X.calm = true) : CallR X (.builtin "max") rMaxU := by
  intro pins s σ H xs us Q I r h
  match xs, h with
  | [.int i, .int j], h =>
    refine call_max2 hc pins s σ H _ us Q I r ⟨i, j, rfl, ?_⟩
    have e : (if j > i then j else i) = max i j := by split <;> omega
    rw [e]
    exact h
def rMinU : List V → Hp → VK → Prop := fun xs H Q => match xs with
  | [.int i, .int j] => Q (.int (min i j)) H
  | _ => False
theorem cMin (hc : X.calm = true) : CallR X (.builtin "min") rMinU := by
  intro pins s σ H xs us Q I r h
  match xs, h with
  | [.int i, .int j], h =>
    refine call_min2 hc pins s σ H _ us Q I r ⟨i, j, rfl, ?_⟩
    have e : (if j < i then j else i) = min i j := by split <;> omega
    rw [e]
    exact h
def bToI (k : Bool) : Int := if k then 1 else 0
def rIntU : List V → Hp → VK → Prop := fun xs H Q => match xs with
  | [.int i] => Q (.int i) H
  | [.bl k] => Q (.int (bToI k)) H
  | _ => False
theorem cInt : CallR X (.type "int") rIntU := by
  intro pins s σ H xs us Q I r h
  match xs, h with
  | [.int i], h => exact call_int1 pins s σ H _ us Q I r (.inl ⟨i, rfl, h⟩)
  | [.bl k], h => exact call_int1 pins s σ H _ us Q I r (.inr ⟨k, rfl, h⟩)
def rListU (K : PySem.W.Frag) : List V → Hp → VK → Prop := fun xs H Q => match xs with
  | [.ref p] => (∃ ys, (SqL K H p ys ∨ SqT K H p ys) ∧ nL ys H Q) ∨ ∃ kvs : List (Key × V), Rd H p (.dK kvs) ∧ nL (kvs.map fun kv => kV kv.1) H Q
  | _ => False
theorem cList (hc : X.calm = true) : CallR X (.type "list") (rListU X.K) := by
  intro pins s σ H xs us Q I r h
  match xs, h with
  | [.ref p], .inl ⟨ys, h1, h2⟩ => exact call_list_of pins s σ H _ us Q I r ⟨p, ys, rfl, h1, h2⟩
  | [.ref p], .inr ⟨kvs, h1, h2⟩ => exact call_listD hc pins s σ H _ us Q I r ⟨p, kvs, rfl, h1, h2⟩
def rTupleU (K : PySem.W.Frag) : List V → Hp → VK → Prop := fun xs H Q => match xs with
  | [.ref p] => (∃ ys, SqL K H p ys ∧ nT ys H Q) ∨ ((∃ ys, SqT K H p ys) ∧ Q (.ref p) H)
  | _ => False
theorem cTuple : CallR X (.type "tuple") (rTupleU X.K) := by
  intro pins s σ H xs us Q I r h
  match xs, h with
  | [.ref p], .inl ⟨ys, h1, h2⟩ => exact call_tuple_of pins s σ H _ us Q I r ⟨p, ys, rfl, .inl ⟨h1, h2⟩⟩
  | [.ref p], .inr ⟨⟨ys, h1⟩, h2⟩ => exact call_tuple_of pins s σ H _ us Q I r ⟨p, ys, rfl, .inr ⟨h1, h2⟩⟩
def rDictU : List V → Hp → VK → Prop := fun xs H Q => match xs with
  | [.ref p] => ∃ kvs : List (Key × V), Rd H p (.dK kvs) ∧ ∀ d, H d = none → Q (.ref d) (upd H d (.dK kvs))
  | _ => False
theorem cDict : CallR X (.type "dict") rDictU := by
  intro pins s σ H xs us Q I r h
  match xs, h with
  | [.ref p], ⟨kvs, h1, h2⟩ => exact call_dictD pins s σ H _ us Q I r ⟨p, kvs, rfl, h1, h2⟩

def rAllU (K : PySem.W.Frag) : List V → Hp → VK → Prop := fun xs H Q => match xs with
  | [.ref p] => ∃ bs : List Bool, SqL K H p (bs.map V.bl) ∧ Q (.bl (bs.all id)) H
  | _ => False
theorem cAll (hc : X.calm = true) : CallR X (.builtin "all") (rAllU X.K) := by
  intro pins s σ H xs us Q I r h
  match xs, h with
  | [.ref p], ⟨bs, h1, h2⟩ => exact cr_all hc pins s σ H _ us Q I r ⟨p, bs, rfl, h1, h2⟩
/-! ### sorted -/
/-- a < b, of data -/
abbrev dLt (a b : PyData) : Bool := PySem.W.dataLt a b
/-- a list of what may be sorted -/
structure Sorts (K : PySem.W.Frag) (H : Hp) (bs : List (V × PyData)) : Prop where
  dat : ∀ b ∈ bs, Dp K H b.1 b.2
  alk : PySem.W.AllAlike (bs.map (·.2))
  srt : PySem.W.Sortable (bs.map (·.2))
  dep : ∀ b ∈ bs, b.2.depth ≤ 50
  len : bs.length ≤ 100000
def rSortU (K : PySem.W.Frag) : List V → Hp → VK → Prop := fun xs H Q => match xs with
  | [.ref p] => ∃ bs : List (V × PyData), SqL K H p (bs.map (·.1)) ∧ Sorts K H bs ∧
      ∀ cs : List (V × PyData), cs.Perm bs → cs.Pairwise (fun a b => dLt b.2 a.2 = false) → nL (cs.map (·.1)) H Q
  | _ => False
theorem each_vals : ∀ {bs : List (V × PyData)} {us : List Value}, Vals (bs.map (·.1)) us → PySem.W.EachIs (fun u b => RelV b.1 u) us bs
  | [], _, r => by
    cases r
    exact .nil
  | b :: bs, _, r => by
    cases r with
    | cons r1 r2 => exact .cons r1 (each_vals r2)
theorem vals_each : ∀ {bs : List (V × PyData)} {us : List Value}, PySem.W.EachIs (fun u b => RelV b.1 u) us bs → Vals (bs.map (·.1)) us
  | [], _, r => by
    cases r
    exact .nil
  | b :: bs, _, r => by
    cases r with
    | cons r1 r2 => exact .cons r1 (vals_each r2)
theorem each_reads {pins : List (Addr × Obj)} {σ : L2.St} {H : Hp} {s : Shared} (I : Inv X pins σ H s) : ∀ {bs : List (V × PyData)} {us : List Value}, (∀ b ∈ bs, Dp X.K H b.1 b.2) → Vals (bs.map (·.1)) us → PySem.W.EachIs (fun u b => ∃ as, Reads s.heap u b.2 as) us bs
  | [], _, _, r => by
    cases r
    exact .nil
  | b :: bs, _, h, r => by
    cases r with
    | cons r1 r2 => exact .cons (Dp.reads I _ _ _ (h b List.mem_cons_self) r1) (each_reads I (fun c hc => h c (List.mem_cons_of_mem _ hc)) r2)
theorem cSorted (hu : X.A.units + 64 < cLine) : CallR X (.builtin "sorted") (rSortU X.K) := by
  intro pins s σ H xs us Q I r h
  match xs, h with
  | [.ref p], ⟨bs, hs, S, q⟩ =>
    cases r with
    | cons r rr =>
      cases rr
      cases r
      obtain ⟨its, rv, pl, hz⟩ := I.list hs
      have e1 := each_vals rv
      have hb : ∀ b, b ∈ bs → X.A.units + 2 + b.2.depth < cLine := fun b hb => by
        have := S.dep b hb
        omega
      refine PySem.W.sorted_data (vs := its) (bs := bs) (enc := fun b : V × PyData => b.2) (R := fun u b => RelV b.1 u) pl.isList e1 (each_reads I S.dat rv) S.alk S.srt ?_ hb ?_
      · rw [List.length_map] at hz
        exact hz
      · intro out ol oe
        have perm : (bs.mergeSort (PySem.W.dataLe false fun b : V × PyData => b.2)).Perm bs := List.mergeSort_perm _ _
        have srt : (bs.mergeSort (PySem.W.dataLe false fun b : V × PyData => b.2)).Pairwise (fun a b => dLt b.2 a.2 = false) :=
          (PySem.W.sort_pairwise (PySem.W.sortLe_total _ _ _) bs).imp fun {a b} z => by
            have z' : (!dLt b.2 a.2) = true := z
            simpa using z'
        generalize bs.mergeSort (PySem.W.dataLe false fun b : V × PyData => b.2) = cs at perm srt oe
        have rv2 := vals_each oe
        have hfr : s.heap.objs.size ≤ s.heap.objs.size + 1 := Nat.le_succ _
        obtain ⟨e, he⟩ := sortedAll_at s.heap its out.toArray
        have new : ObjOk X.prog X.w (upd H (s.heap.objs.size + 1) (.lst (cs.map (·.1)))) (sortedAll s.heap its out.toArray) (s.heap.objs.size + 1) (.lst (cs.map (·.1))) :=
          ⟨by rw [List.length_map, perm.length_eq]; rw [List.length_map] at hz; exact hz, out, e, rv2, he⟩
        exact ⟨.ref (s.heap.objs.size + 1), _, I.laid (t' := s.toks) (fun b u z => sortedAll_old z) hfr new, rfl, q cs perm srt _ (I.hok.fresh hfr)⟩

/-! ### isinstance of built-in classes -/
inductive Ty where
  | non | bl | int | str | lst | tup | dct
  deriving DecidableEq
def Ty.nm : Ty → String
  | .non => "NoneType"
  | .bl => "bool"
  | .int => "int"
  | .str => "str"
  | .lst => "list"
  | .tup => "tuple"
  | .dct => "dict"
def isT (a b : Ty) : Bool := decide (a = b) || (decide (a = .bl) && decide (b = .int))
theorem isT_ok (a b : Ty) (hb : b ≠ .non) : kitB a.nm b.nm = some (isT a b) := by
  cases a <;> cases b <;> first | exact absurd rfl hb | decide +kernel
/-- a value's class -/
def TyIs (K : PySem.W.Frag) (H : Hp) (x : V) (a : Ty) : Prop := TyX K H x (.type a.nm)
def tyOf : String → Option Ty
  | "bool" => some .bl
  | "int" => some .int
  | "str" => some .str
  | "list" => some .lst
  | "tuple" => some .tup
  | "dict" => some .dct
  | _ => none
theorem tyOf_ok {n : String} {t : Ty} (h : tyOf n = some t) : n = t.nm ∧ t ≠ .non := by
  unfold tyOf at h
  split at h <;> first | (cases h; exact ⟨rfl, by decide⟩) | cases h
def rIsiU (K : PySem.W.Frag) : List V → Hp → VK → Prop := fun xs H Q => match xs with
  | [x, .ty n] => ∃ a t, TyIs K H x a ∧ tyOf n = some t ∧ Q (.bl (isT a t)) H
  | _ => False
theorem cIsi : CallR X (.builtin "isinstance") (rIsiU X.K) := by
  intro pins s σ H xs us Q I r h
  match xs, h with
  | [x, .ty n], ⟨a, t, h1, h2, h3⟩ =>
    obtain ⟨e, hn⟩ := tyOf_ok h2
    exact call_isi pins s σ H _ us Q I r ⟨x, _, _, _, _, rfl, .ty n, h1, kit_ty (by rw [e]; exact isT_ok a t hn), h3⟩
theorem ty_str {K : PySem.W.Frag} {H : Hp} {x : Str} : TyIs K H (.str x) .str := .base (.str x)
theorem ty_int {K : PySem.W.Frag} {H : Hp} {x : Int} : TyIs K H (.int x) .int := .base (.int x)
theorem ty_bl {K : PySem.W.Frag} {H : Hp} {x : Bool} : TyIs K H (.bl x) .bl := .base (.bl x)
theorem ty_non {K : PySem.W.Frag} {H : Hp} : TyIs K H .non .non := .base .non
theorem ty_lst {K : PySem.W.Frag} {H : Hp} {a : Addr} {xs : List V} (h : H a = some (.lst xs)) : TyIs K H (.ref a) .lst := .base (.lst h)
theorem ty_tup {K : PySem.W.Frag} {H : Hp} {a : Addr} {xs : List V} (h : H a = some (.tup xs)) : TyIs K H (.ref a) .tup := .base (.tup h)
theorem ty_dK {K : PySem.W.Frag} {H : Hp} {a : Addr} {kvs : List (Key × V)} (h : H a = some (.dK kvs)) : TyIs K H (.ref a) .dct := .base (.dK h)
end
end U
namespace U
open PySem PySem.Spec PyProof.Rows L2
/-! the rules with the fragment told: they serve within a comprehension's block -/
section
variable {X : Cx} (K : PySem.W.Frag) (hK : X.K = K)
include hK
theorem kAdd : OpR X (binaryOp .Add) (rAddU K) := hK ▸ uAdd
theorem kEq (hu : X.A.units + 64 < cLine) : OpR X (compareOp .Eq) (rEqU K) := hK ▸ uEq' hu
theorem kNe (hu : X.A.units + 64 < cLine) : OpR X (compareOp .NotEq) (rNeU K) := hK ▸ uNe' hu
theorem kIn : OpR X (compareOp .In) (rInU K) := hK ▸ uIn
theorem kNotIn : OpR X (compareOp .NotIn) (rNotInU K) := hK ▸ uNotIn
theorem kIx : IxR X (rIxU K) := hK ▸ uIx
theorem kSl : SlR X (rSlU K) := hK ▸ uSl
theorem kLen : CallR X (.builtin "len") (rLenU K) := hK ▸ cLen
theorem kList (hc : X.calm = true) : CallR X (.type "list") (rListU K) := hK ▸ cList hc
theorem kTuple : CallR X (.type "tuple") (rTupleU K) := hK ▸ cTuple
theorem kAll (hc : X.calm = true) : CallR X (.builtin "all") (rAllU K) := hK ▸ cAll hc
theorem kSorted (hu : X.A.units + 64 < cLine) : CallR X (.builtin "sorted") (rSortU K) := hK ▸ cSorted hu
theorem kIsi : CallR X (.builtin "isinstance") (rIsiU K) := hK ▸ cIsi
theorem ki_list {tg l : Expr} {tl : TE} (hl : PE X l tl) : PI X tg l (iList K tl) := hK ▸ pi_list hl
theorem ki_tup {tg l : Expr} {tl : TE} (hl : PE X l tl) : PI X tg l (iTup K tl) := hK ▸ pi_tup hl
theorem kg_tup {pos : Pos} {es : List Expr} {k : Nat} {t : TGs} {n : Nat} (hc : X.calm = true) (h : PGs X es t)
    (hn : (assignEach es X.env).length = n := by rfl) (hst : (assignEach es X.env).findIdx? (·.1) = none := by rfl) : PG X (.Tuple es k pos) (gTup K n t) := hK ▸ pg_tup hc h hn hst
end
end U

/-! the readings, step by step: one lemma a form, one word for all that need no thought -/
namespace U
open PySem PySem.Spec PyProof.Rows L2
section
variable {σ : L2.St} {H : Hp} {Q : VK} {D : Ends} {v x y : V} {i j : Int} {a b : Str} {ta tb tc te : TE} {t u : TS} {K : PySem.W.Frag}
theorem rd_seq (h : t { D with nx := u D } σ H) : tSeq t u D σ H := h
theorem rd_var {n : Nat} (e : σ[n]? = some (some v)) (h : Q v H) : tVar n σ H Q := ⟨v, e, h⟩
theorem rd_c (h : Q v H) : tC v σ H Q := h
theorem rd_asg {g : TG} (h : te σ H fun x H1 => g x σ H1 D.nx) : tAsg te g D σ H := h
theorem rd_name {n : Nat} {Q : L2.St → Hp → Prop} (h : Q (σ.set n (some v)) H) : gName n v σ H Q := h
theorem rd_ret (h : te σ H D.rt) : tRet te D σ H := h
theorem rd_retN (h : D.rt .non H) : tRetN D σ H := h
theorem rd_drop (h : te σ H fun _ H1 => D.nx σ H1) : tDrop te D σ H := h
theorem rd_next (h : D.nx σ H) : tNext D σ H := h
theorem rd_if {c : TT} (h : c σ H fun b H1 => if b = true then t D σ H1 else u D σ H1) : tIfS c t u D σ H := h
theorem rd_break (h : D.bk σ H) : tBreak D σ H := h
theorem rd_cont (h : D.ct σ H) : tCont D σ H := h
theorem rd_op {r : R2} (h : ta σ H fun x H1 => tb σ H1 fun y H2 => r x y H2 Q) : tOp r ta tb σ H Q := h
theorem rd_test {Q : Bool → Hp → Prop} (h : te σ H fun x H1 => ∃ k, x = .bl k ∧ Q k H1) : tTest te σ H Q := h
theorem rd_B {Q : Bool → Hp → Prop} (h : te σ H fun x H1 => ∃ k, x = .bl k ∧ Q k H1) : tB te σ H Q := h
theorem rd_bl {Q : Bool → Prop} {k : Bool} (h : Q k) : ∃ c, V.bl k = .bl c ∧ Q c := ⟨k, rfl, h⟩
theorem rd_chain {r r' : R2} (h : ta σ H fun x H1 => tb σ H1 fun y H2 => r x y H2 fun z H3 => ∃ k, z = .bl k ∧ (if k = true then tc σ H3 fun w' H4 => r' y w' H4 Q else Q (.bl false) H3)) : tChain r r' ta tb tc σ H Q := h
theorem rd_nil {Q : List V → Hp → Prop} (h : Q [] H) : tNil σ H Q := h
theorem rd_cons {tr : TA} {Q : List V → Hp → Prop} (h : ta σ H fun x H1 => tr σ H1 fun xs H2 => Q (x :: xs) H2) : tCons ta tr σ H Q := h
theorem rd_cb {r : List V → Hp → VK → Prop} {tr : TA} (h : tr σ H fun vs H1 => r vs H1 Q) : tCB r tr σ H Q := h
theorem rd_c1 {sp : Sp} {E : XK} {tr : TA} (h : tr σ H fun vs H1 => sp vs H1 Q E) : tC1 sp E tr σ H Q := h
theorem rd_c2 {sp : Sp} {W : WX} {tr : TA} (h : tr σ H fun vs H1 => sp vs H1 Q fun cls d H' => W cls d σ H') : tC2 sp W tr σ H Q := h
theorem rd_lst {tr : TA} (h : tr σ H fun xs H1 => xs.length ≤ sizeLine ∧ nL xs H1 Q) : tLst tr σ H Q := h
theorem rd_tup {tr : TA} (h : tr σ H fun xs H1 => xs.length ≤ sizeLine ∧ nT xs H1 Q) : tTup tr σ H Q := h
theorem rd_sz {xs : List V} {P : Prop} (h : Nat.ble xs.length 1000 = true) (q : P) : xs.length ≤ sizeLine ∧ P :=
  ⟨Nat.le_trans (Nat.le_of_ble_eq_true h) (by decide), q⟩
theorem rd_addI (h : Q (.int (i + j)) H) : rAddU K (.int i) (.int j) H Q := h
theorem rd_subI (h : Q (.int (i - j)) H) : rSubU (.int i) (.int j) H Q := h
theorem rd_mulI (c : CMul i j ∨ CMulW i j) (h : Q (.int (i * j)) H) : rMulU (.int i) (.int j) H Q := ⟨c, h⟩
theorem rd_modI (c : 0 < j) (h : Q (.int (i % j)) H) : rModU (.int i) (.int j) H Q := ⟨c, h⟩
theorem rd_divI (c : 0 < j ∧ j < 1073741824) (h : Q (.int (i / j)) H) : rDivU (.int i) (.int j) H Q := ⟨c, h⟩
theorem rd_addS (c : a.length + b.length ≤ sizeLine) (h : Q (.str (a ++ b)) H) : rAddU K (.str a) (.str b) H Q := ⟨c, h⟩
theorem rd_ltI (h : Q (.bl (decide (i < j))) H) : rLtU (.int i) (.int j) H Q := h
theorem rd_ltS (h : Q (.bl (decide (a.cps.toList < b.cps.toList))) H) : rLtU (.str a) (.str b) H Q := h
theorem rd_leI (h : Q (.bl (decide (i ≤ j))) H) : rLeU (.int i) (.int j) H Q := h
theorem rd_gtI (h : Q (.bl (decide (j < i))) H) : rGtU (.int i) (.int j) H Q := h
theorem rd_geI (h : Q (.bl (decide (j ≤ i))) H) : rGeU (.int i) (.int j) H Q := h
theorem rd_eqI (h : Q (.bl (decide (i = j))) H) : rEqU K (.int i) (.int j) H Q := h
theorem rd_eqS (h : Q (.bl (decide (a = b))) H) : rEqU K (.str a) (.str b) H Q := h
theorem rd_neI (h : Q (.bl (!decide (i = j))) H) : rNeU K (.int i) (.int j) H Q := h
theorem rd_neS (h : Q (.bl (!decide (a = b))) H) : rNeU K (.str a) (.str b) H Q := h
theorem rd_is (h : Q (.bl (decide (x = .non))) H) : rIsU x .non H Q := h
theorem rd_isNot (h : Q (.bl (!decide (x = .non))) H) : rIsNotU x .non H Q := h
theorem rd_absI (h : Q (.int (i.natAbs : Int)) H) : rAbsU [.int i] H Q := h
theorem rd_maxI (h : Q (.int (max i j)) H) : rMaxU [.int i, .int j] H Q := h
theorem rd_minI (h : Q (.int (min i j)) H) : rMinU [.int i, .int j] H Q := h
theorem rd_intI (h : Q (.int i) H) : rIntU [.int i] H Q := h
theorem rd_intB {k : Bool} (h : Q (.int (bToI k)) H) : rIntU [.bl k] H Q := h
theorem rd_neg {g : Int → Int} (h : Q (.int (g i)) H) : rU (fun i => .int (g i)) (.int i) H Q := ⟨i, rfl, h⟩
theorem rd_sub {to ti : TE} {t : TSet} {Q : L2.St → Hp → Prop} (h : to σ H fun o H1 => ti σ H1 fun i H2 => t o i v H2 fun H3 => Q σ H3) : gSub to ti t v σ H Q := h
theorem rd_and {t u : TT} {Q : Bool → Hp → Prop} (h : t σ H fun c H1 => if c = true then u σ H1 Q else Q false H1) : tAnd t u σ H Q := h
theorem rd_or {t u : TT} {Q : Bool → Hp → Prop} (h : t σ H fun c H1 => if c = true then Q true H1 else u σ H1 Q) : tOr t u σ H Q := h
theorem rd_not {t : TT} {Q : Bool → Hp → Prop} (h : t σ H fun c H1 => Q (!c) H1) : tNot t σ H Q := h
theorem rd_andV (h : ta σ H fun x H1 => ∃ c, x = .bl c ∧ if c = true then tb σ H1 Q else Q (.bl false) H1) : tAndV ta tb σ H Q := h
theorem rd_orV (h : ta σ H fun x H1 => ∃ c, x = .bl c ∧ if c = true then Q (.bl true) H1 else tb σ H1 Q) : tOrV ta tb σ H Q := h
theorem rd_notV (h : ta σ H fun x H1 => ∃ c, x = .bl c ∧ Q (.bl (!c)) H1) : tNotV ta σ H Q := h
theorem rd_ifE {t : TT} (h : t σ H fun c H1 => if c = true then ta σ H1 Q else tb σ H1 Q) : tIf t ta tb σ H Q := h
theorem rd_T {A B : Prop} (h : A) : if true = true then A else B := by
  rw [if_pos rfl]
  exact h
theorem rd_F {A B : Prop} (h : B) : if false = true then A else B := by
  rw [if_neg Bool.false_ne_true]
  exact h
/-- a test that is known -/
theorem rd_yes {c : Prop} {_ : Decidable c} {A B : Prop} (hc : c) (h : A) : if decide c = true then A else B := by
  rw [if_pos (decide_eq_true hc)]
  exact h
theorem rd_no {c : Prop} {_ : Decidable c} {A B : Prop} (hc : ¬ c) (h : B) : if decide c = true then A else B := by
  rw [if_neg (by rw [decide_eq_false hc]; exact Bool.false_ne_true)]
  exact h
theorem rd_nyes {c : Prop} {_ : Decidable c} {A B : Prop} (hc : ¬ c) (h : A) : if (!decide c) = true then A else B := by
  rw [if_pos (by rw [decide_eq_false hc]; rfl)]
  exact h
theorem rd_nno {c : Prop} {_ : Decidable c} {A B : Prop} (hc : c) (h : B) : if (!decide c) = true then A else B := by
  rw [if_neg (by rw [decide_eq_true hc]; exact Bool.false_ne_true)]
  exact h
theorem rd_split {c : Prop} {_ : Decidable c} {A B : Prop} (h1 : c → A) (h2 : ¬ c → B) : if decide c = true then A else B := by
  by_cases h : c
  · exact rd_yes h (h1 h)
  · exact rd_no h (h2 h)
theorem rd_nsplit {c : Prop} {_ : Decidable c} {A B : Prop} (h1 : ¬ c → A) (h2 : c → B) : if (!decide c) = true then A else B := by
  by_cases h : c
  · exact rd_nno h (h2 h)
  · exact rd_nyes h (h1 h)
theorem rd_b {c : Bool} {A B : Prop} (h1 : c = true → A) (h2 : c = false → B) : if c = true then A else B := by
  cases c with
  | true => exact rd_T (h1 rfl)
  | false => exact rd_F (h2 rfl)
/-- an item of a list, a tuple -/
theorem rd_ixL {p : Addr} {xs : List V} (hs : SqL K H p xs) (hv : atI xs i = some v) (h : Q v H) : rIxU K (.ref p) (.int i) H Q := ⟨xs, .inl hs, v, hv, h⟩
theorem rd_ixT {p : Addr} {xs : List V} (hs : SqT K H p xs) (hv : atI xs i = some v) (h : Q v H) : rIxU K (.ref p) (.int i) H Q := ⟨xs, .inr hs, v, hv, h⟩
theorem rd_ixS {c : Nat} (hz : a.length ≤ 100000) (hv : atI a.cps.toList i = some c) (h : Q (.str ⟨#[c]⟩) H) : rIxU K (.str a) (.int i) H Q := ⟨Nat.le_trans hz (by decide), c, hv, h⟩
theorem rd_lenL {p : Addr} {xs : List V} (hs : SqL K H p xs) (h : Q (.int xs.length) H) : rLenU K [.ref p] H Q := .inl ⟨xs, .inl hs, h⟩
theorem rd_lenT {p : Addr} {xs : List V} (hs : SqT K H p xs) (h : Q (.int xs.length) H) : rLenU K [.ref p] H Q := .inl ⟨xs, .inr hs, h⟩
theorem rd_lenS (hz : a.length ≤ 100000) (h : Q (.int a.length) H) : rLenU K [.str a] H Q := ⟨Nat.le_trans hz (by decide), h⟩
theorem rd_setL {p : Addr} {xs : List V} {n : Nat} {Q : Hp → Prop} (hs : H p = some (.lst xs)) (hi : ixN xs.length i = some n) (h : Q (upd H p (.lst (xs.set n v)))) : rSetL (.ref p) (.int i) v H Q := ⟨p, xs, i, n, rfl, rfl, hs, hi, h⟩
theorem rd_listL {p : Addr} {xs : List V} (hs : SqL K H p xs) (h : nL xs H Q) : rListU K [.ref p] H Q := .inl ⟨xs, .inl hs, h⟩
theorem rd_listT {p : Addr} {xs : List V} (hs : SqT K H p xs) (h : nL xs H Q) : rListU K [.ref p] H Q := .inl ⟨xs, .inr hs, h⟩
theorem rd_tupleL {p : Addr} {xs : List V} (hs : SqL K H p xs) (h : nT xs H Q) : rTupleU K [.ref p] H Q := .inl ⟨xs, hs, h⟩
theorem rd_slS {lo hi : Option Int} (hz : a.length ≤ 100000) (h : Q (.str (cutS a lo hi)) H) : rSlU K (.str a) lo hi H Q := ⟨Nat.le_trans hz (by decide), h⟩
theorem rd_slL {lo hi : Option Int} {p : Addr} {xs : List V} (hs : SqL K H p xs) (h : nL (cutV xs lo hi) H Q) : rSlU K (.ref p) lo hi H Q := .inl ⟨xs, hs, h⟩
theorem rd_sl {tl th : TO} {r : V → Option Int → Option Int → Hp → VK → Prop} (h : te σ H fun x H1 => tl σ H1 fun lo H2 => th σ H2 fun hi H3 => r x lo hi H3 Q) : tSl r te tl th σ H Q := h
theorem rd_noPart {Q : Option Int → Hp → Prop} (h : Q none H) : tNoPart σ H Q := h
theorem rd_part {Q : Option Int → Hp → Prop} (h : te σ H fun x H1 => ∃ i, x = .int i ∧ Q (some i) H1) : tPart te σ H Q := h
theorem rd_exI {Q : Int → Prop} (h : Q i) : ∃ k, V.int i = .int k ∧ Q k := ⟨i, rfl, h⟩
theorem rd_bm {T : String} {r : V → List V → Hp → VK → Prop} {tr : TA} (h : te σ H fun x H1 => tyV K T x H1 ∧ tr σ H1 fun xs H2 => r x xs H2 Q) : tBM K T r te tr σ H Q := h
theorem rd_bm0 {T : String} {r : V → List V → Hp → VK → Prop} (h : te σ H fun x H1 => tyV K T x H1 ∧ r x [] H1 Q) : tBM0 K T r te σ H Q := h
theorem rd_tyL {p : Addr} {xs : List V} {P : Prop} (hs : H p = some (.lst xs)) (h : P) : tyV K "list" (.ref p) H ∧ P := ⟨.inl ⟨rfl, xs, .inl (.inl hs)⟩, h⟩
theorem rd_append {p : Addr} {xs : List V} (hs : H p = some (.lst xs)) (hz : xs.length < 100000) (h : Q .non (upd H p (.lst (xs ++ [v])))) : rAppend (.ref p) [v] H Q :=
  ⟨p, xs, v, rfl, rfl, hs, Nat.lt_of_lt_of_le hz (by decide), h⟩
theorem mul_bI {i : Int} {b : Bool} : CMul i (bToI b) ∨ CMulW i (bToI b) := .inl (.inr (by cases b <;> decide))
theorem rd_powI (c : CPow i j) (h : Q (.int (i ^ j.toNat)) H) : rPowU (.int i) (.int j) H Q := ⟨c, h⟩
/-! heaps -/
theorem new_ne {p q : Addr} {o : HO} (h : upd H p o q = none) : q ≠ p := fun e => by
  rw [e, upd_same] at h
  cases h
theorem new_old {p q : Addr} {o : HO} (h : upd H p o q = none) : H q = none := by
  rw [upd_ne (new_ne h)] at h
  exact h
theorem at_upd {p q : Addr} {o u : HO} (n : q ≠ p) (h : H q = some u) : upd H p o q = some u := (upd_ne n).trans h
theorem no_upd {p q : Addr} {o : HO} (n : q ≠ p) (h : H q = none) : upd H p o q = none := (upd_ne n).trans h
/-- all that is tracked stays, but the object at p -/
def But (p : Addr) (H H' : Hp) : Prop := ∀ b o, b ≠ p → H b = some o → H' b = some o
theorem But.refl {p : Addr} : But p H H := fun _ _ _ h => h
theorem But.trans {p : Addr} {H1 H2 : Hp} (a : But p H H1) (b : But p H1 H2) : But p H H2 := fun c o n h => b c o n (a c o n h)
theorem But.of_same {p : Addr} {H1 : Hp} (a : Same H H1) : But p H H1 := fun c o _ h => a c o h
theorem But.upd {p : Addr} {o : HO} : But p H (upd H p o) := fun _ _ n h => at_upd n h
theorem But.new {p q : Addr} {o : HO} (h : H q = none) : But p H (L2.upd H q o) := fun _ _ _ e => at_upd (ne_of_none e h) e
theorem Same.new {q : Addr} {o : HO} (h : H q = none) : Same H (L2.upd H q o) := fun _ _ e => at_upd (ne_of_none e h) e
theorem But.free {p q : Addr} {H1 : Hp} (a : But p H H1) (n : q ≠ p) (h : H1 q = none) : H q = none := by
  cases e : H q with
  | none => rfl
  | some o =>
    rw [a q o n e] at h
    cases h
theorem new_of_same {q : Addr} {H1 : Hp} (a : Same H H1) (h : H1 q = none) : H q = none := a.free h
theorem Same.seqT {H' : Hp} {a : Addr} {xs : List V} (e : Same H H') (h : SqT K H a xs) : SqT K H' a xs := by
  rcases h with (h | ⟨o, h⟩) | h
  · exact .inl (.inl (e _ _ h))
  · exact .inl (.inr ⟨o, e _ _ h⟩)
  · exact .inr h
theorem But.seqT {p : Addr} {H' : Hp} {a : Addr} {xs : List V} (e : But p H H') (n : ∃ ys, H p = some (.lst ys)) (h : SqT K H a xs) : SqT K H' a xs := by
  obtain ⟨ys, hy⟩ := n
  rcases h with (h | ⟨o, h⟩) | h
  · exact .inl (.inl (e _ _ (ne_of h hy (by intro z; cases z)) h))
  · exact .inl (.inr ⟨o, e _ _ (ne_of h hy (by intro z; cases z)) h⟩)
  · exact .inr h
theorem rd_un {r : V → Hp → VK → Prop} (h : ta σ H fun x H1 => r x H1 Q) : tUn r ta σ H Q := h
end
local macro_rules | `(tactic| wtm_at "rd1") => `(tactic| first
  | with_reducible refine rd_seq ?_
  | ((with_reducible refine rd_var (v := ?vv) ?hv ?_); (case hv => exact rfl))
  | with_reducible refine rd_c ?_
  | with_reducible refine rd_cons ?_
  | with_reducible refine rd_nil ?_
  | with_reducible refine rd_op ?_
  | with_reducible refine rd_asg ?_
  | with_reducible refine rd_name ?_
  | with_reducible refine rd_c1 ?_
  | with_reducible refine rd_cb ?_
  | with_reducible refine rd_test ?_
  | with_reducible refine rd_B ?_
  | with_reducible refine rd_bl ?_
  | with_reducible refine rd_if ?_
  | with_reducible refine rd_ret ?_
  | with_reducible refine rd_drop ?_
  | with_reducible refine rd_next ?_
  | with_reducible refine rd_addI ?_
  | with_reducible refine rd_ltI ?_
  | with_reducible refine rd_eqI ?_
  | with_reducible refine rd_neI ?_
  | with_reducible refine rd_eqS ?_
  | with_reducible refine rd_neS ?_
  | with_reducible refine rd_gtI ?_
  | with_reducible refine rd_geI ?_
  | with_reducible refine rd_leI ?_
  | with_reducible refine rd_ltS ?_
  | with_reducible refine rd_subI ?_
  | ((with_reducible refine rd_modI ?hc ?_); (case hc => first | decide | omega))
  | ((with_reducible refine rd_mulI ?hc ?_); (case hc => first | exact mul_bI | exact .inl (.inr (by decide)) | exact .inl (.inl (by decide)) | exact .inl (.inr (by omega)) | exact .inl (.inl (by omega))))
  | ((with_reducible refine rd_divI ?hc ?_); (case hc => first | decide | omega))
  | ((with_reducible refine rd_powI ?hc ?_); (case hc => exact ⟨by decide, by decide, by decide⟩))
  | with_reducible refine rd_lst ?_
  | with_reducible refine rd_tup ?_
  | ((with_reducible refine rd_sz ?hv ?_); (case hv => exact rfl))
  | with_reducible refine rd_and ?_
  | with_reducible refine rd_or ?_
  | with_reducible refine rd_not ?_
  | with_reducible refine rd_andV ?_
  | with_reducible refine rd_orV ?_
  | with_reducible refine rd_notV ?_
  | with_reducible refine rd_ifE ?_
  | with_reducible refine rd_T ?_
  | with_reducible refine rd_F ?_
  | with_reducible refine rd_chain ?_
  | with_reducible refine rd_is ?_
  | with_reducible refine rd_isNot ?_
  | with_reducible refine rd_absI ?_
  | with_reducible refine rd_maxI ?_
  | with_reducible refine rd_minI ?_
  | with_reducible refine rd_intI ?_
  | with_reducible refine rd_intB ?_
  | with_reducible refine rd_sub ?_
  | with_reducible refine rd_sl ?_
  | with_reducible refine rd_noPart ?_
  | with_reducible refine rd_part ?_
  | with_reducible refine rd_exI ?_
  | with_reducible refine rd_bm ?_
  | with_reducible refine rd_bm0 ?_
  | with_reducible refine rd_un ?_
  | with_reducible refine rd_neg ?_
  | with_reducible refine rd_c2 ?_
  | with_reducible refine rd_retN ?_
  | with_reducible refine rd_break ?_
  | with_reducible refine rd_cont ?_)
local macro_rules | `(tactic| wtm_at "rd") => `(tactic| repeat wtm_at "rd1")
end U

/-! texts in order, names -/
namespace U
open PySem PySem.Spec PyProof.Rows L2
/-- the order of texts -/
def sLt (a b : Str) : Prop := a.cps.toList < b.cps.toList
instance (a b : Str) : Decidable (sLt a b) := inferInstanceAs (Decidable (a.cps.toList < b.cps.toList))
theorem str_ext {a b : Str} (h : a.cps.toList = b.cps.toList) : a = b := by
  obtain ⟨x⟩ := a
  obtain ⟨y⟩ := b
  have e : x = y := Array.toList_inj.mp h
  rw [e]
theorem sLt_irrefl (a : Str) : ¬ sLt a a := List.lt_irrefl _
theorem sLt_trans {a b c : Str} (h : sLt a b) (h' : sLt b c) : sLt a c := List.lt_trans h h'
theorem sLt_asymm {a b : Str} (h : sLt a b) : ¬ sLt b a := fun h' => sLt_irrefl a (sLt_trans h h')
theorem sLt_total {a b : Str} (h : ¬ sLt b a) (n : a ≠ b) : sLt a b := by
  have h1 : a.cps.toList ≤ b.cps.toList := List.not_lt.mp h
  rcases List.le_iff_lt_or_eq.mp h1 with z | z
  · exact z
  · exact absurd (str_ext z) n
theorem sLt_tri (a b : Str) : sLt a b ∨ a = b ∨ sLt b a := by
  by_cases h : sLt b a
  · exact .inr (.inr h)
  · by_cases e : a = b
    · exact .inr (.inl e)
    · exact .inl (sLt_total h e)
/-- strictly upwards -/
abbrev Asc (xs : List Str) : Prop := xs.Pairwise sLt
theorem asc_nodup {xs : List Str} (h : Asc xs) : xs.Nodup := by
  refine List.Pairwise.imp ?_ h
  intro a b z e
  subst e
  exact sLt_irrefl _ z
/-- two lists upwards with the same members are one -/
theorem asc_unique : ∀ {xs ys : List Str}, Asc xs → Asc ys → (∀ z, z ∈ xs ↔ z ∈ ys) → xs = ys
  | [], [], _, _, _ => rfl
  | [], y :: ys, _, _, h => absurd ((h y).mpr List.mem_cons_self) List.not_mem_nil
  | x :: xs, [], _, _, h => absurd ((h x).mp List.mem_cons_self) List.not_mem_nil
  | x :: xs, y :: ys, hx, hy, h => by
    rw [Asc, List.pairwise_cons] at hx hy
    have e : x = y := by
      rcases List.mem_cons.mp ((h x).mp List.mem_cons_self) with z | z
      · exact z
      · rcases List.mem_cons.mp ((h y).mpr List.mem_cons_self) with z2 | z2
        · exact z2.symm
        · exact absurd (hx.1 _ z2) (sLt_asymm (hy.1 _ z))
    subst e
    have t : xs = ys := asc_unique hx.2 hy.2 fun z => by
      constructor
      · intro hz
        rcases List.mem_cons.mp ((h z).mp (List.mem_cons_of_mem _ hz)) with e | e
        · subst e
          exact absurd (hx.1 _ hz) (sLt_irrefl _)
        · exact e
      · intro hz
        rcases List.mem_cons.mp ((h z).mpr (List.mem_cons_of_mem _ hz)) with e | e
        · subst e
          exact absurd (hy.1 _ hz) (sLt_irrefl _)
        · exact e
    rw [t]
theorem asc_of_sorted {xs : List Str} (h : xs.Pairwise fun a b => ¬ sLt b a) (n : xs.Nodup) : Asc xs := by
  have z : xs.Pairwise fun a b => ¬ sLt b a ∧ a ≠ b := List.Pairwise.and h n
  exact z.imp fun {a b} q => sLt_total q.1 q.2
/-- an edge's order -/
def eLt (a b : Str × Str) : Prop := sLt a.1 b.1 ∨ (a.1 = b.1 ∧ sLt a.2 b.2)
instance (a b : Str × Str) : Decidable (eLt a b) := inferInstanceAs (Decidable (_ ∨ _))
theorem eLt_irrefl (a : Str × Str) : ¬ eLt a a := fun h => h.elim (sLt_irrefl _) fun z => sLt_irrefl _ z.2
theorem eLt_total {a b : Str × Str} (h : ¬ eLt b a) (n : a ≠ b) : eLt a b := by
  rcases sLt_tri a.1 b.1 with z | z | z
  · exact .inl z
  · rcases sLt_tri a.2 b.2 with y | y | y
    · exact .inr ⟨z, y⟩
    · exact absurd (Prod.ext z y) n
    · exact absurd (.inr ⟨z.symm, y⟩) h
  · exact absurd (.inl z) h
abbrev AscE (xs : List (Str × Str)) : Prop := xs.Pairwise eLt
theorem ascE_nodup {xs : List (Str × Str)} (h : AscE xs) : xs.Nodup := by
  refine List.Pairwise.imp ?_ h
  intro a b z e
  subst e
  exact eLt_irrefl _ z
theorem ascE_of_sorted {xs : List (Str × Str)} (h : xs.Pairwise fun a b => ¬ eLt b a) (n : xs.Nodup) : AscE xs := by
  have z : xs.Pairwise fun a b => ¬ eLt b a ∧ a ≠ b := List.Pairwise.and h n
  exact z.imp fun {a b} q => eLt_total q.1 q.2

section
variable {K : PySem.W.Frag} {H : Hp} {Q : VK} {p : Addr}
theorem perm_of_map {α β : Type} {f : α → β} : ∀ {l : List β} {xs : List α}, l.Perm (xs.map f) → ∃ ys : List α, ys.Perm xs ∧ l = ys.map f := by
  intro l xs h
  generalize hm : xs.map f = m at h
  induction h generalizing xs with
  | nil =>
    cases xs with
    | nil => exact ⟨[], .nil, rfl⟩
    | cons _ _ => cases hm
  | cons x hp ih =>
    cases xs with
    | nil => cases hm
    | cons a as =>
      injection hm with h1 h2
      obtain ⟨ys, py, e⟩ := ih h2
      exact ⟨a :: ys, py.cons a, by rw [e, List.map_cons, h1]⟩
  | swap x y l =>
    cases xs with
    | nil => cases hm
    | cons a as =>
      cases as with
      | nil => cases hm
      | cons b bs =>
        injection hm with h1 h2
        injection h2 with h2 h3
        exact ⟨b :: a :: bs, .swap a b bs, by rw [List.map_cons, List.map_cons, h1, h2, h3]⟩
  | trans _ _ ih1 ih2 =>
    obtain ⟨ys, py, e⟩ := ih2 hm
    obtain ⟨zs, pz, e'⟩ := ih1 e.symm
    exact ⟨zs, pz.trans py, e'⟩
/-- sorted(a list of texts) -/
theorem rd_sortS {xs : List Str} (hs : SqL K H p (xs.map V.str)) (hl : xs.length ≤ 100000) (k : ∀ ys : List Str, ys.Perm xs → ys.Pairwise (fun a b => ¬ sLt b a) → nL (ys.map V.str) H Q) : rSortU K [.ref p] H Q := by
  refine ⟨xs.map fun x => (V.str x, PyData.str x), ?_, ⟨?_, ?_, ?_, ?_, ?_⟩, ?_⟩
  · rw [List.map_map]
    exact hs
  · intro b hb
    obtain ⟨x, _, rfl⟩ := List.mem_map.mp hb
    exact .str x
  · rw [List.map_map]
    exact PySem.W.AllAlike.of (enc := PyData.str) fun a b => by simp [PySem.W.alike]
  · rw [List.map_map]
    exact PySem.W.Sortable.others (enc := PyData.str) fun b => ⟨by simp, by simp⟩
  · intro b hb
    obtain ⟨x, _, rfl⟩ := List.mem_map.mp hb
    simp [PyData.depth]
  · rw [List.length_map]
    omega
  · intro cs pc sc
    obtain ⟨ys, py, rfl⟩ := perm_of_map pc
    rw [List.map_map]
    refine k ys py ?_
    rw [List.pairwise_map] at sc
    refine sc.imp fun {a b} z h => ?_
    have z' : PySem.W.dataLt (PyData.str b) (PyData.str a) = false := z
    rw [PySem.W.dataLt_str] at z'
    exact of_decide_eq_false z' h
/-- sorted(a list of pairs of texts): e is the pair's place, then the two -/
theorem rd_sortE {xs : List (Addr × Str × Str)} (hs : SqL K H p (xs.map fun e => V.ref e.1)) (ht : ∀ e ∈ xs, SqT K H e.1 [.str e.2.1, .str e.2.2]) (hl : xs.length ≤ 100000)
    (k : ∀ ys : List (Addr × Str × Str), ys.Perm xs → ys.Pairwise (fun a b => ¬ eLt b.2 a.2) → nL (ys.map fun e => V.ref e.1) H Q) : rSortU K [.ref p] H Q := by
  refine ⟨xs.map fun e => (V.ref e.1, PyData.tuple [.str e.2.1, .str e.2.2]), ?_, ⟨?_, ?_, ?_, ?_, ?_⟩, ?_⟩
  · rw [List.map_map]
    exact hs
  · intro b hb
    obtain ⟨x, hx, rfl⟩ := List.mem_map.mp hb
    exact .tup (ht x hx) (.cons (.str _) (.cons (.str _) .nil))
  · rw [List.map_map]
    exact PySem.W.AllAlike.of (enc := fun e : Addr × Str × Str => PyData.tuple [.str e.2.1, .str e.2.2]) fun a b => by simp [PySem.W.alike, PySem.W.alikeAll]
  · rw [List.map_map]
    exact PySem.W.Sortable.tuples (enc := fun e : Addr × Str × Str => PyData.tuple [.str e.2.1, .str e.2.2]) fun b => ⟨_, _, rfl⟩
  · intro b hb
    obtain ⟨x, _, rfl⟩ := List.mem_map.mp hb
    simp [PyData.depth, PyData.depthAll]
  · rw [List.length_map]
    omega
  · intro cs pc sc
    obtain ⟨ys, py, rfl⟩ := perm_of_map pc
    rw [List.map_map]
    refine k ys py ?_
    rw [List.pairwise_map] at sc
    refine sc.imp fun {a b} z h => ?_
    have z' : PySem.W.dataLt (PyData.tuple [.str b.2.1, .str b.2.2]) (PyData.tuple [.str a.2.1, .str a.2.2]) = false := z
    rw [PySem.W.dataLt_pair (by simp [PySem.W.alike]) (by simp [PySem.W.alike]), PySem.W.dataLt_str, PySem.W.dataLt_str] at z'
    simp only [PyData.eqv, beq_iff_eq] at z'
    rcases h with h | ⟨e, h⟩
    · have n : ¬ b.2.1 = a.2.1 := fun e => sLt_irrefl _ (by rw [e] at h; exact h)
      rw [if_neg n] at z'
      exact of_decide_eq_false z' h
    · rw [if_pos e] at z'
      have n : ¬ b.2.2 = a.2.2 := fun e => sLt_irrefl _ (by rw [e] at h; exact h)
      rw [if_neg n] at z'
      exact of_decide_eq_false z' h
end
end U

/-! names as the laws draw them -/
namespace U
open PySem PySem.Spec PyProof.Rows L2
/-- 1 to 8 small letters -/
structure IsName (z : Str) : Prop where
  lo : 1 ≤ z.length
  hi : z.length ≤ 8
  ch : ∀ c ∈ z.cps.toList, 97 ≤ c ∧ c ≤ 122
theorem letters_at {i : Int} (h0 : 0 ≤ i) (h1 : i < 26) : atI (Str.ofString "abcdefghijklmnopqrstuvwxyz").cps.toList i = some (97 + i.toNat) := by
  obtain ⟨n, rfl⟩ : ∃ n : Nat, i = (n : Int) := ⟨i.toNat, by omega⟩
  have all : ∀ n : Fin 26, (Str.ofString "abcdefghijklmnopqrstuvwxyz").cps.toList[(n : Nat)]? = some (97 + (n : Nat)) := by decide +kernel
  have hn : n < 26 := by omega
  rw [Int.toNat_natCast]
  exact atI_nat (all ⟨n, hn⟩)
theorem letters_len : (Str.ofString "abcdefghijklmnopqrstuvwxyz").length ≤ 100000 := by decide +kernel
theorem pick4 {a b c d r : Int} (h0 : 0 ≤ r) (h1 : r < 4) : ∃ v, atI [V.int a, .int b, .int c, .int d] r = some (.int v) ∧ (v = a ∨ v = b ∨ v = c ∨ v = d) := by
  have : r = 0 ∨ r = 1 ∨ r = 2 ∨ r = 3 := by omega
  rcases this with rfl | rfl | rfl | rfl
  · exact ⟨a, rfl, .inl rfl⟩
  · exact ⟨b, rfl, .inr (.inl rfl)⟩
  · exact ⟨c, rfl, .inr (.inr (.inl rfl))⟩
  · exact ⟨d, rfl, .inr (.inr (.inr rfl))⟩
theorem bToI_pick {x y : V} (b : Bool) : atI [x, y] (bToI b) = some (if b = true then y else x) := by cases b <;> rfl
/-- the letter c put into the text t at place a -/
def putIn (t : List Nat) (a c : Nat) : List Nat := t.take a ++ [c] ++ t.drop a
theorem putIn_len (t : List Nat) (a c : Nat) (h : a ≤ t.length) : (putIn t a c).length = t.length + 1 := by
  unfold putIn
  simp
  omega
theorem putIn_inj {t : List Nat} {a c d : Nat} (h : a ≤ t.length) (e : putIn t a c = putIn t a d) : c = d := by
  unfold putIn at e
  rw [List.append_assoc, List.append_assoc] at e
  have e2 := List.append_cancel_left e
  injection e2
theorem mem_putIn {t : List Nat} {a c x : Nat} (h : x ∈ putIn t a c) : x = c ∨ x ∈ t := by
  unfold putIn at h
  rw [List.mem_append, List.mem_append, List.mem_singleton] at h
  rcases h with (h | h) | h
  · exact .inr (List.mem_of_mem_take h)
  · exact .inl h
  · exact .inr (List.mem_of_mem_drop h)
/-- the k-th name: begin b, step s, the tail's letter and times, its place, whether mixed -/
def nameK (b s : Int) (t : List Nat) (a : Nat) (m : Bool) (k : Nat) : Str :=
  if m = true ∧ k % 2 = 1 then ⟨#[97 + ((b + s * (k : Int)) % 26).toNat]⟩ else ⟨(putIn t a (97 + ((b + s * (k : Int)) % 26).toNat)).toArray⟩
theorem nameK_ok {b s : Int} {n d a : Nat} {m : Bool} {k : Nat} (hn : n ≤ 7) (ha : a ≤ n) (hd : 97 ≤ d ∧ d ≤ 122) : IsName (nameK b s (List.replicate n d) a m k) := by
  have hc : 97 ≤ 97 + ((b + s * (k : Int)) % 26).toNat ∧ 97 + ((b + s * (k : Int)) % 26).toNat ≤ 122 := by omega
  unfold nameK
  generalize 97 + ((b + s * (k : Int)) % 26).toNat = c at hc
  split
  · exact ⟨by simp [Str.length], by simp [Str.length], fun x hx => by
      have : x = c := by simpa using hx
      rw [this]
      exact hc⟩
  · have hl : (putIn (List.replicate n d) a c).length = n + 1 := by rw [putIn_len _ _ _ (by rw [List.length_replicate]; exact ha), List.length_replicate]
    refine ⟨by simp [Str.length, hl], by simp [Str.length, hl]; omega, fun x hx => ?_⟩
    have hx' : x ∈ putIn (List.replicate n d) a c := by simpa using hx
    rcases mem_putIn hx' with e | e
    · rw [e]; exact hc
    · rw [List.eq_of_mem_replicate e]; exact hd
theorem nameK_inj {b s : Int} {n d a : Nat} {m : Bool} {j k : Nat} (ha : a ≤ n) (hs : s = 1 ∨ s = 3 ∨ s = 5 ∨ s = 7) (hj : j < 26) (hk : k < 26)
    (e : nameK b s (List.replicate n d) a m j = nameK b s (List.replicate n d) a m k) : j = k := by
  have core : ∀ {x y : Nat}, x = 97 + ((b + s * (j : Int)) % 26).toNat → y = 97 + ((b + s * (k : Int)) % 26).toNat → x = y → j = k := by
    intro x y hx hy q
    rcases hs with rfl | rfl | rfl | rfl <;> omega
  have hl : ∀ c, (putIn (List.replicate n d) a c).length = n + 1 := fun c => by rw [putIn_len _ _ _ (by rw [List.length_replicate]; exact ha), List.length_replicate]
  unfold nameK at e
  split at e <;> split at e
  · injection e with e
    have e2 := congrArg Array.toList e
    simp only [List.cons.injEq, and_true] at e2
    exact core rfl rfl e2
  · rename_i h1 h2
    exfalso
    injection e with e
    have e2 := congrArg Array.size e
    simp only [List.size_toArray, hl] at e2
    have hn : n = 0 := by simpa using e2.symm
    subst hn
    obtain rfl : a = 0 := by omega
    have e3 := congrArg Array.toList e
    simp only [putIn, List.replicate_zero, List.take_nil, List.nil_append, List.drop_nil, List.append_nil, List.cons.injEq, and_true] at e3
    have := core rfl rfl e3
    subst this
    exact h2 h1
  · rename_i h1 h2
    exfalso
    injection e with e
    have e2 := congrArg Array.size e
    simp only [List.size_toArray, hl] at e2
    have hn : n = 0 := by simpa using e2
    subst hn
    obtain rfl : a = 0 := by omega
    have e3 := congrArg Array.toList e
    simp only [putIn, List.replicate_zero, List.take_nil, List.nil_append, List.drop_nil, List.append_nil, List.cons.injEq, and_true] at e3
    have := core rfl rfl e3
    subst this
    exact h1 h2
  · injection e with e
    have e2 := congrArg Array.toList e
    exact core rfl rfl (putIn_inj (by rw [List.length_replicate]; exact ha) e2)
theorem names_nodup {b s : Int} {n d a : Nat} {m : Bool} (ha : a ≤ n) (hs : s = 1 ∨ s = 3 ∨ s = 5 ∨ s = 7) {many : Nat} (hm : many ≤ 26) : ((List.range many).map (nameK b s (List.replicate n d) a m)).Nodup := by
  rw [List.nodup_iff_pairwise_ne, List.pairwise_map]
  have h : (List.range many).Pairwise fun x y => x ≠ y := List.nodup_range
  refine (List.Pairwise.and_mem.mp h).imp ?_
  intro x y ⟨hx, hy, n⟩ e
  exact n (nameK_inj ha hs (by have := List.mem_range.mp hx; omega) (by have := List.mem_range.mp hy; omega) e)
/-- names, strictly upwards -/
structure Names (ys : List Str) : Prop where
  asc : Asc ys
  ok : ∀ y ∈ ys, IsName y
/-- names, each once, in any order -/
structure NamesU (ys : List Str) : Prop where
  nd : ys.Nodup
  ok : ∀ y ∈ ys, IsName y
theorem Names.u {ys : List Str} (h : Names ys) : NamesU ys := ⟨asc_nodup h.asc, h.ok⟩
theorem NamesU.perm {xs ys : List Str} (h : NamesU xs) (p : ys.Perm xs) : NamesU ys := ⟨p.nodup_iff.mpr h.nd, fun y hy => h.ok y (p.mem_iff.mp hy)⟩
/-! slices of a text -/
theorem cutS_to {z : Str} {i : Int} (h0 : 0 ≤ i) : cutS z none (some i) = ⟨(z.cps.toList.take i.toNat).toArray⟩ := by
  unfold cutS HT.sIx
  simp only [Nat.sub_zero, List.drop_zero]
  rw [if_neg (by omega)]
  congr 2
  have : z.cps.toList.length = z.length := by simp [Str.length]
  by_cases h : i.toNat ≤ z.length
  · rw [Nat.min_eq_left h]
  · rw [Nat.min_eq_right (by omega), List.take_of_length_le (by omega), List.take_of_length_le (by omega)]
theorem cutS_from {z : Str} {i : Int} (h0 : 0 ≤ i) : cutS z (some i) none = ⟨(z.cps.toList.drop i.toNat).toArray⟩ := by
  unfold cutS HT.sIx
  simp only
  rw [if_neg (by omega)]
  congr 1
  have hl : z.cps.toList.length = z.length := by simp [Str.length]
  by_cases h : i.toNat ≤ z.length
  · rw [Nat.min_eq_left h, List.take_of_length_le (by rw [List.length_drop]; omega)]
  · rw [Nat.min_eq_right (by omega), List.drop_of_length_le (by omega), List.drop_of_length_le (by omega), List.take_nil]
theorem str_app {a b : List Nat} : (⟨a.toArray⟩ : Str) ++ ⟨b.toArray⟩ = ⟨(a ++ b).toArray⟩ := str_ext (TL.tl_append _ _)
end U

/-! loops, dictionaries, unpacking: their readings by steps -/
namespace U
open PySem PySem.Spec PyProof.Rows L2
/-- what a loop over J asks -/
def ForB (J : It) (g : TG) (tb : TS) (D : Ends) (σ : L2.St) (H : Hp) : Prop := ∃ W : Nat → Nat → L2.St → Hp → Prop, (∃ m, W 0 m σ H) ∧ ∀ i m σ H, W i m σ H →
  (J.stop i H ∧ D.nx σ H) ∨ (J.go i H ∧ ∃ N : L2.St → Hp → Prop, (∀ σ' H', N σ' H' → ∃ m', m' < m ∧ W (i + 1) m' σ' H') ∧ ∀ x H', J.yld i H x H' → g x σ H' fun σ2 H2 => tb { D with nx := N, ct := N, bk := D.nx } σ2 H2)
def LcB (J : It) (g : TG) (tt : TT) (te : TE) (vs : List Nat) (σ : L2.St) (H1 : Hp) (D : Addr) (Qd : Hp → Prop) : Prop := ∃ W : Nat → Nat → Hp → Prop, (∃ m, W 0 m (upd H1 D (.lst []))) ∧ ∀ i m H, W i m H →
  (J.stop i H ∧ Qd H) ∨ (J.go i H ∧ ∃ Nx : Hp → Prop, (∀ H', Nx H' → ∃ m', m' < m ∧ W (i + 1) m' H') ∧ ∀ x H', J.yld i H x H' → g x (wipe σ vs) H' fun σ2 H2 => wipe σ2 vs = wipe σ vs ∧ tt σ2 H2 fun b H3 =>
    if b = true then te σ2 H3 fun y H4 => ∃ acc, H4 D = some (.lst acc) ∧ acc.length < sizeLine ∧ Nx (upd H4 D (.lst (acc ++ [y]))) else Nx H3)
section
variable {σ : L2.St} {H : Hp} {Q : VK} {D : Ends} {v x y : V} {i j : Int} {ta tb tc te td ty tv : TE} {t u : TS} {K : PySem.W.Frag} {g : TG} {wi : TI} {R : It → Hp → Prop} {tr : TA}
theorem rd_for (h : wi σ H fun J H1 => ForB J g t D σ H1) : tFor wi g t D σ H := h
theorem rd_rng1 (h : tr σ H fun vs H1 => ∃ j : Int, vs = [.int j] ∧ -(2 ^ 62) ≤ j ∧ j < 2 ^ 62 ∧ R (Itr 0 j.toNat) H1) : iRng1 tr σ H R := h
theorem rd_rng2 (h : tr σ H fun vs H1 => ∃ i j : Int, vs = [.int i, .int j] ∧ (-(2 ^ 62) ≤ i ∧ i < 2 ^ 62 ∧ -(2 ^ 62) ≤ j ∧ j < 2 ^ 62) ∧ R (Itr i (j - i).toNat) H1) : iRng2 tr σ H R := h
theorem rd_iList (h : te σ H fun x H1 => ∃ a, x = .ref a ∧ (∃ xs, SqL K H1 a xs) ∧ R (Itl K a) H1) : iList K te σ H R := h
theorem rd_iTup (h : te σ H fun x H1 => ∃ a, x = .ref a ∧ (∃ xs, SqT K H1 a xs) ∧ R (Itt K a) H1) : iTup K te σ H R := h
theorem rd_iEnum (h : tr σ H fun vs H1 => ∃ a xs, vs = [.ref a] ∧ SqL K H1 a xs ∧ R (Ite K a) H1) : iEnum K tr σ H R := h
theorem rd_forL {p : Addr} {xs : List V} {R : Addr → Prop} (hs : SqL K H p xs) (h : R p) : ∃ a, V.ref p = .ref a ∧ (∃ xs, SqL K H a xs) ∧ R a := ⟨p, rfl, ⟨xs, hs⟩, h⟩
theorem rd_forT {p : Addr} {xs : List V} {R : Addr → Prop} (hs : SqT K H p xs) (h : R p) : ∃ a, V.ref p = .ref a ∧ (∃ xs, SqT K H a xs) ∧ R a := ⟨p, rfl, ⟨xs, hs⟩, h⟩
theorem rd_forR {R : Int → Prop} (h0 : -(2 ^ 62) ≤ j) (h1 : j < 2 ^ 62) (h : R j) : ∃ k : Int, [V.int j] = [.int k] ∧ -(2 ^ 62) ≤ k ∧ k < 2 ^ 62 ∧ R k := ⟨j, rfl, h0, h1, h⟩
theorem rd_forE {p : Addr} {xs : List V} {R : Addr → Prop} (hs : SqL K H p xs) (h : R p) : ∃ a xs, [V.ref p] = [.ref a] ∧ SqL K H a xs ∧ R a := ⟨p, xs, rfl, hs, h⟩
theorem turnsR {lo : Int} {n : Nat} (Pv : Nat → L2.St → Hp → Prop) (h0 : Pv 0 σ H) (hs : ∀ i σ H, i < n → Pv i σ H → g (.int (lo + i)) σ H fun σ2 H2 => t { D with nx := Pv (i + 1), ct := Pv (i + 1), bk := D.nx } σ2 H2)
    (hd : ∀ σ H, Pv n σ H → D.nx σ H) : ForB (Itr lo n) g t D σ H := for_range Pv h0 hs hd
theorem turnsL {a : Addr} {xs : List V} (Pv : Nat → L2.St → Hp → Prop) (h0 : Pv 0 σ H) (hl : ∀ i σ H, i ≤ xs.length → Pv i σ H → SqL K H a xs)
    (hs : ∀ i x σ H, xs[i]? = some x → Pv i σ H → g x σ H fun σ2 H2 => t { D with nx := Pv (i + 1), ct := Pv (i + 1), bk := D.nx } σ2 H2) (hd : ∀ σ H, Pv xs.length σ H → D.nx σ H) : ForB (Itl K a) g t D σ H := for_list Pv h0 hl hs hd
theorem turnsT {a : Addr} {xs : List V} (Pv : Nat → L2.St → Hp → Prop) (h0 : Pv 0 σ H) (hl : ∀ i σ H, i ≤ xs.length → Pv i σ H → SqT K H a xs)
    (hs : ∀ i x σ H, xs[i]? = some x → Pv i σ H → g x σ H fun σ2 H2 => t { D with nx := Pv (i + 1), ct := Pv (i + 1), bk := D.nx } σ2 H2) (hd : ∀ σ H, Pv xs.length σ H → D.nx σ H) : ForB (Itt K a) g t D σ H := for_tup Pv h0 hl hs hd
theorem turnsW {J : It} {n : Nat} {G : Hp → Prop} {Y : Nat → Hp → V → Hp → Prop} (w : Walk J n G Y) (Pv : Nat → L2.St → Hp → Prop) (h0 : Pv 0 σ H) (hG : ∀ i σ H, i ≤ n → Pv i σ H → G H)
    (hs : ∀ i x σ H H', i < n → Pv i σ H → Y i H x H' → g x σ H' fun σ2 H2 => t { D with nx := Pv (i + 1), ct := Pv (i + 1), bk := D.nx } σ2 H2) (hd : ∀ σ H, Pv n σ H → D.nx σ H) : ForB J g t D σ H := for_it w Pv h0 hG hs hd
theorem rd_lc {tt : TT} {vs : List Nat} (h : wi σ H fun J H1 => ∀ D, H1 D = none → LcB J g tt te vs σ H1 D fun H2 => Q (.ref D) H2) : tLc wi g tt te vs σ H Q := h
theorem lcT {a : Addr} {xs : List V} {tt : TT} {vs : List Nat} {D : Addr} {Qd : Hp → Prop} (Pv : Nat → Hp → Prop) (h0 : Pv 0 (upd H D (.lst []))) (hl : ∀ i H, i ≤ xs.length → Pv i H → SqT K H a xs)
    (hs : ∀ i x H, xs[i]? = some x → Pv i H → g x (wipe σ vs) H fun σ2 H2 => wipe σ2 vs = wipe σ vs ∧ tt σ2 H2 fun b H3 =>
      if b = true then te σ2 H3 fun y H4 => ∃ acc, H4 D = some (.lst acc) ∧ acc.length < sizeLine ∧ Pv (i + 1) (upd H4 D (.lst (acc ++ [y]))) else Pv (i + 1) H3) (hd : ∀ H, Pv xs.length H → Qd H) : LcB (Itt K a) g tt te vs σ H D Qd := lc_tup Pv h0 hl hs hd
theorem lcL {a : Addr} {xs : List V} {tt : TT} {vs : List Nat} {D : Addr} {Qd : Hp → Prop} (Pv : Nat → Hp → Prop) (h0 : Pv 0 (upd H D (.lst []))) (hl : ∀ i H, i ≤ xs.length → Pv i H → SqL K H a xs)
    (hs : ∀ i x H, xs[i]? = some x → Pv i H → g x (wipe σ vs) H fun σ2 H2 => wipe σ2 vs = wipe σ vs ∧ tt σ2 H2 fun b H3 =>
      if b = true then te σ2 H3 fun y H4 => ∃ acc, H4 D = some (.lst acc) ∧ acc.length < sizeLine ∧ Pv (i + 1) (upd H4 D (.lst (acc ++ [y]))) else Pv (i + 1) H3) (hd : ∀ H, Pv xs.length H → Qd H) : LcB (Itl K a) g tt te vs σ H D Qd := lc_list Pv h0 hl hs hd
theorem lcR {lo : Int} {n : Nat} {tt : TT} {vs : List Nat} {D : Addr} {Qd : Hp → Prop} (Pv : Nat → Hp → Prop) (h0 : Pv 0 (upd H D (.lst [])))
    (hs : ∀ i H, i < n → Pv i H → g (.int (lo + i)) (wipe σ vs) H fun σ2 H2 => wipe σ2 vs = wipe σ vs ∧ tt σ2 H2 fun b H3 =>
      if b = true then te σ2 H3 fun y H4 => ∃ acc, H4 D = some (.lst acc) ∧ acc.length < sizeLine ∧ Pv (i + 1) (upd H4 D (.lst (acc ++ [y]))) else Pv (i + 1) H3) (hd : ∀ H, Pv n H → Qd H) : LcB (Itr lo n) g tt te vs σ H D Qd := lc_range Pv h0 hs hd
/-- unpacking -/
theorem rd_unp {n : Nat} {ts : TGs} {p : Addr} {xs : List V} {Q : L2.St → Hp → Prop} (hs : SqT K H p xs) (hl : xs.length = n) (h : ts xs σ H Q) : gTup K n ts (.ref p) σ H Q := ⟨p, xs, rfl, hs, hl, h⟩
theorem rd_gcons {tg : TG} {u : TGs} {vr : List V} {Q : L2.St → Hp → Prop} (h : tg v σ H fun σ1 H1 => u vr σ1 H1 Q) : gCons tg u (v :: vr) σ H Q := ⟨v, vr, rfl, h⟩
theorem rd_gnil {Q : L2.St → Hp → Prop} (h : Q σ H) : gNil [] σ H Q := ⟨rfl, h⟩
/-- dictionaries -/
theorem rd_dget (h : td σ H fun x H1 => ty σ H1 fun y H2 => ∃ a v, x = .ref a ∧ DGet H2 a y (some v) ∧ Q v H2) : tDGet td ty σ H Q := h
theorem rd_dat {p : Addr} {kvs : List (Key × V)} {k : Key} (hs : Rd H p (.dK kvs)) (hv : valV kvs k = some v) {R : V → Prop} (hy : y = kV k) (h : R v) : ∃ a v, V.ref p = .ref a ∧ DGet H a y (some v) ∧ R v := ⟨p, v, rfl, .inl ⟨kvs, k, hs, hy, hv.symm⟩, h⟩
theorem rd_dput (h : tv σ H fun v H1 => td σ H1 fun x H2 => ty σ H2 fun y H3 => ∃ a H4, x = .ref a ∧ DPut H3 a y v H4 ∧ D.nx σ H4) : sDPut td ty tv D σ H := h
end
end U

/-! lists of texts as data -/
namespace U
open PySem PySem.Spec PyProof.Rows L2
theorem IsName.sok {z : Str} (h : IsName z) : PyData.strOk z = true := by
  unfold PyData.strOk
  rw [Array.all_eq_true_iff_forall_mem]
  intro x hx
  have := h.ch x (by simpa using hx)
  rw [decide_eq_true_eq]
  omega
theorem erase_map {α β : Type} {f : α → β} : ∀ {xs : List α} {i : Nat}, (xs.map f).eraseIdx i = (xs.eraseIdx i).map f
  | [], _ => by simp
  | _ :: _, 0 => rfl
  | x :: xs, i + 1 => by
    show f x :: (xs.map f).eraseIdx i = f x :: (xs.eraseIdx i).map f
    rw [erase_map]
theorem erase_perm {α : Type} : ∀ {xs : List α} {i : Nat} (h : i < xs.length), (xs[i] :: xs.eraseIdx i).Perm xs
  | _ :: _, 0, _ => .refl _
  | x :: xs, i + 1, h => by
    have h' : i < xs.length := Nat.lt_of_succ_lt_succ h
    show (xs[i] :: x :: xs.eraseIdx i).Perm (x :: xs)
    exact (List.Perm.swap x xs[i] _).trans ((erase_perm h').cons x)
section
variable {K : PySem.W.Frag} {H : Hp} {Q : VK} {p q : Addr}
theorem dp_strs : ∀ (xs : List Str), DpAll K H (xs.map V.str) (xs.map PyData.str)
  | [] => .nil
  | x :: xs => .cons (.str x) (dp_strs xs)
theorem can_strs : ∀ {xs : List Str}, (∀ x ∈ xs, PyData.strOk x = true) → PyData.canLayAll0 (xs.map PyData.str) = true
  | [], _ => by simp [PyData.canLayAll0]
  | x :: xs, h => by
    rw [List.map_cons, PyData.canLayAll0, PyData.canLay0, h x List.mem_cons_self, can_strs fun y hy => h y (List.mem_cons_of_mem _ hy)]
    rfl
theorem dep_strs : ∀ {xs : List Str}, PyData.depthAll (xs.map PyData.str) = 0
  | [] => by simp [PyData.depthAll]
  | x :: xs => by
    rw [List.map_cons, PyData.depthAll, dep_strs, PyData.depth]
    rfl
theorem shp_strs {xs : List Str} (h : ∀ x ∈ xs, PyData.strOk x = true) : SeqAt.shaped (.list (xs.map PyData.str)) = true := by
  unfold SeqAt.shaped
  rw [PyData.canLay0, can_strs h, PyData.depth, dep_strs]
  rfl
theorem eqv_nil {xs : List Str} : PyData.eqv (.list (xs.map PyData.str)) (.list []) = xs.isEmpty := by
  cases xs with
  | nil => simp [PyData.eqv, PyData.eqvAll]
  | cons _ _ => simp [PyData.eqv, PyData.eqvAll]
/-- xs != [] -/
theorem rd_neNil {xs : List Str} (hp : SqL K H p (xs.map V.str)) (hq : SqL K H q []) (ok : ∀ x ∈ xs, PyData.strOk x = true) (h : Q (.bl (!xs.isEmpty)) H) : rNeU K (.ref p) (.ref q) H Q := by
  refine ⟨_, _, .lst hp (dp_strs xs), .lst hq .nil, shp_strs ok, by decide, ?_⟩
  rw [eqv_nil]
  exact h
theorem rd_popAt {xs : List V} {i : Int} {v : V} {k : Nat} (hs : H p = some (.lst xs)) (h0 : 0 ≤ i) (hk : i.toNat = k) (hl : xs.length < 100000) (hv : xs[k]? = some v) (h : Q v (upd H p (.lst (xs.eraseIdx k)))) : rPopAt (.ref p) [.int i] H Q := by
  obtain ⟨hlt, _⟩ := List.getElem?_eq_some_iff.mp hv
  refine ⟨p, xs, i, k, v, rfl, rfl, hs, by omega, by omega, ?_, hv, h⟩
  rw [seqIndex_of h0 (by omega), hk]
end
end U

/-! graphs and states as the laws draw them -/
namespace U
open PySem PySem.Spec PyProof.Rows L2
/-- the two names, the lower first -/
def eOf (a b : Str) : Str × Str := if sLt a b then (a, b) else (b, a)
theorem eOf_cases (a b : Str) : eOf a b = (a, b) ∨ eOf a b = (b, a) := by
  unfold eOf
  split
  · exact .inl rfl
  · exact .inr rfl
theorem eOf_lt {a b : Str} (n : a ≠ b) : sLt (eOf a b).1 (eOf a b).2 := by
  unfold eOf
  split
  · assumption
  · rename_i h
    exact sLt_total h (Ne.symm n)
theorem eOf_inj {a b c d : Str} (h : eOf a b = eOf c d) : (a = c ∧ b = d) ∨ (a = d ∧ b = c) := by
  rcases eOf_cases a b with e | e <;> rcases eOf_cases c d with e' | e' <;> rw [e, e'] at h <;> injection h with h1 h2
  · exact .inl ⟨h1, h2⟩
  · exact .inr ⟨h1, h2⟩
  · exact .inr ⟨h2, h1⟩
  · exact .inl ⟨h2, h1⟩
/-- the state's pairs -/
abbrev kvsOf (ws : List (Str × Int)) : List (Key × V) := ws.map fun p => (Sum.inr p.1, V.int p.2)
/-- the number of the node n -/
def numOf (ws : List (Str × Int)) (n : Str) : Int := (ws.lookup n).getD 0
theorem val_kvs : ∀ {ws : List (Str × Int)} {n : Str}, n ∈ ws.map (·.1) → valV (kvsOf ws) (.inr n) = some (.int (numOf ws n))
  | p :: ws, n, h => by
    by_cases e : n = p.1
    · subst e
      rw [kvsOf, List.map_cons, valV_pos rfl]
      unfold numOf
      rw [List.lookup_cons_self]
      rfl
    · have e' : ¬ (Sum.inr p.1 : Key) = Sum.inr n := fun z => e (Sum.inr.inj z).symm
      rw [kvsOf, List.map_cons, valV_neg e']
      have : n ∈ ws.map (·.1) := by
        rcases List.mem_cons.mp h with z | z
        · exact absurd z e
        · exact z
      have r := val_kvs this
      rw [kvsOf] at r
      rw [r]
      unfold numOf
      rw [List.lookup_cons, show (n == p.1) = false from beq_eq_false_iff_ne.mpr e]
theorem val_none : ∀ {ws : List (Str × Int)} {n : Str}, n ∉ ws.map (·.1) → valV (kvsOf ws) (.inr n) = none
  | [], _, _ => rfl
  | p :: ws, n, h => by
    have e' : ¬ (Sum.inr p.1 : Key) = Sum.inr n := fun z => h (by rw [← Sum.inr.inj z]; exact List.mem_cons_self)
    rw [kvsOf, List.map_cons, valV_neg e']
    exact val_none fun z => h (List.mem_cons_of_mem _ z)
theorem put_kvs {ws : List (Str × Int)} {n : Str} {v : Int} (h : n ∉ ws.map (·.1)) : putK (kvsOf ws) (.inr n) (.int v) = kvsOf (ws ++ [(n, v)]) := by
  rw [putK_new _ (val_none h), kvsOf, kvsOf, List.map_append]
  rfl
theorem num_mem : ∀ {ws : List (Str × Int)} {n : Str}, n ∈ ws.map (·.1) → (n, numOf ws n) ∈ ws
  | p :: ws, n, h => by
    unfold numOf
    rw [List.lookup_cons]
    by_cases e : n = p.1
    · rw [show (n == p.1) = true from beq_iff_eq.mpr e]
      subst e
      exact List.mem_cons_self
    · rw [show (n == p.1) = false from beq_eq_false_iff_ne.mpr e]
      have : n ∈ ws.map (·.1) := by
        rcases List.mem_cons.mp h with z | z
        · exact absurd z e
        · exact z
      exact List.mem_cons_of_mem _ (num_mem this)
/-- a state: each name once, in the order ord, a number of 0, 1, 2 -/
structure StOk (ord : List Str) (ws : List (Str × Int)) : Prop where
  key : ws.map (·.1) = ord
  num : ∀ p ∈ ws, 0 ≤ p.2 ∧ p.2 < 3
theorem StOk.at {ord : List Str} {ws : List (Str × Int)} (h : StOk ord ws) {n : Str} (hn : n ∈ ord) : 0 ≤ numOf ws n ∧ numOf ws n < 3 := h.num _ (num_mem (by rw [h.key]; exact hn))
theorem StOk.val {ord : List Str} {ws : List (Str × Int)} (h : StOk ord ws) {n : Str} (hn : n ∈ ord) : valV (kvsOf ws) (.inr n) = some (.int (numOf ws n)) := val_kvs (by rw [h.key]; exact hn)
/-- the edges as they are found: at turn i, j -/
structure EdgesIn (ord : List Str) (f : Str → Int) (i j : Nat) (es : List (Addr × Str × Str)) : Prop where
  nd : (es.map (·.2)).Nodup
  of : ∀ e ∈ es, ∃ i' j', ∃ (hi : i' < ord.length) (hj : j' < ord.length), j' < i' ∧ (i' < i ∨ (i' = i ∧ j' < j)) ∧ e.2 = eOf ord[i'] ord[j'] ∧ f ord[i'] ≠ f ord[j']
theorem EdgesIn.step {ord : List Str} {f : Str → Int} {i j i2 j2 : Nat} {es : List (Addr × Str × Str)} (h : EdgesIn ord f i j es) (c : i < i2 ∨ (i = i2 ∧ j ≤ j2)) : EdgesIn ord f i2 j2 es :=
  ⟨h.nd, fun e he => by
    obtain ⟨i', j', hi, hj, h1, h2, h3⟩ := h.of e he
    exact ⟨i', j', hi, hj, h1, by omega, h3⟩⟩
theorem EdgesIn.add {ord : List Str} {f : Str → Int} {i j : Nat} {es : List (Addr × Str × Str)} {t : Addr} (h : EdgesIn ord f i j es) (nd : ord.Nodup) (hij : j < i) (hi : i < ord.length) (hj : j < ord.length) (hf : f ord[i] ≠ f ord[j]) :
    EdgesIn ord f i (j + 1) (es ++ [(t, eOf ord[i] ord[j])]) := by
  have inj : ∀ {a b : Nat} (ha : a < ord.length) (hb : b < ord.length), ord[a] = ord[b] → a = b := by
    intro a b ha hb e
    have z := List.pairwise_iff_getElem.mp (List.nodup_iff_pairwise_ne.mp nd)
    rcases Nat.lt_trichotomy a b with h | h | h
    · exact absurd e (z a b ha hb h)
    · exact h
    · exact absurd e.symm (z b a hb ha h)
  refine ⟨?_, ?_⟩
  · rw [List.map_append, List.nodup_append]
    refine ⟨h.nd, by simp, ?_⟩
    intro x hx y hy e
    obtain ⟨z, hz, rfl⟩ := List.mem_map.mp hx
    have : y = eOf ord[i] ord[j] := by simpa using hy
    subst this
    obtain ⟨i', j', hi', hj', h1, h2, h3, _⟩ := h.of z hz
    rw [h3] at e
    rcases eOf_inj e with ⟨e1, e2⟩ | ⟨e1, e2⟩
    · have := inj _ _ e1
      have := inj _ _ e2
      omega
    · have := inj _ _ e1
      have := inj _ _ e2
      omega
  · intro e he
    rcases List.mem_append.mp he with he | he
    · obtain ⟨i', j', hi', hj', h1, h2, h3⟩ := h.of e he
      exact ⟨i', j', hi', hj', h1, by omega, h3⟩
    · have : e = (t, eOf ord[i] ord[j]) := by simpa using he
      subst this
      exact ⟨i, j, hi, hj, hij, by omega, rfl, hf⟩
/-- a graph: names upwards, edges upwards, each with its lower name first -/
structure GrOk (ns : List Str) (es : List (Str × Str)) : Prop where
  names : Names ns
  asc : AscE es
  lt : ∀ e ∈ es, sLt e.1 e.2
  mem : ∀ e ∈ es, e.1 ∈ ns ∧ e.2 ∈ ns
/-- the graph stands at g -/
structure GrAt (H : Hp) (g n e : Addr) (ns : List Str) (es : List (Addr × Str × Str)) : Prop where
  top : H g = some (.tup [.ref n, .ref e])
  nodes : H n = some (.tup (ns.map V.str))
  edges : H e = some (.tup (es.map fun x => V.ref x.1))
  pairs : ∀ x ∈ es, H x.1 = some (.tup [.str x.2.1, .str x.2.2])
theorem cutV_to {xs : List V} {i : Nat} (h : i ≤ xs.length) : cutV xs none (some (i : Int)) = xs.take i := by
  unfold cutV HT.sIx
  simp only [Nat.sub_zero, List.drop_zero]
  rw [if_neg (by omega), Int.toNat_natCast, Nat.min_eq_left h]
theorem map_at {α : Type} {f : α → V} {xs : List α} {i : Nat} {x : V} (h : (xs.map f)[i]? = some x) : ∃ hi : i < xs.length, x = f xs[i] := by
  rw [List.getElem?_map] at h
  by_cases hi : i < xs.length
  · rw [List.getElem?_eq_getElem hi] at h
    exact ⟨hi, (Option.some.inj h).symm⟩
  · rw [List.getElem?_eq_none (by omega)] at h
    cases h
theorem StOk.nil : StOk [] [] := ⟨rfl, fun _ h => nomatch h⟩
theorem StOk.add {ord : List Str} {ws : List (Str × Int)} {i : Nat} {v : Int} (h : StOk (ord.take i) ws) (hi : i < ord.length) (h0 : 0 ≤ v) (h1 : v < 3) : StOk (ord.take (i + 1)) (ws ++ [(ord[i], v)]) := by
  refine ⟨?_, ?_⟩
  · rw [List.map_append, h.key, List.take_succ, List.getElem?_eq_getElem hi]
    rfl
  · intro p hp
    rcases List.mem_append.mp hp with hp | hp
    · exact h.num p hp
    · have : p = (ord[i], v) := by simpa using hp
      subst this
      exact ⟨h0, h1⟩
theorem StOk.not {ord : List Str} {ws : List (Str × Int)} {i : Nat} (h : StOk (ord.take i) ws) (nd : ord.Nodup) (hi : i < ord.length) : ord[i] ∉ ws.map (·.1) := by
  rw [h.key]
  intro hm
  obtain ⟨j, hj, e⟩ := List.mem_iff_getElem.mp hm
  rw [List.length_take] at hj
  have e' : ord[j] = ord[i] := by rw [← e, List.getElem_take]
  have z := List.pairwise_iff_getElem.mp (List.nodup_iff_pairwise_ne.mp nd)
  exact z j i (by omega) hi (by omega) e'
theorem eOf_pair {a b : Str} : (if sLt a b then [V.str a, V.str b] else [V.str b, V.str a]) = [V.str (eOf a b).1, V.str (eOf a b).2] := by
  unfold eOf
  split <;> rfl
section
variable {K : PySem.W.Frag} {H : Hp} {Q : VK} {p q : Addr} {σ : L2.St}
theorem rd_dnew (h : ∀ d, H d = none → Q (.ref d) (upd H d (.dK []))) : tDNewK σ H Q := h
theorem rd_dset {kvs : List (Key × V)} {k : Key} {y v : V} {R : Hp → Prop} (hs : H p = some (.dK kvs)) (hy : y = kV k) (hl : kvs.length < 100000) (h : R (upd H p (.dK (putK kvs k v)))) :
    ∃ a H4, V.ref p = .ref a ∧ DPut H a y v H4 ∧ R H4 := ⟨p, _, rfl, .inl ⟨kvs, k, hs, hy, Nat.lt_of_lt_of_le hl (by decide), rfl⟩, h⟩
end
end U

/-! lifts: the plain laws -/
namespace U
open PySem PySem.Spec PyProof.Rows L2
/-- the dict of numbers over ns, in that order -/
abbrev kvF (ns : List Str) (f : Str → Int) : List (Key × V) := ns.map fun n => (Sum.inr n, V.int (f n))
def updf (f : Str → Int) (n : Str) (v : Int) : Str → Int := fun m => if m = n then v else f m
theorem kvF_val : ∀ {ns : List Str} {f : Str → Int} {n : Str}, n ∈ ns → valV (kvF ns f) (.inr n) = some (.int (f n))
  | m :: ns, f, n, h => by
    by_cases e : n = m
    · subst e
      rw [kvF, List.map_cons, valV_pos rfl]
    · have e' : ¬ (Sum.inr m : Key) = Sum.inr n := fun z => e (Sum.inr.inj z).symm
      rw [kvF, List.map_cons, valV_neg e']
      refine kvF_val ?_
      rcases List.mem_cons.mp h with z | z
      · exact absurd z e
      · exact z
theorem kvF_none : ∀ {ns : List Str} {f : Str → Int} {n : Str}, n ∉ ns → valV (kvF ns f) (.inr n) = none
  | [], _, _, _ => rfl
  | m :: ns, f, n, h => by
    have e' : ¬ (Sum.inr m : Key) = Sum.inr n := fun z => h (by rw [← Sum.inr.inj z]; exact List.mem_cons_self)
    rw [kvF, List.map_cons, valV_neg e']
    exact kvF_none fun z => h (List.mem_cons_of_mem _ z)
theorem kvF_put {ns : List Str} {f : Str → Int} {n : Str} {v : Int} (h : n ∈ ns) : putK (kvF ns f) (.inr n) (.int v) = kvF ns (updf f n v) := by
  unfold putK
  rw [if_pos]
  · rw [kvF, kvF, List.map_map]
    refine List.map_congr_left fun m _ => ?_
    show (if (Sum.inr m : Key) = Sum.inr n then ((Sum.inr m : Key), V.int v) else (Sum.inr m, V.int (f m))) = (Sum.inr m, V.int (updf f n v m))
    unfold updf
    by_cases e : m = n
    · rw [if_pos (by rw [e]), if_pos e]
    · rw [if_neg (fun z => e (Sum.inr.inj z)), if_neg e]
  · rw [valV_any, kvF_val h]
    rfl
theorem kvF_new {ns : List Str} {f : Str → Int} {n : Str} {v : Int} (h : n ∉ ns) : putK (kvF ns f) (.inr n) (.int v) = kvF (ns ++ [n]) (updf f n v) := by
  rw [putK_new _ (kvF_none h), kvF, kvF, List.map_append]
  congr 1
  · refine List.map_congr_left fun m hm => ?_
    unfold updf
    rw [if_neg (fun e => h (by rw [← e]; exact hm))]
  · show [((Sum.inr n : Key), V.int v)] = [(Sum.inr n, V.int (updf f n v n))]
    unfold updf
    rw [if_pos rfl]
theorem kvs_F {ord : List Str} {ws : List (Str × Int)} (h : StOk ord ws) (nd : ord.Nodup) : kvsOf ws = kvF ord (numOf ws) := by
  obtain ⟨hk, _⟩ := h
  subst hk
  rw [kvF, List.map_map]
  refine List.map_congr_left fun p hp => ?_
  show ((Sum.inr p.1 : Key), V.int p.2) = (Sum.inr p.1, V.int (numOf ws p.1))
  have : (p.1, numOf ws p.1) ∈ ws := num_mem (List.mem_map_of_mem hp)
  congr 2
  -- one number a name
  have uniq : ∀ {ws : List (Str × Int)}, (ws.map (·.1)).Nodup → ∀ {x : Str} {a b : Int}, (x, a) ∈ ws → (x, b) ∈ ws → a = b := by
    intro ws
    induction ws with
    | nil => intro _ _ _ _ h; cases h
    | cons q ws ih =>
      intro nd x a b ha hb
      rw [List.map_cons, List.nodup_cons] at nd
      rcases List.mem_cons.mp ha with ea | ha <;> rcases List.mem_cons.mp hb with eb | hb
      · rw [← ea] at eb
        exact (Prod.mk.inj eb).2.symm
      · exact absurd (List.mem_map_of_mem (f := (·.1)) hb) (by rw [← ea] at nd; exact nd.1)
      · exact absurd (List.mem_map_of_mem (f := (·.1)) ha) (by rw [← eb] at nd; exact nd.1)
      · exact ih nd.2 ha hb
  exact uniq nd hp this

/-! ### neighbours, moves -/
def nbrF (es : List (Str × Str)) (x : Str) : List Str := es.flatMap fun e => (if e.1 = x then [e.2] else []) ++ (if e.2 = x then [e.1] else [])
theorem mem_nbrF {es : List (Str × Str)} {x z : Str} : z ∈ nbrF es x ↔ (x, z) ∈ es ∨ (z, x) ∈ es := by
  unfold nbrF
  rw [List.mem_flatMap]
  constructor
  · rintro ⟨e, he, h⟩
    rcases List.mem_append.mp h with h | h
    · split at h
      · rename_i c
        have : z = e.2 := by simpa using h
        subst this
        subst c
        exact .inl he
      · cases h
    · split at h
      · rename_i c
        have : z = e.1 := by simpa using h
        subst this
        subst c
        exact .inr he
      · cases h
  · rintro (h | h)
    · exact ⟨_, h, by simp⟩
    · exact ⟨_, h, by simp⟩
def freeB (es : List (Str × Str)) (f : Str → Int) (n : Str) (v : Int) : Bool := !decide (v ∈ (nbrF es n).map f ++ [f n])
def movesOf (es : List (Str × Str)) (f : Str → Int) (n : Str) : List (Str × Int) := (([0, 1, 2] : List Int).filter (freeB es f n)).map fun v => (n, v)
def movesF (ns : List Str) (es : List (Str × Str)) (f : Str → Int) (ps : List Str) : List (Str × Int) := ns.flatMap fun n => if n ∈ ps then [] else movesOf es f n
structure Legal (ns : List Str) (es : List (Str × Str)) (f : Str → Int) (ps : List Str) (m : Str × Int) : Prop where
  mem : m.1 ∈ ns
  pin : m.1 ∉ ps
  val : 0 ≤ m.2 ∧ m.2 < 3
  own : m.2 ≠ f m.1
  nbr : ∀ z, (m.1, z) ∈ es ∨ (z, m.1) ∈ es → m.2 ≠ f z
theorem legal_of {ns : List Str} {es : List (Str × Str)} {f : Str → Int} {ps : List Str} {m : Str × Int} (h : m ∈ movesF ns es f ps) : Legal ns es f ps m := by
  unfold movesF at h
  obtain ⟨n, hn, h⟩ := List.mem_flatMap.mp h
  split at h
  · cases h
  · rename_i hp
    unfold movesOf at h
    obtain ⟨v, hv, rfl⟩ := List.mem_map.mp h
    obtain ⟨h1, h2⟩ := List.mem_filter.mp hv
    unfold freeB at h2
    have h2 : v ∉ (nbrF es n).map f ++ [f n] := by simpa using h2
    have h3 : v = 0 ∨ v = 1 ∨ v = 2 := by simpa using h1
    refine ⟨hn, hp, by show 0 ≤ v ∧ v < 3; omega, fun e => h2 (List.mem_append_right _ (by rw [show v = f n from e]; exact List.mem_singleton_self _)), fun z hz e => h2 (List.mem_append_left _ ?_)⟩
    rw [show v = f z from e]
    exact List.mem_map_of_mem (mem_nbrF.mpr hz)
/-- one move after another -/
inductive Plays (ns : List Str) (es : List (Str × Str)) (ps : List Str) (f : Str → Int) : List (Str × Int) → (Str → Int) → Prop
  | nil : Plays ns es ps f [] f
  | snoc {ms : List (Str × Int)} {f' : Str → Int} {m : Str × Int} : Plays ns es ps f ms f' → Legal ns es f' ps m → Plays ns es ps f (ms ++ [m]) (updf f' m.1 m.2)
/-! ### counting -/
def dlt (d : Int) : Int := if d % 3 = 0 then 0 else if d % 3 = 1 then 1 else -1
def slp (f : Str → Int) (a b : Str) : Int := if (f b - f a) % 3 = 1 then 1 else -1
/-- the state and the numbers behind the moves -/
def countF (f h : Str → Int) : List (Str × Int) → (Str → Int) × (Str → Int)
  | [] => (f, h)
  | (n, v) :: r => countF (updf f n v) (updf h n (h n + dlt (f n - v))) r
theorem countF_snoc {n : Str} {v : Int} : ∀ {ms : List (Str × Int)} {f h : Str → Int}, countF f h (ms ++ [(n, v)]) = (updf (countF f h ms).1 n v, updf (countF f h ms).2 n ((countF f h ms).2 n + dlt ((countF f h ms).1 n - v)))
  | [], _, _ => rfl
  | (m, w) :: ms, _, _ => by
    rw [List.cons_append, countF, countF_snoc, countF]
structure EsOk (ns : List Str) (es : List (Str × Str)) (f : Str → Int) : Prop where
  ne : ∀ e ∈ es, e.1 ≠ e.2
  mem : ∀ e ∈ es, e.1 ∈ ns ∧ e.2 ∈ ns
  tri : ∀ n ∈ ns, 0 ≤ f n ∧ f n < 3
  pro : ∀ e ∈ es, f e.1 ≠ f e.2
theorem slp_pm (f : Str → Int) (a b : Str) : slp f a b = 1 ∨ slp f a b = -1 := by
  unfold slp
  split
  · exact .inl rfl
  · exact .inr rfl
theorem move_keeps {ns : List Str} {es : List (Str × Str)} {ps : List Str} {f0 f h : Str → Int} {m : Str × Int} (ok : EsOk ns es f) (l : Legal ns es f ps m) (t : ∀ e ∈ es, slp f0 e.1 e.2 - slp f e.1 e.2 = 2 * (h e.1 - h e.2)) :
    EsOk ns es (updf f m.1 m.2) ∧ ∀ e ∈ es, slp f0 e.1 e.2 - slp (updf f m.1 m.2) e.1 e.2 = 2 * (updf h m.1 (h m.1 + dlt (f m.1 - m.2)) e.1 - updf h m.1 (h m.1 + dlt (f m.1 - m.2)) e.2) := by
  obtain ⟨n, v⟩ := m
  have hv := l.val
  have ho := l.own
  have hm := l.mem
  simp only at hv ho hm
  refine ⟨⟨ok.ne, ok.mem, fun x hx => ?_, fun e he => ?_⟩, fun e he => ?_⟩
  · show 0 ≤ updf f n v x ∧ updf f n v x < 3
    unfold updf
    split
    · exact hv
    · exact ok.tri x hx
  · show updf f n v e.1 ≠ updf f n v e.2
    have hne := ok.ne e he
    have hp := ok.pro e he
    unfold updf
    by_cases h1 : e.1 = n
    · rw [if_pos h1, if_neg (fun z => hne (h1.trans z.symm))]
      exact l.nbr e.2 (.inl (by show (n, e.2) ∈ es; rw [← h1]; exact he))
    · by_cases h2 : e.2 = n
      · rw [if_neg h1, if_pos h2]
        exact Ne.symm (l.nbr e.1 (.inr (by show (e.1, n) ∈ es; rw [← h2]; exact he)))
      · rw [if_neg h1, if_neg h2]
        exact hp
  · show slp f0 e.1 e.2 - slp (updf f n v) e.1 e.2 = 2 * (updf h n (h n + dlt (f n - v)) e.1 - updf h n (h n + dlt (f n - v)) e.2)
    have hne := ok.ne e he
    have hp := ok.pro e he
    have t1 := ok.tri e.1 (ok.mem e he).1
    have t2 := ok.tri e.2 (ok.mem e he).2
    have te := t e he
    by_cases h1 : e.1 = n
    · have h2 : ¬ e.2 = n := fun z => hne (h1.trans z.symm)
      have nb := l.nbr e.2 (.inl (by show (n, e.2) ∈ es; rw [← h1]; exact he))
      simp only at nb
      have e1 : updf f n v e.1 = v := if_pos h1
      have e2 : updf f n v e.2 = f e.2 := if_neg h2
      have e3 : updf h n (h n + dlt (f n - v)) e.1 = h e.1 + dlt (f e.1 - v) := by rw [h1]; exact if_pos rfl
      have e4 : updf h n (h n + dlt (f n - v)) e.2 = h e.2 := if_neg h2
      rw [e3, e4]
      rw [← h1] at ho
      unfold slp dlt at *
      rw [e1, e2]
      generalize f e.1 = x at *
      generalize f e.2 = y at *
      generalize h e.1 = hx at *
      generalize h e.2 = hy at *
      generalize (if (f0 e.2 - f0 e.1) % 3 = 1 then (1 : Int) else -1) = s0 at *
      have : hx - hy + hx - hy = 2 * (hx - hy) := by omega
      split at te <;> split <;> split <;> try split
      all_goals omega
    · by_cases h2 : e.2 = n
      · have nb := l.nbr e.1 (.inr (by show (e.1, n) ∈ es; rw [← h2]; exact he))
        simp only at nb
        have e1 : updf f n v e.1 = f e.1 := if_neg h1
        have e2 : updf f n v e.2 = v := if_pos h2
        have e3 : updf h n (h n + dlt (f n - v)) e.1 = h e.1 := if_neg h1
        have e4 : updf h n (h n + dlt (f n - v)) e.2 = h e.2 + dlt (f e.2 - v) := by rw [h2]; exact if_pos rfl
        rw [e3, e4]
        rw [← h2] at ho
        unfold slp dlt at *
        rw [e1, e2]
        generalize f e.1 = x at *
        generalize f e.2 = y at *
        generalize h e.1 = hx at *
        generalize h e.2 = hy at *
        generalize (if (f0 e.2 - f0 e.1) % 3 = 1 then (1 : Int) else -1) = s0 at *
        split at te <;> split <;> split <;> try split
        all_goals omega
      · have e1 : updf f n v e.1 = f e.1 := if_neg h1
        have e2 : updf f n v e.2 = f e.2 := if_neg h2
        have e3 : updf h n (h n + dlt (f n - v)) e.1 = h e.1 := if_neg h1
        have e4 : updf h n (h n + dlt (f n - v)) e.2 = h e.2 := if_neg h2
        rw [e3, e4, ← te]
        unfold slp
        rw [e1, e2]
/-! ### fitting -/
def fitB (f h : Str → Int) (a b : Str) : Bool := if slp f a b = 1 then decide (0 ≤ h a - h b) && decide (h a - h b ≤ 1) else decide (0 ≤ h b - h a) && decide (h b - h a ≤ 1)
def Fits (es : List (Str × Str)) (f h : Str → Int) : Prop := ∀ e ∈ es, fitB f h e.1 e.2 = true
theorem fit_iff {f h : Str → Int} {a b : Str} : fitB f h a b = true ↔ (if slp f a b = 1 then 0 ≤ h a - h b ∧ h a - h b ≤ 1 else 0 ≤ h b - h a ∧ h b - h a ≤ 1) := by
  unfold fitB
  split <;> simp
end U

/-! medians, distances -/
namespace U
open PySem PySem.Spec PyProof.Rows L2
/-! ### distances -/
def ab (x y : Int) : Int := ((x - y).natAbs : Int)
end U

/-! comprehensions, locks, statements that are never reached: their readings -/
namespace U
open PySem PySem.Spec PyProof.Rows L2
def tCK (sp : Sp) (np nk : Nat) (E : XK) (t tk : TA) : TE := fun σ H Q => t σ H fun vs H1 => vs.length = np ∧ tk σ H1 fun zs H2 => zs.length = nk ∧ sp (vs ++ zs) H2 Q E
theorem ps_dead {X : Cx} {st : Stmt} : PS X st (fun _ _ _ => False) := ⟨fun _ _ _ _ _ _ h => h.elim⟩
def DcB (J : It) (g : TG) (tt : TT) (tk tv : TE) (vs : List Nat) (σ : L2.St) (H1 : Hp) (D : Addr) (Qd : Hp → Prop) : Prop := ∃ W : Nat → Nat → Hp → Prop, (∃ m, W 0 m (upd H1 D (.dK []))) ∧ ∀ i m H, W i m H →
  (J.stop i H ∧ Qd H) ∨ (J.go i H ∧ ∃ Nx : Hp → Prop, (∀ H', Nx H' → ∃ m', m' < m ∧ W (i + 1) m' H') ∧ ∀ x H', J.yld i H x H' → g x (wipe σ vs) H' fun σ2 H2 => wipe σ2 vs = wipe σ vs ∧ tt σ2 H2 fun b H3 =>
    if b = true then tk σ2 H3 fun y H4 => tv σ2 H4 fun z H5 => ∃ kvs k, y = kV k ∧ H5 D = some (.dK kvs) ∧ kvs.length < sizeLine ∧ Nx (upd H5 D (.dK (putK kvs k z))) else Nx H3)
section
variable {σ : L2.St} {H : Hp} {Q : VK} {D : Ends} {te td ty tv : TE} {t : TS} {g : TG} {wi : TI} {R : It → Hp → Prop} {tt : TT} {vs : List Nat} {L : Addr} {Qd : Hp → Prop} {J : It} {n : Nat} {G : Hp → Prop} {Y : Nat → Hp → V → Hp → Prop} {K : PySem.W.Frag}
theorem rd_dc {tk : TE} (h : wi σ H fun J H1 => ∀ D, H1 D = none → DcB J g tt tk tv vs σ H1 D fun H2 => Q (.ref D) H2) : tDc wi g tt tk tv vs σ H Q := h
theorem rd_iItems (h : td σ H fun x H1 => ∃ d o kvs, x = .ref d ∧ H1 d = some (.frz o (.dK kvs)) ∧ R (Iti d o kvs) H1) : iItems td σ H R := h
theorem rd_iKeys (h : td σ H fun x H1 => ∃ d o, x = .ref d ∧ ((∃ kvs, H1 d = some (.frz o (.dK kvs)) ∧ R (Itk d o kvs) H1) ∨ ∃ kvs, H1 d = some (.frz o (.dT kvs)) ∧ R (Itkt d o kvs) H1)) : iKeys td σ H R := h
theorem rd_wp {vs : List Nat} {σ1 σ2 : L2.St} {P : Prop} (e : wipe σ1 vs = wipe σ2 vs) (h : P) : wipe σ1 vs = wipe σ2 vs ∧ P := ⟨e, h⟩
theorem rd_yesT {Q : Bool → Hp → Prop} (h : Q true H) : tYes σ H Q := h
theorem rd_acc {L : Addr} {acc : List V} {R : List V → Prop} (hL : H L = some (.lst acc)) (hz : acc.length < 100000) (h : R acc) : ∃ acc, H L = some (.lst acc) ∧ acc.length < sizeLine ∧ R acc := ⟨acc, hL, Nat.lt_of_lt_of_le hz (by decide), h⟩
theorem inV_int {v : Int} {xs : List Int} : inV (.int v) (xs.map V.int) = decide (v ∈ xs) := by
  induction xs with
  | nil => rfl
  | cons x xs ih =>
    unfold inV at ih ⊢
    rw [List.map_cons, List.any_cons, ih]
    simp only [eqV, List.mem_cons, Bool.decide_or]
    congr 1
    exact decide_eq_decide.mpr ⟨Eq.symm, Eq.symm⟩
theorem inV_str {v : Str} {xs : List Str} : inV (.str v) (xs.map V.str) = decide (v ∈ xs) := by
  induction xs with
  | nil => rfl
  | cons x xs ih =>
    unfold inV at ih ⊢
    rw [List.map_cons, List.any_cons, ih]
    simp only [eqV, List.mem_cons, Bool.decide_or]
    congr 1
    exact decide_eq_decide.mpr ⟨Eq.symm, Eq.symm⟩
theorem flat_int {xs : List Int} : (xs.map V.int).all flatV = true := by
  rw [List.all_eq_true]
  intro x hx
  obtain ⟨i, _, rfl⟩ := List.mem_map.mp hx
  rfl
theorem flat_str {xs : List Str} : (xs.map V.str).all flatV = true := by
  rw [List.all_eq_true]
  intro x hx
  obtain ⟨i, _, rfl⟩ := List.mem_map.mp hx
  rfl
theorem rd_ninIL {p : Addr} {v : Int} {xs : List Int} (hs : SqL K H p (xs.map V.int)) (h : Q (.bl (!decide (v ∈ xs))) H) : rNotInU K (.int v) (.ref p) H Q := ⟨_, .inl hs, rfl, flat_int, by rw [inV_int]; exact h⟩
theorem rd_inST {p : Addr} {v : Str} {xs : List Str} (hs : SqT K H p (xs.map V.str)) (h : Q (.bl (decide (v ∈ xs))) H) : rInU K (.str v) (.ref p) H Q := ⟨_, .inr hs, rfl, flat_str, by rw [inV_str]; exact h⟩
theorem rd_ninST {p : Addr} {v : Str} {xs : List Str} (hs : SqT K H p (xs.map V.str)) (h : Q (.bl (!decide (v ∈ xs))) H) : rNotInU K (.str v) (.ref p) H Q := ⟨_, .inr hs, rfl, flat_str, by rw [inV_str]; exact h⟩
theorem rd_catL {p q : Addr} {xs ys : List V} (h1 : H p = some (.lst xs)) (h2 : H q = some (.lst ys)) (hz : xs.length + ys.length ≤ 100000) (h : nL (xs ++ ys) H Q) : rAddU K (.ref p) (.ref q) H Q := .inl ⟨xs, ys, h1, h2, Nat.le_trans hz (by decide), h⟩
theorem GrAt.same {H' : Hp} {g n e : Addr} {ns : List Str} {es : List (Addr × Str × Str)} (h : GrAt H g n e ns es) (s : Same H H') : GrAt H' g n e ns es :=
  ⟨s _ _ h.top, s _ _ h.nodes, s _ _ h.edges, fun x hx => s _ _ (h.pairs x hx)⟩
theorem GrAt.but {H' : Hp} {p g n e : Addr} {ys : List V} {ns : List Str} {es : List (Addr × Str × Str)} (h : GrAt H g n e ns es) (hp : H p = some (.lst ys)) (b : But p H H') : GrAt H' g n e ns es := by
  have k : ∀ {a : Addr} {xs : List V}, H a = some (.tup xs) → H' a = some (.tup xs) := fun {a xs} ha => b _ _ (ne_of ha hp (by intro z; cases z)) ha
  exact ⟨k h.top, k h.nodes, k h.edges, fun x hx => k (h.pairs x hx)⟩
theorem But.dK {H' : Hp} {p d : Addr} {ys : List V} {kvs : List (Key × V)} (b : But p H H') (hp : H p = some (.lst ys)) (h : H d = some (.dK kvs)) : H' d = some (.dK kvs) := b _ _ (ne_of h hp (by intro z; cases z)) h
theorem But.tup {H' : Hp} {p d : Addr} {ys xs : List V} (b : But p H H') (hp : H p = some (.lst ys)) (h : H d = some (.tup xs)) : H' d = some (.tup xs) := b _ _ (ne_of h hp (by intro z; cases z)) h
theorem same_put {H1 : Hp} {a : Addr} {o : HO} (s : Same H H1) (n : H a = none) : Same H (upd H1 a o) := fun c u h => at_upd (ne_of_none h n) (s c u h)
theorem same_add {H1 : Hp} {a : Addr} {o : HO} (s : Same H H1) (n : H1 a = none) : Same H (upd H1 a o) := fun c u h => at_upd (ne_of_none (s c u h) n) (s c u h)
/-- xs != [], whatever data -/
theorem rd_neNilD {p q : Addr} {xs : List V} {ds : List PyData} (hp : SqL K H p xs) (hd : DpAll K H xs ds) (hq : SqL K H q []) (ok : PyData.canLayAll0 ds = true) (dep : PyData.depthAll ds ≤ 60) (h : Q (.bl (!xs.isEmpty)) H) : rNeU K (.ref p) (.ref q) H Q := by
  refine ⟨_, _, .lst hp hd, .lst hq .nil, ?_, by decide, ?_⟩
  · unfold SeqAt.shaped
    rw [PyData.canLay0, ok, PyData.depth, decide_eq_true (by omega)]
    rfl
  · have : PyData.eqv (.list ds) (.list []) = xs.isEmpty := by
      cases hd with
      | nil => simp [PyData.eqv, PyData.eqvAll]
      | cons _ _ => simp [PyData.eqv, PyData.eqvAll]
    rw [this]
    exact h
theorem rd_isi {x : V} {n : String} {a t : Ty} (h1 : TyIs K H x a) (h2 : tyOf n = some t) (h : Q (.bl (isT a t)) H) : rIsiU K [x, .ty n] H Q := ⟨a, t, h1, h2, h⟩
theorem rd_din (h : ty σ H fun y H1 => td σ H1 fun x H2 => ∃ a o, x = .ref a ∧ DGet H2 a y o ∧ Q (.bl o.isSome) H2) : tDIn ty td σ H Q := h
theorem rd_dnin (h : ty σ H fun y H1 => td σ H1 fun x H2 => ∃ a o, x = .ref a ∧ DGet H2 a y o ∧ Q (.bl (!o.isSome)) H2) : tDNotIn ty td σ H Q := h
theorem rd_nT {A B : Prop} (h : B) : if (!true) = true then A else B := h
theorem rd_nF {A B : Prop} (h : A) : if (!false) = true then A else B := h
/-- repr of a truth value -/
def shB (b : Bool) : Str := if b then "True" else "False"
def rReprU : List V → Hp → VK → Prop := fun xs H Q => match xs with
  | [.bl b] => Q (.str (shB b)) H
  | _ => False
theorem rd_reprB {b : Bool} (h : Q (.str (shB b)) H) : rReprU [.bl b] H Q := h
theorem rd_ck {sp : Sp} {E : XK} {np nk : Nat} {t tk : TA} (h : t σ H fun vs H1 => vs.length = np ∧ tk σ H1 fun zs H2 => zs.length = nk ∧ sp (vs ++ zs) H2 Q E) : tCK sp np nk E t tk σ H Q := h
theorem rd_len {vs : List V} {k : Nat} {P : Prop} (e : vs.length = k) (h : P) : vs.length = k ∧ P := ⟨e, h⟩
theorem rd_par {i j : Nat} {ta : TA} (h : ta σ H fun vs H1 => ∃ v w, vs = [v, w] ∧ D.nx ((σ.set i (some v)).set j (some w)) H1) : tPar i j ta D σ H := h
theorem rd_two {v w' : V} {R : V → V → Prop} (h : R v w') : ∃ x y, [v, w'] = [x, y] ∧ R x y := ⟨v, w', rfl, h⟩
theorem rd_allL {p : Addr} {bs : List Bool} (hs : SqL K H p (bs.map V.bl)) (h : Q (.bl (bs.all id)) H) : rAllU K [.ref p] H Q := ⟨bs, hs, h⟩
theorem rd_isB {a b : Bool} (h : Q (.bl (decide (a = b))) H) : rIsU (.bl a) (.bl b) H Q := ⟨a, rfl, h⟩
theorem rd_isNotB {a b : Bool} (h : Q (.bl (!decide (a = b))) H) : rIsNotU (.bl a) (.bl b) H Q := ⟨a, rfl, h⟩
theorem rd_daug {rd : V → V → Hp → VK → Prop} (h : td σ H fun x H1 => ty σ H1 fun y H2 => ∃ a v, x = .ref a ∧ DGet H2 a y (some v) ∧
  tv σ H2 fun y2 H3 => rd v y2 H3 fun z H4 => ∃ H5, DPut H4 a y z H5 ∧ D.nx σ H5) : sDAug td ty tv rd D σ H := h
end
end U

/-! dicts of references, double comprehensions, defaults, repr -/
namespace U
open PySem PySem.Spec PyProof.Rows L2
abbrev kvG (ns : List Str) (F : Str → V) : List (Key × V) := ns.map fun n => (Sum.inr n, F n)
def updV {α : Type} (f : Str → α) (n : Str) (v : α) : Str → α := fun m => if m = n then v else f m
theorem kvG_none : ∀ {ns : List Str} {F : Str → V} {n : Str}, n ∉ ns → valV (kvG ns F) (.inr n) = none
  | [], _, _, _ => rfl
  | m :: ns, F, n, h => by
    have e' : ¬ (Sum.inr m : Key) = Sum.inr n := fun z => h (by rw [← Sum.inr.inj z]; exact List.mem_cons_self)
    rw [kvG, List.map_cons, valV_neg e']
    exact kvG_none fun z => h (List.mem_cons_of_mem _ z)
theorem kvG_new {ns : List Str} {F : Str → V} {n : Str} {v : V} (h : n ∉ ns) : putK (kvG ns F) (.inr n) v = kvG (ns ++ [n]) (updV F n v) := by
  rw [putK_new _ (kvG_none h), kvG, kvG, List.map_append]
  congr 1
  · refine List.map_congr_left fun m hm => ?_
    unfold updV
    rw [if_neg (fun e => h (by rw [← e]; exact hm))]
  · show [((Sum.inr n : Key), v)] = [(Sum.inr n, updV F n v n)]
    unfold updV
    rw [if_pos rfl]
/-! f(e, ..) where defaults fill the rest -/
structure CalD (P : Program) (w : World) (K : PySem.W.Frag) (mg : Str → Option Value) (base : Heap) (CX : CXT) (k : Nat) (x : Str) (dvs : List V) (sp : Sp) : Prop where
  ex : ∃ (f : Addr) (fd : FuncData) (ps : List Str) (ds : List Value), FnG P w K mg base CX k f fd ps sp ∧ mg x = some (.ref f) ∧ PySem.W.keepIn K (.ref f) = true ∧ Vals dvs ds ∧ Binds K fd ps ds
def tCD (sp : Sp) (dvs : List V) (E : XK) (t : TA) : TE := fun σ H Q => t σ H fun vs H1 => sp (vs ++ dvs) H1 Q E
theorem pe_cD {X : Cx} {CX : L2.CXT} {k j : Nat} {x : Str} {dvs : List V} {sp : Sp} {E : XK} {e : Expr} {es : List Expr} {t : TA} {p pos : Pos} (c : CalD X.prog X.w X.K X.mg X.base CX k x dvs sp) (hr : Rm j X.A) (hk : k ≤ j) (hg : Gl X x) (hx : Passes CX X E) (ha : PA X (e :: es) t)
    (hdb : (x == ("__debug__" : Str)) = false := by decide) (he : starEach (e :: es) X.env = (false, eval e X.env) :: starEach es X.env := by rfl) (hpl : (backTo pos (starEach es X.env)).any (·.1) = false := by rfl) :
    PE X (.Call (.Name x p) (e :: es) [] pos) (tCD sp dvs E t) := by
  obtain ⟨f, fd, ps, ds, F, hm, kp, rd, b⟩ := c.ex
  refine ⟨fun pins s σ H Q I h => wpAny_Call_Name_kw (ld_glob I hg hm ?_ hdb)⟩
  refine PySem.W.callWith_K (h₀ := X.base) I.ok.mod.kin kp (thn (ha.run pos pins s σ H _ I h) ?_) he hpl
  rintro us s1 ⟨vs, H1, I1, r, q⟩
  refine ⟨I1.kIn, ?_⟩
  have r2 : Vals (vs ++ dvs) (us ++ ds) := r.append rd
  have count : (us ++ ds).length = ps.length := r2.length ▸ F.len _ _ _ _ q
  have bd := b s1 us I1.kIn count
  refine wpAny_call (codeAny_mono (F.go X.A X.stack s1 H1 ⟨us, []⟩ (us ++ ds) (vs ++ dvs) Q E (hr.mono hk) I1.env0 bd r2 q) ?_)
  intro res s' hq
  cases res with
  | error er => exact hx pins σ H1 s1 er s' I1 hq
  | ok fl =>
    cases fl with
    | ret u => exact I1.after hq
    | next => exact hq.elim
    | brk => exact hq.elim
    | cont => exact hq.elim
/-! two fors in a comprehension -/
def In1 (J1 : It) (g1 : TG) (tt1 : TT) (te : TE) (vs1 : List Nat) (σ2 : L2.St) (D : Addr) (H4 : Hp) (R : Hp → Prop) : Prop := ∃ W1 : Nat → Nat → Hp → Prop, (∃ m, W1 0 m H4) ∧ ∀ j k H, W1 j k H →
  (J1.stop j H ∧ R H) ∨ (J1.go j H ∧ ∃ Nx1 : Hp → Prop, (∀ H', Nx1 H' → ∃ k', k' < k ∧ W1 (j + 1) k' H') ∧ ∀ x H', J1.yld j H x H' → g1 x (wipe σ2 vs1) H' fun σ3 H5 => wipe σ3 vs1 = wipe σ2 vs1 ∧ tt1 σ3 H5 fun b H6 =>
    if b = true then te σ3 H6 fun y H7 => ∃ acc, H7 D = some (.lst acc) ∧ acc.length < sizeLine ∧ Nx1 (upd H7 D (.lst (acc ++ [y]))) else Nx1 H6)
def Lc2B (J : It) (g : TG) (tt : TT) (wi1 : TI) (g1 : TG) (tt1 : TT) (te : TE) (vs vs1 : List Nat) (σ : L2.St) (H1 : Hp) (D : Addr) (Qd : Hp → Prop) : Prop := ∃ W : Nat → Nat → Hp → Prop, (∃ m, W 0 m (upd H1 D (.lst []))) ∧ ∀ i m H, W i m H →
  (J.stop i H ∧ Qd H) ∨ (J.go i H ∧ ∃ Nx : Hp → Prop, (∀ H', Nx H' → ∃ m', m' < m ∧ W (i + 1) m' H') ∧ ∀ x H', J.yld i H x H' → g x (wipe σ vs) H' fun σ2 H2 => wipe σ2 vs = wipe σ vs ∧ tt σ2 H2 fun b H3 =>
    if b = true then wi1 σ2 H3 fun J1 H4 => In1 J1 g1 tt1 te vs1 σ2 D H4 Nx else Nx H3)
section
variable {σ : L2.St} {H : Hp} {Q : VK} {te : TE} {g g1 : TG} {wi wi1 : TI} {tt tt1 : TT} {vs vs1 : List Nat} {L : Addr} {Qd R : Hp → Prop} {J J1 : It} {n : Nat} {G : Hp → Prop} {Y : Nat → Hp → V → Hp → Prop} {K : PySem.W.Frag}
theorem rd_lc2 (h : wi σ H fun J H1 => ∀ D, H1 D = none → Lc2B J g tt wi1 g1 tt1 te vs vs1 σ H1 D fun H2 => Q (.ref D) H2) : tLc2 wi g tt wi1 g1 tt1 te vs vs1 σ H Q := h
theorem rd_cd {sp : Sp} {dvs : List V} {E : XK} {t : TA} (h : t σ H fun vs H1 => sp (vs ++ dvs) H1 Q E) : tCD sp dvs E t σ H Q := h
end
/-! repr -/
section
variable {X : Cx} {pins : List (Addr × Obj)} {σ : L2.St} {H : Hp} {s : Shared}
def encK : Key → PyData
  | .inl i => .int i
  | .inr x => .str x
theorem kv_pairs {h : Heap} {f : Str → Int} : ∀ {ns : List Str} {vs : List (Key × Value)}, KV (kvF ns f) vs → PyProof.V.PairsRead h encK vs (ns.map fun n => (.str n, .int (f n))) []
  | [], vs, r => by
    cases r
    exact .nil
  | n :: ns, vs, r => by
    cases r with
    | @cons p q ps qs hpq t =>
      obtain ⟨h1, h2⟩ := hpq
      obtain ⟨k, v⟩ := q
      have h1' : (Sum.inr n : Key) = k := h1
      subst h1'
      obtain ⟨tk, rfl⟩ : ∃ t, v = Value.int (f n) t := h2
      exact .cons (k := .inr n) (as := []) (bs := []) (Reads.int _ _) (kv_pairs t)
theorem key_reads {h : Heap} {P : Program} {w : World} : ∀ (k : Key) (key : Value), (mixKind P w).is k key = true → Reads h key (encK k) [] := by
  intro k key hk
  rcases keyIs_shape hk with ⟨i, t, rfl, rfl⟩ | ⟨x, t, rfl, rfl⟩
  · exact Reads.int _ _
  · exact Reads.str _ _
end
end U
namespace U
open PySem PySem.Spec PyProof.Rows L2
/-! name = {k: v for ..}, the name a local -/
section
variable {X : Cx}
end
end U

/-! repr of a list of data, dicts among it -/
namespace U
open PySem PySem.Spec PyProof.Rows L2
mutual
def tupOnly : PyData → Bool
  | .none | .bool _ | .int _ | .str _ => true
  | .tuple xs => tupOnlyAll xs
  | .list _ | .dict _ => false
def tupOnlyAll : List PyData → Bool
  | [] => true
  | x :: xs => tupOnly x && tupOnlyAll xs
end
mutual
theorem reads_nil {h : Heap} : ∀ (d : PyData) (v : Value) (as : List Addr), Reads h v d as → tupOnly d = true → as = []
  | .none, _, _, r, _ => by cases r; rfl
  | .bool _, _, _, r, _ => by cases r; rfl
  | .int _, _, _, r, _ => by cases r; rfl
  | .str _, _, _, r, _ => by cases r; rfl
  | .tuple xs, _, _, r, t => by
    cases r with
    | tuple h1 h2 h3 h4 => exact readsAll_nil xs _ _ h4 (by simpa [tupOnly] using t)
  | .list _, _, _, _, t => by simp [tupOnly] at t
  | .dict _, _, _, _, t => by simp [tupOnly] at t
theorem readsAll_nil {h : Heap} : ∀ (ds : List PyData) (vs : List Value) (as : List Addr), ReadsAll h vs ds as → tupOnlyAll ds = true → as = []
  | [], _, _, r, _ => by cases r; rfl
  | d :: ds, _, _, r, t => by
    rw [tupOnlyAll, Bool.and_eq_true] at t
    cases r with
    | cons r1 r2 => rw [reads_nil d _ _ r1 t.1, readsAll_nil ds _ _ r2 t.2]; rfl
end
/-- an item of the list: data of tuples, or a dict of numbers -/
inductive Di (K : PySem.W.Frag) (H : Hp) : V → PyData → Prop
  | of {v : V} {d : PyData} : Dp K H v d → tupOnly d = true → Di K H v d
  | dct {a : Addr} {ns : List Str} {f : Str → Int} : H a = some (.dK (kvF ns f)) → Di K H (.ref a) (.dict (ns.map fun n => (.str n, .int (f n))))
inductive DiAll (K : PySem.W.Frag) (H : Hp) : List V → List PyData → Prop
  | nil : DiAll K H [] []
  | cons {v : V} {vs : List V} {d : PyData} {ds : List PyData} : Di K H v d → DiAll K H vs ds → DiAll K H (v :: vs) (d :: ds)
structure Shows (d : PyData) : Prop where
  sh : d.showable = true
  lv : d.leavesShort 13 = true
  bk : d.bulk ≤ 2 ^ 20
  dp : d.depth ≤ 50
section
variable {X : Cx} {pins : List (Addr × Obj)} {σ : L2.St} {H : Hp} {s : Shared}
theorem Di.reads (I : Inv X pins σ H s) {v : V} {d : PyData} {u : Value} (h : Di X.K H v d) (r : RelV v u) : ∃ as, Reads s.heap u d as ∧ sysModules ∉ as := by
  cases h with
  | of h t =>
    obtain ⟨as, q⟩ := Dp.reads I _ _ _ h r
    have := reads_nil _ _ _ q t
    subst this
    exact ⟨_, q, List.not_mem_nil⟩
  | dct h =>
    cases r
    obtain ⟨_, hd, vs, rel, dd⟩ := dk_of I.hok h
    refine ⟨_, PyProof.V.reads_dictOf key_reads dd (kv_pairs rel), ?_⟩
    intro z
    rw [List.mem_singleton] at z
    rw [z] at hd
    simp at hd
theorem DiAll.reads (I : Inv X pins σ H s) : ∀ {vs : List V} {ds : List PyData} {us : List Value}, DiAll X.K H vs ds → Vals vs us → ∃ as, ReadsAll s.heap us ds as ∧ sysModules ∉ as
  | [], _, _, h, r => by
    cases h
    cases r
    exact ⟨_, .nil, List.not_mem_nil⟩
  | v :: vs, _, _, h, r => by
    cases h with
    | cons h1 h2 =>
      cases r with
      | cons r1 r2 =>
        obtain ⟨as, q1, n1⟩ := h1.reads I r1
        obtain ⟨bs, q2, n2⟩ := DiAll.reads I h2 r2
        exact ⟨_, .cons q1 q2, fun z => (List.mem_append.mp z).elim n1 n2⟩
end
/-! the shapes -/
theorem IsName.lv {z : Str} (h : IsName z) : (PyData.str z).leavesShort 13 = true := by
  rw [PyData.leavesShort, List.all_eq_true]
  intro x hx
  have := h.ch x hx
  rw [decide_eq_true_eq]
  omega
theorem IsName.bk {z : Str} (h : IsName z) : (PyData.str z).bulk ≤ 8 := by
  rw [PyData.bulk]
  exact h.hi
end U

/-! paths found level by level: the plain law -/
namespace U
open PySem PySem.Spec PyProof.Rows L2
/-- nodes found, each with its path, in the order in which they are found -/
abbrev keysF (kp : List (Str × List Str)) : List Str := kp.map (·.1)
def addF (ok : Str → Str → Bool) (c : Str × List Str) (kp : List (Str × List Str)) (o : Str) : List (Str × List Str) := if o ∉ keysF kp ∧ ok c.1 o = true then kp ++ [(o, c.2 ++ [o])] else kp
def addsF (ok : Str → Str → Bool) (c : Str × List Str) (os : List Str) (kp : List (Str × List Str)) : List (Str × List Str) := os.foldl (addF ok c) kp
def stF (adj : Str → List Str) (ok : Str → Str → Bool) (root : Str) : Nat → List (Str × List Str)
  | 0 => [(root, [root])]
  | i + 1 => match (stF adj ok root i)[i]? with
    | none => stF adj ok root i
    | some c => addsF ok c (adj c.1) (stF adj ok root i)
def pathsF (adj : Str → List Str) (ok : Str → Str → Bool) (root : Str) : List (Str × List Str) := stF adj ok root 1000
inductive Reach (adj : Str → List Str) (ok : Str → Str → Bool) (root : Str) : Str → Prop
  | refl : Reach adj ok root root
  | step {a b : Str} : Reach adj ok root a → b ∈ adj a → ok a b = true → Reach adj ok root b
theorem Reach.trans {adj : Str → List Str} {ok : Str → Str → Bool} {a b c : Str} (h : Reach adj ok a b) (k : Reach adj ok b c) : Reach adj ok a c := by
  induction k with
  | refl => exact h
  | step _ m o ih => exact .step ih m o
section
variable {adj : Str → List Str} {ok : Str → Str → Bool} {root : Str}
theorem addF_cases (c : Str × List Str) (kp : List (Str × List Str)) (o : Str) : (addF ok c kp o = kp ∧ (o ∈ keysF kp ∨ ok c.1 o = false)) ∨ (addF ok c kp o = kp ++ [(o, c.2 ++ [o])] ∧ o ∉ keysF kp ∧ ok c.1 o = true) := by
  unfold addF
  by_cases h : o ∉ keysF kp ∧ ok c.1 o = true
  · rw [if_pos h]
    exact .inr ⟨rfl, h⟩
  · rw [if_neg h]
    refine .inl ⟨rfl, ?_⟩
    by_cases m : o ∈ keysF kp
    · exact .inl m
    · refine .inr ?_
      cases e : ok c.1 o with
      | false => rfl
      | true => exact (h ⟨m, e⟩).elim
theorem addsF_pre {c : Str × List Str} : ∀ {os : List Str} {kp : List (Str × List Str)}, ∃ r, addsF ok c os kp = kp ++ r
  | [], kp => ⟨[], (List.append_nil kp).symm⟩
  | o :: os, kp => by
    obtain ⟨r, hr⟩ := addsF_pre (c := c) (os := os) (kp := addF ok c kp o)
    have e : addsF ok c (o :: os) kp = addsF ok c os (addF ok c kp o) := rfl
    rw [e, hr]
    rcases addF_cases c kp o with ⟨h, _⟩ | ⟨h, _⟩
    · rw [h]
      exact ⟨r, rfl⟩
    · rw [h, List.append_assoc]
      exact ⟨_, rfl⟩
/-- what is added: each a neighbour that may be gone to -/
theorem addsF_mem {c : Str × List Str} : ∀ {os : List Str} {kp : List (Str × List Str)} {x : Str × List Str}, x ∈ addsF ok c os kp → x ∈ kp ∨ (x.1 ∈ os ∧ ok c.1 x.1 = true ∧ x.2 = c.2 ++ [x.1])
  | [], kp, x, h => .inl h
  | o :: os, kp, x, h => by
    have e : addsF ok c (o :: os) kp = addsF ok c os (addF ok c kp o) := rfl
    rw [e] at h
    rcases addsF_mem h with h | ⟨h1, h2, h3⟩
    · rcases addF_cases c kp o with ⟨e, _⟩ | ⟨e, _, k⟩
      · rw [e] at h
        exact .inl h
      · rw [e] at h
        rcases List.mem_append.mp h with h | h
        · exact .inl h
        · rw [List.mem_singleton] at h
          subst h
          exact .inr ⟨List.mem_cons_self, k, rfl⟩
    · exact .inr ⟨List.mem_cons_of_mem _ h1, h2, h3⟩
theorem addsF_all {c : Str × List Str} : ∀ {os : List Str} {kp : List (Str × List Str)} {o : Str}, o ∈ os → ok c.1 o = true → o ∈ keysF (addsF ok c os kp)
  | o' :: os, kp, o, h, k => by
    have e : addsF ok c (o' :: os) kp = addsF ok c os (addF ok c kp o') := rfl
    rw [e]
    rcases List.mem_cons.mp h with rfl | h
    · obtain ⟨r, hr⟩ := addsF_pre (ok := ok) (c := c) (os := os) (kp := addF ok c kp o)
      rw [hr, keysF, List.map_append]
      refine List.mem_append_left _ ?_
      rcases addF_cases c kp o with ⟨e, m⟩ | ⟨e, _⟩
      · rw [e]
        rcases m with m | m
        · exact m
        · rw [k] at m
          cases m
      · rw [e, List.map_append]
        exact List.mem_append_right _ List.mem_cons_self
    · exact addsF_all h k
theorem addF_nodup {c : Str × List Str} {kp : List (Str × List Str)} {o : Str} (h : (keysF kp).Nodup) : (keysF (addF ok c kp o)).Nodup := by
  rcases addF_cases c kp o with ⟨e, _⟩ | ⟨e, m, _⟩
  · rw [e]
    exact h
  · rw [e, keysF, List.map_append, List.nodup_append]
    refine ⟨h, by simp, fun a ha b hb z => ?_⟩
    have : b = o := by simpa using hb
    rw [z, this] at ha
    exact m ha
theorem addsF_nodup {c : Str × List Str} : ∀ {os : List Str} {kp : List (Str × List Str)}, (keysF kp).Nodup → (keysF (addsF ok c os kp)).Nodup
  | [], _, h => h
  | o :: os, kp, h => addsF_nodup (os := os) (addF_nodup h)
theorem stF_at {i : Nat} {c : Str × List Str} (h : (stF adj ok root i)[i]? = some c) : stF adj ok root (i + 1) = addsF ok c (adj c.1) (stF adj ok root i) := by
  rw [stF, h]
theorem stF_end {i : Nat} (h : (stF adj ok root i)[i]? = none) : stF adj ok root (i + 1) = stF adj ok root i := by
  rw [stF, h]
theorem stF_pre (i : Nat) : ∃ r, stF adj ok root (i + 1) = stF adj ok root i ++ r := by
  cases h : (stF adj ok root i)[i]? with
  | none => rw [stF_end h]; exact ⟨[], (List.append_nil _).symm⟩
  | some c => rw [stF_at h]; exact addsF_pre
theorem stF_pre' (i : Nat) : ∀ k, ∃ r, stF adj ok root (i + k) = stF adj ok root i ++ r
  | 0 => ⟨[], (List.append_nil _).symm⟩
  | k + 1 => by
    obtain ⟨r, hr⟩ := stF_pre' i k
    obtain ⟨r2, h2⟩ := stF_pre (adj := adj) (ok := ok) (root := root) (i + k)
    exact ⟨r ++ r2, by rw [← Nat.add_assoc, h2, hr, List.append_assoc]⟩
theorem stF_nodup : ∀ i, (keysF (stF adj ok root i)).Nodup
  | 0 => by simp [stF]
  | i + 1 => by
    cases h : (stF adj ok root i)[i]? with
    | none => rw [stF_end h]; exact stF_nodup i
    | some c => rw [stF_at h]; exact addsF_nodup (stF_nodup i)
theorem stF_root (i : Nat) : ∃ r, stF adj ok root i = (root, [root]) :: r := by
  obtain ⟨r, h⟩ := stF_pre' (adj := adj) (ok := ok) (root := root) 0 i
  rw [Nat.zero_add] at h
  exact ⟨r, h⟩
/-- a path: from the first to the last, each step to a neighbour that may be gone to -/
inductive PathTo (adj : Str → List Str) (ok : Str → Str → Bool) (root : Str) : Str → List Str → Prop
  | one : PathTo adj ok root root [root]
  | snoc {a b : Str} {p : List Str} : PathTo adj ok root a p → b ∈ adj a → ok a b = true → PathTo adj ok root b (p ++ [b])
theorem PathTo.reach {a : Str} {p : List Str} (h : PathTo adj ok root a p) : Reach adj ok root a := by
  induction h with
  | one => exact .refl
  | snoc _ m o ih => exact .step ih m o
theorem stF_path : ∀ i x, x ∈ stF adj ok root i → PathTo adj ok root x.1 x.2
  | 0, x, h => by
    rw [stF, List.mem_singleton] at h
    subst h
    exact .one
  | i + 1, x, h => by
    cases e : (stF adj ok root i)[i]? with
    | none => rw [stF_end e] at h; exact stF_path i x h
    | some c =>
      rw [stF_at e] at h
      rcases addsF_mem h with h | ⟨h1, h2, h3⟩
      · exact stF_path i x h
      · have := stF_path i c (List.mem_of_getElem? e)
        rw [h3]
        exact .snoc this h1 h2
theorem stF_reach {i : Nat} {x : Str} (h : x ∈ keysF (stF adj ok root i)) : Reach adj ok root x := by
  obtain ⟨y, hy, rfl⟩ := List.mem_map.mp h
  exact (stF_path i y hy).reach
/-- those whose turn has been have their neighbours found -/
theorem stF_closed : ∀ (i j : Nat) (c : Str × List Str), j < i → (stF adj ok root i)[j]? = some c → ∀ b ∈ adj c.1, ok c.1 b = true → b ∈ keysF (stF adj ok root i)
  | i + 1, j, c, hj, hc, b, hb, hk => by
    cases e : (stF adj ok root i)[i]? with
    | none =>
      rw [stF_end e] at hc ⊢
      have : j < (stF adj ok root i).length := (List.getElem?_eq_some_iff.mp hc).1
      have := List.getElem?_eq_none_iff.mp e
      exact stF_closed i j c (by omega) hc b hb hk
    | some d =>
      have li : i < (stF adj ok root i).length := (List.getElem?_eq_some_iff.mp e).1
      obtain ⟨r, hr⟩ := stF_pre (adj := adj) (ok := ok) (root := root) i
      have hc2 : (stF adj ok root i)[j]? = some c := by
        rw [hr, List.getElem?_append_left (by omega)] at hc
        exact hc
      by_cases q : j < i
      · have := stF_closed i j c q hc2 b hb hk
        rw [hr, keysF, List.map_append]
        exact List.mem_append_left _ this
      · have : j = i := by omega
        subst this
        rw [hc2] at e
        cases e
        rw [stF_at hc2]
        exact addsF_all hb hk
theorem stF_all {i : Nat} (h : (stF adj ok root i).length ≤ i) {x : Str} (r : Reach adj ok root x) : x ∈ keysF (stF adj ok root i) := by
  induction r with
  | refl =>
    obtain ⟨r, e⟩ := stF_root (adj := adj) (ok := ok) (root := root) i
    rw [e]
    exact List.mem_cons_self
  | step _ m o ih =>
    obtain ⟨y, hy, rfl⟩ := List.mem_map.mp ih
    obtain ⟨j, hj, e⟩ := List.mem_iff_getElem.mp hy
    exact stF_closed i j y (by omega) (by rw [List.getElem?_eq_getElem hj, e]) _ m o
/-- nodes of ns alone -/
theorem reach_mem {ns : List Str} (cl : ∀ x ∈ ns, ∀ y ∈ adj x, y ∈ ns) (h0 : root ∈ ns) {x : Str} (r : Reach adj ok root x) : x ∈ ns := by
  induction r with
  | refl => exact h0
  | step _ m _ ih => exact cl _ ih _ m
theorem nodup_len {α : Type} [DecidableEq α] : ∀ {xs ys : List α}, xs.Nodup → (∀ x ∈ xs, x ∈ ys) → xs.length ≤ ys.length
  | [], _, _, _ => Nat.zero_le _
  | x :: xs, ys, nd, h => by
    rw [List.nodup_cons] at nd
    have hx := h x List.mem_cons_self
    have := nodup_len (xs := xs) (ys := ys.erase x) nd.2 fun y hy => by
      refine (List.mem_erase_of_ne ?_).mpr (h y (List.mem_cons_of_mem _ hy))
      rintro rfl
      exact nd.1 hy
    rw [List.length_erase_of_mem hx] at this
    have : 0 < ys.length := List.length_pos_of_mem hx
    rw [List.length_cons]
    omega
theorem stF_len {ns : List Str} (cl : ∀ x ∈ ns, ∀ y ∈ adj x, y ∈ ns) (h0 : root ∈ ns) (i : Nat) : (stF adj ok root i).length ≤ ns.length := by
  have := nodup_len (stF_nodup (adj := adj) (ok := ok) (root := root) i) (ys := ns) fun x hx => reach_mem cl h0 (stF_reach hx)
  rw [List.length_map] at this
  exact this
end

/-! ### neighbours in order -/
def sortS (xs : List Str) : List Str := xs.mergeSort fun a b => !decide (sLt b a)
theorem sortS_perm (xs : List Str) : (sortS xs).Perm xs := List.mergeSort_perm xs _
theorem nlt_trans {a b c : Str} (h : ¬ sLt b a) (k : ¬ sLt c b) : ¬ sLt c a := by
  intro z
  rcases sLt_tri a b with t | t | t
  · exact k (sLt_trans z t)
  · subst t
    exact k z
  · exact h t
theorem sortS_pw (xs : List Str) : (sortS xs).Pairwise fun a b => ¬ sLt b a := by
  have := List.pairwise_mergeSort (le := fun a b : Str => !decide (sLt b a)) (fun a b c h k => by
    simp only [Bool.not_eq_true', decide_eq_false_iff_not] at h k ⊢
    exact nlt_trans h k) (fun a b => by
    rw [Bool.or_eq_true]
    simp only [Bool.not_eq_true', decide_eq_false_iff_not]
    by_cases z : sLt b a
    · exact .inr (sLt_asymm z)
    · exact .inl z) xs
  exact this.imp fun h => by
    simp only [Bool.not_eq_true', decide_eq_false_iff_not] at h
    exact h
theorem sortS_asc {xs : List Str} (nd : xs.Nodup) : Asc (sortS xs) := asc_of_sorted (sortS_pw xs) ((sortS_perm xs).nodup_iff.mpr nd)
theorem sort_uniq {xs ys : List Str} (p : ys.Perm xs) (s : ys.Pairwise fun a b => ¬ sLt b a) (nd : xs.Nodup) : ys = sortS xs :=
  asc_unique (asc_of_sorted s (p.nodup_iff.mpr nd)) (sortS_asc nd) fun z => by rw [p.mem_iff, (sortS_perm xs).mem_iff]
theorem nbrF_nodup {ns : List Str} {es : List (Str × Str)} (ok : GrOk ns es) (x : Str) : (nbrF es x).Nodup := by
  unfold nbrF
  rw [List.nodup_iff_pairwise_ne, List.pairwise_flatMap]
  have m : ∀ {e : Str × Str} {z : Str}, z ∈ (if e.1 = x then [e.2] else []) ++ (if e.2 = x then [e.1] else []) → (e.1 = x ∧ z = e.2) ∨ (e.2 = x ∧ z = e.1) := by
    intro e z h
    rcases List.mem_append.mp h with h | h
    · split at h
      · rename_i c
        exact .inl ⟨c, by simpa using h⟩
      · cases h
    · split at h
      · rename_i c
        exact .inr ⟨c, by simpa using h⟩
      · cases h
  refine ⟨fun e he => ?_, ?_⟩
  · by_cases c : e.1 = x
    · have c2 : ¬ e.2 = x := fun z => by
        have := ok.lt e he
        rw [c, z] at this
        exact sLt_irrefl _ this
      rw [if_pos c, if_neg c2]
      simp
    · rw [if_neg c]
      split <;> simp
  · have nd := List.nodup_iff_pairwise_ne.mp (ascE_nodup ok.asc)
    refine List.Pairwise.imp_of_mem (fun {e d} he hd ne => ?_) nd
    intro z hz y hy zy
    subst zy
    have le := ok.lt e he
    have ld := ok.lt d hd
    rcases m hz with ⟨a1, a2⟩ | ⟨a1, a2⟩ <;> rcases m hy with ⟨b1, b2⟩ | ⟨b1, b2⟩
    · exact ne (Prod.ext (a1.trans b1.symm) (a2.symm.trans b2))
    · rw [a1, ← a2] at le
      rw [b1, ← b2] at ld
      exact sLt_asymm le ld
    · rw [a1, ← a2] at le
      rw [b1, ← b2] at ld
      exact sLt_asymm le ld
    · exact ne (Prod.ext (a2.symm.trans b2) (a1.trans b1.symm))
def nbS (es : List (Str × Str)) (x : Str) : List Str := sortS (nbrF es x)
theorem nbS_mem {es : List (Str × Str)} {x z : Str} : z ∈ nbS es x ↔ (x, z) ∈ es ∨ (z, x) ∈ es := by
  unfold nbS
  rw [(sortS_perm _).mem_iff]
  exact mem_nbrF
theorem nbS_of {ns : List Str} {es : List (Str × Str)} {x : Str} {ys : List Str} (ok : GrOk ns es) (p : ys.Perm (nbrF es x)) (s : ys.Pairwise fun a b => ¬ sLt b a) : ys = nbS es x := sort_uniq p s (nbrF_nodup ok x)
theorem nbS_in {ns : List Str} {es : List (Str × Str)} (ok : GrOk ns es) {x y : Str} (h : y ∈ nbS es x) : y ∈ ns := by
  rcases nbS_mem.mp h with h | h
  · exact (ok.mem _ h).2
  · exact (ok.mem _ h).1
end U

/-! d.update(e); lists of texts compared; the last but one -/
namespace U
open PySem PySem.Spec PyProof.Rows L2
/-! lists of texts compared -/
section
variable {K : PySem.W.Frag} {H : Hp} {Q : VK} {p q : Addr} {x y : V} {d : PyData} {xs ys : List Str}
end
end U

/-! exceptions that outlive their handler; own classes over own classes -/
namespace U
open PySem PySem.Spec PyProof.Rows L2
/-- at a: an exception of the class cls, its dict at d -/
def exk (a : Addr) (cls : Value) (d : Option Addr) : HO := .ext fun h => ∃ oe vs, h.get? a = some oe ∧ Zc cls d oe ∧ oe.data = .fields vs
theorem exk_ok {P : Program} {w : World} {H : Hp} {h : Heap} {a : Addr} {cls : Value} {d : Option Addr} {oe : Obj} {vs : Array Value} (e : h.get? a = some oe) (z : Zc cls d oe) (f : oe.data = .fields vs) : ObjOk P w H h a (exk a cls d) := by
  refine ⟨⟨oe, vs, e, z, f⟩, ⟨_, e⟩, fun h1 h2 t k => ?_⟩
  obtain ⟨o2, v2, e2, z2, f2⟩ := t
  exact ⟨o2, v2, k _ e2, z2, f2⟩
section
variable {X : Cx} {pins : List (Addr × Obj)} {σ : L2.St} {H : Hp} {sI s' : Shared} {B : Heap} {a : Addr} {cls : Value} {d : Option Addr} {oe : Obj} {vs : Array Value}
/-- back on the ground, the exception tracked -/
theorem landed_k (I : Inv X pins σ H sI) (nb : ∀ b o, sI.heap.get? b = some o → b ∉ frs X.stack → B.get? b = some o) (st : B.StaysIn s'.heap) (up : sI.heap.UpToSlots s'.heap) (os : s'.os = sI.os) (ag : AllBare s'.gens)
    (hB : B.get? a = none) (nfr : a ∉ frs X.stack) (na : H a = none) (he : s'.heap.get? a = some oe) (hz : Zc cls d oe) (hd : oe.data = .fields vs) : Inv X pins σ (upd H a (exk a cls d)) s' := by
  have fr : ∀ b ∈ frs X.stack, ∀ o, sI.heap.get? b = some o → ∃ sl, s'.heap.get? b = some { o with slots := sl } := by
    intro b hb o e
    obtain ⟨_, o1, e1, h1⟩ := I.stack.mem hb
    rw [e] at e1
    cases e1
    exact up b o e h1
  have sIa : ∀ o, sI.heap.get? a ≠ some o := fun o e => by
    rw [nb a o e nfr] at hB
    cases hB
  have ok1 : HOk X.prog X.w H s'.heap := (I.inGround nb).kept st
  have ok2 : HOk X.prog X.w (upd H a (exk a cls d)) s'.heap := by
    intro b o e
    by_cases hb : b = a
    · subst hb
      rw [upd_same] at e
      cases e
      exact exk_ok he hz hd
    · rw [upd_ne hb] at e
      exact (ok1 b o e).stay (fun c v _ q => q) (fun c q => at_upd (ne_of_none q na) q) fun c xs q => at_upd (ne_of_none q na) q
  have J := I.call (ch := []) (h' := s'.heap) (g' := s'.gens) (t' := s'.toks) (d' := s'.drawn) (H' := upd H a (exk a cls d))
    { keep := fun b o e _ hb _ => st b o (nb b o e hb)
      slot := fun b o e _ hb _ => fr b hb o e
      free := fun b o e n _ => no_upd (fun z => sIa o (by rw [← z]; exact e)) n
      there := fun b o e _ => by
        by_cases hb : b ∈ frs X.stack
        · obtain ⟨sl, q⟩ := fr b hb o e
          exact ⟨_, q⟩
        · exact ⟨o, st b o (nb b o e hb)⟩
      tups := fun _ _ e => at_upd (ne_of_none e na) e
      frzs := fun _ _ _ e => at_upd (ne_of_none e na) e
      tbls := fun b ps e => ⟨#[], by rw [at_upd (ne_of_none e na) e]; simp⟩ } ok2 ag (fun _ z => nomatch z)
  obtain ⟨b1, b2, b3, b4, b5⟩ := s'
  have e5 : b5 = sI.os := os
  subst e5
  exact J
end
/-- the wish of 'except x as n', the exception tracked: slot i is n's -/
def wKeep (K : PySem.W.Frag) (c : Value) (i : Nat) (ts : TS) (Wout : WX) (D : Ends) : WX := fun cls d σ H =>
  ∃ b, PySem.W.exmOne K cls c = some b ∧ (b = false → Wout cls d σ H) ∧
    (b = true → ∀ a, H a = none → ts { nx := fun σ1 H1 => D.nx (σ1.set i none) H1, rt := D.rt, bk := fun σ1 H1 => D.bk (σ1.set i none) H1, ct := fun σ1 H1 => D.ct (σ1.set i none) H1 } (σ.set i (some (.ref a))) (upd H a (exk a cls d)))
section
variable {X : Cx} {x n : Str} {c : Value} {i : Nat} {body suite : List Stmt} {b₀ : Stmt} {np pos pos' : Pos} {tb : WX → TS} {ts : TS} {Wout : WX}
theorem ps_try_keep (hs : X.stack = X.env :: X.outer) (hf : X.env.frame = some X.env.locals) (hN : X.N.Nodup) (hi : X.N[i]? = some n) (hln : X.env.kindOf n = some .local) (hc : L2.Names X x c) (tk : Takes X Wout)
    (hb : ∀ (W : WX) (pn : List (Addr × Obj)) (xe : Value → Shared → Prop), Takes (X.tr pn xe) W → PassesOwn (model X.prog X.w) X.A X.env xe → PSs (X.tr pn xe) body (tb W))
    (hsu : ∀ (a : Addr) (pn : List (Addr × Obj)), PSs (X.suite a pn) (b₀ :: suite) ts) :
    PS X (.Try body [.ExceptHandler (some (.Name x np)) (some n) (b₀ :: suite) pos'] [] [] pos) (fun D σ H => tb (wKeep X.K c i ts Wout D) D σ H) := by
  refine ⟨fun pins s σ H D I want => ?_⟩
  have okX := I.ok
  have frX : X.A.frames = some (X.env :: X.outer) := by rw [okX.frames, hs]
  refine wpAny_Try_except ?_
  have run := (hb (wKeep X.K c i ts Wout D) (X.pn ++ pins) (fun e t1 => wpAny (model X.prog X.w) X.A (noteFrame e X.env) (fun _ t2 => wpAny (model X.prog X.w) X.A (setFlight e none) (fun _ t3 =>
    wpAny (model X.prog X.w) X.A (handleBy e X.env [.ExceptHandler (some (.Name x np)) (some n) (b₀ :: suite) pos']) (SP X pins D) X.xe t3) X.xe t2) X.xe t1) ?_ PassesOwn.looking).run [] s σ H D (I.toTry _) want
  · refine wpAny_mono run (fun f t1 h => ?_) fun _ _ z => z
    cases f with
    | next =>
      obtain ⟨σ1, H1, J, q⟩ := h
      exact wpAny_execs_nil ⟨σ1, H1, J.ofTry okX, q⟩
    | brk =>
      obtain ⟨σ1, H1, J, q⟩ := h
      exact ⟨σ1, H1, J.ofTry okX, q⟩
    | cont =>
      obtain ⟨σ1, H1, J, q⟩ := h
      exact ⟨σ1, H1, J.ofTry okX, q⟩
    | ret v =>
      obtain ⟨v1, σ1, H1, J, r, q⟩ := h
      exact ⟨v1, σ1, H1, J.ofTry okX, r, q⟩
  · intro u t0 xx
    obtain ⟨a, B, sI, pins1, σ1, H1, cls, d, rfl, J1, nb, up, sky, na, os, ag, b, hb1, hno, hyes⟩ := xx
    have J : Inv X pins σ1 H1 sI := J1.ofTry okX
    have sky1 : Sky B (X.env :: X.outer) a (Zc cls d) X.env.locals t0.heap := by rw [← hs]; exact sky
    show wpAny (model X.prog X.w) X.A (noteFrame (.ref a) X.env) _ _ _
    refine Sky.land Zc.steady frX hf sky1 fun h3 fl3 up3 => ?_
    have J3 : Inv X pins σ1 H1 { t0 with heap := h3 } := J.landed nb fl3.1 (up.trans up3) os ag
    obtain ⟨oe3, vs3, he3, hz3, hd3⟩ := fl3.there
    have off : ∀ {h : Heap} {o : Obj} {vs : Array Value}, h.FunFrames B (X.env :: X.outer) → h.get? a = some o → o.data = .fields vs → a ∉ frs (X.env :: X.outer) := by
      intro h o vs ff e dd hm
      obtain ⟨_, o1, e1, hnf⟩ := ff.mem hm
      rw [e] at e1
      cases e1
      exact hnf _ dd
    have nfr := off fl3.2.2.1 he3 hd3
    have nL : a ≠ X.env.locals := fun z => nfr (List.mem_filterMap.mpr ⟨X.env, List.mem_cons_self, by rw [hf, z]⟩)
    have nF : a ∉ X.fs := by
      intro hm
      obtain ⟨e, he, q⟩ := List.mem_filterMap.mp hm
      exact nfr (List.mem_filterMap.mpr ⟨e, List.mem_cons_of_mem _ he, q⟩)
    have S3 := J3.suite he3 hd3 na nL nF
    refine wpAny_handleBy_cons (codeAny_handlers_test ?_) (by intro q; cases q)
    have LT : PySem.W.Looks (model X.prog X.w) h3 (typeOf (.ref a)) cls := fun A Q E s k q => wpAny_typeOf_ref (k _ _ he3) (by rw [hz3.1]; exact q)
    have LM := PySem.W.exm_one (M := model X.prog X.w) (J3.kIn) LT hb1
    have named : ∀ {Q E : Value → Shared → Prop}, Q c { t0 with heap := h3 } → wpAny (model X.prog X.w) (X.A.mark (some (.ref a))) (eval (.Name x np) X.env) Q E { t0 with heap := h3 } := by
      intro Q E q
      obtain ⟨hg, hdbg, hm | ⟨hm, hv, hnn⟩⟩ := hc
      · exact ld_glob (X := X.suite a ((a, oe3) :: (X.pn ++ pins))) S3 hg hm q hdbg
      · exact ld_blt (X := X.suite a ((a, oe3) :: (X.pn ++ pins))) S3 hg hm hv q hnn hdbg
    refine named (LM.here ?_)
    cases b with
    | false =>
      show wpAny _ X.A (handleBy (.ref a) X.env []) _ _ _
      refine wpAny_handleBy_nil ?_
      obtain ⟨k1, k2, k3, oe, vs, T, oT, ts1, he, hz, hd, h1, hr⟩ := id fl3
      unfold PySem.passOn
      refine wpAny_bind (wpAny_field he hd h1 ?_)
      rw [if_neg (show ¬ ((Value.ref T == Value.none) = true) from by simp)]
      have onward : wpAny (model X.prog X.w) X.A (setFlight (.ref a) X.env.frame) (fun _ s4 => wpAny (model X.prog X.w) X.A (throw (.ref a) : Sem Flow) (SP X pins D) X.xe s4) X.xe { t0 with heap := h3 } := by
        rw [hf]
        refine HandSPX.setFlight_upZ fl3 fun h4 hh4 up4 => wpAny_throw (tk _ _ ?_)
        exact ⟨a, B, sI, pins, σ1, H1, cls, d, rfl, J, nb, (up.trans up3).trans up4, .inr (.inr (by rw [hs]; exact hh4)), na, os, ag, hno rfl⟩
      first
        | exact wpAny_bind (wpAny_pure (wpAny_bind onward))
        | exact wpAny_bind onward
    | true =>
      refine codeAny_handlers_suite_as ?_
      refine HandSPX.lands_againZ fl3 fun h4 fl4 up4 => ?_
      obtain ⟨oe4, vs4, he4, hz4, hd4⟩ := fl4.there
      have J4 : Inv X pins σ1 (upd H1 a (exk a cls d)) { t0 with heap := h4 } := landed_k J nb fl4.1 ((up.trans up3).trans up4) os ag fl4.2.1 (by rw [hs]; exact nfr) na he4 hz4 hd4
      have S4 : Inv (X.suite a (X.pn ++ pins)) [] σ1 (upd H1 a (exk a cls d)) { t0 with heap := h4 } :=
        ⟨J4.ok.suite _ _, J4.os, J4.bare, J4.base, J4.loc, J4.cell, J4.free, J4.freeC, fun p hp => J4.pin p (by rw [List.append_nil] at hp; exact hp), J4.hok, J4.len⟩
      refine store_ok (X := X.suite a (X.pn ++ pins)) (v := .ref a) S4 hN hi (.inl hln) rfl (fun s5 S5 => ?_) (.inr hln)
      refine wpAny_mono ((hsu a (X.pn ++ pins)).run [] s5 _ _ _ S5 (hyes rfl a na)) (fun f s6 hsp => ?_) (fun _ _ z => False.elim z)
      have back : ∀ {σ6 : L2.St} {H6 : Hp}, Inv (X.suite a (X.pn ++ pins)) [] σ6 H6 s6 → Inv X pins σ6 H6 s6 := fun S =>
        ⟨okX, S.os, S.bare, S.base, S.loc, S.cell, S.free, S.freeC, fun p hp => S.pin p (List.mem_append_left _ hp), S.hok, S.len⟩
      have over : ∀ {σ6 : L2.St} {H6 : Hp} {Q : Shared → Prop}, Inv (X.suite a (X.pn ++ pins)) [] σ6 H6 s6 → (∀ s7, Inv X pins (σ6.set i none) H6 s7 → Q s7) →
          wpAny (model X.prog X.w) X.A (do bindName X.env n .none; unbindBehindTheSuite X.env n pos') (fun _ s7 => Q s7) X.xe s6 := fun S6 hq => gone_ok (back S6) hN hi hln hq
      cases f with
      | next =>
        obtain ⟨σ6, H6, S6, q6⟩ := hsp
        exact over S6 fun s7 J7 => ⟨_, _, J7, q6⟩
      | brk =>
        obtain ⟨σ6, H6, S6, q6⟩ := hsp
        exact over S6 fun s7 J7 => ⟨_, _, J7, q6⟩
      | cont =>
        obtain ⟨σ6, H6, S6, q6⟩ := hsp
        exact over S6 fun s7 J7 => ⟨_, _, J7, q6⟩
      | ret v =>
        obtain ⟨v6, σ6, H6, S6, r6, q6⟩ := hsp
        exact over S6 fun s7 J7 => ⟨_, _, _, J7, r6, q6⟩
end
/-! e.f of a tracked exception -/
/-! Base.__init__(self, ..), Base an own class over ValueError with no __init__ of its own -/
structure BaseI (K : PySem.W.Frag) (CB : Addr) : Prop where
  kp : PySem.W.keepIn K (.ref CB) = true
  ga : PySem.W.specialIn K (.ref CB) "__getattribute__" = some (some (.builtin "type.__getattribute__"))
  rd : PySem.W.readsIn K CB (.type "type") = true
  at_ : PySem.W.findCls K (.ref CB) (.type "type") "__init__" = some (.val (.builtin "ValueError.__init__"))
theorem pe_binit {X : Cx} {x : Str} {CB : Addr} {e : Expr} {es : List Expr} {ta : TA} {p1 p2 pos : Pos} {pl : Sem Bool} (hg : Gl X x) (hm : X.mg x = some (.ref CB)) (T : BaseI X.K CB) (ha : PA X (e :: es) ta)
    (hc : eval (.Call (.Attribute (.Name x p1) "__init__" p2) (e :: es) [] pos) X.env = (do
      let ov ← eval (.Name x p1) X.env
      standAt p2.atName
      let (f, first) ← holding [ov] (getMethod ov "__init__" pl)
      callWith pos f first (backTo pos (starEach (e :: es) X.env)) (backToKw pos (keywordEach [] X.env))) := by rfl)
    (hdb : (x == ("__debug__" : Str)) = false := by decide)
    (he : starEach (e :: es) X.env = (false, eval e X.env) :: starEach es X.env := by rfl) (hpl : (backTo pos (starEach es X.env)).any (·.1) = false := by rfl) :
    PE X (.Call (.Attribute (.Name x p1) "__init__" p2) (e :: es) [] pos) (tVeI X.K ta) := by
  refine ⟨fun pins s σ H Q I want => ?_⟩
  refine PySem.W.methodCall_KW (ld_glob I hg hm ?_ hdb) hc
  refine PySem.W.method_cls I.kIn T.ga (PySem.W.cls_value I.kIn T.rd T.at_ (by decide +kernel) ?_)
  show wpAny _ _ (callWith pos (Value.builtin "ValueError.__init__") [] (backTo pos (starEach (e :: es) X.env)) []) _ _ _
  refine PyProof.Rows.callWith_method1 (thn (ha.run pos pins _ σ H _ (I.tok _) want) fun us s1 ⟨vs, H1, I1, r1, a, C, ws, ev, hl, O, ea, q⟩ => ?_) he hpl
  subst ev
  cases r1 with
  | @cons _ u0 _ ur ra rest =>
    obtain rfl : u0 = Value.ref a := ra
    have few : ur.length ≤ sizeLine := by
      rw [← Paired.length rest, sizeLine_eq]
      omega
    exact oinit_ok O I1 ea few fun s2 J => ⟨.non, H1, J, rfl, q⟩
end U

/-! small readings that many laws want -/
namespace U
open PySem PySem.Spec PyProof.Rows L2
section
variable {K : PySem.W.Frag} {H H' : Hp} {Q : VK} {p q a : Addr} {σ : L2.St} {te td : TE} {tr : TA} {xs : List V}
theorem rd_tyD {kvs : List (Key × V)} {P : Prop} (hs : H p = some (.dK kvs)) (h : P) : tyV K "dict" (.ref p) H ∧ P := ⟨.inr (.inr (.inl ⟨rfl, .inl ⟨kvs, hs⟩⟩)), h⟩
theorem rd_clr {kvs : List (Key × V)} (hs : H p = some (.dK kvs)) (h : Q .non (upd H p (.dK []))) : rDClear (.ref p) [] H Q := ⟨p, kvs, rfl, rfl, hs, h⟩
end
theorem merge_kvF {h : Str → Int} : ∀ {b a : List Str}, (a ++ b).Nodup → mergeK (kvF a h) (kvF b h) = kvF (a ++ b) h
  | [], a, _ => by rw [List.append_nil]; rfl
  | n :: b, a, nd => by
    have nn : n ∉ a := by
      rw [List.nodup_append] at nd
      exact fun z => nd.2.2 n z n List.mem_cons_self rfl
    have e : mergeK (kvF a h) (kvF (n :: b) h) = mergeK (putK (kvF a h) (.inr n) (.int (h n))) (kvF b h) := rfl
    have u : updf h n (h n) = h := by
      funext x
      unfold updf
      by_cases z : x = n
      · rw [if_pos z, z]
      · rw [if_neg z]
    rw [e, kvF_new nn, u, merge_kvF (by rw [List.append_assoc]; exact nd), List.append_assoc]
    rfl
theorem merge_all {ns : List Str} {h : Str → Int} (nd : ns.Nodup) : mergeK [] (kvF ns h) = kvF ns h := by
  have mk := merge_kvF (a := []) (b := ns) (h := h) (by rw [List.nil_append]; exact nd)
  rw [List.nil_append] at mk
  exact mk
end U

/-! a pair among pairs; lists of lists of texts -/
namespace U
open PySem PySem.Spec PyProof.Rows L2
/-! lists of lists of texts -/
end U

/-! tuples of numbers compared; a pair in a tuple of pairs; numbers == [] -/
namespace U
open PySem PySem.Spec PyProof.Rows L2
def rInT (K : PySem.W.Frag) : R2 := fun x y H Q => ∃ (d : PyData) (ds : List PyData), Dp K H x d ∧ Dp K H y (.tuple ds) ∧ SeqAt.shaped d = true ∧ SeqAt.shaped (.tuple ds) = true ∧ Q (.bl (ds.any fun z => PyData.eqv z d)) H
theorem kInT {X : Cx} (K : PySem.W.Frag) (hK : X.K = K) (hu : X.A.units + 65 < cLine) : OpR X (compareOp .In) (rInT K) := by
  subst hK
  intro pins s σ H x y v u Q I rx ry ⟨d, ds, hd, he, sd, se, q⟩
  obtain ⟨_, r1⟩ := Dp.reads I _ _ _ hd rx
  obtain ⟨_, r2⟩ := Dp.reads I _ _ _ he ry
  exact SeqAt.in_tuple_reads r2 r1 (SeqAt.canLay_of_shaped se) (SeqAt.canLay_of_shaped sd) (room_in_shaped sd hu) ⟨.bl _, H, I, rfl, q⟩
section
variable {K : PySem.W.Frag} {H : Hp} {Q : VK} {p q : Addr} {xs ys : List Int}
end
end U

/-! sorted(d) where d's keys are tuples of numbers -/
namespace U
open PySem PySem.Spec PyProof.Rows L2
section
variable {X : Cx}
end
end U

/-! components, root paths, basis cycles: the plain law -/
namespace U
open PySem PySem.Spec PyProof.Rows L2
theorem risingS_pw : ∀ {xs : List Str} {p : Str}, risingS p xs = true → (∀ x ∈ xs, ¬ sLt x p) ∧ xs.Pairwise (fun a b => ¬ sLt b a)
  | [], _, _ => ⟨(fun x hx => nomatch hx), List.Pairwise.nil⟩
  | x :: r, p, h => by
    rw [risingS, Bool.and_eq_true, Bool.not_eq_true', ltCps_eq, decide_eq_false_iff_not] at h
    obtain ⟨h1, h2⟩ := h
    obtain ⟨k1, k2⟩ := risingS_pw h2
    refine ⟨fun y hy => ?_, List.pairwise_cons.mpr ⟨k1, k2⟩⟩
    rcases List.mem_cons.mp hy with rfl | hy
    · exact h1
    · exact nlt_trans h1 (k1 y hy)
theorem sortedS_pw : ∀ {xs : List Str}, sortedS xs = true → xs.Pairwise (fun a b => ¬ sLt b a)
  | [], _ => List.Pairwise.nil
  | x :: r, h => by
    obtain ⟨a, b⟩ := risingS_pw (show risingS x r = true from h)
    exact List.pairwise_cons.mpr ⟨a, b⟩
abbrev ptF (es : List (Str × Str)) (x : Str) : List (Str × List Str) := pathsF (nbS es) (fun _ _ => true) x
abbrev Con (es : List (Str × Str)) (x y : Str) : Prop := Reach (nbS es) (fun _ _ => true) x y
section
variable {ns : List Str} {es : List (Str × Str)} {x y : Str}
theorem con_symm (h : Con es x y) : Con es y x := by
  induction h with
  | refl => exact .refl
  | step _ m _ ih =>
    refine Reach.trans (.step .refl ?_ rfl) ih
    exact nbS_mem.mpr ((nbS_mem.mp m).symm)
theorem pt_mem (ok : GrOk ns es) (l : ns.length ≤ 1000) (hx : x ∈ ns) : y ∈ keysF (ptF es x) ↔ Con es x y :=
  ⟨fun h => stF_reach h, fun h => stF_all (by have := stF_len (ok := fun _ _ => true) (adj := nbS es) (ns := ns) (fun a _ b hb => nbS_in ok hb) hx 1000; omega) h⟩
theorem pt_nodup : (keysF (ptF es x)).Nodup := stF_nodup 1000
theorem pt_in (ok : GrOk ns es) (hx : x ∈ ns) (h : y ∈ keysF (ptF es x)) : y ∈ ns := reach_mem (fun a _ b hb => nbS_in ok hb) hx (stF_reach h)
def comp (es : List (Str × Str)) (x : Str) : List Str := sortS (keysF (ptF es x))
theorem comp_mem (ok : GrOk ns es) (l : ns.length ≤ 1000) (hx : x ∈ ns) : y ∈ comp es x ↔ Con es x y := by
  unfold comp
  rw [(sortS_perm _).mem_iff, pt_mem ok l hx]
def compStep (es : List (Str × Str)) (cs : List (List Str)) (n : Str) : List (List Str) := if n ∈ cs.flatten then cs else cs ++ [comp es n]
def compsF (ns : List Str) (es : List (Str × Str)) : List (List Str) := ns.foldl (compStep es) []
/-- components found from the nodes ds, all in ns -/
structure Cmps (ns : List Str) (es : List (Str × Str)) (ds : List Str) (cs : List (List Str)) : Prop where
  of : ∀ c ∈ cs, ∃ r ∈ ns, c = comp es r
  nd : cs.flatten.Nodup
  all : ∀ x ∈ ds, x ∈ cs.flatten
theorem Cmps.nil : Cmps ns es [] [] := ⟨(fun c hc => nomatch hc), List.nodup_nil, (fun x hx => nomatch hx)⟩
theorem Cmps.in_ {ds : List Str} {cs : List (List Str)} (h : Cmps ns es ds cs) (ok : GrOk ns es) : ∀ x ∈ cs.flatten, x ∈ ns := fun x hx => by
  obtain ⟨c, hc, hx⟩ := List.mem_flatten.mp hx
  obtain ⟨r, hr, rfl⟩ := h.of c hc
  exact pt_in ok hr ((sortS_perm _).mem_iff.mp hx)
theorem Cmps.step {ds : List Str} {cs : List (List Str)} {n : Str} (h : Cmps ns es ds cs) (ok : GrOk ns es) (l : ns.length ≤ 1000) (hn : n ∈ ns) : Cmps ns es (ds ++ [n]) (compStep es cs n) := by
  unfold compStep
  by_cases m : n ∈ cs.flatten
  · rw [if_pos m]
    refine ⟨h.of, h.nd, fun x hx => ?_⟩
    rcases List.mem_append.mp hx with hx | hx
    · exact h.all x hx
    · rw [List.mem_singleton] at hx
      rw [hx]
      exact m
  · rw [if_neg m]
    refine ⟨fun c hc => ?_, ?_, fun x hx => ?_⟩
    · rcases List.mem_append.mp hc with hc | hc
      · exact h.of c hc
      · rw [List.mem_singleton] at hc
        exact ⟨n, hn, hc⟩
    · rw [List.flatten_append, List.nodup_append]
      refine ⟨h.nd, ?_, fun a ha b hb z => ?_⟩
      · rw [List.flatten_singleton]
        exact (sortS_perm _).nodup_iff.mpr pt_nodup
      · rw [List.flatten_singleton] at hb
        subst z
        obtain ⟨c, hc, ha⟩ := List.mem_flatten.mp ha
        obtain ⟨r, hr, rfl⟩ := h.of c hc
        have h1 := (comp_mem ok l hr).mp ha
        have h2 := (comp_mem ok l hn).mp hb
        exact m (List.mem_flatten.mpr ⟨_, hc, (comp_mem ok l hr).mpr (h1.trans (con_symm h2))⟩)
    · rw [List.flatten_append, List.flatten_singleton]
      rcases List.mem_append.mp hx with hx | hx
      · exact List.mem_append_left _ (h.all x hx)
      · rw [List.mem_singleton] at hx
        subst hx
        exact List.mem_append_right _ ((comp_mem ok l hn).mpr .refl)
theorem Cmps.len {ds : List Str} {cs : List (List Str)} (h : Cmps ns es ds cs) (ok : GrOk ns es) : cs.flatten.length ≤ ns.length := nodup_len h.nd (h.in_ ok)
/-! root paths -/
def rootsF (es : List (Str × Str)) (cs : List (List Str)) : List (Str × List Str) := cs.flatMap fun c => ptF es (c.headD Str.empty)
end
end U

/-! sorted(d.items()), d a dict of numbers by names -/
namespace U
open PySem PySem.Spec PyProof.Rows L2 L2.DX
def rItemsK : V → List V → Hp → VK → Prop := fun x xs H Q => ∃ (a : Addr) (kvs : List (Key × V)), x = .ref a ∧ xs = [] ∧ H a = some (.dK kvs) ∧ ∀ p, H p = none → Q (.ref p) (upd H p (itemsO p a))
/-- a name and its number -/
abbrev dPr (f : Str → Int) (x : Str) : PyData := .tuple [.str x, .int (f x)]
def rSortIK : List V → Hp → VK → Prop := fun vs H Q => ∃ (p d : Addr) (ks : List Str) (f : Str → Int), vs = [.ref p] ∧ H p = some (itemsO p d) ∧ H d = some (.dK (kvF ks f)) ∧
  ∀ (H' : Hp) (l : Addr) (bs : List (Addr × Str)), Same H H' → H l = none → H' l = some (.lst (bs.map fun b => V.ref b.1)) → (∀ b ∈ bs, H' b.1 = some (.tup [.str b.2, .int (f b.2)])) → (bs.map (·.2)).Perm ks → (bs.map (·.2)).Pairwise (fun a b => ¬ sLt b a) → Q (.ref l) H'
theorem reads_si {h : Heap} {x : Str} {i : Int} : ∀ {vs : List Value} {as : List Addr}, ReadsAll h vs [.str x, .int i] as → as = [] := by
  intro vs as r
  cases r with
  | cons k1 k2 =>
    cases k1
    cases k2 with
    | cons k3 k4 =>
      cases k3
      cases k4
      rfl
theorem pr_lt {f : Str → Int} {a b : Str} (h : dLt (dPr f b) (dPr f a) = false) : ¬ sLt b a := fun z => by
  have h' : PySem.W.dataLt (.tuple [.str b, .int (f b)]) (.tuple [.str a, .int (f a)]) = false := h
  rw [PySem.W.dataLt_pair (by rfl) (by rfl)] at h'
  have ne : PyData.eqv (.str b) (.str a) = false := by
    simp only [PyData.eqv]
    refine beq_eq_false_iff_ne.mpr fun e => ?_
    rw [e] at z
    exact sLt_irrefl _ z
  rw [ne, if_neg (by decide), PySem.W.dataLt_str] at h'
  exact of_decide_eq_false h' z
section
variable {X : Cx}
theorem mt_itemsK : MtR X "dict.items" rItemsK := by
  intro pins s σ H x xs v us Q I rx rxs h
  obtain ⟨a, kvs, rfl, rfl, ha, q⟩ := h
  cases rx
  cases rxs
  obtain ⟨z, hd, vs, kv, o, es, ep, ho, hx, hdat, _⟩ := dk_of I.hok ha
  refine DT.callItems (es := es) (ep := ep) hd ⟨o, ho, hx, hdat⟩ ?_
  have fr : H s.heap.objs.size = none := I.hok.fresh (Nat.le_refl _)
  refine ⟨.ref s.heap.objs.size, upd H s.heap.objs.size (itemsO s.heap.objs.size a), ?_, rfl, q _ fr⟩
  exact I.laid (t' := s.toks) (fun b u e => Heap.get?_push_of_some _ e) (Nat.le_refl _) (itemsO_ok (Heap.get?_push_size _ rfl))
theorem prs_at {ks : List Str} {f : Str → Int} {knd : PySem.KeyKind X.prog X.w Key} : ∀ {vs : List (Key × Value)} {es : List DictEntry}, KV (kvF ks f) vs → Pairs knd es vs → (∀ k v, knd.is k v = true → RelV (kV k) v) → es.length = ks.length ∧
    ∀ j (hj : j < ks.length), ∃ e, es[j]? = some e ∧ RelV (.str ks[j]) e.key ∧ RelV (.int (f ks[j])) e.val := by
  intro vs es kv pr hk
  induction ks generalizing vs es with
  | nil =>
    cases kv
    cases pr
    exact ⟨rfl, fun j hj => absurd hj (Nat.not_lt_zero _)⟩
  | cons x ks ih =>
    cases kv with
    | cons h t =>
      cases pr with
      | cons p1 p2 p3 =>
        obtain ⟨l, at_⟩ := ih t p3
        refine ⟨by simpa using l, fun j hj => ?_⟩
        cases j with
        | zero =>
          refine ⟨_, rfl, ?_, ?_⟩
          · rw [← h.1] at p1
            exact hk _ _ p1
          · rw [p2]
            exact h.2
        | succ j => exact at_ j (by simpa using hj)
theorem cr_sortedItK (hc : X.calm = true) (hu : X.A.units + 64 < cLine) : CallR X (.builtin "sorted") rSortIK := by
  intro pins s σ H xs us Q I r h
  obtain ⟨p, d, ks, f, rfl, hp, hd, q⟩ := h
  obtain rfl := Vals.ref1 r
  have view : s.heap.IsItemsView p d := (show ObjOk X.prog X.w H s.heap p (itemsO p d) from I.hok p _ hp).1
  obtain ⟨z, hs, vs, kv, o, es, ep, ho, hx, hdat, hko, prs, ndk⟩ := dk_of I.hok hd
  obtain ⟨le, ats⟩ := prs_at (X := X) kv prs fun k v e => relV_key e
  have zl : (kvF ks f).length = ks.length := List.length_map _
  rw [Array.length_toList] at le
  refine DT.sortedI (es := es) (ep := ep) (I.ok.hd hc) view ⟨o, ho, hx, hdat⟩ (by omega) fun h' tk as hk hlt hl hG => ?_
  have la : as.length = ks.length := hl.trans le
  have nd : as.Nodup := hG.rise.imp fun h => Nat.ne_of_lt h
  have cont : ∀ (j : Nat) (b : Addr), as[j]? = some b → ∃ x, ks[j]? = some x ∧ ∃ vs, Vals [.str x, .int (f x)] vs ∧ h'.get? b = some { cls := .type "tuple", data := .seq vs.toArray } := by
    intro j b hj
    obtain ⟨e, he, hg⟩ := hG.pairs j b hj
    have hj2 : j < ks.length := by
      have := (List.getElem?_eq_some_iff.mp hj).1
      omega
    obtain ⟨e', he', r1, r2⟩ := ats j hj2
    rw [Array.getElem?_toList] at he'
    have ee : e' = e := Option.some.inj (he'.symm.trans he)
    rw [ee] at r1 r2
    exact ⟨_, List.getElem?_eq_getElem hj2, [e.key, e.val], .cons r1 (.cons r2 .nil), hg⟩
  have I1 : Inv X pins σ H { s with heap := h', toks := tk } := I.kept hk
  obtain ⟨H1, I2, mono, tk2⟩ := takeT (P := fun b vs => ∃ (j : Nat) (x : Str), as[j]? = some b ∧ ks[j]? = some x ∧ vs = [.str x, .int (f x)]) I as H I1 nd fun b hb => by
    obtain ⟨j, hj⟩ := List.mem_iff_getElem?.mp hb
    obtain ⟨x, hx, vs, rv, hg⟩ := cont j b hj
    have ab := hG.above b hb
    exact ⟨Nat.le_of_lt ab, I.hok.fresh (Nat.le_of_lt ab), [.str x, .int (f x)], ⟨j, x, hj, hx, rfl⟩, fun H2 => ⟨by show 2 ≤ sizeLine; decide, vs, rv, _, hg, rfl, 0, rfl⟩⟩
  -- names by their tuples
  obtain ⟨bs, eb1, eb2⟩ : ∃ bs : List (Addr × Str), bs.map (·.1) = as ∧ bs.map (·.2) = ks := ⟨as.zip ks, List.map_fst_zip (Nat.le_of_eq la), List.map_snd_zip (Nat.le_of_eq la.symm)⟩
  have tup : ∀ b ∈ bs, H1 b.1 = some (.tup [.str b.2, .int (f b.2)]) := by
    intro b hb
    obtain ⟨j, hj⟩ := List.mem_iff_getElem?.mp hb
    have h1 : as[j]? = some b.1 := by rw [← eb1, List.getElem?_map, hj]; rfl
    have h2 : ks[j]? = some b.2 := by rw [← eb2, List.getElem?_map, hj]; rfl
    obtain ⟨ws, ⟨i, x, i1, i2, rfl⟩, hw⟩ := tk2 b.1 (List.mem_of_getElem? h1)
    have ij : i = j := by
      have a1 := (List.getElem?_eq_some_iff.mp i1)
      have a2 := (List.getElem?_eq_some_iff.mp h1)
      obtain ⟨l1, e1⟩ := a1
      obtain ⟨l2, e2⟩ := a2
      exact (List.pairwise_iff_getElem.mp hG.rise) |> fun pw => by
        rcases Nat.lt_trichotomy i j with h | h | h
        · have := pw i j l1 l2 h
          rw [e1, e2] at this
          exact absurd this (Nat.lt_irrefl _)
        · exact h
        · have := pw j i l2 l1 h
          rw [e1, e2] at this
          exact absurd this (Nat.lt_irrefl _)
    subst ij
    obtain rfl : x = b.2 := Option.some.inj (i2.symm.trans h2)
    exact hw
  have ev : as.map Value.ref = bs.map fun b => Value.ref b.1 := by rw [← eb1, List.map_map]; rfl
  have bl : bs.length = ks.length := by rw [← eb2, List.length_map]
  rw [ev]
  have hoL : (h'.push (seqObj "list" (bs.map fun b => Value.ref b.1).toArray 0)).get? h'.objs.size = some (seqObj "list" (bs.map fun b => Value.ref b.1).toArray 0) := Heap.get?_push_size _ rfl
  have e1 : PySem.W.EachIs (fun (v : Value) (b : Addr × Str) => v = Value.ref b.1) (bs.map fun b => Value.ref b.1) bs := by
    generalize bs = cs
    induction cs with
    | nil => exact .nil
    | cons c cs ih => exact .cons rfl ih
  have rdE : ∀ b ∈ bs, ∃ as, Reads (h'.push (seqObj "list" (bs.map fun b => Value.ref b.1).toArray 0)) (.ref b.1) (dPr f b.2) as ∧ h'.objs.size ∉ as := by
    intro b hb
    obtain ⟨as2, rd⟩ := Dp.reads I2 (dPr f b.2) (.ref b.1) (.ref b.1) (.tup (SqT.of (tup b hb)) (.cons (.str _) (.cons (.int _) .nil))) rfl
    have nil : as2 = [] := by
      cases rd with
      | tuple h1 h2 h3 h4 => exact reads_si h4
    subst nil
    exact ⟨[], PyProof.Rows.Reads.keeps (fun _ _ q => Heap.get?_push_of_some _ q) rd, fun z => nomatch z⟩
  have er : PySem.W.EachIs (fun (v : Value) (b : Addr × Str) => ∃ as, Reads (h'.push (seqObj "list" (bs.map fun b => Value.ref b.1).toArray 0)) v (dPr f b.2) as ∧ h'.objs.size ∉ as) (bs.map fun b => Value.ref b.1) bs := by
    generalize hh : h'.push (seqObj "list" (bs.map fun b => Value.ref b.1).toArray 0) = hp2 at rdE
    clear hh ev eb1 eb2 tup bl hoL e1
    induction bs with
    | nil => exact .nil
    | cons c cs ih => exact .cons (rdE c List.mem_cons_self) (ih fun b hb => rdE b (List.mem_cons_of_mem _ hb))
  have hal : PySem.W.AllAlike (bs.map fun b => dPr f b.2) := PySem.W.AllAlike.of (enc := fun b : Addr × Str => dPr f b.2) fun a b => by simp [PySem.W.alike, PySem.W.alikeAll]
  have hk2 : PySem.W.Sortable (bs.map fun b => dPr f b.2) := .inl fun z hz => by
    obtain ⟨b, hb, rfl⟩ := List.mem_map.mp hz
    exact ⟨_, _, rfl⟩
  have hu2 : ∀ b, b ∈ bs → X.A.in1.units + 1 + (dPr f b.2).depth < cLine := fun b _ => by
    have d1 : (dPr f b.2).depth = 1 := by simp [PyData.depth, PyData.depthAll]
    have i1 : X.A.in1.units ≤ X.A.units + 2 := by first | exact Nat.le_refl _ | exact Nat.le_succ _ | (show _ + 1 ≤ _ + 2; exact Nat.le_succ _)
    rw [d1]
    omega
  refine PySem.W.list_sort_data (s := { s with heap := h'.push (seqObj "list" (bs.map fun b => Value.ref b.1).toArray 0), toks := tk }) (R := fun (v : Value) (b : Addr × Str) => v = Value.ref b.1) (bs := bs) (enc := fun b => dPr f b.2) hoL e1 er hal hk2 (by omega) hu2 fun out ol oe => ?_
  have perm : (bs.mergeSort (PySem.W.dataLe false fun b : Addr × Str => dPr f b.2)).Perm bs := List.mergeSort_perm _ _
  have srt : (bs.mergeSort (PySem.W.dataLe false fun b : Addr × Str => dPr f b.2)).Pairwise (fun a b => dLt (dPr f b.2) (dPr f a.2) = false) :=
    (PySem.W.sort_pairwise (PySem.W.sortLe_total _ _ _) bs).imp fun {a b} z => by
      have z' : (!dLt (dPr f b.2) (dPr f a.2)) = true := z
      simpa using z'
  generalize bs.mergeSort (PySem.W.dataLe false fun b : Addr × Str => dPr f b.2) = cs at perm srt oe
  obtain ⟨e', he'⟩ := PyProof.Rows.sortedHeap_at (vs := bs.map fun b => Value.ref b.1) (out := out.toArray) hoL
  have hlen : (cs.map fun b => V.ref b.1).length ≤ sizeLine := by
    rw [List.length_map, perm.length_eq]
    omega
  have eo : ∀ {out : List Value} {cs : List (Addr × Str)}, PySem.W.EachIs (fun v b => v = Value.ref b.1) out cs → Vals (cs.map fun b => V.ref b.1) out := by
    intro out cs e
    induction e with
    | nil => exact .nil
    | cons h _ ih => exact .cons h ih
  have fr1 : H1 h'.objs.size = none := I2.hok.fresh (Nat.le_refl _)
  refine ⟨.ref h'.objs.size, upd H1 h'.objs.size (.lst (cs.map fun b => V.ref b.1)), I2.laid (t' := tk) (fun b u e => ?_) (Nat.le_refl _)
    (show ObjOk X.prog X.w _ _ _ (.lst (cs.map fun b => V.ref b.1)) from ⟨hlen, out, e', eo oe, he'⟩), rfl, ?_⟩
  · have hb : b < h'.objs.size := Heap.lt_size e
    rw [PyProof.Rows.sortedHeap_old (Nat.ne_of_lt hb) (by rw [size_push']; exact Nat.lt_succ_of_lt hb)]
    exact Heap.get?_push_of_some _ e
  · refine q _ _ cs (fun b o hb => at_upd (ne_of_none (mono b o hb) fr1) (mono b o hb)) (I.hok.fresh (Nat.le_of_lt hlt)) upd_same (fun b hb => ?_) ?_ ?_
    · have hb' := tup b (perm.mem_iff.mp hb)
      exact at_upd (ne_of_none hb' fr1) hb'
    · rw [← eb2]
      exact perm.map _
    · exact List.pairwise_map.mpr (srt.imp fun {a b} z => pr_lt z)
end
end U

namespace Law
open PySem PySem.Spec PyProof.Rows L2 U
def top (i : Nat) : Stmt := PySem.Challenge.pw_threeturned_k92_formatting_and_parsing.main.body.getD i (.Pass ⟨0, 0, 0, 0⟩)
abbrev s_InvalidGraph_init : Stmt := inClass (top 2) 0
theorem sc_InvalidGraph_init : FnScope ["self", "part", "position"] ["self", "part", "position"] (defScope s_InvalidGraph_init) := ⟨rfl, rfl, rfl, by decide +kernel, rfl, by decide +kernel, by decide +kernel⟩
abbrev s_is_node : Stmt := top 9
abbrev nN_is_node : List Str := ["candidate", "letter"]
theorem sc_is_node : FnScope ["candidate", "letter"] ["candidate"] (defScope s_is_node) := ⟨rfl, rfl, rfl, by decide +kernel, rfl, by decide +kernel, by decide +kernel⟩
abbrev s_first_invalid : Stmt := top 10
theorem sc_first_invalid : FnScope ["items", "is_valid", "position", "item"] ["items", "is_valid"] (defScope s_first_invalid) := ⟨rfl, rfl, rfl, by decide +kernel, rfl, by decide +kernel, by decide +kernel⟩
abbrev s_check_part : Stmt := top 11
theorem sc_check_part : FnScope ["part", "items", "limit", "is_valid", "position"] ["part", "items", "limit", "is_valid"] (defScope s_check_part) := ⟨rfl, rfl, rfl, by decide +kernel, rfl, by decide +kernel, by decide +kernel⟩
abbrev s_check_graph : Stmt := top 12
theorem sc_check_graph : FnScope ["candidate", "nodes", "edges", "is_edge"] ["candidate"] (defScope s_check_graph) := ⟨rfl, rfl, rfl, by decide +kernel, rfl, by decide +kernel, by decide +kernel⟩
abbrev s_join_words : Stmt := top 18
theorem sc_join_words : FnScope ["words"] ["words"] (defScope s_join_words) := ⟨rfl, rfl, rfl, by decide +kernel, rfl, by decide +kernel, by decide +kernel⟩
abbrev s_format_nodes : Stmt := top 19
theorem sc_format_nodes : FnScope ["nodes"] ["nodes"] (defScope s_format_nodes) := ⟨rfl, rfl, rfl, by decide +kernel, rfl, by decide +kernel, by decide +kernel⟩
abbrev s_format_graph : Stmt := top 20
abbrev nN_format_graph : List Str := ["graph", "edges", "first", "second"]
theorem sc_format_graph : FnScope ["graph", "edges", "first", "second"] ["graph"] (defScope s_format_graph) := ⟨rfl, rfl, rfl, by decide +kernel, rfl, by decide +kernel, by decide +kernel⟩
abbrev s_format_moves : Stmt := top 21
abbrev nN_format_moves : List Str := ["moves", "node", "value"]
theorem sc_format_moves : FnScope ["moves", "node", "value"] ["moves"] (defScope s_format_moves) := ⟨rfl, rfl, rfl, by decide +kernel, rfl, by decide +kernel, by decide +kernel⟩
abbrev s_format_state : Stmt := top 22
theorem sc_format_state : FnScope ["state"] ["state"] (defScope s_format_state) := ⟨rfl, rfl, rfl, by decide +kernel, rfl, by decide +kernel, by decide +kernel⟩
abbrev s_format_lift : Stmt := top 23
abbrev nN_format_lift : List Str := ["lift", "node", "number"]
theorem sc_format_lift : FnScope ["lift", "node", "number"] ["lift"] (defScope s_format_lift) := ⟨rfl, rfl, rfl, by decide +kernel, rfl, by decide +kernel, by decide +kernel⟩
abbrev s_parse_node_word : Stmt := top 24
theorem sc_parse_node_word : FnScope ["word"] ["word"] (defScope s_parse_node_word) := ⟨rfl, rfl, rfl, by decide +kernel, rfl, by decide +kernel, by decide +kernel⟩
abbrev s_parse_edge_word : Stmt := top 25
theorem sc_parse_edge_word : FnScope ["word", "first", "dash", "second"] ["word"] (defScope s_parse_edge_word) := ⟨rfl, rfl, rfl, by decide +kernel, rfl, by decide +kernel, by decide +kernel⟩
abbrev s_parse_move_word : Stmt := top 26
theorem sc_parse_move_word : FnScope ["word"] ["word"] (defScope s_parse_move_word) := ⟨rfl, rfl, rfl, by decide +kernel, rfl, by decide +kernel, by decide +kernel⟩
abbrev s_is_digits : Stmt := top 27
abbrev nN_is_digits : List Str := ["text", "digit"]
theorem sc_is_digits : FnScope ["text", "digit"] ["text"] (defScope s_is_digits) := ⟨rfl, rfl, rfl, by decide +kernel, rfl, by decide +kernel, by decide +kernel⟩
abbrev s_parse_number_word : Stmt := top 28
theorem sc_parse_number_word : FnScope ["word", "node", "colon", "text", "digits"] ["word"] (defScope s_parse_number_word) := ⟨rfl, rfl, rfl, by decide +kernel, rfl, by decide +kernel, by decide +kernel⟩
abbrev s_parse_words : Stmt := top 29
theorem sc_parse_words : FnScope ["text", "parse", "start", "items", "position", "word", "item"] ["text", "parse", "start"] (defScope s_parse_words) := ⟨rfl, rfl, rfl, by decide +kernel, rfl, by decide +kernel, by decide +kernel⟩
abbrev s_parse_nodes : Stmt := top 30
theorem sc_parse_nodes : FnScope ["text"] ["text"] (defScope s_parse_nodes) := ⟨rfl, rfl, rfl, by decide +kernel, rfl, by decide +kernel, by decide +kernel⟩
abbrev s_parse_moves : Stmt := top 31
theorem sc_parse_moves : FnScope ["text"] ["text"] (defScope s_parse_moves) := ⟨rfl, rfl, rfl, by decide +kernel, rfl, by decide +kernel, by decide +kernel⟩
abbrev s_ascending_dict : Stmt := top 32
theorem sc_ascending_dict : FnScope ["items", "position", "node", "value"] ["items"] (defScope s_ascending_dict) := ⟨rfl, rfl, rfl, by decide +kernel, rfl, by decide +kernel, by decide +kernel⟩
abbrev s_parse_state : Stmt := top 33
theorem sc_parse_state : FnScope ["text"] ["text"] (defScope s_parse_state) := ⟨rfl, rfl, rfl, by decide +kernel, rfl, by decide +kernel, by decide +kernel⟩
abbrev s_parse_lift : Stmt := top 34
theorem sc_parse_lift : FnScope ["text"] ["text"] (defScope s_parse_lift) := ⟨rfl, rfl, rfl, by decide +kernel, rfl, by decide +kernel, by decide +kernel⟩
abbrev s_parse_graph : Stmt := top 35
theorem sc_parse_graph : FnScope ["text", "head", "feed", "tail", "nodes", "graph", "error"] ["text"] (defScope s_parse_graph) := ⟨rfl, rfl, rfl, by decide +kernel, rfl, by decide +kernel, by decide +kernel⟩
abbrev s__law_pool : Stmt := top 37
theorem sc__law_pool : FnScope ["_law_script", "_law_k", "_law_cell", "_law_size", "_law_seed"] ["_law_script", "_law_k"] (defScope s__law_pool) := ⟨rfl, rfl, rfl, by decide +kernel, rfl, by decide +kernel, by decide +kernel⟩
abbrev s__law_draw : Stmt := top 38
theorem sc__law_draw : FnScope ["_law_pool_here", "_law_many", "_law_found"] ["_law_pool_here", "_law_many"] (defScope s__law_draw) := ⟨rfl, rfl, rfl, by decide +kernel, rfl, by decide +kernel, by decide +kernel⟩
abbrev s__law_draw_names : Stmt := top 39
theorem sc__law_draw_names : FnScope ["_law_pool_here", "_law_many", "_law_letters", "_law_begin", "_law_spread", "_law_tail", "_law_at", "_law_is_mixed", "_law_found", "_law_k", "_law_letter"] ["_law_pool_here", "_law_many"] (defScope s__law_draw_names) := ⟨rfl, rfl, rfl, by decide +kernel, rfl, by decide +kernel, by decide +kernel⟩
abbrev s__law_shuffle : Stmt := top 40
theorem sc__law_shuffle : FnScope ["_law_pool_here", "_law_some", "_law_left", "_law_found"] ["_law_pool_here", "_law_some"] (defScope s__law_shuffle) := ⟨rfl, rfl, rfl, by decide +kernel, rfl, by decide +kernel, by decide +kernel⟩
abbrev s__law_edge_of : Stmt := top 41
theorem sc__law_edge_of : FnScope ["_law_one", "_law_other"] ["_law_one", "_law_other"] (defScope s__law_edge_of) := ⟨rfl, rfl, rfl, by decide +kernel, rfl, by decide +kernel, by decide +kernel⟩
abbrev s__law_wants_edge : Stmt := top 42
theorem sc__law_wants_edge : FnScope ["_law_pool_here", "_law_kind", "_law_at", "_law_position", "_law_many"] ["_law_pool_here", "_law_kind", "_law_at", "_law_position", "_law_many"] (defScope s__law_wants_edge) := ⟨rfl, rfl, rfl, by decide +kernel, rfl, by decide +kernel, by decide +kernel⟩
abbrev s__law_draw_graph : Stmt := top 43
theorem sc__law_draw_graph : FnScope ["_law_pool_here", "_law_most", "_law_order", "_law_kind", "_law_state", "_law_value", "_law_node", "_law_edges", "_law_at", "_law_one", "_law_position", "_law_other"] ["_law_pool_here", "_law_most"] (defScope s__law_draw_graph) := ⟨rfl, rfl, rfl, by decide +kernel, rfl, by decide +kernel, by decide +kernel⟩
abbrev s__law_neighbors_of : Stmt := top 44
theorem sc__law_neighbors_of : FnScope ["_law_graph", "_law_node", "_law_found", "_law_one", "_law_other"] ["_law_graph", "_law_node"] (defScope s__law_neighbors_of) := ⟨rfl, rfl, rfl, by decide +kernel, rfl, by decide +kernel, by decide +kernel⟩
abbrev s__law_moves_of : Stmt := top 45
abbrev nN__law_moves_of : List Str := ["_law_graph", "_law_state", "_law_pins", "_law_found", "_law_node", "_law_shown", "_law_other", "_law_value"]
theorem sc__law_moves_of : FnScope ["_law_graph", "_law_state", "_law_pins", "_law_found", "_law_node", "_law_shown", "_law_other", "_law_value"] ["_law_graph", "_law_state", "_law_pins"] (defScope s__law_moves_of) := ⟨rfl, rfl, rfl, by decide +kernel, rfl, by decide +kernel, by decide +kernel⟩
abbrev s__law_draw_moves : Stmt := top 46
theorem sc__law_draw_moves : FnScope ["_law_pool_here", "_law_graph", "_law_state", "_law_pins", "_law_most", "_law_current", "_law_found", "_law_turn", "_law_some", "_law_move"] ["_law_pool_here", "_law_graph", "_law_state", "_law_pins", "_law_most"] (defScope s__law_draw_moves) := ⟨rfl, rfl, rfl, by decide +kernel, rfl, by decide +kernel, by decide +kernel⟩
abbrev s__law_join : Stmt := top 47
theorem sc__law_join : FnScope ["_law_words"] ["_law_words"] (defScope s__law_join) := ⟨rfl, rfl, rfl, by decide +kernel, rfl, by decide +kernel, by decide +kernel⟩
abbrev s__law_graph_text : Stmt := top 48
abbrev nN__law_graph_text : List Str := ["_law_graph", "_law_edges", "_law_one", "_law_other"]
theorem sc__law_graph_text : FnScope ["_law_graph", "_law_edges", "_law_one", "_law_other"] ["_law_graph"] (defScope s__law_graph_text) := ⟨rfl, rfl, rfl, by decide +kernel, rfl, by decide +kernel, by decide +kernel⟩
abbrev s__law_moves_text : Stmt := top 49
abbrev nN__law_moves_text : List Str := ["_law_moves", "_law_node", "_law_value"]
theorem sc__law_moves_text : FnScope ["_law_moves", "_law_node", "_law_value"] ["_law_moves"] (defScope s__law_moves_text) := ⟨rfl, rfl, rfl, by decide +kernel, rfl, by decide +kernel, by decide +kernel⟩
abbrev s__law_lift_text : Stmt := top 50
abbrev nN__law_lift_text : List Str := ["_law_lift", "_law_node"]
theorem sc__law_lift_text : FnScope ["_law_lift", "_law_node"] ["_law_lift"] (defScope s__law_lift_text) := ⟨rfl, rfl, rfl, by decide +kernel, rfl, by decide +kernel, by decide +kernel⟩
abbrev s__law_bound_holds : Stmt := top 51
theorem sc__law_bound_holds : FnScope ["_law_empty"] [] (defScope s__law_bound_holds) := ⟨rfl, rfl, rfl, by decide +kernel, rfl, by decide +kernel, by decide +kernel⟩
abbrev s_law : Stmt := top 52
theorem sc_law : FnScope ["_law_script", "_law_k", "_law_pool_here", "_law_graph", "_law_state", "_law_moves", "_law_last", "_law_lift", "_law_node", "_law_some", "_law_text"] ["_law_script"] (defScope s_law) := ⟨rfl, rfl, rfl, by decide +kernel, rfl, by decide +kernel, by decide +kernel⟩
end Law


section
open PySem PySem.Spec PyProof.Rows L2 U
local macro_rules | `(tactic| wtm_at "rd1") => `(tactic| first
  | with_reducible refine rd_seq ?_
  | ((with_reducible refine rd_var (v := ?vv) ?hv ?_); (case hv => exact rfl))
  | with_reducible refine rd_c ?_
  | with_reducible refine rd_cons ?_
  | with_reducible refine rd_nil ?_
  | with_reducible refine rd_op ?_
  | with_reducible refine rd_asg ?_
  | with_reducible refine rd_name ?_
  | with_reducible refine rd_c1 ?_
  | with_reducible refine rd_cb ?_
  | with_reducible refine rd_test ?_
  | with_reducible refine rd_B ?_
  | with_reducible refine rd_bl ?_
  | with_reducible refine rd_if ?_
  | with_reducible refine rd_ret ?_
  | with_reducible refine rd_drop ?_
  | with_reducible refine rd_next ?_
  | with_reducible refine rd_addI ?_
  | with_reducible refine rd_ltI ?_
  | with_reducible refine rd_eqI ?_
  | with_reducible refine rd_neI ?_
  | with_reducible refine rd_eqS ?_
  | with_reducible refine rd_neS ?_
  | with_reducible refine rd_gtI ?_
  | with_reducible refine rd_geI ?_
  | with_reducible refine rd_leI ?_
  | with_reducible refine rd_ltS ?_
  | with_reducible refine rd_subI ?_
  | ((with_reducible refine rd_modI ?hc ?_); (case hc => first | decide | omega))
  | ((with_reducible refine rd_mulI ?hc ?_); (case hc => first | exact mul_bI | exact .inl (.inr (by decide)) | exact .inl (.inl (by decide)) | exact .inl (.inr (by omega)) | exact .inl (.inl (by omega))))
  | ((with_reducible refine rd_divI ?hc ?_); (case hc => first | decide | omega))
  | ((with_reducible refine rd_powI ?hc ?_); (case hc => exact ⟨by decide, by decide, by decide⟩))
  | with_reducible refine rd_lst ?_
  | with_reducible refine rd_tup ?_
  | ((with_reducible refine rd_sz ?hv ?_); (case hv => exact rfl))
  | with_reducible refine rd_and ?_
  | with_reducible refine rd_or ?_
  | with_reducible refine rd_not ?_
  | with_reducible refine rd_andV ?_
  | with_reducible refine rd_orV ?_
  | with_reducible refine rd_notV ?_
  | with_reducible refine rd_ifE ?_
  | with_reducible refine rd_T ?_
  | with_reducible refine rd_F ?_
  | with_reducible refine rd_chain ?_
  | with_reducible refine rd_is ?_
  | with_reducible refine rd_isNot ?_
  | with_reducible refine rd_absI ?_
  | with_reducible refine rd_maxI ?_
  | with_reducible refine rd_minI ?_
  | with_reducible refine rd_intI ?_
  | with_reducible refine rd_intB ?_
  | with_reducible refine rd_sub ?_
  | with_reducible refine rd_sl ?_
  | with_reducible refine rd_noPart ?_
  | with_reducible refine rd_part ?_
  | with_reducible refine rd_exI ?_
  | with_reducible refine rd_bm ?_
  | with_reducible refine rd_bm0 ?_
  | with_reducible refine rd_un ?_
  | with_reducible refine rd_neg ?_
  | with_reducible refine rd_c2 ?_
  | with_reducible refine rd_retN ?_
  | with_reducible refine rd_break ?_
  | with_reducible refine rd_cont ?_
  | with_reducible refine rd_for ?_
  | with_reducible refine rd_rng1 ?_
  | with_reducible refine rd_rng2 ?_
  | with_reducible refine rd_iList ?_
  | with_reducible refine rd_iTup ?_
  | with_reducible refine rd_iEnum ?_
  | ((with_reducible refine rd_forR ?h0 ?h1 ?_); (case h0 => omega); (case h1 => omega))
  | with_reducible refine rd_lc ?_
  | with_reducible refine rd_gcons ?_
  | with_reducible refine rd_gnil ?_
  | with_reducible refine rd_dget ?_
  | with_reducible refine rd_dput ?_
  | with_reducible refine rd_dnew ?_
  | with_reducible refine rd_dc ?_
  | with_reducible refine rd_iItems ?_
  | with_reducible refine rd_iKeys ?_
  | with_reducible refine rd_din ?_
  | with_reducible refine rd_lc2 ?_
  | with_reducible refine rd_cd ?_
  | with_reducible refine rd_par ?_
  | with_reducible refine rd_two ?_
  | with_reducible refine rd_reprB ?_
  | with_reducible refine rd_ck ?_
  | ((with_reducible refine rd_len ?hl ?_); (case hl => exact rfl))
  | with_reducible refine rd_nT ?_
  | with_reducible refine rd_nF ?_
  | with_reducible refine rd_dnin ?_
  | with_reducible refine rd_isB ?_
  | with_reducible refine rd_isNotB ?_
  | with_reducible refine rd_daug ?_
  | with_reducible refine rd_yesT ?_
  | ((with_reducible refine rd_wp ?hw ?_); (case hw => exact rfl)))
local macro_rules | `(tactic| wtm_at "rd") => `(tactic| repeat wtm_at "rd1")
namespace Law
open PySem PySem.Spec PyProof.Rows L2 U

/-- the names of the world are the world's -/
structure Bt (mg : Str → Option Value) : Prop where
  len : mg "len" = none
  abs : mg "abs" = none
  max : mg "max" = none
  min : mg "min" = none
  sorted : mg "sorted" = none
  isinstance : mg "isinstance" = none
  int : mg "int" = none
  list : mg "list" = none
  tuple : mg "tuple" = none
  str : mg "str" = none
  range : mg "range" = none
  enumerate : mg "enumerate" = none
  dict : mg "dict" = none
  sum : mg "sum" = none
  all : mg "all" = none
  any : mg "any" = none
  repr : mg "repr" = none
  set : mg "set" = none
  zip : mg "zip" = none
  reversed : mg "reversed" = none
/-- a source of draws -/
def PoolOk (big seed : Int) : Prop := 0 ≤ big ∧ 0 ≤ seed ∧ seed < 2147483647
abbrev poolO (big seed : Int) : HO := .lst [.int big, .int seed]
def spPool (K : PySem.W.Frag) : Sp := fun vs H Q _ => ∃ (a : Addr) (ns : List Int) (k : Nat), vs = [.ref a, .int (k : Int)] ∧ SqL K H a (ns.map V.int) ∧ k ≤ 100 ∧
  ∀ p big seed, H p = none → PoolOk big seed → Q (.ref p) (upd H p (poolO big seed))
def spDraw : Sp := fun vs H Q _ => ∃ (p : Addr) (many big seed : Int), vs = [.ref p, .int many] ∧ 0 < many ∧ many < 1073741824 ∧ H p = some (poolO big seed) ∧ PoolOk big seed ∧
  ∀ r big' seed', 0 ≤ r → r < many → PoolOk big' seed' → Q (.int r) (upd H p (poolO big' seed'))
section
variable {P : Program} {w : World} {K : PySem.W.Frag} {mg : Str → Option Value} {base : Heap}
theorem ok_pool {f : Addr} {fd : FuncData} (F : Fun K "_law_pool" "_law_pool" s__law_pool f fd) (B : Bt mg) : FnG P w K mg base CX0 1 f fd ["_law_script", "_law_k"] (spPool K) := by
  refine fnG0 F sc__law_pool (fun vs H Q E h => ?_) (fun cdv A outer s H vs Q E hr h => ?_)
  · obtain ⟨a, ns, k, rfl, _⟩ := h
    rfl
  · obtain ⟨a, ns, k, rfl, hs, hk, q⟩ := h
    have nd := sc__law_pool.nd
    refine ⟨_, (pss_cons (ps_set (i := 2) nd rfl (by first | exact Or.inl rfl | exact Or.inr rfl) pe_int)
  (pss_cons (ps_if (pt_cmpR uLt (pv 1) (pe_callB (kLen K rfl) (by rfl) B.len bb_len (pa_cons (pv 0) pa_nil)) (nomark _)) (pss_one (ps_set (i := 2) nd rfl (by first | exact Or.inl rfl | exact Or.inr rfl) (pe_ix (kIx K rfl) (pv 0) (pv 1) (fun _ _ => rfl)))) pss_nil)
  (pss_cons (ps_set (i := 3) nd rfl (by first | exact Or.inl rfl | exact Or.inr rfl) (pe_callB cAbs (by rfl) B.abs bb_abs (pa_cons (pv 2) pa_nil)))
  (pss_cons (ps_set (i := 4) nd rfl (by first | exact Or.inl rfl | exact Or.inr rfl) (pe_op uMod (pe_op uMul (pe_op (kAdd K rfl) (pe_op (kAdd K rfl) (pe_op uMod (pv 3) pe_int) (pe_op uMul pe_int (pv 1))) pe_int) pe_int) pe_int))
  (pss_one (ps_ret (pe_lst (pa_cons (pe_op uMul (pv 3) (pe_callTy cInt (by rfl) B.int bb_int (pa_cons (pe_cmpR uGe (pv 3) (pe_op uPow pe_int pe_int) (nomark _)) pa_nil))) (pa_cons (pv 4) pa_nil))))))))), ?_⟩
    have fin : ∀ z : Int, PoolOk ((z.natAbs : Int) * bToI (decide (10 ^ (18 : Int).toNat ≤ (z.natAbs : Int)))) (((z.natAbs : Int) % 2147483629 + 7919 * (k : Int) + 31) * 48271 % 2147483647) := by
      intro z
      refine ⟨?_, by omega, by omega⟩
      unfold bToI
      split <;> omega
    wtm_at "rd"
    refine rd_lenL hs ?_
    wtm_at "rd"
    refine rd_split (fun c => ?_) (fun c => ?_)
    · have hk2 : k < ns.length := by
        rw [List.length_map] at c
        omega
      wtm_at "rd"
      refine rd_ixL hs (atI_nat (v := .int ns[k]) (by rw [List.getElem?_map, List.getElem?_eq_getElem hk2]; rfl)) ?_
      wtm_at "rd"
      exact fun p np => q p _ _ np (fin _)
    · wtm_at "rd"
      exact fun p np => q p _ _ np (fin _)
theorem ok_draw {f : Addr} {fd : FuncData} (F : Fun K "_law_draw" "_law_draw" s__law_draw f fd) (B : Bt mg) : FnG P w K mg base CX0 1 f fd ["_law_pool_here", "_law_many"] spDraw := by
  refine fnG0 F sc__law_draw (fun vs H Q E h => ?_) (fun cdv A outer s H vs Q E hr h => ?_)
  · obtain ⟨p, many, big, seed, rfl, _⟩ := h
    rfl
  · obtain ⟨p, many, big, seed, rfl, m0, m1, hp, ⟨k0, k1, k2⟩, q⟩ := h
    have nd := sc__law_draw.nd
    refine ⟨_, (pss_cons (ps_if (pt_cmpR uGt (pe_ix (kIx K rfl) (pv 0) pe_int (fun _ _ => rfl)) pe_int (nomark _)) (pss_cons (ps_set (i := 2) nd rfl (by first | exact Or.inl rfl | exact Or.inr rfl) (pe_op uMod (pe_ix (kIx K rfl) (pv 0) pe_int (fun _ _ => rfl)) (pv 1)))
  (pss_cons (ps_asg (pe_op uDiv (pe_ix (kIx K rfl) (pv 0) pe_int (fun _ _ => rfl)) (pv 1)) (pg_sub (pv 0) pe_int set_list))
  (pss_one (ps_ret (pv 2))))) pss_nil)
  (pss_cons (ps_asg (pe_op uMod (pe_op (kAdd K rfl) (pe_op uMul (pe_ix (kIx K rfl) (pv 0) pe_int (fun _ _ => rfl)) pe_int) pe_int) pe_int) (pg_sub (pv 0) pe_int set_list))
  (pss_one (ps_ret (pe_op uMod (pe_op uDiv (pe_op uMod (pe_op uMul (pe_ix (kIx K rfl) (pv 0) pe_int (fun _ _ => rfl)) (pe_ix (kIx K rfl) (pv 0) pe_int (fun _ _ => rfl))) pe_int) pe_int) (pv 1)))))), ?_⟩
    wtm_at "rd"
    refine rd_ixL (SqL.of hp) rfl ?_
    wtm_at "rd"
    refine rd_split (fun c => ?_) (fun c => ?_)
    · wtm_at "rd"
      refine rd_ixL (SqL.of hp) rfl ?_
      wtm_at "rd"
      refine rd_ixL (SqL.of hp) rfl ?_
      wtm_at "rd"
      refine rd_setL hp rfl ?_
      wtm_at "rd"
      exact q _ _ _ (Int.emod_nonneg _ (by omega)) (Int.emod_lt_of_pos _ m0) ⟨Int.ediv_nonneg k0 (by omega), k1, k2⟩
    · wtm_at "rd"
      refine rd_ixL (SqL.of hp) rfl ?_
      wtm_at "rd"
      refine rd_setL hp rfl ?_
      wtm_at "rd"
      refine rd_ixL (SqL.of upd_same) rfl ?_
      wtm_at "rd"
      refine rd_ixL (SqL.of upd_same) rfl ?_
      wtm_at "rd"
      exact q _ _ _ (Int.emod_nonneg _ (by omega)) (Int.emod_lt_of_pos _ m0) ⟨k0, by omega, by omega⟩
end
end Law


namespace Law
open PySem PySem.Spec PyProof.Rows L2 U


/-- a source of draws stands at p -/
def PoolAt (H : Hp) (p : Addr) : Prop := ∃ big seed, H p = some (poolO big seed) ∧ PoolOk big seed
theorem PoolAt.ne {H : Hp} {p q : Addr} (h : PoolAt H p) (n : H q = none) : p ≠ q := by
  obtain ⟨b, s, h, _⟩ := h
  exact ne_of_none h n
theorem PoolAt.upd {H : Hp} {p q : Addr} {o : HO} (h : PoolAt H p) (n : p ≠ q) : PoolAt (L2.upd H q o) p := by
  obtain ⟨b, s, h, ok⟩ := h
  exact ⟨b, s, at_upd n h, ok⟩
theorem PoolAt.isL {H : Hp} {p : Addr} (h : PoolAt H p) : ∃ ys, H p = some (.lst ys) := by
  obtain ⟨b, s, h, _⟩ := h
  exact ⟨_, h⟩
theorem PoolAt.off {H : Hp} {p q : Addr} {xs : List Str} (h : PoolAt H p) (hq : H q = some (.lst (xs.map V.str))) : q ≠ p := by
  rintro rfl
  obtain ⟨b, s, h, _⟩ := h
  rw [hq] at h
  have e := HO.lst.inj (Option.some.inj h)
  match xs, e with
  | _ :: _, e => cases e
/-- from H to H' all stays but the draws' source at p, which is one still; new things may have come -/
structure Go (p : Addr) (H H' : Hp) : Prop where
  but : But p H H'
  free : ∀ b, H' b = none → H b = none
  pool : PoolAt H' p
theorem Go.refl {p : Addr} {H : Hp} (h : PoolAt H p) : Go p H H := ⟨But.refl, fun _ n => n, h⟩
theorem Go.trans {p : Addr} {H H1 H2 : Hp} (a : Go p H H1) (b : Go p H1 H2) : Go p H H2 := ⟨a.but.trans b.but, fun c n => a.free c (b.free c n), b.pool⟩
theorem Go.new {p q : Addr} {H H1 : Hp} {o : HO} (a : Go p H H1) (n : H1 q = none) : Go p H (L2.upd H1 q o) :=
  ⟨a.but.trans (But.new n), fun c z => a.free c (new_old z), a.pool.upd (a.pool.ne n)⟩
/-- an object that was not there at H is written -/
theorem Go.put {p q : Addr} {H H1 : Hp} {o : HO} (a : Go p H H1) (n : H q = none) (ne : p ≠ q) : Go p H (L2.upd H1 q o) :=
  ⟨fun b u h e => at_upd (ne_of_none e n) (a.but b u h e), fun c z => a.free c (new_old z), a.pool.upd ne⟩
theorem Go.at {p q : Addr} {H H1 : Hp} {o : HO} (a : Go p H H1) (h : H q = some o) (n : q ≠ p) : H1 q = some o := a.but q o n h
theorem Go.seqT {p a : Addr} {H H1 : Hp} {xs : List V} {K : PySem.W.Frag} (g : Go p H H1) (hp : PoolAt H p) (h : SqT K H a xs) : SqT K H1 a xs := g.but.seqT hp.isL h
theorem Go.of_same {p : Addr} {H H' : Hp} (hp : PoolAt H p) (s : Same H H') : Go p H H' := ⟨But.of_same s, fun b n => new_of_same s n, by
  obtain ⟨b, s', h, ok⟩ := hp
  exact ⟨b, s', s _ _ h, ok⟩⟩
theorem PoolAt.keep {p : Addr} {H H' : Hp} (h : PoolAt H p) (k : ∀ a xs, H a = some (.lst xs) → H' a = some (.lst xs)) : PoolAt H' p := by
  obtain ⟨b, s, h, ok⟩ := h
  exact ⟨b, s, k _ _ h, ok⟩
/-- _law_draw, as it is used -/
theorem use_draw {H : Hp} {p : Addr} {many : Int} {Q : VK} {E : XK} (h : PoolAt H p) (m0 : 0 < many) (m1 : many < 1073741824)
    (k : ∀ (r : Int) (H' : Hp), 0 ≤ r → r < many → Go p H H' → Q (.int r) H') : spDraw [.ref p, .int many] H Q E := by
  obtain ⟨b, s, h, ok⟩ := h
  exact ⟨p, many, b, s, rfl, m0, m1, h, ok, fun r b' s' r0 r1 ok' => k r _ r0 r1 ⟨But.upd, fun c n => new_old n, b', s', upd_same, ok'⟩⟩
/-- a new list of names -/
def spNames : Sp := fun vs H Q _ => ∃ (p : Addr) (many : Int), vs = [.ref p, .int many] ∧ 0 ≤ many ∧ many ≤ 26 ∧ PoolAt H p ∧
  ∀ (l : Addr) (ys : List Str) (H' : Hp), Go p H H' → H l = none → H' l = some (.lst (ys.map V.str)) → Names ys → ys.length = many.toNat → Q (.ref l) H'
section
variable {P : Program} {w : World} {K : PySem.W.Frag} {mg : Str → Option Value} {base : Heap}
structure C1 (P : Program) (w : World) (K : PySem.W.Frag) (mg : Str → Option Value) (base : Heap) : Prop where
  _law_draw : Cal P w K mg base CX0 1 "_law_draw" spDraw
theorem ok_names {f : Addr} {fd : FuncData} (F : Fun K "_law_draw_names" "_law_draw_names" s__law_draw_names f fd) (B : Bt mg) (C : C1 P w K mg base) : FnG P w K mg base CX0 2 f fd ["_law_pool_here", "_law_many"] spNames := by
  refine fnG0 F sc__law_draw_names (fun vs H Q E h => ?_) (fun cdv A outer s H vs Q E hr h => ?_)
  · obtain ⟨p, many, rfl, _⟩ := h
    rfl
  · obtain ⟨p, many, rfl, m0, m1, hp, q⟩ := h
    have nd := sc__law_draw_names.nd
    refine ⟨_, (pss_cons (ps_set (i := 2) nd rfl (by first | exact Or.inl rfl | exact Or.inr rfl) pe_str)
  (pss_cons (ps_set (i := 3) nd rfl (by first | exact Or.inl rfl | exact Or.inr rfl) (pe_c C._law_draw hr (by decide) rfl (pa_cons (pv 0) (pa_cons pe_int pa_nil))))
  (pss_cons (ps_set (i := 4) nd rfl (by first | exact Or.inl rfl | exact Or.inr rfl) (pe_ix (kIx K rfl) (pe_lst (pa_cons pe_int (pa_cons pe_int (pa_cons pe_int (pa_cons pe_int pa_nil))))) (pe_c C._law_draw hr (by decide) rfl (pa_cons (pv 0) (pa_cons pe_int pa_nil))) (fun _ _ => rfl)))
  (pss_cons (ps_set (i := 5) nd rfl (by first | exact Or.inl rfl | exact Or.inr rfl) (pe_op uMul (pe_ix (kIx K rfl) (pv 2) (pe_c C._law_draw hr (by decide) rfl (pa_cons (pv 0) (pa_cons pe_int pa_nil))) (fun _ _ => rfl)) (pe_ix (kIx K rfl) (pe_lst (pa_cons pe_int (pa_cons pe_int (pa_cons pe_int (pa_cons pe_int pa_nil))))) (pe_c C._law_draw hr (by decide) rfl (pa_cons (pv 0) (pa_cons pe_int pa_nil))) (fun _ _ => rfl))))
  (pss_cons (ps_set (i := 6) nd rfl (by first | exact Or.inl rfl | exact Or.inr rfl) (pe_c C._law_draw hr (by decide) rfl (pa_cons (pv 0) (pa_cons (pe_op (kAdd K rfl) (pe_callB (kLen K rfl) (by rfl) B.len bb_len (pa_cons (pv 5) pa_nil)) pe_int) pa_nil))))
  (pss_cons (ps_set (i := 7) nd rfl (by first | exact Or.inl rfl | exact Or.inr rfl) (pe_cmpR (kEq K rfl hr.u64) (pe_c C._law_draw hr (by decide) rfl (pa_cons (pv 0) (pa_cons pe_int pa_nil))) pe_int (nomark _)))
  (pss_cons (ps_set (i := 8) nd rfl (by first | exact Or.inl rfl | exact Or.inr rfl) (pe_lst pa_nil))
  (pss_cons (ps_for PassesOwn.never rfl (pi_range1 rfl B.range (pa_cons (pv 1) pa_nil)) (pg_name (i := 9) nd rfl (by first | exact Or.inl rfl | exact Or.inr rfl)) (pss_cons (ps_set (i := 10) nd rfl (by first | exact Or.inl rfl | exact Or.inr rfl) (pe_ix (kIx K rfl) (pv 2) (pe_op uMod (pe_op (kAdd K rfl) (pv 3) (pe_op uMul (pv 4) (pv 9))) pe_int) (fun _ _ => rfl)))
  (pss_one (ps_expr (pe_bm PySem.F.plainAttrs_list PySem.F.slot_list_append PySem.F.type_list_append mt_append (pv 8) (pa_cons (pe_ix (kIx K rfl) (pe_lst (pa_cons (pe_op (kAdd K rfl) (pe_op (kAdd K rfl) (pe_slice (kSl K rfl) (pv 5) po_none (po_some (pv 6))) (pv 10)) (pe_slice (kSl K rfl) (pv 5) (po_some (pv 6)) po_none)) (pa_cons (pv 10) pa_nil))) (pe_callTy cInt (by rfl) B.int bb_int (pa_cons (pe_and (pv 7) (pe_one (pe_cmpR (kEq K rfl hr.u64) (pe_op uMod (pv 9) pe_int) pe_int (nomark _)))) pa_nil)) (fun _ _ => rfl)) pa_nil))))))
  (pss_one (ps_ret (pe_callB (kSorted K rfl hr.u64) (by rfl) B.sorted bb_sorted (pa_cons (pv 8) pa_nil)))))))))))), ?_⟩
    wtm_at "rd"
    refine use_draw hp (by decide) (by decide) fun b H1 b0 b1 g1 => ?_
    wtm_at "rd"
    intro t2 f2
    have g2 := g1.new (o := .lst [.int 1, .int 3, .int 5, .int 7]) f2
    wtm_at "rd"
    refine use_draw g2.pool (by decide) (by decide) fun r H3 r0 r1 g => ?_
    have h3 := g.at upd_same (g1.pool.ne f2).symm
    have g3 := g2.trans g
    clear g
    obtain ⟨sp, hsp, isp⟩ := pick4 (a := 1) (b := 3) (c := 5) (d := 7) r0 r1
    refine rd_ixL (SqL.of h3) hsp ?_
    wtm_at "rd"
    refine use_draw g3.pool (by decide) (by decide) fun d H4 d0 d1 g => ?_
    have g4 := g3.trans g
    clear g
    refine rd_ixS letters_len (letters_at d0 d1) ?_
    wtm_at "rd"
    intro t5 f5
    have g5 := g4.new (o := .lst [.int 0, .int 1, .int 3, .int 7]) f5
    wtm_at "rd"
    refine use_draw g5.pool (by decide) (by decide) fun r6 H6 r60 r61 g => ?_
    have h6 := g.at upd_same (g4.pool.ne f5).symm
    have g6 := g5.trans g
    clear g
    obtain ⟨n, hn, isn⟩ := pick4 (a := 0) (b := 1) (c := 3) (d := 7) r60 r61
    refine rd_ixL (SqL.of h6) hn ?_
    -- the tail
    have n0 : 0 ≤ n ∧ n ≤ 7 := by omega
    have et : timesS ⟨#[97 + d.toNat]⟩ n = ⟨(List.replicate n.toNat (97 + d.toNat)).toArray⟩ := by
      unfold timesS
      congr 2
      generalize n.toNat = m
      induction m with
      | zero => rfl
      | succ m ih =>
        rw [List.replicate_succ, List.flatten_cons, ih]
        rfl
    refine ⟨⟨n0.1, by omega, by show 1 ≤ 1000; decide⟩, ?_⟩
    rw [et]
    have tl : (⟨(List.replicate n.toNat (97 + d.toNat)).toArray⟩ : Str).length = n.toNat := by simp [Str.length]
    wtm_at "rd"
    refine rd_lenS (by rw [tl]; omega) ?_
    rw [tl]
    wtm_at "rd"
    refine use_draw g6.pool (by omega) (by omega) fun a H7 a0 a1 g => ?_
    have g7 := g6.trans g
    clear g
    wtm_at "rd"
    refine use_draw g7.pool (by decide) (by decide) fun m H8 m0' m1' g => ?_
    have g8 := g7.trans g
    clear g
    wtm_at "rd"
    intro l fl
    have nl := g8.pool.ne fl
    have fl0 := g8.free _ fl
    have g9 := g8.new (o := .lst []) fl
    wtm_at "rd"
    generalize hmb : decide (m = 1) = mb
    generalize hT : (⟨(List.replicate n.toNat (97 + d.toNat)).toArray⟩ : Str) = T at *
    have nm : ∀ k : Nat, nameK b sp (List.replicate n.toNat (97 + d.toNat)) a.toNat mb k =
        if mb = true ∧ k % 2 = 1 then ⟨#[97 + ((b + sp * (k : Int)) % 26).toNat]⟩ else cutS T none (some a) ++ ⟨#[97 + ((b + sp * (k : Int)) % 26).toNat]⟩ ++ cutS T (some a) none := by
      intro k
      unfold nameK
      rw [← hT, cutS_to a0, cutS_from a0]
      split
      · rfl
      · show _ = (⟨(List.take a.toNat (List.replicate n.toNat (97 + d.toNat))).toArray⟩ : Str) ++ ⟨[97 + ((b + sp * (k : Int)) % 26).toNat].toArray⟩ ++ ⟨(List.drop a.toNat (List.replicate n.toNat (97 + d.toNat))).toArray⟩
        rw [str_app, str_app]
        rfl
    have hTl : T.length ≤ 7 := by rw [tl]; omega
    generalize hN : nameK b sp (List.replicate n.toNat (97 + d.toNat)) a.toNat mb = nk at *
    refine turnsR (fun i σ H1 => ∃ u1 u2, σ = [some (.ref p), some (.int many), some (.str (Str.ofString "abcdefghijklmnopqrstuvwxyz")), some (.int b), some (.int sp), some (.str T), some (.int a), some (.bl mb), some (.ref l), u1, u2] ∧
      Go p H H1 ∧ H1 l = some (.lst ((List.range i).map fun k => V.str (nk k)))) ⟨_, _, rfl, g9, upd_same⟩ ?_ ?_
    · rintro i σ H1 hi ⟨u1, u2, rfl, g, hl⟩
      wtm_at "rd"
      have ir : 0 ≤ (b + sp * (0 + (i : Int))) % 26 ∧ (b + sp * (0 + (i : Int))) % 26 < 26 := by omega
      refine rd_ixS letters_len (letters_at ir.1 ir.2) ?_
      wtm_at "rd"
      refine rd_tyL hl ?_
      wtm_at "rd"
      refine rd_slS (by omega) ?_
      wtm_at "rd"
      have e0 : (0 + (i : Int)) = (i : Int) := Int.zero_add _
      rw [e0]
      have cut1 : (cutS T none (some a)).length ≤ 7 := by
        have := congrArg List.length (congrArg (fun z : Str => z.cps.toList) (cutS_to (z := T) a0))
        simp only [List.length_take] at this
        simp only [Str.length] at hTl ⊢
        simp only [Array.length_toList] at this
        omega
      have cut2 : (cutS T (some a) none).length ≤ 7 := by
        have := congrArg List.length (congrArg (fun z : Str => z.cps.toList) (cutS_from (z := T) a0))
        simp only [List.length_drop] at this
        simp only [Str.length] at hTl ⊢
        simp only [Array.length_toList] at this
        omega
      generalize hc : (⟨#[97 + ((b + sp * (i : Int)) % 26).toNat]⟩ : Str) = ch
      have chl : ch.length = 1 := by rw [← hc]; rfl
      refine rd_addS (Nat.le_trans (Nat.add_le_add cut1 (Nat.le_of_eq chl)) (by decide)) ?_
      wtm_at "rd"
      refine rd_slS (by omega) ?_
      wtm_at "rd"
      have cut3 : (cutS T none (some a) ++ ch).length ≤ 8 := by
        have : (cutS T none (some a) ++ ch).length = (cutS T none (some a)).length + ch.length := by
          show ((cutS T none (some a)).cps ++ ch.cps).size = _
          rw [Array.size_append]
          rfl
        omega
      refine rd_addS (Nat.le_trans (Nat.add_le_add cut3 cut2) (by decide)) ?_
      wtm_at "rd"
      intro t ft
      have nt : l ≠ t := ne_of_none hl ft
      wtm_at "rd"
      have hl2 := at_upd (o := .lst [.str (cutS T none (some a) ++ ch ++ cutS T (some a) none), .str ch]) nt hl
      have g' := g.new (o := .lst [.str (cutS T none (some a) ++ ch ++ cutS T (some a) none), .str ch]) ft
      have len : ((List.range i).map fun k => V.str (nk k)).length < 100000 := by
        rw [List.length_map, List.length_range]
        omega
      have fin : ∀ z : Str, z = nk i → Go p H (upd (upd H1 t (.lst [.str (cutS T none (some a) ++ ch ++ cutS T (some a) none), .str ch])) l (.lst (((List.range i).map fun k => V.str (nk k)) ++ [.str z]))) ∧
          (upd (upd H1 t (.lst [.str (cutS T none (some a) ++ ch ++ cutS T (some a) none), .str ch])) l (.lst (((List.range i).map fun k => V.str (nk k)) ++ [.str z]))) l = some (.lst ((List.range (i + 1)).map fun k => V.str (nk k))) := by
        rintro z rfl
        refine ⟨g'.put fl0 nl, ?_⟩
        rw [upd_same, List.range_succ, List.map_append]
        rfl
      have ne := nm i
      rw [hc] at ne
      refine rd_b (fun c => ?_) (fun c => ?_)
      · wtm_at "rd"
        refine rd_ixL (SqL.of upd_same) (bToI_pick _) ?_
        wtm_at "rd"
        have z : (if decide ((i : Int) % 2 = 1) = true then V.str ch else V.str (cutS T none (some a) ++ ch ++ cutS T (some a) none)) = V.str (nk i) := by
          rw [ne]
          by_cases h : i % 2 = 1
          · rw [if_pos (decide_eq_true (by omega)), if_pos ⟨c, h⟩]
          · rw [if_neg (by rw [decide_eq_true_eq]; omega), if_neg (fun z => h z.2)]
        rw [z]
        refine rd_append hl2 len ?_
        exact ⟨_, _, rfl, (fin _ rfl).1, (fin _ rfl).2⟩
      · wtm_at "rd"
        refine rd_ixL (SqL.of upd_same) (bToI_pick _) ?_
        wtm_at "rd"
        have z : (if false = true then V.str ch else V.str (cutS T none (some a) ++ ch ++ cutS T (some a) none)) = V.str (nk i) := by
          rw [ne, if_neg Bool.false_ne_true, if_neg (fun z => by rw [c] at z; exact Bool.false_ne_true z.1)]
        rw [z]
        refine rd_append hl2 len ?_
        exact ⟨_, _, rfl, (fin _ rfl).1, (fin _ rfl).2⟩
    · rintro σ H1 ⟨u1, u2, rfl, g, hl⟩
      wtm_at "rd"
      refine rd_sortS (xs := (List.range many.toNat).map nk) (SqL.of (by rw [List.map_map]; exact hl)) (by rw [List.length_map, List.length_range]; omega) ?_
      intro ys py sy l2 fl2
      have nd2 : ((List.range many.toNat).map nk).Nodup := by
        rw [← hN]
        exact names_nodup (by omega) isp (by omega)
      have nu : NamesU ((List.range many.toNat).map nk) := ⟨nd2, fun y hy => by
        obtain ⟨k, _, rfl⟩ := List.mem_map.mp hy
        rw [← hN]
        exact nameK_ok (by omega) (by omega) (by omega)⟩
      have nu2 := nu.perm py
      exact q l2 ys _ (g.new fl2) (g.free _ fl2) upd_same ⟨asc_of_sorted sy nu2.nd, nu2.ok⟩ (by rw [py.length_eq, List.length_map, List.length_range])
end
end Law


namespace Law
open PySem PySem.Spec PyProof.Rows L2 U


/-- the same names in another order -/
def spShuf (K : PySem.W.Frag) : Sp := fun vs H Q _ => ∃ (p src : Addr) (xs : List Str), vs = [.ref p, .ref src] ∧ PoolAt H p ∧ H src = some (.lst (xs.map V.str)) ∧ (∀ x ∈ xs, PyData.strOk x = true) ∧ xs.length ≤ 1000 ∧
  ∀ (l : Addr) (ys : List Str) (H' : Hp), Go p H H' → H l = none → H' l = some (.lst (ys.map V.str)) → ys.Perm xs → Q (.ref l) H'
def spEdgeOf : Sp := fun vs H Q _ => ∃ x y : Str, vs = [.str x, .str y] ∧ ∀ t, H t = none → Q (.ref t) (upd H t (.tup (if sLt x y then [.str x, .str y] else [.str y, .str x])))
def spWants : Sp := fun vs H Q _ => ∃ (p : Addr) (kind a b m : Int), vs = [.ref p, .int kind, .int a, .int b, .int m] ∧ PoolAt H p ∧ 0 ≤ kind ∧ kind ≤ 10 ∧ ∀ (r : Bool) (H' : Hp), Go p H H' → Q (.bl r) H'
section
variable {P : Program} {w : World} {K : PySem.W.Frag} {mg : Str → Option Value} {base : Heap}
theorem ok_shuffle {f : Addr} {fd : FuncData} (F : Fun K "_law_shuffle" "_law_shuffle" s__law_shuffle f fd) (B : Bt mg) (C : C1 P w K mg base) : FnG P w K mg base CX0 2 f fd ["_law_pool_here", "_law_some"] (spShuf K) := by
  refine fnG0 F sc__law_shuffle (fun vs H Q E h => ?_) (fun cdv A outer s H vs Q E hr h => ?_)
  · obtain ⟨p, src, xs, rfl, _⟩ := h
    rfl
  · obtain ⟨p, src, xs, rfl, hp, hs, ok, hz, q⟩ := h
    have nd := sc__law_shuffle.nd
    refine ⟨_, (pss_cons (ps_set (i := 2) nd rfl (by first | exact Or.inl rfl | exact Or.inr rfl) (pe_callTy (kList K rfl rfl) (by rfl) B.list bb_list (pa_cons (pv 1) pa_nil)))
  (pss_cons (ps_set (i := 3) nd rfl (by first | exact Or.inl rfl | exact Or.inr rfl) (pe_lst pa_nil))
  (pss_cons (ps_while PassesOwn.never (pt_cmpR (kNe K rfl hr.u64) (pv 2) (pe_lst pa_nil) (nomark _)) (pss_one (ps_expr (pe_bm PySem.F.plainAttrs_list PySem.F.slot_list_append PySem.F.type_list_append mt_append (pv 3) (pa_cons (pe_bm PySem.F.plainAttrs_list PySem.F.slot_list_pop PySem.F.type_list_pop mt_popAt (pv 2) (pa_cons (pe_c C._law_draw hr (by decide) rfl (pa_cons (pv 0) (pa_cons (pe_callB (kLen K rfl) (by rfl) B.len bb_len (pa_cons (pv 2) pa_nil)) pa_nil))) pa_nil)) pa_nil)))))
  (pss_one (ps_ret (pv 3)))))), ?_⟩
    wtm_at "rd"
    refine rd_listL (SqL.of hs) ?_
    intro a fa
    have g1 := (Go.refl hp).new (o := .lst (xs.map V.str)) fa
    have na := hp.ne fa
    wtm_at "rd"
    intro l fl
    have g2 := g1.new (o := .lst []) fl
    have fl0 := g1.free _ fl
    have nl := g1.pool.ne fl
    have nla := new_ne fl
    wtm_at "rd"
    refine ⟨fun m σ H1 => ∃ zs ys : List Str, m = zs.length ∧ σ = [some (.ref p), some (.ref src), some (.ref a), some (.ref l)] ∧ Go p H H1 ∧ H1 a = some (.lst (zs.map V.str)) ∧ H1 l = some (.lst (ys.map V.str)) ∧ (ys ++ zs).Perm xs,
      ⟨_, xs, [], rfl, rfl, g2, at_upd (Ne.symm nla) upd_same, upd_same, .refl _⟩, ?_⟩
    rintro m σ H1 ⟨zs, ys, rfl, rfl, g, ha, hl, pm⟩
    have lz := pm.length_eq
    rw [List.length_append] at lz
    wtm_at "rd"
    intro t ft
    have g3 := g.new (o := .lst []) ft
    refine rd_neNil (SqL.of (at_upd (ne_of_none ha ft) ha)) (SqL.of upd_same) (fun x hx => ok x (pm.mem_iff.mp (List.mem_append_right _ hx))) ?_
    wtm_at "rd"
    refine rd_b (fun c => ?_) (fun c => ?_)
    · have hz0 : 0 < zs.length := by
        cases zs with
        | nil => cases c
        | cons _ _ => simp
      refine ⟨fun σ' H' => ∃ zs' ys' : List Str, zs'.length < zs.length ∧ σ' = [some (.ref p), some (.ref src), some (.ref a), some (.ref l)] ∧ Go p H H' ∧ H' a = some (.lst (zs'.map V.str)) ∧ H' l = some (.lst (ys'.map V.str)) ∧ (ys' ++ zs').Perm xs,
        fun σ' H' ⟨zs', ys', h1, h2⟩ => ⟨_, h1, zs', ys', rfl, h2⟩, ?_⟩
      wtm_at "rd"
      refine rd_tyL (at_upd (ne_of_none hl ft) hl) ?_
      wtm_at "rd"
      refine rd_tyL (at_upd (ne_of_none ha ft) ha) ?_
      wtm_at "rd"
      refine rd_lenL (SqL.of (at_upd (ne_of_none ha ft) ha)) ?_
      rw [List.length_map]
      wtm_at "rd"
      refine use_draw g3.pool (by omega) (by omega) fun r H2 r0 r1 g => ?_
      have ha2 := g.at (at_upd (ne_of_none ha ft) ha) (Ne.symm na)
      have hl2 := g.at (at_upd (ne_of_none hl ft) hl) (Ne.symm nl)
      have g4 := g3.trans g
      clear g
      wtm_at "rd"
      have hr2 : r.toNat < zs.length := by omega
      refine rd_popAt ha2 r0 rfl (by rw [List.length_map]; omega) (v := .str zs[r.toNat]) (by rw [List.getElem?_map, List.getElem?_eq_getElem hr2]; rfl) ?_
      have hl3 := at_upd (o := .lst ((zs.map V.str).eraseIdx r.toNat)) (nla) hl2
      have g5 := g4.put (o := .lst ((zs.map V.str).eraseIdx r.toNat)) fa na
      wtm_at "rd"
      refine rd_append hl3 (by rw [List.length_map]; omega) ?_
      have g6 := g5.put (o := .lst (ys.map V.str ++ [.str zs[r.toNat]])) fl0 nl
      refine ⟨zs.eraseIdx r.toNat, ys ++ [zs[r.toNat]], ?_, rfl, g6, ?_, ?_, ?_⟩
      · rw [List.length_eraseIdx_of_lt hr2]
        omega
      · rw [upd_ne (Ne.symm nla), upd_same, erase_map]
      · rw [upd_same, List.map_append]
        rfl
      · refine List.Perm.trans ?_ pm
        rw [List.append_assoc]
        refine List.Perm.append_left _ ?_
        exact erase_perm hr2
    · have e : zs = [] := by
        cases zs with
        | nil => rfl
        | cons _ _ => cases c
      subst e
      rw [List.append_nil] at pm
      wtm_at "rd"
      exact q l ys _ g3 fl0 (at_upd (ne_of_none hl ft) hl) pm
theorem ok_edge_of {f : Addr} {fd : FuncData} (F : Fun K "_law_edge_of" "_law_edge_of" s__law_edge_of f fd) (B : Bt mg) : FnG P w K mg base CX0 1 f fd ["_law_one", "_law_other"] spEdgeOf := by
  refine fnG0 F sc__law_edge_of (fun vs H Q E h => ?_) (fun cdv A outer s H vs Q E hr h => ?_)
  · obtain ⟨x, y, rfl, _⟩ := h
    rfl
  · obtain ⟨x, y, rfl, q⟩ := h
    have nd := sc__law_edge_of.nd
    refine ⟨_, (pss_cons (ps_if (pt_cmpR uLt (pv 0) (pv 1) (nomark _)) (pss_one (ps_ret (pe_tup (pa_cons (pv 0) (pa_cons (pv 1) pa_nil))))) pss_nil)
  (pss_one (ps_ret (pe_tup (pa_cons (pv 1) (pa_cons (pv 0) pa_nil)))))), ?_⟩
    wtm_at "rd"
    refine rd_split (fun c => ?_) (fun c => ?_)
    · have c : sLt x y := c
      rw [if_pos c] at q
      wtm_at "rd"
      exact fun t ft => q t ft
    · have c : ¬ sLt x y := c
      rw [if_neg c] at q
      wtm_at "rd"
      exact fun t ft => q t ft
theorem ok_wants {f : Addr} {fd : FuncData} (F : Fun K "_law_wants_edge" "_law_wants_edge" s__law_wants_edge f fd) (B : Bt mg) (C : C1 P w K mg base) : FnG P w K mg base CX0 2 f fd ["_law_pool_here", "_law_kind", "_law_at", "_law_position", "_law_many"] spWants := by
  refine fnG0 F sc__law_wants_edge (fun vs H Q E h => ?_) (fun cdv A outer s H vs Q E hr h => ?_)
  · obtain ⟨p, k, a, b, m, rfl, _⟩ := h
    rfl
  · obtain ⟨p, k, a, b, m, rfl, hp, k0, k1, q⟩ := h
    have nd := sc__law_wants_edge.nd
    refine ⟨_, (pss_cons (ps_if (pt_cmpR uLt (pv 1) pe_int (nomark _)) (pss_one (ps_ret (pe_cmpR (kEq K rfl hr.u64) (pe_c C._law_draw hr (by decide) rfl (pa_cons (pv 0) (pa_cons (pe_op (kAdd K rfl) pe_int (pe_op uMul pe_int (pv 1))) pa_nil))) pe_int (nomark _)))) pss_nil)
  (pss_cons (ps_if (PW.pt (pw_or (pt_cmpR (kEq K rfl hr.u64) (pe_op uSub (pv 2) (pv 3)) pe_int (nomark _)) (pw_or1 (PW.pt (pw_and (pt_cmpR (kEq K rfl hr.u64) (pv 3) pe_int (nomark _)) (pw_and1 (pt_cmpR (kEq K rfl hr.u64) (pv 2) (pe_op uSub (pv 4) pe_int) (nomark _)))))))) (pss_one (ps_ret pe_bl)) pss_nil)
  (pss_one (ps_ret (pe_and (pe_cmpR uLt (pv 1) pe_int (nomark _)) (pe_one (pe_cmpR (kEq K rfl hr.u64) (pe_c C._law_draw hr (by decide) rfl (pa_cons (pv 0) (pa_cons pe_int pa_nil))) pe_int (nomark _)))))))), ?_⟩
    wtm_at "rd"
    refine rd_split (fun c => ?_) (fun c => ?_)
    · wtm_at "rd"
      refine use_draw hp (by omega) (by omega) fun r H2 r0 r1 g => ?_
      wtm_at "rd"
      exact q _ _ g
    · wtm_at "rd"
      refine rd_split (fun c => ?_) (fun c => ?_)
      · wtm_at "rd"
        exact q _ _ (Go.refl hp)
      · wtm_at "rd"
        refine rd_split (fun c => ?_) (fun c => ?_)
        · wtm_at "rd"
          refine rd_split (fun c => ?_) (fun c => ?_)
          · wtm_at "rd"
            exact q _ _ (Go.refl hp)
          · wtm_at "rd"
            refine rd_split (fun c => ?_) (fun c => ?_)
            · wtm_at "rd"
              refine use_draw hp (by decide) (by decide) fun r H2 r0 r1 g => ?_
              wtm_at "rd"
              exact q _ _ g
            · wtm_at "rd"
              exact q _ _ (Go.refl hp)
        · wtm_at "rd"
          refine rd_split (fun c => ?_) (fun c => ?_)
          · wtm_at "rd"
            refine use_draw hp (by decide) (by decide) fun r H2 r0 r1 g => ?_
            wtm_at "rd"
            exact q _ _ g
          · wtm_at "rd"
            exact q _ _ (Go.refl hp)
end
end Law


namespace Law
open PySem PySem.Spec PyProof.Rows L2 U


/-- a new graph and a state of it -/
def spGraph : Sp := fun vs H Q _ => ∃ (p : Addr) (most : Int), vs = [.ref p, .int most] ∧ PoolAt H p ∧ 1 ≤ most ∧ most ≤ 25 ∧
  ∀ (t g n e st : Addr) (ns ord : List Str) (es : List (Addr × Str × Str)) (ws : List (Str × Int)) (H' : Hp), Go p H H' → H' t = some (.tup [.ref g, .ref st]) → GrAt H' g n e ns es → H' st = some (.dK (kvsOf ws)) →
    H g = none → H st = none → 1 ≤ ns.length → ns.length ≤ most.toNat → GrOk ns (es.map (·.2)) → ord.Perm ns → StOk ord ws → (∀ x ∈ es, numOf ws x.2.1 ≠ numOf ws x.2.2) → es.length ≤ 1000 → H t = none → Q (.ref t) H'
theorem PoolAt.offT {H : Hp} {p q : Addr} {xs : List V} (h : PoolAt H p) (hq : H q = some (.tup xs)) : q ≠ p := by
  rintro rfl
  obtain ⟨ys, h⟩ := h.isL
  rw [hq] at h
  cases h
theorem PoolAt.offD {H : Hp} {p q : Addr} {xs : List (Key × V)} (h : PoolAt H p) (hq : H q = some (.dK xs)) : q ≠ p := by
  rintro rfl
  obtain ⟨ys, h⟩ := h.isL
  rw [hq] at h
  cases h
/-- what stays while edges are found -/
structure GK (H : Hp) (p or st ed : Addr) (ord : List Str) (ws : List (Str × Int)) (es : List (Addr × Str × Str)) (H' : Hp) : Prop where
  go : Go p H H'
  ho : H' or = some (.lst (ord.map V.str))
  hs : H' st = some (.dK (kvsOf ws))
  he : H' ed = some (.lst (es.map fun x => V.ref x.1))
  pr : ∀ x ∈ es, H' x.1 = some (.tup [.str x.2.1, .str x.2.2])
theorem GK.new {H H' : Hp} {p or st ed t : Addr} {ord : List Str} {ws : List (Str × Int)} {es : List (Addr × Str × Str)} {o : HO} (h : GK H p or st ed ord ws es H') (n : H' t = none) : GK H p or st ed ord ws es (upd H' t o) :=
  ⟨h.go.new n, at_upd (ne_of_none h.ho n) h.ho, at_upd (ne_of_none h.hs n) h.hs, at_upd (ne_of_none h.he n) h.he, fun x hx => at_upd (ne_of_none (h.pr x hx) n) (h.pr x hx)⟩
theorem GK.step {H H' H2 : Hp} {p or st ed : Addr} {ord : List Str} {ws : List (Str × Int)} {es : List (Addr × Str × Str)} (h : GK H p or st ed ord ws es H') (no : or ≠ p) (ne : ed ≠ p) (g : Go p H' H2) : GK H p or st ed ord ws es H2 :=
  ⟨h.go.trans g, g.at h.ho no, g.at h.hs (h.go.pool.offD h.hs), g.at h.he ne, fun x hx => g.at (h.pr x hx) (h.go.pool.offT (h.pr x hx))⟩
theorem GK.add {H H' : Hp} {p or st ed t : Addr} {ord : List Str} {ws : List (Str × Int)} {es : List (Addr × Str × Str)} {e : Str × Str} (h : GK H p or st ed ord ws es H') (hf : H ed = none) (ne : ed ≠ p) (noe : or ≠ ed)
    (ht : H' t = some (.tup [.str e.1, .str e.2])) : GK H p or st ed ord ws (es ++ [(t, e)]) (upd H' ed (.lst ((es.map fun x => V.ref x.1) ++ [.ref t]))) := by
  have nt : ∀ {b : Addr} {xs : List V}, H' b = some (.tup xs) → b ≠ ed := fun {b xs} hb => ne_of hb h.he (by intro z; cases z)
  refine ⟨h.go.put hf (Ne.symm ne), at_upd noe h.ho, at_upd (ne_of h.hs h.he (by intro z; cases z)) h.hs, ?_, ?_⟩
  · rw [upd_same, List.map_append]
    rfl
  · intro x hx
    rcases List.mem_append.mp hx with hx | hx
    · exact at_upd (nt (h.pr x hx)) (h.pr x hx)
    · have : x = (t, e) := by simpa using hx
      subst this
      exact at_upd (nt ht) ht
section
variable {P : Program} {w : World} {K : PySem.W.Frag} {mg : Str → Option Value} {base : Heap}
structure C2 (P : Program) (w : World) (K : PySem.W.Frag) (mg : Str → Option Value) (base : Heap) : Prop where
  _law_draw : Cal P w K mg base CX0 1 "_law_draw" spDraw
  _law_draw_names : Cal P w K mg base CX0 2 "_law_draw_names" spNames
  _law_shuffle : Cal P w K mg base CX0 2 "_law_shuffle" (spShuf K)
  _law_edge_of : Cal P w K mg base CX0 1 "_law_edge_of" spEdgeOf
  _law_wants_edge : Cal P w K mg base CX0 2 "_law_wants_edge" spWants
theorem ok_draw_graph {f : Addr} {fd : FuncData} (F : Fun K "_law_draw_graph" "_law_draw_graph" s__law_draw_graph f fd) (B : Bt mg) (C : C2 P w K mg base) : FnG P w K mg base CX0 3 f fd ["_law_pool_here", "_law_most"] spGraph := by
  refine fnG0 F sc__law_draw_graph (fun vs H Q E h => ?_) (fun cdv A outer s H vs Q E hr h => ?_)
  · obtain ⟨p, most, rfl, _⟩ := h
    rfl
  · obtain ⟨p, most, rfl, hp, m0, m1, q⟩ := h
    have nd := sc__law_draw_graph.nd
    have hu := hr.u1
    refine ⟨_, (pss_cons (ps_set (i := 2) nd rfl (by first | exact Or.inl rfl | exact Or.inr rfl) (pe_c C._law_shuffle hr (by decide) rfl (pa_cons (pv 0) (pa_cons (pe_c C._law_draw_names hr (by decide) rfl (pa_cons (pv 0) (pa_cons (pe_op (kAdd K rfl) pe_int (pe_c C._law_draw hr (by decide) rfl (pa_cons (pv 0) (pa_cons (pv 1) pa_nil)))) pa_nil))) pa_nil))))
  (pss_cons (ps_set (i := 3) nd rfl (by first | exact Or.inl rfl | exact Or.inr rfl) (pe_c C._law_draw hr (by decide) rfl (pa_cons (pv 0) (pa_cons pe_int pa_nil))))
  (pss_cons (ps_set (i := 4) nd rfl (by first | exact Or.inl rfl | exact Or.inr rfl) pe_dnewK)
  (pss_cons (ps_set (i := 5) nd rfl (by first | exact Or.inl rfl | exact Or.inr rfl) pe_int)
  (pss_cons (ps_for PassesOwn.never rfl (ki_list K rfl (pv 2)) (pg_name (i := 6) nd rfl (by first | exact Or.inl rfl | exact Or.inr rfl)) (pss_cons (ps_set (i := 5) nd rfl (by first | exact Or.inl rfl | exact Or.inr rfl) (pe_op uMod (pe_op (kAdd K rfl) (pv 5) (pe_ix (kIx K rfl) (pe_lst (pa_cons (pe_c C._law_draw hr (by decide) rfl (pa_cons (pv 0) (pa_cons pe_int pa_nil))) (pa_cons (pe_op (kAdd K rfl) pe_int (pe_op uDiv (pe_c C._law_draw hr (by decide) rfl (pa_cons (pv 0) (pa_cons pe_int pa_nil))) pe_int)) pa_nil))) (pe_callTy cInt (by rfl) B.int bb_int (pa_cons (pe_cmpR uGt (pv 3) pe_int (nomark _)) pa_nil)) (fun _ _ => rfl))) pe_int))
  (pss_one (ps_dput hu (pv 4) (pv 6) (pv 5) rfl))))
  (pss_cons (ps_set (i := 7) nd rfl (by first | exact Or.inl rfl | exact Or.inr rfl) (pe_lst pa_nil))
  (pss_cons (ps_for PassesOwn.never rfl (pi_enum (by rfl) B.enumerate (pa_cons (pv 2) pa_nil)) (kg_tup (n := 2) K rfl rfl (pgs_cons (pg_name (i := 8) nd rfl (by first | exact Or.inl rfl | exact Or.inr rfl)) (pgs_cons (pg_name (i := 9) nd rfl (by first | exact Or.inl rfl | exact Or.inr rfl)) pgs_nil))) (pss_one (ps_for PassesOwn.never rfl (pi_enum (by rfl) B.enumerate (pa_cons (pe_slice (kSl K rfl) (pv 2) po_none (po_some (pv 8))) pa_nil)) (kg_tup (n := 2) K rfl rfl (pgs_cons (pg_name (i := 10) nd rfl (by first | exact Or.inl rfl | exact Or.inr rfl)) (pgs_cons (pg_name (i := 11) nd rfl (by first | exact Or.inl rfl | exact Or.inr rfl)) pgs_nil))) (pss_one (ps_if (PW.pt (pw_and (pt_cmpR (kNe K rfl hr.u64) (pe_dget hu (pv 4) (pv 9) (fun _ _ => rfl)) (pe_dget hu (pv 4) (pv 11) (fun _ _ => rfl)) (nomark _)) (pw_and1 (pt_val (pe_c C._law_wants_edge hr (by decide) rfl (pa_cons (pv 0) (pa_cons (pv 3) (pa_cons (pv 8) (pa_cons (pv 10) (pa_cons (pe_callB (kLen K rfl) (by rfl) B.len bb_len (pa_cons (pv 2) pa_nil)) pa_nil)))))))))) (pss_one (ps_expr (pe_bm PySem.F.plainAttrs_list PySem.F.slot_list_append PySem.F.type_list_append mt_append (pv 7) (pa_cons (pe_c C._law_edge_of hr (by decide) rfl (pa_cons (pv 9) (pa_cons (pv 11) pa_nil))) pa_nil)))) pss_nil)))))
  (pss_one (ps_ret (pe_tup (pa_cons (pe_tup (pa_cons (pe_callTy (kTuple K rfl) (by rfl) B.tuple bb_tuple (pa_cons (pe_callB (kSorted K rfl hr.u64) (by rfl) B.sorted bb_sorted (pa_cons (pv 2) pa_nil)) pa_nil)) (pa_cons (pe_callTy (kTuple K rfl) (by rfl) B.tuple bb_tuple (pa_cons (pe_callB (kSorted K rfl hr.u64) (by rfl) B.sorted bb_sorted (pa_cons (pv 7) pa_nil)) pa_nil)) pa_nil))) (pa_cons (pv 4) pa_nil)))))))))))), ?_⟩
    wtm_at "rd"
    refine use_draw hp (by omega) (by omega) fun r H1 r0 r1 g1 => ?_
    wtm_at "rd"
    refine ⟨p, 1 + r, rfl, by omega, by omega, g1.pool, fun l0 nm0 H2 g fl0 hl0 nm ln => ?_⟩
    have g2 := g1.trans g
    clear g
    wtm_at "rd"
    refine ⟨p, l0, nm0, rfl, g2.pool, hl0, (fun x hx => (nm.ok x hx).sok), by omega, fun or ord H3 g fo ho po => ?_⟩
    have no := g.pool.off ho
    have g3 := g2.trans g
    clear g
    have lno : ord.length = (1 + r).toNat := by rw [po.length_eq, ln]
    have nu : NamesU ord := nm.u.perm po
    wtm_at "rd"
    refine use_draw g3.pool (by decide) (by decide) fun kind H4 k0 k1 g => ?_
    have ho4 := g.at ho no
    have g4 := g3.trans g
    clear g
    wtm_at "rd"
    intro st fst
    have nos : or ≠ st := ne_of_none ho4 fst
    have ho5 := at_upd (o := .dK []) nos ho4
    have g5 := g4.new (o := .dK []) fst
    have nst := g4.pool.ne fst
    have fst0 := g4.free _ fst
    wtm_at "rd"
    refine rd_forL (SqL.of ho5) ?_
    refine turnsL (K := K) (xs := ord.map V.str) (fun i σ H' => ∃ (vl : Int) (ws : List (Str × Int)) (u : Option V), σ = [some (.ref p), some (.int most), some (.ref or), some (.int kind), some (.ref st), some (.int vl), u, none, none, none, none, none] ∧
      Go p H H' ∧ H' or = some (.lst (ord.map V.str)) ∧ H' st = some (.dK (kvsOf ws)) ∧ StOk (ord.take i) ws ∧ 0 ≤ vl ∧ vl < 3) ⟨0, [], none, rfl, g5, ho5, upd_same, StOk.nil, by decide, by decide⟩ ?_ ?_ ?_
    · rintro i σ H' hi ⟨vl, ws, u, rfl, g, h1, h2, h3⟩
      exact SqL.of h1
    · rintro i x σ H' hx ⟨vl, ws, u, rfl, g, h1, h2, h3, v0, v1⟩
      obtain ⟨hi, rfl⟩ := map_at hx
      wtm_at "rd"
      refine use_draw g.pool (by decide) (by decide) fun q1 Ha q10 q11 ga => ?_
      have h1a := ga.at h1 no
      have h2a := ga.at h2 (Ne.symm nst)
      have g := g.trans ga
      wtm_at "rd"
      refine use_draw g.pool (by decide) (by decide) fun q2 Hb q20 q21 gb => ?_
      have h1b := gb.at h1a no
      have h2b := gb.at h2a (Ne.symm nst)
      have g := g.trans gb
      wtm_at "rd"
      intro t ft
      have g := g.new (o := .lst [.int q1, .int (1 + q2 / 3)]) ft
      have h1c := at_upd (o := .lst [.int q1, .int (1 + q2 / 3)]) (ne_of_none h1b ft) h1b
      have h2c := at_upd (o := .lst [.int q1, .int (1 + q2 / 3)]) (ne_of_none h2b ft) h2b
      wtm_at "rd"
      refine rd_ixL (SqL.of upd_same) (bToI_pick _) ?_
      obtain ⟨z, hz⟩ : ∃ z, (if decide (1 < kind) = true then V.int (1 + q2 / 3) else V.int q1) = .int z := by split <;> exact ⟨_, rfl⟩
      rw [hz]
      wtm_at "rd"
      have lw : (kvsOf ws).length < 100000 := by
        have := congrArg List.length h3.key
        rw [List.length_map, List.length_take] at this
        rw [List.length_map]
        omega
      refine rd_dset h2c (k := .inr ord[i]) rfl lw ?_
      rw [put_kvs (h3.not nu.nd hi)]
      refine ⟨_, _, _, rfl, g.put fst0 nst, at_upd nos h1c, upd_same, h3.add hi (Int.emod_nonneg _ (by decide)) (Int.emod_lt_of_pos _ (by decide)), Int.emod_nonneg _ (by decide), Int.emod_lt_of_pos _ (by decide)⟩
    rintro σ H5 ⟨vl, ws, u, rfl, g, h1, h2, h3, v0, v1⟩
    rw [List.length_map, List.take_length] at h3
    clear g5 ho5 v0 v1
    wtm_at "rd"
    intro ed fed
    have noe : or ≠ ed := ne_of_none h1 fed
    have nse : st ≠ ed := ne_of_none h2 fed
    have npe := g.pool.ne fed
    have fed0 := g.free _ fed
    have g := g.new (o := .lst []) fed
    have h1 := at_upd (o := .lst []) noe h1
    have h2 := at_upd (o := .lst []) nse h2
    wtm_at "rd"
    refine rd_forE (SqL.of h1) ?_
    have gk : GK H p or st ed ord ws [] (upd H5 ed (.lst [])) := ⟨g, h1, h2, upd_same, fun x hx => nomatch hx⟩
    have nep : ed ≠ p := Ne.symm npe
    have EI0 : EdgesIn ord (numOf ws) 0 0 [] := ⟨by simp, fun x hx => nomatch hx⟩
    refine turnsW (walk_enum (K := K) (a := or) (xs := ord.map V.str)) (fun i σ H' => ∃ (es : List (Addr × Str × Str)) (u8 u9 u10 u11 : Option V), σ = [some (.ref p), some (.int most), some (.ref or), some (.int kind), some (.ref st), some (.int vl), u, some (.ref ed), u8, u9, u10, u11] ∧
      GK H p or st ed ord ws es H' ∧ EdgesIn ord (numOf ws) i 0 es ∧ es.length ≤ 30 * i) ⟨[], _, _, _, _, rfl, gk, EI0, by decide⟩ ?_ ?_ ?_
    · rintro i σ H' hi ⟨es, u8, u9, u10, u11, rfl, k, _⟩
      exact SqL.of k.ho
    · rintro i x σ H6 H7 hi ⟨es, u8, u9, u10, u11, rfl, k, ei, el⟩ ⟨T, x1, y1, rfl, fT, rfl, e1, e2⟩
      have hx := Option.some.inj e1
      subst hx
      obtain ⟨hio, rfl⟩ := map_at e2
      have k := k.new (o := .tup [.int (i : Nat), .str ord[i]]) fT
      refine rd_unp (SqT.of upd_same) rfl ?_
      wtm_at "rd"
      refine rd_slL (SqL.of k.ho) ?_
      rw [cutV_to (by rw [List.length_map]; omega), ← List.map_take]
      intro t2 ft2
      have n2e : t2 ≠ ed := Ne.symm (ne_of_none k.he ft2)
      have n2p : t2 ≠ p := Ne.symm (k.go.pool.ne ft2)
      have k := k.new (o := .lst ((ord.take i).map V.str)) ft2
      wtm_at "rd"
      refine rd_forE (SqL.of upd_same) ?_
      have lti : (ord.take i).length = i := by rw [List.length_take]; omega
      refine turnsW (walk_enum (K := K) (a := t2) (xs := (ord.take i).map V.str)) (fun j σ H' => ∃ (es : List (Addr × Str × Str)) (u10 u11 : Option V), σ = [some (.ref p), some (.int most), some (.ref or), some (.int kind), some (.ref st), some (.int vl), u, some (.ref ed), some (.int (i : Nat)), some (.str ord[i]), u10, u11] ∧
        GK H p or st ed ord ws es H' ∧ H' t2 = some (.lst ((ord.take i).map V.str)) ∧ EdgesIn ord (numOf ws) i j es ∧ es.length ≤ 30 * i + j) ⟨es, u10, u11, rfl, k, upd_same, ei, by omega⟩ ?_ ?_ ?_
      · rintro j σ H' hj ⟨es, u10, u11, rfl, k, h2, _⟩
        exact SqL.of h2
      · rintro j x σ H8 H9 hj ⟨es, u10, u11, rfl, k, ht2, ei, el⟩ ⟨T', x1, y1, rfl, fT', rfl, e1, e2⟩
        have hx := Option.some.inj e1
        subst hx
        obtain ⟨hjo, rfl⟩ := map_at e2
        have hji : j < i := by rw [lti] at hjo; exact hjo
        have hjo' : j < ord.length := by omega
        rw [List.getElem_take]
        have ht2 := at_upd (o := .tup [.int (j : Nat), .str ord[j]]) (ne_of_none ht2 fT') ht2
        have k := k.new (o := .tup [.int (j : Nat), .str ord[j]]) fT'
        refine rd_unp (SqT.of upd_same) rfl ?_
        wtm_at "rd"
        refine rd_dat (.inl k.hs) (h3.val (List.getElem_mem hio)) rfl ?_
        wtm_at "rd"
        refine rd_dat (.inl k.hs) (h3.val (List.getElem_mem hjo')) rfl ?_
        wtm_at "rd"
        refine rd_nsplit (fun c => ?_) (fun c => ?_)
        · wtm_at "rd"
          refine rd_lenL (SqL.of k.ho) ?_
          wtm_at "rd"
          refine ⟨p, kind, _, _, _, rfl, k.go.pool, k0, by omega, fun b H10 g => ?_⟩
          have k := k.step no nep g
          have ht2 := g.at ht2 n2p
          wtm_at "rd"
          refine rd_b (fun c2 => ?_) (fun c2 => ?_)
          · wtm_at "rd"
            refine rd_tyL k.he ?_
            wtm_at "rd"
            refine ⟨_, _, rfl, fun t ft => ?_⟩
            rw [eOf_pair]
            have k := k.new (o := .tup [.str (eOf ord[i] ord[j]).1, .str (eOf ord[i] ord[j]).2]) ft
            have ht2 := at_upd (o := .tup [.str (eOf ord[i] ord[j]).1, .str (eOf ord[i] ord[j]).2]) (ne_of_none ht2 ft) ht2
            wtm_at "rd"
            refine rd_append k.he (by rw [List.length_map]; omega) ?_
            refine ⟨_, _, _, rfl, k.add (e := eOf ord[i] ord[j]) fed0 nep noe upd_same, at_upd n2e ht2, ei.add nu.nd hji hio hjo' c, by rw [List.length_append]; simp only [List.length_singleton]; omega⟩
          · wtm_at "rd"
            exact ⟨_, _, _, rfl, k, ht2, ei.step (by omega), by omega⟩
        · wtm_at "rd"
          exact ⟨_, _, _, rfl, k, ht2, ei.step (by omega), by omega⟩
      · rintro σ H8 ⟨es, u10, u11, rfl, k, ht2, ei, el⟩
        rw [List.length_map, lti] at ei el
        exact ⟨_, _, _, _, _, rfl, k, ei.step (by omega), by omega⟩
    · rintro σ H6 ⟨es, u8, u9, u10, u11, rfl, k, ei, el⟩
      rw [List.length_map] at ei el
      wtm_at "rd"
      refine rd_sortS (SqL.of k.ho) (by omega) ?_
      intro ns pn sn l1 fl1
      have k := k.new (o := .lst (ns.map V.str)) fl1
      wtm_at "rd"
      refine rd_tupleL (SqL.of upd_same) ?_
      intro n fn
      have hn : upd (upd H6 l1 (.lst (ns.map V.str))) n (.tup (ns.map V.str)) n = some (.tup (ns.map V.str)) := upd_same
      have k := k.new (o := .tup (ns.map V.str)) fn
      wtm_at "rd"
      refine rd_sortE (SqL.of k.he) (fun x hx => SqT.of (k.pr x hx)) (by omega) ?_
      intro es2 pe se l2 fl2
      have hn := at_upd (o := .lst (es2.map fun x => V.ref x.1)) (ne_of_none hn fl2) hn
      have k := k.new (o := .lst (es2.map fun x => V.ref x.1)) fl2
      wtm_at "rd"
      refine rd_tupleL (SqL.of upd_same) ?_
      intro e fe
      have hn := at_upd (o := .tup (es2.map fun x => V.ref x.1)) (ne_of_none hn fe) hn
      have he := @upd_same (upd (upd (upd H6 l1 (.lst (ns.map V.str))) n (.tup (ns.map V.str))) l2 (.lst (es2.map fun x => V.ref x.1))) e (.tup (es2.map fun x => V.ref x.1))
      have k := k.new (o := .tup (es2.map fun x => V.ref x.1)) fe
      wtm_at "rd"
      intro g fg
      have fg0 := k.go.free _ fg
      have hn := at_upd (o := .tup [.ref n, .ref e]) (ne_of_none hn fg) hn
      have he := at_upd (o := .tup [.ref n, .ref e]) (ne_of_none he fg) he
      have hg := @upd_same (upd (upd (upd (upd H6 l1 (.lst (ns.map V.str))) n (.tup (ns.map V.str))) l2 (.lst (es2.map fun x => V.ref x.1))) e (.tup (es2.map fun x => V.ref x.1))) g (.tup [.ref n, .ref e])
      have k := k.new (o := .tup [.ref n, .ref e]) fg
      wtm_at "rd"
      intro t ft
      have hn := at_upd (o := .tup [.ref g, .ref st]) (ne_of_none hn ft) hn
      have he := at_upd (o := .tup [.ref g, .ref st]) (ne_of_none he ft) he
      have hg := at_upd (o := .tup [.ref g, .ref st]) (ne_of_none hg ft) hg
      have k0 := k
      have k := k.new (o := .tup [.ref g, .ref st]) ft
      have nn := nu.perm pn
      have pe2 : (es2.map (·.2)).Perm (es.map (·.2)) := pe.map _
      have inE : ∀ x ∈ es2, ∃ i' j', ∃ (hi : i' < ord.length) (hj : j' < ord.length), j' < i' ∧ x.2 = eOf ord[i'] ord[j'] ∧ numOf ws ord[i'] ≠ numOf ws ord[j'] := fun x hx => by
        obtain ⟨i', j', hi, hj, h1, _, h2, h3⟩ := ei.of x (pe.mem_iff.mp hx)
        exact ⟨i', j', hi, hj, h1, h2, h3⟩
      refine q t g n e st ns ord es2 ws _ k.go upd_same ⟨hg, hn, he, fun x hx => k.pr x (pe.mem_iff.mp hx)⟩ k.hs fg0 fst0 (by rw [pn.length_eq]; omega) (by rw [pn.length_eq]; omega) ⟨⟨asc_of_sorted sn nn.nd, nn.ok⟩, ?_, ?_, ?_⟩ pn.symm h3 ?_ (by rw [pe.length_eq]; omega) (k0.go.free _ ft)
      · refine ascE_of_sorted ?_ (pe2.nodup_iff.mpr ei.nd)
        rw [List.pairwise_map]
        exact se
      · intro y hy
        obtain ⟨x, hx, rfl⟩ := List.mem_map.mp hy
        obtain ⟨i', j', hi, hj, h1, h2, h3⟩ := inE x hx
        rw [h2]
        refine eOf_lt fun z => h3 (by rw [z])
      · intro y hy
        obtain ⟨x, hx, rfl⟩ := List.mem_map.mp hy
        obtain ⟨i', j', hi, hj, h1, h2, h3⟩ := inE x hx
        rw [h2]
        have m1 := pn.mem_iff.mpr (List.getElem_mem hi)
        have m2 := pn.mem_iff.mpr (List.getElem_mem hj)
        rcases eOf_cases ord[i'] ord[j'] with z | z <;> rw [z]
        · exact ⟨m1, m2⟩
        · exact ⟨m2, m1⟩
      · intro x hx
        obtain ⟨i', j', hi, hj, h1, h2, h3⟩ := inE x hx
        rw [h2]
        rcases eOf_cases ord[i'] ord[j'] with z | z <;> rw [z]
        · exact h3
        · exact Ne.symm h3
end
end Law


namespace Law
open PySem PySem.Spec PyProof.Rows L2 U
/-- a graph and a state of it stand -/
structure GSt (H : Hp) (g n e st : Addr) (ns ord : List Str) (es : List (Addr × Str × Str)) (f : Str → Int) : Prop where
  gr : GrAt H g n e ns es
  ok : GrOk ns (es.map (·.2))
  pm : ord.Perm ns
  l2 : ns.length ≤ 100
  l3 : es.length ≤ 1000
  st : H st = some (.dK (kvF ord f))
  tri : ∀ x ∈ ns, 0 ≤ f x ∧ f x < 3
  pro : ∀ x ∈ es, f x.2.1 ≠ f x.2.2
section
variable {H H' : Hp} {g n e st p : Addr} {ns ord : List Str} {es : List (Addr × Str × Str)} {f : Str → Int}
theorem GSt.same (h : GSt H g n e st ns ord es f) (s : Same H H') : GSt H' g n e st ns ord es f := ⟨h.gr.same s, h.ok, h.pm, h.l2, h.l3, s _ _ h.st, h.tri, h.pro⟩
theorem GSt.go (h : GSt H g n e st ns ord es f) (hp : PoolAt H p) (b : Go p H H') : GSt H' g n e st ns ord es f := by
  obtain ⟨ys, hy⟩ := hp.isL
  exact ⟨h.gr.but hy b.but, h.ok, h.pm, h.l2, h.l3, b.but.dK hy h.st, h.tri, h.pro⟩
theorem GSt.nd (h : GSt H g n e st ns ord es f) : ns.Nodup := asc_nodup h.ok.names.asc
theorem GSt.ndo (h : GSt H g n e st ns ord es f) : ord.Nodup := h.pm.nodup_iff.mpr h.nd
theorem GSt.inO (h : GSt H g n e st ns ord es f) : ∀ x ∈ ns, x ∈ ord := fun x hx => h.pm.mem_iff.mpr hx
theorem GSt.inE (h : GSt H g n e st ns ord es f) : ∀ x ∈ es, x.2.1 ∈ ns ∧ x.2.2 ∈ ns := fun x hx => h.ok.mem _ (List.mem_map_of_mem hx)
theorem GSt.sok (h : GSt H g n e st ns ord es f) : ∀ x ∈ ns, PyData.strOk x = true := fun x hx => (h.ok.names.ok x hx).sok
end
end Law


namespace Law
open PySem PySem.Spec PyProof.Rows L2 U


/-- the ends of the node's edges, sorted -/
def spNbr : Sp := fun vs H Q _ => ∃ (g n e : Addr) (x : Str) (ns : List Str) (es : List (Addr × Str × Str)), vs = [.ref g, .str x] ∧ GrAt H g n e ns es ∧ es.length ≤ 10000 ∧
  ∀ (l : Addr) (ys : List Str) (H' : Hp), Same H H' → H l = none → H' l = some (.lst (ys.map V.str)) → ys.Perm (nbrF (es.map (·.2)) x) → ys.Pairwise (fun a b => ¬ sLt b a) → Q (.ref l) H'
section
variable {P : Program} {w : World} {K : PySem.W.Frag} {mg : Str → Option Value} {base : Heap}
theorem nbrF_take {es : List (Str × Str)} {x : Str} {i : Nat} (h : i < es.length) : nbrF (es.take (i + 1)) x = nbrF (es.take i) x ++ ((if es[i].1 = x then [es[i].2] else []) ++ (if es[i].2 = x then [es[i].1] else [])) := by
  unfold nbrF
  rw [List.take_succ, List.getElem?_eq_getElem h, List.flatMap_append]
  simp
theorem nbrF_len {x : Str} : ∀ {es : List (Str × Str)}, (nbrF es x).length ≤ 2 * es.length
  | [] => by simp [nbrF]
  | e :: es => by
    have := nbrF_len (x := x) (es := es)
    unfold nbrF at *
    rw [List.flatMap_cons, List.length_append, List.length_append, List.length_cons]
    split <;> split <;> simp only [List.length_cons, List.length_nil] <;> omega
theorem ok_nbr {f : Addr} {fd : FuncData} (F : Fun K "_law_neighbors_of" "_law_neighbors_of" s__law_neighbors_of f fd) (B : Bt mg) : FnG P w K mg base CX0 1 f fd ["_law_graph", "_law_node"] spNbr := by
  refine fnG0 F sc__law_neighbors_of (fun vs H Q E h => ?_) (fun cdv A outer s H vs Q E hr h => ?_)
  · obtain ⟨g, n, e, x, ns, es, rfl, _⟩ := h
    rfl
  · obtain ⟨g, n, e, x, ns, es, rfl, hg, hl, q⟩ := h
    have nd := sc__law_neighbors_of.nd
    refine ⟨_, (pss_cons (ps_set (i := 2) nd rfl (by first | exact Or.inl rfl | exact Or.inr rfl) (pe_lst pa_nil))
  (pss_cons (ps_for PassesOwn.never rfl (ki_tup K rfl (pe_ix (kIx K rfl) (pv 0) pe_int (fun _ _ => rfl))) (kg_tup (n := 2) K rfl rfl (pgs_cons (pg_name (i := 3) nd rfl (by first | exact Or.inl rfl | exact Or.inr rfl)) (pgs_cons (pg_name (i := 4) nd rfl (by first | exact Or.inl rfl | exact Or.inr rfl)) pgs_nil))) (pss_cons (ps_if (pt_cmpR (kEq K rfl hr.u64) (pv 3) (pv 1) (nomark _)) (pss_one (ps_expr (pe_bm PySem.F.plainAttrs_list PySem.F.slot_list_append PySem.F.type_list_append mt_append (pv 2) (pa_cons (pv 4) pa_nil)))) pss_nil)
  (pss_one (ps_if (pt_cmpR (kEq K rfl hr.u64) (pv 4) (pv 1) (nomark _)) (pss_one (ps_expr (pe_bm PySem.F.plainAttrs_list PySem.F.slot_list_append PySem.F.type_list_append mt_append (pv 2) (pa_cons (pv 3) pa_nil)))) pss_nil))))
  (pss_one (ps_ret (pe_callB (kSorted K rfl hr.u64) (by rfl) B.sorted bb_sorted (pa_cons (pv 2) pa_nil)))))), ?_⟩
    wtm_at "rd"
    intro l fl
    have s1 : Same H (upd H l (.lst [])) := Same.new fl
    have hg1 := hg.same s1
    wtm_at "rd"
    refine rd_ixT (SqT.of hg1.top) (v := .ref e) rfl ?_
    refine rd_forT (SqT.of hg1.edges) ?_
    refine turnsT (K := K) (xs := es.map fun x => V.ref x.1) (fun i σ H' => ∃ u1 u2 : Option V, σ = [some (.ref g), some (.str x), some (.ref l), u1, u2] ∧ Same H H' ∧ H' l = some (.lst ((nbrF ((es.map (·.2)).take i) x).map V.str))) ⟨_, _, rfl, s1, upd_same⟩ ?_ ?_ ?_
    · rintro i σ H' hi ⟨u1, u2, rfl, s, h⟩
      exact SqT.of (hg.same s).edges
    · rintro i y σ H' hy ⟨u1, u2, rfl, s, h⟩
      obtain ⟨hi, rfl⟩ := map_at hy
      have hi2 : i < (es.map (·.2)).length := by rw [List.length_map]; exact hi
      have st := nbrF_take (x := x) hi2
      rw [List.getElem_map] at st
      have len : (nbrF ((es.map (·.2)).take i) x).length ≤ 2 * i := by
        have := nbrF_len (x := x) (es := (es.map (·.2)).take i)
        rw [List.length_take] at this
        omega
      refine rd_unp (SqT.of ((hg.same s).pairs es[i] (List.getElem_mem hi))) rfl ?_
      wtm_at "rd"
      refine rd_split (fun c => ?_) (fun c => ?_)
      · rw [if_pos c] at st
        wtm_at "rd"
        refine rd_tyL h ?_
        wtm_at "rd"
        refine rd_append h (by rw [List.length_map]; omega) ?_
        wtm_at "rd"
        refine rd_split (fun c2 => ?_) (fun c2 => ?_)
        · rw [if_pos c2] at st
          wtm_at "rd"
          refine rd_tyL upd_same ?_
          wtm_at "rd"
          refine rd_append upd_same (by rw [List.length_append, List.length_map]; simp only [List.length_singleton]; omega) ?_
          refine ⟨_, _, rfl, same_put (same_put s fl) fl, ?_⟩
          rw [upd_same, st]
          simp [List.map_append]
        · rw [if_neg c2] at st
          wtm_at "rd"
          refine ⟨_, _, rfl, same_put s fl, ?_⟩
          rw [upd_same, st]
          simp [List.map_append]
      · rw [if_neg c] at st
        wtm_at "rd"
        refine rd_split (fun c2 => ?_) (fun c2 => ?_)
        · rw [if_pos c2] at st
          wtm_at "rd"
          refine rd_tyL h ?_
          wtm_at "rd"
          refine rd_append h (by rw [List.length_map]; omega) ?_
          refine ⟨_, _, rfl, same_put s fl, ?_⟩
          rw [upd_same, st]
          simp [List.map_append]
        · rw [if_neg c2] at st
          wtm_at "rd"
          refine ⟨_, _, rfl, s, ?_⟩
          rw [h, st]
          simp
    · rintro σ H' ⟨u1, u2, rfl, s, h⟩
      rw [List.length_map, List.take_of_length_le (by rw [List.length_map]; exact Nat.le_refl _)] at h
      wtm_at "rd"
      refine rd_sortS (SqL.of h) ?_ ?_
      · have := nbrF_len (x := x) (es := es.map (·.2))
        rw [List.length_map] at this
        omega
      · intro ys py sy l2 fl2
        exact q l2 ys _ (same_add s fl2) (new_of_same s fl2) upd_same py sy
end
end Law


namespace Law
open PySem PySem.Spec PyProof.Rows L2 U


/-- the moves' pairs stand -/
def TupsAt (H : Hp) (ms : List (Addr × Str × Int)) : Prop := ∀ m ∈ ms, H m.1 = some (.tup [.str m.2.1, .int m.2.2])
theorem TupsAt.nil {H : Hp} : TupsAt H [] := fun m hm => nomatch hm
theorem TupsAt.same {H H' : Hp} {ms : List (Addr × Str × Int)} (h : TupsAt H ms) (s : Same H H') : TupsAt H' ms := fun m hm => s _ _ (h m hm)
theorem TupsAt.app {H : Hp} {ms ms2 : List (Addr × Str × Int)} (h : TupsAt H ms) (h2 : TupsAt H ms2) : TupsAt H (ms ++ ms2) := fun m hm => (List.mem_append.mp hm).elim (h m) (h2 m)
theorem TupsAt.put {H : Hp} {ms : List (Addr × Str × Int)} {a : Addr} {xs ys : List V} (h : TupsAt H ms) (ha : H a = some (.lst xs)) : TupsAt (upd H a (.lst ys)) ms := fun m hm => at_upd (ne_of (h m hm) ha (by intro z; cases z)) (h m hm)
theorem TupsAt.new {H : Hp} {ms : List (Addr × Str × Int)} {a : Addr} {o : HO} (h : TupsAt H ms) (ha : H a = none) : TupsAt (upd H a o) ms := fun m hm => at_upd (ne_of_none (h m hm) ha) (h m hm)
def spMoves (K : PySem.W.Frag) : Sp := fun vs H Q _ => ∃ (g n e st ps : Addr) (ns ord pn : List Str) (es : List (Addr × Str × Str)) (f : Str → Int), vs = [.ref g, .ref st, .ref ps] ∧ GrAt H g n e ns es ∧ es.length ≤ 10000 ∧ ns.length ≤ 1000 ∧
  H st = some (.dK (kvF ord f)) ∧ (∀ x ∈ ns, x ∈ ord) ∧ (∀ x ∈ es, x.2.1 ∈ ns ∧ x.2.2 ∈ ns) ∧ SqT K H ps (pn.map V.str) ∧
  ∀ (l : Addr) (ms : List (Addr × Str × Int)) (H' : Hp), Same H H' → H l = none → H' l = some (.lst (ms.map fun m => V.ref m.1)) → TupsAt H' ms → ms.map (·.2) = movesF ns (es.map (·.2)) f pn → Q (.ref l) H'
theorem movesOf_len {es : List (Str × Str)} {f : Str → Int} {n : Str} : (movesOf es f n).length ≤ 3 := by
  unfold movesOf
  rw [List.length_map]
  exact List.length_filter_le _ _
theorem movesF_len {es : List (Str × Str)} {f : Str → Int} {ps : List Str} : ∀ {ns : List Str}, (movesF ns es f ps).length ≤ 3 * ns.length
  | [] => by simp [movesF]
  | n :: ns => by
    have := movesF_len (es := es) (f := f) (ps := ps) (ns := ns)
    have := movesOf_len (es := es) (f := f) (n := n)
    unfold movesF at *
    rw [List.flatMap_cons, List.length_append, List.length_cons]
    split
    · simp only [List.length_nil]
      omega
    · omega
theorem movesF_take {ns : List Str} {es : List (Str × Str)} {f : Str → Int} {ps : List Str} {i : Nat} (h : i < ns.length) : movesF (ns.take (i + 1)) es f ps = movesF (ns.take i) es f ps ++ (if ns[i] ∈ ps then [] else movesOf es f ns[i]) := by
  unfold movesF
  rw [List.take_succ, List.getElem?_eq_getElem h, List.flatMap_append]
  simp
section
variable {P : Program} {w : World} {K : PySem.W.Frag} {mg : Str → Option Value} {base : Heap}
structure C3 (P : Program) (w : World) (K : PySem.W.Frag) (mg : Str → Option Value) (base : Heap) : Prop where
  _law_neighbors_of : Cal P w K mg base CX0 1 "_law_neighbors_of" spNbr
theorem ok_moves {f : Addr} {fd : FuncData} (F : Fun K "_law_moves_of" "_law_moves_of" s__law_moves_of f fd) (B : Bt mg) (C : C3 P w K mg base) : FnG P w K mg base CX0 2 f fd ["_law_graph", "_law_state", "_law_pins"] (spMoves K) := by
  refine fnG0 F sc__law_moves_of (fun vs H Q E h => ?_) (fun cdv A outer s H vs Q E hr h => ?_)
  · obtain ⟨g, n, e, st, ps, ns, ord, pn, es, f, rfl, _⟩ := h
    rfl
  · obtain ⟨g, n, e, st, ps, ns, ord, pn, es, f, rfl, hg, hel, hnl, hst, hin, hes, hps, q⟩ := h
    have nd := sc__law_moves_of.nd
    have hu := hr.u1
    refine ⟨_, (pss_cons (ps_set (i := 3) nd rfl (by first | exact Or.inl rfl | exact Or.inr rfl) (pe_lst pa_nil))
  (pss_cons (ps_for PassesOwn.never rfl (ki_tup K rfl (pe_ix (kIx K rfl) (pv 0) pe_int (fun _ _ => rfl))) (pg_name (i := 4) nd rfl (by first | exact Or.inl rfl | exact Or.inr rfl)) (pss_cons (ps_set (i := 5) nd rfl (by first | exact Or.inl rfl | exact Or.inr rfl) (pe_op (kAdd K rfl) (pe_lc (own := [("_law_other", 6)]) rfl nd (ki_list K rfl (pe_c C._law_neighbors_of hr (by decide) rfl (pa_cons (pv 0) (pa_cons (pv 4) pa_nil)))) (blkOk_by (own := [("_law_other", 6)]) (N := nN__law_moves_of) (sc := defScope s__law_moves_of) (by decide +kernel)) (fun _ _ _ _ _ => (pg_name (i := 6) nd rfl (by first | exact Or.inl rfl | exact Or.inr rfl))) (fun _ _ _ _ _ => pts_nil) (fun _ _ _ _ _ => (pe_dget hu (pv 1) (pv 6) (fun _ _ => rfl)))) (pe_lst (pa_cons (pe_dget hu (pv 1) (pv 4) (fun _ _ => rfl)) pa_nil))))
  (pss_one (ps_if (pt_cmpR (kNotIn K rfl) (pv 4) (pv 2) rfl) (pss_one (ps_set (i := 3) nd rfl (by first | exact Or.inl rfl | exact Or.inr rfl) (pe_op (kAdd K rfl) (pv 3) (pe_lc (own := [("_law_value", 7)]) rfl nd (pi_range1 rfl B.range (pa_cons pe_int pa_nil)) (blkOk_by (own := [("_law_value", 7)]) (N := nN__law_moves_of) (sc := defScope s__law_moves_of) (by decide +kernel)) (fun _ _ _ _ _ => (pg_name (i := 7) nd rfl (by first | exact Or.inl rfl | exact Or.inr rfl))) (fun _ _ _ _ _ => (pts_one (pt_cmpR (kNotIn K rfl) (pv 7) (pv 5) rfl))) (fun _ _ _ _ _ => (pe_tup (pa_cons (pv 4) (pa_cons (pv 7) pa_nil)))))))) pss_nil))))
  (pss_one (ps_ret (pv 3))))), ?_⟩
    wtm_at "rd"
    intro l fl
    have s1 : Same H (upd H l (.lst [])) := Same.new fl
    wtm_at "rd"
    refine rd_ixT (SqT.of (hg.same s1).top) (v := .ref n) rfl ?_
    refine rd_forT (SqT.of (hg.same s1).nodes) ?_
    refine turnsT (K := K) (xs := ns.map V.str) (fun i σ H' => ∃ (l : Addr) (ms : List (Addr × Str × Int)) (u4 u5 u6 u7 : Option V), σ = [some (.ref g), some (.ref st), some (.ref ps), some (.ref l), u4, u5, u6, u7] ∧ Same H H' ∧ H l = none ∧
      H' l = some (.lst (ms.map fun m => V.ref m.1)) ∧ TupsAt H' ms ∧ ms.map (·.2) = movesF (ns.take i) (es.map (·.2)) f pn) ⟨l, [], _, _, _, _, rfl, s1, fl, upd_same, TupsAt.nil, by simp [movesF]⟩ ?_ ?_ ?_
    · rintro i σ H' hi ⟨l, ms, u4, u5, u6, u7, rfl, s, _⟩
      exact SqT.of (hg.same s).nodes
    · rintro i y σ H0 hy ⟨l, ms, u4, u5, u6, u7, rfl, s, fl, hl, tm, em⟩
      obtain ⟨hi, rfl⟩ := map_at hy
      have hni := List.getElem_mem hi
      have mlen : ms.length ≤ 3000 := by
        have h1 := congrArg List.length em
        have h2 := movesF_len (es := es.map (·.2)) (f := f) (ps := pn) (ns := ns.take i)
        rw [List.length_map] at h1
        rw [List.length_take] at h2
        omega
      wtm_at "rd"
      refine ⟨g, n, e, ns[i], ns, es, rfl, hg.same s, hel, fun l1 ys H1 sa fl1 hl1 py _ => ?_⟩
      have s1 := s.trans sa
      have lys : ys.length ≤ 20000 := by
        have h1 := nbrF_len (x := ns[i]) (es := es.map (·.2))
        rw [List.length_map] at h1
        rw [py.length_eq]
        omega
      have ysin : ∀ y ∈ ys, y ∈ ord := fun y hy => by
        rcases mem_nbrF.mp (py.mem_iff.mp hy) with h | h
        · obtain ⟨x, hx, e⟩ := List.mem_map.mp h
          have := (hes x hx).2
          rw [e] at this
          exact hin _ this
        · obtain ⟨x, hx, e⟩ := List.mem_map.mp h
          have := (hes x hx).1
          rw [e] at this
          exact hin _ this
      refine rd_forL (SqL.of hl1) ?_
      intro D fD
      refine lcL (K := K) (xs := ys.map V.str) (fun j H' => Same H1 H' ∧ H' D = some (.lst (((ys.take j).map f).map V.int))) ⟨Same.new fD, upd_same⟩ ?_ ?_ ?_
      · rintro j H' hj ⟨sb, _⟩
        exact SqL.of (sb _ _ hl1)
      · rintro j y H' hy ⟨sb, hD⟩
        obtain ⟨hj, rfl⟩ := map_at hy
        wtm_at "rd"
        refine rd_dat (.inl (sb _ _ (s1 _ _ hst))) (kvF_val (ysin _ (List.getElem_mem hj))) rfl ?_
        refine rd_acc hD (by rw [List.length_map, List.length_map, List.length_take]; omega) ?_
        refine ⟨same_put sb fD, ?_⟩
        rw [upd_same, List.take_succ, List.getElem?_eq_getElem hj, List.map_append, List.map_append]
        rfl
      · rintro H2 ⟨sb, hD⟩
        rw [List.length_map, List.take_length] at hD
        have s2 := s1.trans sb
        wtm_at "rd"
        refine rd_dat (.inl (s2 _ _ hst)) (kvF_val (hin _ hni)) rfl ?_
        wtm_at "rd"
        intro t ft
        refine rd_catL (at_upd (ne_of_none hD ft) hD) upd_same (by rw [List.length_map, List.length_map]; simp only [List.length_singleton]; omega) ?_
        intro sh fsh
        have s3 := same_add (o := .lst ((ys.map f).map V.int ++ [.int (f ns[i])])) (same_add (o := .lst [.int (f ns[i])]) s2 ft) fsh
        have hsh : upd (upd H2 t (.lst [.int (f ns[i])])) sh (.lst ((ys.map f).map V.int ++ [.int (f ns[i])])) sh = some (.lst ((ys.map f ++ [f ns[i]]).map V.int)) := by
          rw [upd_same, List.map_append]
          rfl
        have sx : Same H0 (upd (upd H2 t (.lst [.int (f ns[i])])) sh (.lst ((ys.map f).map V.int ++ [.int (f ns[i])]))) := same_add (same_add (sa.trans sb) ft) fsh
        generalize upd (upd H2 t (.lst [.int (f ns[i])])) sh (.lst ((ys.map f).map V.int ++ [.int (f ns[i])])) = H3 at s3 hsh sx
        have et := movesF_take (es := es.map (·.2)) (f := f) (ps := pn) hi
        wtm_at "rd"
        refine rd_ninST (Same.seqT s3 hps) ?_
        wtm_at "rd"
        refine rd_nsplit (fun c => ?_) (fun c => ?_)
        · rw [if_neg c] at et
          wtm_at "rd"
          intro D2 fD2
          refine lcR (fun j H' => ∃ m2 : List (Addr × Str × Int), Same H3 H' ∧ H' D2 = some (.lst (m2.map fun m => V.ref m.1)) ∧ TupsAt H' m2 ∧ m2.map (·.2) = ((([0, 1, 2] : List Int).take j).filter (freeB (es.map (·.2)) f ns[i])).map fun v => (ns[i], v)) ⟨[], Same.new fD2, upd_same, TupsAt.nil, rfl⟩ ?_ ?_
          · rintro j H' hj ⟨m2, sc, hD2, t2, e2⟩
            have hj : j < 3 := hj
            have m2l : m2.length ≤ 3 := by
              have h1 := congrArg List.length e2
              rw [List.length_map, List.length_map] at h1
              have h2 := List.length_filter_le (freeB (es.map (·.2)) f ns[i]) (([0, 1, 2] : List Int).take j)
              rw [List.length_take] at h2
              simp only [List.length_cons, List.length_nil] at h2
              omega
            have tj : ([0, 1, 2] : List Int).take (j + 1) = ([0, 1, 2] : List Int).take j ++ [(0 + (j : Int))] := by
              have : j = 0 ∨ j = 1 ∨ j = 2 := by omega
              rcases this with rfl | rfl | rfl <;> rfl
            have fb : freeB (es.map (·.2)) f ns[i] (0 + (j : Int)) = !decide ((0 + (j : Int)) ∈ ys.map f ++ [f ns[i]]) := by
              unfold freeB
              congr 1
              refine decide_eq_decide.mpr ?_
              rw [List.mem_append, List.mem_append, (py.map f).mem_iff]
            wtm_at "rd"
            refine rd_ninIL (SqL.of (sc _ _ hsh)) ?_
            wtm_at "rd"
            rw [← fb]
            cases c2 : freeB (es.map (·.2)) f ns[i] (0 + (j : Int)) with
            | true =>
              rw [if_pos rfl]
              wtm_at "rd"
              intro t2' ft2
              refine rd_acc (at_upd (ne_of_none hD2 ft2) hD2) (by rw [List.length_map]; omega) ?_
              refine ⟨m2 ++ [(t2', ns[i], 0 + (j : Int))], same_put (same_add sc ft2) fD2, ?_, ?_, ?_⟩
              · rw [upd_same, List.map_append]
                rfl
              · refine TupsAt.put (TupsAt.app (t2.new ft2) ?_) (at_upd (ne_of_none hD2 ft2) hD2)
                intro m hm
                rw [List.mem_singleton] at hm
                subst hm
                exact upd_same
              · rw [List.map_append, e2, tj, List.filter_append, List.map_append, List.filter_cons_of_pos c2, List.filter_nil]
                rfl
            | false =>
              rw [if_neg Bool.false_ne_true]
              refine ⟨m2, sc, hD2, t2, ?_⟩
              rw [e2, tj, List.filter_append, List.map_append, List.filter_cons_of_neg (by rw [c2]; exact Bool.false_ne_true), List.filter_nil]
              exact (List.append_nil _).symm
          · rintro H4 ⟨m2, sc, hD2, t2, e2⟩
            have m2l : m2.length ≤ 3 := by
              have h1 := congrArg List.length e2
              rw [List.length_map, List.length_map] at h1
              have h2 := List.length_filter_le (freeB (es.map (·.2)) f ns[i]) (([0, 1, 2] : List Int).take (Int.toNat 3))
              rw [List.length_take] at h2
              simp only [List.length_cons, List.length_nil] at h2
              omega
            wtm_at "rd"
            refine rd_catL (sc _ _ (sx _ _ hl)) hD2 (by rw [List.length_map, List.length_map]; omega) ?_
            intro l2 fl2
            have s4 := s3.trans sc
            refine ⟨l2, ms ++ m2, _, _, _, _, rfl, same_add s4 fl2, new_of_same s4 fl2, ?_, ((tm.same (sx.trans sc)).app t2).new fl2, ?_⟩
            · rw [upd_same, List.map_append]
            · rw [List.map_append, em, et, e2]
              rfl
        · rw [if_pos c] at et
          wtm_at "rd"
          refine ⟨l, ms, _, _, _, _, rfl, s3, fl, sx _ _ hl, tm.same sx, ?_⟩
          rw [em, et, List.append_nil]
    · rintro σ H' ⟨l, ms, u4, u5, u6, u7, rfl, s, fl, hl, tm, em⟩
      rw [List.length_map, List.take_length] at em
      wtm_at "rd"
      exact q l ms H' s fl hl tm em
end
end Law


namespace Law
open PySem PySem.Spec PyProof.Rows L2 U


theorem moves_dp {K : PySem.W.Frag} {H : Hp} : ∀ {ms : List (Addr × Str × Int)}, TupsAt H ms → DpAll K H (ms.map fun m => V.ref m.1) (ms.map fun m => PyData.tuple [.str m.2.1, .int m.2.2])
  | [], _ => .nil
  | m :: ms, h => .cons (.tup (SqT.of (h m List.mem_cons_self)) (.cons (.str _) (.cons (.int _) .nil))) (moves_dp fun x hx => h x (List.mem_cons_of_mem _ hx))
theorem moves_can : ∀ {ms : List (Addr × Str × Int)}, (∀ m ∈ ms, PyData.strOk m.2.1 = true) → PyData.canLayAll0 (ms.map fun m => PyData.tuple [.str m.2.1, .int m.2.2]) = true
  | [], _ => by simp [PyData.canLayAll0]
  | m :: ms, h => by
    rw [List.map_cons, PyData.canLayAll0, moves_can fun x hx => h x (List.mem_cons_of_mem _ hx), PyData.canLay0, PyData.canLayAll0, PyData.canLayAll0, PyData.canLayAll0, PyData.canLay0, PyData.canLay0, h m List.mem_cons_self]
    rfl
theorem moves_dep : ∀ {ms : List (Addr × Str × Int)}, PyData.depthAll (ms.map fun m => PyData.tuple [.str m.2.1, .int m.2.2]) ≤ 60
  | [] => by simp [PyData.depthAll]
  | m :: ms => by
    have := moves_dep (ms := ms)
    rw [List.map_cons, PyData.depthAll, PyData.depth, PyData.depthAll, PyData.depthAll, PyData.depthAll, PyData.depth, PyData.depth]
    omega
/-- [..] != [], of moves -/
theorem rd_neMoves {K : PySem.W.Frag} {H : Hp} {Q : VK} {p q : Addr} {ms : List (Addr × Str × Int)} (hp : H p = some (.lst (ms.map fun m => V.ref m.1))) (tm : TupsAt H ms) (ok : ∀ m ∈ ms, PyData.strOk m.2.1 = true) (hq : H q = some (.lst [])) (h : Q (.bl (!ms.isEmpty)) H) : rNeU K (.ref p) (.ref q) H Q := by
  refine rd_neNilD (SqL.of hp) (moves_dp tm) (SqL.of hq) (moves_can ok) moves_dep ?_
  cases ms <;> exact h
def spDrawMoves (K : PySem.W.Frag) : Sp := fun vs H Q _ => ∃ (p g n e st ps : Addr) (most : Int) (ns ord pn : List Str) (es : List (Addr × Str × Str)) (f : Str → Int), vs = [.ref p, .ref g, .ref st, .ref ps, .int most] ∧ PoolAt H p ∧ GSt H g n e st ns ord es f ∧ 0 ≤ most ∧ most ≤ 1000 ∧ SqT K H ps (pn.map V.str) ∧
  ∀ (t l c : Addr) (ms : List (Addr × Str × Int)) (f' : Str → Int) (H' : Hp), Go p H H' → H t = none → H l = none → H c = none → H' t = some (.tup [.ref l, .ref c]) → H' l = some (.lst (ms.map fun m => V.ref m.1)) → TupsAt H' ms → H' c = some (.dK (kvF ord f')) → ms.length ≤ 1000 → (ms.length : Int) ≤ most →
    Plays ns (es.map (·.2)) pn f (ms.map (·.2)) f' → Q (.ref t) H'
theorem TupsAt.go {p : Addr} {H H' : Hp} {ms : List (Addr × Str × Int)} (h : TupsAt H ms) (hp : PoolAt H p) (g : Go p H H') : TupsAt H' ms := fun m hm => by
  obtain ⟨ys, hy⟩ := hp.isL
  exact g.but.tup hy (h m hm)
theorem Go.dK {p d : Addr} {H H' : Hp} {kvs : List (Key × V)} (g : Go p H H') (hp : PoolAt H p) (h : H d = some (.dK kvs)) : H' d = some (.dK kvs) := by
  obtain ⟨ys, hy⟩ := hp.isL
  exact g.but.dK hy h
theorem Go.tup {p d : Addr} {H H' : Hp} {xs : List V} (g : Go p H H') (hp : PoolAt H p) (h : H d = some (.tup xs)) : H' d = some (.tup xs) := by
  obtain ⟨ys, hy⟩ := hp.isL
  exact g.but.tup hy h
section
variable {P : Program} {w : World} {K : PySem.W.Frag} {mg : Str → Option Value} {base : Heap}
structure C4 (P : Program) (w : World) (K : PySem.W.Frag) (mg : Str → Option Value) (base : Heap) : Prop where
  _law_draw : Cal P w K mg base CX0 1 "_law_draw" spDraw
  _law_moves_of : Cal P w K mg base CX0 2 "_law_moves_of" (spMoves K)
theorem ok_draw_moves {f : Addr} {fd : FuncData} (F : Fun K "_law_draw_moves" "_law_draw_moves" s__law_draw_moves f fd) (B : Bt mg) (C : C4 P w K mg base) : FnG P w K mg base CX0 3 f fd ["_law_pool_here", "_law_graph", "_law_state", "_law_pins", "_law_most"] (spDrawMoves K) := by
  refine fnG0 F sc__law_draw_moves (fun vs H Q E h => ?_) (fun cdv A outer s H vs Q E hr h => ?_)
  · obtain ⟨p, g, n, e, st, ps, most, ns, ord, pn, es, f, rfl, _⟩ := h
    rfl
  · obtain ⟨p, g, n, e, st, ps, most, ns, ord, pn, es, f, rfl, hp, gs, m0, m1, hps, q⟩ := h
    have nd := sc__law_draw_moves.nd
    have hu := hr.u1
    refine ⟨_, (pss_cons (ps_set (i := 5) nd rfl (by first | exact Or.inl rfl | exact Or.inr rfl) (pe_callTy cDict (by rfl) B.dict bb_dict (pa_cons (pv 2) pa_nil)))
  (pss_cons (ps_set (i := 6) nd rfl (by first | exact Or.inl rfl | exact Or.inr rfl) (pe_lst pa_nil))
  (pss_cons (ps_for PassesOwn.never rfl (pi_range1 rfl B.range (pa_cons (pe_c C._law_draw hr (by decide) rfl (pa_cons (pv 0) (pa_cons (pe_op (kAdd K rfl) (pv 4) pe_int) pa_nil))) pa_nil)) (pg_name (i := 7) nd rfl (by first | exact Or.inl rfl | exact Or.inr rfl)) (pss_cons (ps_set (i := 8) nd rfl (by first | exact Or.inl rfl | exact Or.inr rfl) (pe_c C._law_moves_of hr (by decide) rfl (pa_cons (pv 1) (pa_cons (pv 5) (pa_cons (pv 3) pa_nil)))))
  (pss_one (ps_if (pt_cmpR (kNe K rfl hr.u64) (pv 8) (pe_lst pa_nil) (nomark _)) (pss_cons (ps_set (i := 9) nd rfl (by first | exact Or.inl rfl | exact Or.inr rfl) (pe_ix (kIx K rfl) (pv 8) (pe_c C._law_draw hr (by decide) rfl (pa_cons (pv 0) (pa_cons (pe_callB (kLen K rfl) (by rfl) B.len bb_len (pa_cons (pv 8) pa_nil)) pa_nil))) (fun _ _ => rfl)))
  (pss_cons (ps_dput hu (pv 5) (pe_ix (kIx K rfl) (pv 9) pe_int (fun _ _ => rfl)) (pe_ix (kIx K rfl) (pv 9) pe_int (fun _ _ => rfl)) rfl)
  (pss_one (ps_expr (pe_bm PySem.F.plainAttrs_list PySem.F.slot_list_append PySem.F.type_list_append mt_append (pv 6) (pa_cons (pv 9) pa_nil)))))) pss_nil))))
  (pss_one (ps_ret (pe_tup (pa_cons (pv 6) (pa_cons (pv 5) pa_nil)))))))), ?_⟩
    wtm_at "rd"
    refine ⟨_, .inl gs.st, fun c fc => ?_⟩
    have g1 := (Go.refl hp).new (o := .dK (kvF ord f)) fc
    have npc := hp.ne fc
    wtm_at "rd"
    intro l fl
    have g2 := g1.new (o := .lst []) fl
    have npl := g1.pool.ne fl
    have fl0 := g1.free _ fl
    have nlc := new_ne fl
    have hc2 := at_upd (o := .lst []) (Ne.symm nlc) (@upd_same H c (.dK (kvF ord f)))
    have hl2 := @upd_same (upd H c (.dK (kvF ord f))) l (.lst [])
    wtm_at "rd"
    refine use_draw g2.pool (by omega) (by omega) fun many H3 k0 k1 ga => ?_
    have hc3 := ga.dK g2.pool hc2
    have hl3 := ga.at hl2 (Ne.symm npl)
    have g3 := g2.trans ga
    wtm_at "rd"
    refine turnsR (fun i σ H' => ∃ (ms : List (Addr × Str × Int)) (f' : Str → Int) (u7 u8 u9 : Option V), σ = [some (.ref p), some (.ref g), some (.ref st), some (.ref ps), some (.int most), some (.ref c), some (.ref l), u7, u8, u9] ∧ Go p H H' ∧
      H' l = some (.lst (ms.map fun m => V.ref m.1)) ∧ TupsAt H' ms ∧ H' c = some (.dK (kvF ord f')) ∧ ms.length ≤ i ∧ Plays ns (es.map (·.2)) pn f (ms.map (·.2)) f') ⟨[], f, _, _, _, rfl, g3, hl3, TupsAt.nil, hc3, by simp, .nil⟩ ?_ ?_
    · rintro i σ H4 hi ⟨ms, f', u7, u8, u9, rfl, go, hl, tm, hc, len, pl⟩
      have gs4 := gs.go hp go
      wtm_at "rd"
      refine ⟨g, n, e, c, ps, ns, ord, pn, es, f', rfl, gs4.gr, by have := gs4.l3; omega, by have := gs4.l2; omega, hc, gs4.inO, gs4.inE, go.seqT hp hps, fun sm m2 H5 s5 fsm hsm t2 em => ?_⟩
      have leg : ∀ m ∈ m2, Legal ns (es.map (·.2)) f' pn m.2 := fun m hm => legal_of (by rw [← em]; exact List.mem_map_of_mem hm)
      wtm_at "rd"
      intro tn ftn
      refine rd_neMoves (at_upd (ne_of_none hsm ftn) hsm) (t2.new ftn) (fun m hm => gs4.sok _ (leg m hm).mem) upd_same ?_
      wtm_at "rd"
      have s6 := same_add (o := .lst []) s5 ftn
      have hsm6 := at_upd (o := .lst []) (ne_of_none hsm ftn) hsm
      have t26 := t2.new (o := .lst []) ftn
      generalize upd H5 tn (.lst []) = H6 at s6 hsm6 t26
      have go6 := go.trans (Go.of_same go.pool s6)
      have hl6 := s6 _ _ hl
      have hc6 := s6 _ _ hc
      have tm6 := tm.same s6
      refine rd_b (fun b => ?_) (fun b => ?_)
      · have z : 0 < m2.length := by
          cases m2 with
          | nil => cases b
          | cons _ _ => simp
        wtm_at "rd"
        refine rd_lenL (SqL.of hsm6) ?_
        rw [List.length_map]
        have lm2 : m2.length ≤ 300 := by
          have h1 := congrArg List.length em
          have h2 := movesF_len (es := es.map (·.2)) (f := f') (ps := pn) (ns := ns)
          have := gs4.l2
          rw [List.length_map] at h1
          omega
        wtm_at "rd"
        refine use_draw go6.pool (by omega) (by omega) fun r H7 r0 r1 gb => ?_
        have nsp : sm ≠ p := fun z => by
          rw [z] at hsm6
          obtain ⟨b, sd, hh, _⟩ := go6.pool
          rw [hsm6] at hh
          have e := HO.lst.inj (Option.some.inj hh)
          match m2, e with
          | _ :: _, e => cases e
        have hsm7 := gb.at hsm6 nsp
        have hl7 := gb.at hl6 (Ne.symm npl)
        have hc7 := gb.dK go6.pool hc6
        have tm7 := tm6.go go6.pool gb
        have t27 := t26.go go6.pool gb
        have go7 := go6.trans gb
        wtm_at "rd"
        have hr7 : r.toNat < m2.length := by omega
        obtain ⟨rn, rfl⟩ : ∃ k : Nat, r = (k : Int) := ⟨r.toNat, by omega⟩
        rw [Int.toNat_natCast] at hr7
        have mm := List.getElem_mem hr7
        have ht := t27 _ mm
        have lg := leg _ mm
        refine rd_ixL (SqL.of hsm7) (atI_nat (v := .ref m2[rn].1) (by rw [List.getElem?_map, List.getElem?_eq_getElem hr7]; rfl)) ?_
        generalize m2[rn] = mv at *
        wtm_at "rd"
        refine rd_ixT (SqT.of ht) (v := .int mv.2.2) rfl ?_
        wtm_at "rd"
        refine rd_ixT (SqT.of ht) (v := .str mv.2.1) rfl ?_
        refine rd_dset hc7 (k := .inr mv.2.1) rfl (by rw [List.length_map]; have := gs4.pm.length_eq; have := gs4.l2; omega) ?_
        rw [kvF_put (gs4.inO _ lg.mem)]
        have nlc7 : l ≠ c := ne_of hl7 hc7 (by intro z; cases z)
        have hl8 := at_upd (o := .dK (kvF ord (updf f' mv.2.1 mv.2.2))) nlc7 hl7
        have tm8 : TupsAt (upd H7 c (.dK (kvF ord (updf f' mv.2.1 mv.2.2)))) ms := fun m hm => at_upd (ne_of (tm7 m hm) hc7 (by intro z; cases z)) (tm7 m hm)
        have ht8 := at_upd (o := .dK (kvF ord (updf f' mv.2.1 mv.2.2))) (ne_of ht hc7 (by intro z; cases z)) ht
        have go8 := go7.put (o := .dK (kvF ord (updf f' mv.2.1 mv.2.2))) fc npc
        have hc8 := @upd_same H7 c (.dK (kvF ord (updf f' mv.2.1 mv.2.2)))
        generalize upd H7 c (.dK (kvF ord (updf f' mv.2.1 mv.2.2))) = H8 at hl8 tm8 ht8 go8 hc8
        wtm_at "rd"
        refine rd_tyL hl8 ?_
        wtm_at "rd"
        refine rd_append hl8 (by rw [List.length_map]; omega) ?_
        refine ⟨ms ++ [mv], updf f' mv.2.1 mv.2.2, _, _, _, rfl, go8.put fl0 npl, ?_, ?_, at_upd (Ne.symm nlc7) hc8, by rw [List.length_append]; simp only [List.length_singleton]; omega, ?_⟩
        · rw [upd_same, List.map_append]
          rfl
        · refine TupsAt.put (tm8.app ?_) hl8
          intro m hm
          rw [List.mem_singleton] at hm
          subst hm
          exact ht8
        · rw [List.map_append]
          exact .snoc pl lg
      · wtm_at "rd"
        exact ⟨ms, f', _, _, _, rfl, go6, hl6, tm6, hc6, by omega, pl⟩
    · rintro σ H4 ⟨ms, f', u7, u8, u9, rfl, go, hl, tm, hc, len, pl⟩
      wtm_at "rd"
      intro t ft
      exact q t l c ms f' _ (go.new ft) (go.free _ ft) fl0 fc upd_same (at_upd (ne_of_none hl ft) hl) (tm.new ft) (at_upd (ne_of_none hc ft) hc) (by omega) (by omega) pl
end
end Law


/-! repr of [graph, state, pins], of moves -/
namespace Law
open PySem PySem.Spec PyProof.Rows L2 U
section
variable {K : PySem.W.Frag} {H : Hp} {Q : VK} {p q : Addr} {σ : L2.St}
end
end Law


namespace Law
open PySem PySem.Spec PyProof.Rows L2 U


theorem take_snoc {α : Type} {xs : List α} {i : Nat} (hi : i < xs.length) : xs.take (i + 1) = xs.take i ++ [xs[i]] := by
  rw [List.take_succ, List.getElem?_eq_getElem hi]
  rfl
/-- the lists of the nodes' neighbours -/
structure AdjAt (H : Hp) (d : Addr) (ns : List Str) (es : List (Str × Str)) (A : Str → Addr) : Prop where
  di : H d = some (.dK (kvG ns fun n => .ref (A n)))
  li : ∀ n ∈ ns, ∃ ys : List Str, H (A n) = some (.lst (ys.map V.str)) ∧ ys.Perm (nbrF es n) ∧ ys.Pairwise fun a b => ¬ sLt b a
theorem AdjAt.same {H H' : Hp} {d : Addr} {ns : List Str} {es : List (Str × Str)} {A : Str → Addr} (h : AdjAt H d ns es A) (s : Same H H') : AdjAt H' d ns es A :=
  ⟨s _ _ h.di, fun n hn => by
    obtain ⟨ys, h1, h2⟩ := h.li n hn
    exact ⟨ys, s _ _ h1, h2⟩⟩
/-- a graph stands -/
structure GrS (H : Hp) (g n e : Addr) (ns : List Str) (es : List (Addr × Str × Str)) : Prop where
  gr : GrAt H g n e ns es
  ok : GrOk ns (es.map (·.2))
  l2 : ns.length ≤ 100
  l3 : es.length ≤ 1000
theorem GSt.grs {H : Hp} {g n e st : Addr} {ns ord : List Str} {es : List (Addr × Str × Str)} {f : Str → Int} (h : GSt H g n e st ns ord es f) : GrS H g n e ns es := ⟨h.gr, h.ok, h.l2, h.l3⟩
theorem GrS.same {H H' : Hp} {g n e : Addr} {ns : List Str} {es : List (Addr × Str × Str)} (h : GrS H g n e ns es) (s : Same H H') : GrS H' g n e ns es := ⟨h.gr.same s, h.ok, h.l2, h.l3⟩
theorem GrS.nd {H : Hp} {g n e : Addr} {ns : List Str} {es : List (Addr × Str × Str)} (h : GrS H g n e ns es) : ns.Nodup := asc_nodup h.ok.names.asc
theorem GrS.inE {H : Hp} {g n e : Addr} {ns : List Str} {es : List (Addr × Str × Str)} (h : GrS H g n e ns es) : ∀ x ∈ es, x.2.1 ∈ ns ∧ x.2.2 ∈ ns := fun x hx => h.ok.mem _ (List.mem_map_of_mem hx)
theorem GrS.ne {H : Hp} {g n e : Addr} {ns : List Str} {es : List (Addr × Str × Str)} (h : GrS H g n e ns es) : ∀ x ∈ es.map (·.2), x.1 ≠ x.2 := fun x hx z => by
  have := h.ok.lt x hx
  rw [z] at this
  exact sLt_irrefl _ this
def spAdj : Sp := fun vs H Q _ => ∃ (g n e : Addr) (ns : List Str) (es : List (Addr × Str × Str)), vs = [.ref g] ∧ GrS H g n e ns es ∧
  ∀ (d : Addr) (A : Str → Addr) (H' : Hp), Same H H' → H d = none → AdjAt H' d ns (es.map (·.2)) A → Q (.ref d) H'
/-- what grows at d: lists, one a name, apart -/
structure Grow (H H' : Hp) (d : Addr) (ns : List Str) (A : Str → Addr) (L : Str → List Str) : Prop where
  sm : Same H H'
  di : H' d = some (.dK (kvG ns fun n => .ref (A n)))
  li : ∀ n ∈ ns, H' (A n) = some (.lst ((L n).map V.str)) ∧ H (A n) = none
  ap : ∀ n ∈ ns, ∀ m ∈ ns, A n = A m → n = m
theorem Grow.put {H H' : Hp} {d : Addr} {ns : List Str} {A : Str → Addr} {L : Str → List Str} {n : Str} {ys : List Str} (h : Grow H H' d ns A L) (hn : n ∈ ns) : Grow H (upd H' (A n) (.lst (ys.map V.str))) d ns A (updV L n ys) := by
  refine ⟨same_put h.sm (h.li n hn).2, at_upd (ne_of h.di (h.li n hn).1 (by intro z; cases z)) h.di, fun m hm => ⟨?_, (h.li m hm).2⟩, h.ap⟩
  unfold updV
  by_cases e : m = n
  · subst e
    rw [if_pos rfl, upd_same]
  · rw [if_neg e]
    exact at_upd (fun z => e (h.ap m hm n hn z)) (h.li m hm).1
section
variable {P : Program} {w : World} {K : PySem.W.Frag} {mg : Str → Option Value} {base : Heap}
end
end Law


namespace Law
open PySem PySem.Spec PyProof.Rows L2 U


section
variable {P : Program} {w : World} {K : PySem.W.Frag} {mg : Str → Option Value} {base : Heap}
end
end Law


namespace Law
open PySem PySem.Spec PyProof.Rows L2 U


def spIsMove (K : PySem.W.Frag) : Sp := fun vs H Q _ => ∃ (g n e st ad c ps : Addr) (x : Str) (v : Int) (ns ord pn : List Str) (es : List (Addr × Str × Str)) (f : Str → Int) (Ad : Str → Addr), vs = [.ref g, .ref st, .ref ad, .ref c, .ref ps] ∧ GSt H g n e st ns ord es f ∧
  AdjAt H ad ns (es.map (·.2)) Ad ∧ H c = some (.tup [.str x, .int v]) ∧ Legal ns (es.map (·.2)) f pn (x, v) ∧ SqT K H ps (pn.map V.str) ∧ ∀ H' : Hp, Same H H' → Q (.bl true) H'
section
variable {P : Program} {w : World} {K : PySem.W.Frag} {mg : Str → Option Value} {base : Heap}
structure C8 (P : Program) (w : World) (K : PySem.W.Frag) (mg : Str → Option Value) (base : Heap) : Prop where
  adjacency : Cal P w K mg base CX0 1 "adjacency" spAdj
  is_move : Cal P w K mg base CX0 3 "is_move" (spIsMove K)
end
end Law

/-! repr of [graph, state, lift, pins], the lift's numbers small -/
namespace U
open PySem PySem.Spec PyProof.Rows L2
end U

/-! repr of a list of dicts of larger numbers -/
namespace U
open PySem PySem.Spec PyProof.Rows L2
end U

/-! repr of a tuple of data and dicts of numbers; a tuple == () -/
namespace U
open PySem PySem.Spec PyProof.Rows L2
theorem rd_eqNilS {K : PySem.W.Frag} {H : Hp} {Q : VK} {p q : Addr} {xs : List Str} (hp : SqL K H p (xs.map V.str)) (hq : SqL K H q []) (ok : ∀ x ∈ xs, PyData.strOk x = true) (h : Q (.bl xs.isEmpty) H) : rEqU K (.ref p) (.ref q) H Q := by
  refine ⟨_, _, .lst hp (dp_strs _), .lst hq .nil, ?_, by decide, ?_⟩
  · unfold SeqAt.shaped
    rw [PyData.canLay0, can_strs ok, PyData.depth, dep_strs]
    rfl
  · have : PyData.eqv (.list (xs.map PyData.str)) (.list []) = xs.isEmpty := by
      cases xs with
      | nil => simp [PyData.eqv, PyData.eqvAll]
      | cons _ _ => simp [PyData.eqv, PyData.eqvAll]
    rw [this]
    exact h
end U

/-! repr of whatever data -/
namespace U
open PySem PySem.Spec PyProof.Rows L2
section
variable {K : PySem.W.Frag} {H H' : Hp}
mutual
theorem dp_ext (l : ∀ a xs, SqL K H a xs → SqL K H' a xs) (t : ∀ a xs, SqT K H a xs → SqT K H' a xs) : ∀ (d : PyData) (v : V), Dp K H v d → Dp K H' v d
  | .none, _, h => by cases h; exact .non
  | .bool _, _, h => by cases h; exact .bl _
  | .int _, _, h => by cases h; exact .int _
  | .str _, _, h => by cases h; exact .str _
  | .list ds, _, h => by
    cases h with
    | lst h1 h2 => exact .lst (l _ _ h1) (dp_extA l t ds _ h2)
  | .tuple ds, _, h => by
    cases h with
    | tup h1 h2 => exact .tup (t _ _ h1) (dp_extA l t ds _ h2)
  | .dict _, _, h => by cases h
theorem dp_extA (l : ∀ a xs, SqL K H a xs → SqL K H' a xs) (t : ∀ a xs, SqT K H a xs → SqT K H' a xs) : ∀ (ds : List PyData) (vs : List V), DpAll K H vs ds → DpAll K H' vs ds
  | [], _, h => by cases h; exact .nil
  | d :: ds, _, h => by
    cases h with
    | cons h1 h2 => exact .cons (dp_ext l t d _ h1) (dp_extA l t ds _ h2)
end
end
/-- a value that repr may be asked of, and what repr says -/
inductive Rp (K : PySem.W.Frag) (H : Hp) : V → Str → Prop
  | non : Rp K H .non "None"
  | bl (b : Bool) : Rp K H (.bl b) (if b then "True" else "False")
  | int (i : Int) (h : i.natAbs.log2 < 1920) : Rp K H (.int i) (toString i)
  | str (x : Str) (h : (reprText x).length ≤ sizeLine) : Rp K H (.str x) (reprText x)
  | of {a : Addr} {d : PyData} : Dp K H (.ref a) d → d.hasDict = false → Shows d → Rp K H (.ref a) d.shown
  | dct {a : Addr} {ns : List Str} {f : Str → Int} : H a = some (.dK (kvF ns f)) → Shows (.dict (ns.map fun n => (.str n, .int (f n)))) → Rp K H (.ref a) (PyData.dict (ns.map fun n => (.str n, .int (f n)))).shown
theorem Rp.ext {K : PySem.W.Frag} {H H' : Hp} {v : V} {d : Str} (h : Rp K H v d) (l : ∀ a xs, SqL K H a xs → SqL K H' a xs) (t : ∀ a xs, SqT K H a xs → SqT K H' a xs) (k : ∀ a kvs, H a = some (.dK kvs) → H' a = some (.dK kvs)) : Rp K H' v d := by
  cases h with
  | non => exact .non
  | bl b => exact .bl b
  | int i h => exact .int i h
  | str x h => exact .str x h
  | of h1 h2 h3 => exact .of (dp_ext l t _ _ h1) h2 h3
  | dct h1 h2 => exact .dct (k _ _ h1) h2
theorem Rp.same {K : PySem.W.Frag} {H H' : Hp} {v : V} {d : Str} (h : Rp K H v d) (s : Same H H') : Rp K H' v d := h.ext
  (fun a xs q => by
    rcases q with (q | ⟨o, q⟩) | q
    · exact .inl (.inl (s _ _ q))
    · exact .inl (.inr ⟨o, s _ _ q⟩)
    · exact .inr q) (fun a xs q => Same.seqT s q) fun a kvs q => s _ _ q
end U

/-! texts of moves, told apart -/
namespace U
open PySem PySem.Spec PyProof.Rows L2
def Lett (x : List Nat) : Prop := ∀ c ∈ x, c = 65 ∨ (97 ≤ c ∧ c ≤ 122)
theorem Lett.no {x : List Nat} (h : Lett x) : 39 ∉ x := fun z => by
  have := h 39 z
  omega
end U

/-! words: names, edges, moves, numbers as texts; what they split into (plain) -/
namespace U
open PySem PySem.Spec PyProof.Rows L2
def itx (i : Int) : Str := Str.ofString (toString i)
/-- the words' text -/
def jw (ws : List Str) : Str := if ws = [] then "." else Txt.join " " ws
def wdE (e : Str × Str) : Str := e.1 ++ "-" ++ e.2
def wdM (m : Str × Int) : Str := m.1 ++ itx m.2
def wdL (m : Str × Int) : Str := m.1 ++ ":" ++ itx m.2
theorem emp_app {a : Str} : Str.empty ++ a = a := TL.ext_tl (by rw [TL.tl_append]; rfl)
theorem app_asc {a b c : Str} : a ++ b ++ c = a ++ (b ++ c) := TL.ext_tl (by rw [TL.tl_append, TL.tl_append, TL.tl_append, TL.tl_append, List.append_assoc])
theorem tl_itx_nat (n : Nat) : TL.tl (itx (n : Int)) = TL.numL n := TL.tl_num n
theorem tl_itx_neg {i : Int} (h : i < 0) : TL.tl (itx i) = 45 :: TL.numL i.natAbs := by
  unfold itx
  rw [toString_neg h, TL.tl_ofString, String.toList_append, List.map_append]
  have e : (0 - i) = ((i.natAbs : Nat) : Int) := by omega
  have h2 := TL.tl_num i.natAbs
  rw [TL.tl_ofString] at h2
  rw [e, h2]
  rfl
theorem tl_cps {x : Str} : TL.tl x = x.cps.toList := rfl
/-- signs of a number's text -/
theorem itx_sign {i : Int} {c : Nat} (h : c ∈ TL.tl (itx i)) : c = 45 ∨ (48 ≤ c ∧ c ≤ 57) := by
  by_cases n : i < 0
  · rw [tl_itx_neg n] at h
    rcases List.mem_cons.mp h with rfl | h
    · exact .inl rfl
    · exact .inr (TL.numL_digits _ c h)
  · obtain ⟨m, rfl⟩ := Int.eq_ofNat_of_zero_le (Int.not_lt.mp n)
    rw [tl_itx_nat] at h
    exact .inr (TL.numL_digits _ c h)
theorem itx_len {i : Int} (h : i.natAbs < 10 ^ 60) : (itx i).length ≤ 61 := by
  unfold itx
  rw [PySem.ofString_length]
  exact PySem.int_text_length_le10 (k := 60) (by decide) h
theorem len_app {a b : Str} : (a ++ b).length = a.length + b.length := by
  rw [TL.len_tl, TL.len_tl, TL.len_tl, TL.tl_append, List.length_append]
theorem sok_of {x : Str} (h : ∀ c ∈ TL.tl x, c < 0x110000) : PyData.strOk x = true := by
  unfold PyData.strOk
  rw [Array.all_eq_true']
  intro c hc
  exact decide_eq_true (h c (by simpa [tl_cps] using hc))
theorem sok_lt {x : Str} (h : PyData.strOk x = true) : ∀ c ∈ TL.tl x, c < 0x110000 := by
  unfold PyData.strOk at h
  rw [Array.all_eq_true'] at h
  intro c hc
  exact of_decide_eq_true (h c (by simpa [tl_cps] using hc))
theorem sok_app {a b : Str} (ha : PyData.strOk a = true) (hb : PyData.strOk b = true) : PyData.strOk (a ++ b) = true := sok_of fun c hc => by
  rw [TL.tl_append] at hc
  rcases List.mem_append.mp hc with hc | hc
  · exact sok_lt ha c hc
  · exact sok_lt hb c hc
theorem sok_itx {i : Int} : PyData.strOk (itx i) = true := sok_of fun c hc => by
  rcases itx_sign hc with e | e <;> omega
theorem name_tl {x : Str} (h : IsName x) : ∀ c ∈ TL.tl x, 97 ≤ c ∧ c ≤ 122 := h.ch
/-- a word: short, begins with a letter, no blank -/
structure Wd (w : Str) : Prop where
  ok : PyData.strOk w = true
  ln : w.length ≤ 100
  hd : ∃ c r, TL.tl w = c :: r ∧ 97 ≤ c ∧ c ≤ 122
  nb : 32 ∉ TL.tl w
  nf : 10 ∉ TL.tl w
theorem name_hd {x : Str} (h : IsName x) : ∃ c r, TL.tl x = c :: r ∧ 97 ≤ c ∧ c ≤ 122 := by
  have l := h.lo
  rw [TL.len_tl] at l
  cases e : TL.tl x with
  | nil =>
    rw [e] at l
    simp at l
  | cons c r => exact ⟨c, r, rfl, h.ch c (by rw [← tl_cps, e]; exact List.mem_cons_self)⟩
theorem wd_name {x : Str} (h : IsName x) : Wd x := ⟨h.sok, Nat.le_trans h.hi (by decide), name_hd h, fun m => by have := name_tl h _ m; omega, fun m => by have := name_tl h _ m; omega⟩
theorem Wd.app {x y : Str} (h : IsName x) (ok : PyData.strOk y = true) (ln : y.length ≤ 90) (nb : 32 ∉ TL.tl y) (nf : 10 ∉ TL.tl y) : Wd (x ++ y) := by
  obtain ⟨c, r, e, b⟩ := name_hd h
  refine ⟨sok_app h.sok ok, ?_, ⟨c, r ++ TL.tl y, by rw [TL.tl_append, e]; rfl, b⟩, ?_, ?_⟩
  · rw [len_app]
    have := h.hi
    omega
  · rw [TL.tl_append]
    intro m
    rcases List.mem_append.mp m with m | m
    · have := name_tl h _ m
      omega
    · exact nb m
  · rw [TL.tl_append]
    intro m
    rcases List.mem_append.mp m with m | m
    · have := name_tl h _ m
      omega
    · exact nf m
theorem tl_dash : TL.tl ("-" : Str) = [45] := by decide +kernel
theorem tl_colon : TL.tl (":" : Str) = [58] := by decide +kernel
theorem tl_blank : TL.tl (" " : Str) = [32] := by decide +kernel
theorem tl_feed : TL.tl ("\n" : Str) = [10] := by decide +kernel
theorem tl_dot : TL.tl ("." : Str) = [46] := by decide +kernel
theorem wd_edge {e : Str × Str} (h1 : IsName e.1) (h2 : IsName e.2) : Wd (wdE e) := by
  unfold wdE
  rw [app_asc]
  refine .app h1 (sok_app (by decide +kernel) h2.sok) ?_ ?_ ?_
  · rw [len_app]
    have := h2.hi
    have e : ("-" : Str).length = 1 := by decide +kernel
    omega
  · rw [TL.tl_append, tl_dash]
    intro m
    rcases List.mem_append.mp m with m | m
    · simp at m
    · have := name_tl h2 _ m
      omega
  · rw [TL.tl_append, tl_dash]
    intro m
    rcases List.mem_append.mp m with m | m
    · simp at m
    · have := name_tl h2 _ m
      omega
theorem wd_move {m : Str × Int} (h1 : IsName m.1) (h2 : m.2.natAbs < 10 ^ 60) : Wd (wdM m) := by
  refine .app h1 sok_itx (Nat.le_trans (itx_len h2) (by decide)) (fun h => ?_) fun h => ?_
  · rcases itx_sign h with e | e <;> omega
  · rcases itx_sign h with e | e <;> omega
theorem wd_lift {m : Str × Int} (h1 : IsName m.1) (h2 : m.2.natAbs < 10 ^ 60) : Wd (wdL m) := by
  unfold wdL
  rw [app_asc]
  refine .app h1 (sok_app (by decide +kernel) sok_itx) ?_ ?_ ?_
  · rw [len_app]
    have := itx_len h2
    have e : (":" : Str).length = 1 := by decide +kernel
    omega
  · rw [TL.tl_append, tl_colon]
    intro m
    rcases List.mem_append.mp m with m | m
    · simp at m
    · rcases itx_sign m with e | e <;> omega
  · rw [TL.tl_append, tl_colon]
    intro m
    rcases List.mem_append.mp m with m | m
    · simp at m
    · rcases itx_sign m with e | e <;> omega
/-- short words, few -/
def WdsOk (ws : List Str) : Prop := ws.length ≤ 1000 ∧ ∀ w ∈ ws, Wd w
theorem WdsOk.sum {ws : List Str} (h : WdsOk ws) : (ws.map (·.length)).sum + ws.length * (" " : Str).length ≤ 16777216 := by
  have e : ∀ ws : List Str, (∀ w ∈ ws, w.length ≤ 100) → (ws.map (·.length)).sum ≤ ws.length * 100 := by
    intro ws
    induction ws with
    | nil => intro _; simp
    | cons w r ih =>
      intro h
      have := ih fun x hx => h x (List.mem_cons_of_mem _ hx)
      have := h w List.mem_cons_self
      rw [List.map_cons, List.sum_cons, List.length_cons, Nat.succ_mul]
      omega
  have := e ws fun w hw => (h.2 w hw).ln
  have h1 := h.1
  have e1 : (" " : Str).length = 1 := by decide +kernel
  rw [e1]
  omega
theorem jw_cons {w : Str} {r : List Str} : jw (w :: r) = Txt.join " " (w :: r) := by
  unfold jw
  rw [if_neg (fun z => by cases z)]
theorem jw_nil : jw [] = "." := rfl
theorem jw_hd {w : Str} {r : List Str} (h : Wd w) : ∃ c s, TL.tl (jw (w :: r)) = c :: s ∧ 97 ≤ c ∧ c ≤ 122 := by
  obtain ⟨c, s, e, b⟩ := h.hd
  rw [jw_cons, TL.join_eq, TL.tl_join, List.map_cons, e]
  cases r with
  | nil => exact ⟨c, s, rfl, b⟩
  | cons x r => exact ⟨c, _, rfl, b⟩
/-- only no words are a dot -/
theorem jw_dot {ws : List Str} (h : ∀ w ∈ ws, Wd w) : jw ws = "." ↔ ws = [] := by
  cases ws with
  | nil => exact ⟨fun _ => rfl, fun _ => rfl⟩
  | cons w r =>
    obtain ⟨c, s, e, b⟩ := jw_hd (r := r) (h w List.mem_cons_self)
    refine ⟨fun z => ?_, fun z => by cases z⟩
    rw [z, tl_dot] at e
    have := (List.cons.inj e).1
    omega
theorem jw_split {w : Str} {r : List Str} (h : ∀ x ∈ w :: r, Wd x) : Txt.split (jw (w :: r)) " " = w :: r := by
  rw [jw_cons]
  exact TL.split_join tl_blank (by decide +kernel) (fun z => by cases z) fun p hp => (h p hp).nb
theorem joinL_free {s : Nat} {S : List Nat} (hs : s ∉ S) : ∀ {ps : List (List Nat)}, (∀ p ∈ ps, s ∉ p) → s ∉ TL.joinL S ps
  | [], _ => fun m => by cases m
  | [p], h => by
    show s ∉ p
    exact h p List.mem_cons_self
  | p :: q :: r, h => by
    show s ∉ p ++ (S ++ TL.joinL S (q :: r))
    intro m
    rcases List.mem_append.mp m with m | m
    · exact h p List.mem_cons_self m
    · rcases List.mem_append.mp m with m | m
      · exact hs m
      · exact joinL_free hs (fun x hx => h x (List.mem_cons_of_mem _ hx)) m
theorem jw_feed {ws : List Str} (h : ∀ w ∈ ws, Wd w) : 10 ∉ TL.tl (jw ws) := by
  cases ws with
  | nil =>
    rw [jw_nil, tl_dot]
    decide
  | cons w r =>
    rw [jw_cons, TL.join_eq, TL.tl_join, tl_blank]
    refine joinL_free (by decide) fun p hp => ?_
    obtain ⟨x, hx, rfl⟩ := List.mem_map.mp hp
    exact (h x hx).nf
theorem joinL_len {S : List Nat} (hs : S.length ≤ 1) : ∀ {ps : List (List Nat)}, (∀ p ∈ ps, p.length ≤ 100) → (TL.joinL S ps).length ≤ ps.length * 101
  | [], _ => Nat.zero_le _
  | [p], h => by
    show p.length ≤ _
    have := h p List.mem_cons_self
    simp
    omega
  | p :: q :: r, h => by
    show (p ++ (S ++ TL.joinL S (q :: r))).length ≤ _
    have h1 := h p List.mem_cons_self
    have h2 := joinL_len hs (ps := q :: r) fun x hx => h x (List.mem_cons_of_mem _ hx)
    rw [List.length_append, List.length_append]
    rw [List.length_cons] at h2 ⊢
    simp only [List.length_cons] at h2 ⊢
    omega
theorem jw_len {ws : List Str} (h : WdsOk ws) : (jw ws).length ≤ 101000 := by
  cases ws with
  | nil =>
    rw [jw_nil]
    decide +kernel
  | cons w r =>
    rw [TL.len_tl, jw_cons, TL.join_eq, TL.tl_join, tl_blank]
    refine Nat.le_trans (joinL_len (by decide) fun p hp => ?_) ?_
    · obtain ⟨x, hx, rfl⟩ := List.mem_map.mp hp
      rw [← TL.len_tl]
      exact (h.2 x hx).ln
    · rw [List.length_map]
      have := h.1
      omega
end U


/-! k92 (k93): texts of nodes, graphs, moves, states, lifts -/
namespace Law
open PySem PySem.Spec PyProof.Rows L2 U


theorem rd_m1E {r : V → List V → Hp → VK → Prop} {to te : TE} {σ : L2.St} {H : Hp} {Q : VK} (h : to σ H fun x H1 => (∃ a, x = .str a) ∧ te σ H1 fun y H2 => r x [y] H2 Q) : tM1 r to te σ H Q := h
theorem wds_sok {ws : List Str} (h : WdsOk ws) : ∀ x ∈ ws, PyData.strOk x = true := fun x hx => (h.2 x hx).ok
theorem seqL_sE {K : PySem.W.Frag} {H H' : Hp} {a : Addr} {xs : List V} (h : SqL K H a xs) (s : Same H H') : SqL K H' a xs := by
  rcases h with (h | ⟨o, h⟩) | h
  · exact .inl (.inl (s _ _ h))
  · exact .inl (.inr ⟨o, s _ _ h⟩)
  · exact .inr h
/-- what is shown of a text or a number -/
def FmtV (x : V) (a : Str) : Prop := x = .str a ∨ ∃ k : Int, x = .int k ∧ k.natAbs.log2 < 1920 ∧ a = itx k
theorem rd_fmtV {i : Nat} {σ : L2.St} {H : Hp} {Q : VK} {x : V} {a : Str} (hx : σ[i]? = some (some x)) (fx : FmtV x a) (l : a.length ≤ sizeLine) (h : Q (.str a) H) : tFmt (tVar i) σ H Q := by
  refine ⟨x, hx, ?_⟩
  rcases fx with rfl | ⟨k, rfl, lg, rfl⟩
  · exact .inl ⟨_, rfl, l, h⟩
  · exact .inr ⟨k, rfl, lg, h⟩
theorem js3 {i j : Nat} {σ : L2.St} {H : Hp} {Q : Str → Hp → Prop} {x y : V} {a b c : Str} (hx : σ[i]? = some (some x)) (fx : FmtV x a) (hy : σ[j]? = some (some y)) (fy : FmtV y b) (l : a.length + c.length + b.length ≤ 1000) (h : Q (a ++ c ++ b) H) : tJs [tFmt (tVar i), tC (.str c), tFmt (tVar j)] Str.empty σ H Q := by
  have big : 1000 ≤ sizeLine := by decide
  refine rd_fmtV hx fx (by omega) ⟨a, rfl, by rw [emp_app]; omega, ?_⟩
  refine ⟨c, rfl, by rw [emp_app, len_app]; omega, ?_⟩
  refine rd_fmtV hy fy (by omega) ⟨b, rfl, by rw [emp_app, len_app, len_app]; omega, ?_⟩
  rw [emp_app]
  exact h
theorem js2 {i j : Nat} {σ : L2.St} {H : Hp} {Q : Str → Hp → Prop} {x y : V} {a b : Str} (hx : σ[i]? = some (some x)) (fx : FmtV x a) (hy : σ[j]? = some (some y)) (fy : FmtV y b) (l : a.length + b.length ≤ 1000) (h : Q (a ++ b) H) : tJs [tFmt (tVar i), tFmt (tVar j)] Str.empty σ H Q := by
  have big : 1000 ≤ sizeLine := by decide
  refine rd_fmtV hx fx (by omega) ⟨a, rfl, by rw [emp_app]; omega, ?_⟩
  refine rd_fmtV hy fy (by omega) ⟨b, rfl, by rw [emp_app, len_app]; omega, ?_⟩
  rw [emp_app]
  exact h
/-- moves or numbers as tuples -/
def TwAt (H : Hp) (ms : List (Addr × Str × Int)) : Prop := ∀ m ∈ ms, H m.1 = some (.tup [.str m.2.1, .int m.2.2])
theorem TwAt.same {H H' : Hp} {ms : List (Addr × Str × Int)} (h : TwAt H ms) (s : Same H H') : TwAt H' ms := fun m hm => s _ _ (h m hm)
def NmOk (ms : List (Str × Int)) : Prop := ms.length ≤ 1000 ∧ ∀ m ∈ ms, IsName m.1 ∧ m.2.natAbs < 10 ^ 60
theorem NmOk.wM {ms : List (Str × Int)} (h : NmOk ms) : WdsOk (ms.map wdM) := ⟨by rw [List.length_map]; exact h.1, fun w hw => by
  obtain ⟨m, hm, rfl⟩ := List.mem_map.mp hw
  exact wd_move (h.2 m hm).1 (h.2 m hm).2⟩
theorem NmOk.wL {ms : List (Str × Int)} (h : NmOk ms) : WdsOk (ms.map wdL) := ⟨by rw [List.length_map]; exact h.1, fun w hw => by
  obtain ⟨m, hm, rfl⟩ := List.mem_map.mp hw
  exact wd_lift (h.2 m hm).1 (h.2 m hm).2⟩
theorem log_of {i : Int} (h : i.natAbs < 10 ^ 60) : i.natAbs.log2 < 1920 := by
  by_cases z : i.natAbs = 0
  · rw [z]
    decide
  · refine (Nat.log2_lt z).mpr (Nat.lt_of_lt_of_le h ?_)
    decide +kernel
theorem gr_wds {H : Hp} {g n e : Addr} {ns : List Str} {es : List (Addr × Str × Str)} (gs : GrS H g n e ns es) : WdsOk ns ∧ WdsOk ((es.map (·.2)).map wdE) := by
  refine ⟨⟨by have := gs.l2; omega, fun w hw => wd_name (gs.ok.names.ok w hw)⟩, by rw [List.length_map, List.length_map]; exact gs.l3, fun w hw => ?_⟩
  obtain ⟨x, hx, rfl⟩ := List.mem_map.mp hw
  have := gs.ok.mem x hx
  exact wd_edge (gs.ok.names.ok _ this.1) (gs.ok.names.ok _ this.2)
def grT (ns : List Str) (es : List (Str × Str)) : Str := jw ns ++ "\n" ++ jw (es.map wdE)
def spJw (K : PySem.W.Frag) : Sp := fun vs H Q _ => ∃ (l : Addr) (ws : List Str), vs = [.ref l] ∧ SqL K H l (ws.map V.str) ∧ WdsOk ws ∧ ∀ H' : Hp, Same H H' → Q (.str (jw ws)) H'
def spFn (K : PySem.W.Frag) : Sp := fun vs H Q _ => ∃ (l : Addr) (ws : List Str), vs = [.ref l] ∧ (SqL K H l (ws.map V.str) ∨ SqT K H l (ws.map V.str)) ∧ WdsOk ws ∧ ∀ H' : Hp, Same H H' → Q (.str (jw ws)) H'
def spFg : Sp := fun vs H Q _ => ∃ (g n e : Addr) (ns : List Str) (es : List (Addr × Str × Str)), vs = [.ref g] ∧ GrS H g n e ns es ∧ ∀ H' : Hp, Same H H' → Q (.str (grT ns (es.map (·.2)))) H'
def spFm (K : PySem.W.Frag) : Sp := fun vs H Q _ => ∃ (l : Addr) (ms : List (Addr × Str × Int)), vs = [.ref l] ∧ SqL K H l (ms.map fun m => V.ref m.1) ∧ TwAt H ms ∧ NmOk (ms.map (·.2)) ∧ ∀ H' : Hp, Same H H' → Q (.str (jw ((ms.map (·.2)).map wdM))) H'
/-- a dict of numbers by names -/
def spFd (wd : Str × Int → Str) : Sp := fun vs H Q _ => ∃ (d : Addr) (ks ss : List Str) (f : Str → Int), vs = [.ref d] ∧ H d = some (.dK (kvF ks f)) ∧ ks.length ≤ 60 ∧ (∀ x ∈ ks, IsName x ∧ (f x).natAbs < 10 ^ 60) ∧ Asc ss ∧ ss.Perm ks ∧ ∀ H' : Hp, Same H H' → Q (.str (jw ((ss.map fun x => (x, f x)).map wd))) H'
section
variable {P : Program} {w : World} {K : PySem.W.Frag} {mg : Str → Option Value} {base : Heap}
theorem ok_jw {f : Addr} {fd : FuncData} (F : Fun K "join_words" "join_words" s_join_words f fd) (B : Bt mg) (gE : ∃ u, mg "EMPTY" = some u ∧ RelV (.str ".") u) : FnG P w K mg base CX0 1 f fd ["words"] (spJw K) := by
  refine fnG0 F sc_join_words (fun vs H Q E h => ?_) (fun cdv A outer s H vs Q E hr h => ?_)
  · obtain ⟨l, ws, rfl, _⟩ := h
    rfl
  · obtain ⟨l, ws, rfl, hl, ok, q⟩ := h
    have nd := sc_join_words.nd
    have hu := hr.u1
    refine ⟨_, (pss_one (ps_ret (pe_ifExp (pt_cmpR (kEq K rfl hr.u64) (pv 0) (pe_lst pa_nil) (nomark _)) (pe_gl rfl gE) (pe_join pe_str (pv 0))))), ?_⟩
    wtm_at "rd"
    intro t ft
    have k := Same.new (o := .lst []) ft
    refine rd_eqNilS (seqL_sE hl k) (SqL.of upd_same) (wds_sok ok) ?_
    have hl := seqL_sE hl k
    generalize upd H t (.lst []) = H1 at k hl
    cases ws with
    | nil =>
      wtm_at "rd"
      exact q H1 k
    | cons w r =>
      wtm_at "rd"
      rw [if_neg (show ¬ (w :: r).isEmpty = true from fun z => by cases z)]
      wtm_at "rd"
      refine rd_m1E ?_
      wtm_at "rd"
      refine ⟨⟨_, rfl⟩, ?_⟩
      wtm_at "rd"
      refine ⟨_, l, w :: r, rfl, rfl, .inl hl, ok.sum, ?_⟩
      rw [jw_cons] at q
      exact q H1 k
theorem ok_lawj {f : Addr} {fd : FuncData} (F : Fun K "_law_join" "_law_join" s__law_join f fd) (B : Bt mg) : FnG P w K mg base CX0 1 f fd ["_law_words"] (spJw K) := by
  refine fnG0 F sc__law_join (fun vs H Q E h => ?_) (fun cdv A outer s H vs Q E hr h => ?_)
  · obtain ⟨l, ws, rfl, _⟩ := h
    rfl
  · obtain ⟨l, ws, rfl, hl, ok, q⟩ := h
    have nd := sc__law_join.nd
    have hu := hr.u1
    refine ⟨_, (pss_cons (ps_if (pt_cmpR (kEq K rfl hr.u64) (pv 0) (pe_lst pa_nil) (nomark _)) (pss_one (ps_ret pe_str)) pss_nil)
  (pss_one (ps_ret (pe_join pe_str (pv 0))))), ?_⟩
    wtm_at "rd"
    intro t ft
    have k := Same.new (o := .lst []) ft
    refine rd_eqNilS (seqL_sE hl k) (SqL.of upd_same) (wds_sok ok) ?_
    have hl := seqL_sE hl k
    generalize upd H t (.lst []) = H1 at k hl
    cases ws with
    | nil =>
      wtm_at "rd"
      exact q H1 k
    | cons w r =>
      wtm_at "rd"
      rw [if_neg (show ¬ (w :: r).isEmpty = true from fun z => by cases z)]
      wtm_at "rd"
      refine rd_m1E ?_
      wtm_at "rd"
      refine ⟨⟨_, rfl⟩, ?_⟩
      wtm_at "rd"
      refine ⟨_, l, w :: r, rfl, rfl, .inl hl, ok.sum, ?_⟩
      rw [jw_cons] at q
      exact q H1 k
structure EAa (P : Program) (w : World) (K : PySem.W.Frag) (mg : Str → Option Value) (base : Heap) : Prop where
  join_words : Cal P w K mg base CX0 1 "join_words" (spJw K)
theorem ok_fnodes {f : Addr} {fd : FuncData} (F : Fun K "format_nodes" "format_nodes" s_format_nodes f fd) (B : Bt mg) (C : EAa P w K mg base) : FnG P w K mg base CX0 2 f fd ["nodes"] (spFn K) := by
  refine fnG0 F sc_format_nodes (fun vs H Q E h => ?_) (fun cdv A outer s H vs Q E hr h => ?_)
  · obtain ⟨l, ws, rfl, _⟩ := h
    rfl
  · obtain ⟨l, ws, rfl, hl, ok, q⟩ := h
    have nd := sc_format_nodes.nd
    have hu := hr.u1
    refine ⟨_, (pss_one (ps_ret (pe_c C.join_words hr (by decide) rfl (pa_cons (pe_callTy (kList K rfl rfl) (by rfl) B.list bb_list (pa_cons (pv 0) pa_nil)) pa_nil)))), ?_⟩
    wtm_at "rd"
    rcases hl with hl | hl
    · refine rd_listL hl ?_
      intro a fa
      have k := Same.new (o := .lst (ws.map V.str)) fa
      wtm_at "rd"
      exact ⟨a, ws, rfl, SqL.of upd_same, ok, fun H' s => q H' (k.trans s)⟩
    · refine rd_listT hl ?_
      intro a fa
      have k := Same.new (o := .lst (ws.map V.str)) fa
      wtm_at "rd"
      exact ⟨a, ws, rfl, SqL.of upd_same, ok, fun H' s => q H' (k.trans s)⟩
structure EAb (P : Program) (w : World) (K : PySem.W.Frag) (mg : Str → Option Value) (base : Heap) : Prop where
  join_words : Cal P w K mg base CX0 1 "join_words" (spJw K)
  format_nodes : Cal P w K mg base CX0 2 "format_nodes" (spFn K)
theorem ok_fgraph {f : Addr} {fd : FuncData} (F : Fun K "format_graph" "format_graph" s_format_graph f fd) (B : Bt mg) (C : EAb P w K mg base) : FnG P w K mg base CX0 3 f fd ["graph"] spFg := by
  refine fnG0 F sc_format_graph (fun vs H Q E h => ?_) (fun cdv A outer s H vs Q E hr h => ?_)
  · obtain ⟨g, n, e, ns, es, rfl, _⟩ := h
    rfl
  · obtain ⟨g, n, e, ns, es, rfl, gs, q⟩ := h
    have nd := sc_format_graph.nd
    have hu := hr.u1
    refine ⟨_, (pss_cons (ps_set (i := 1) nd rfl (by first | exact Or.inl rfl | exact Or.inr rfl) (pe_c C.join_words hr (by decide) rfl (pa_cons (pe_lc (own := [("first", 2), ("second", 3)]) rfl nd (ki_tup K rfl (pe_ix (kIx K rfl) (pv 0) pe_int (fun _ _ => rfl))) (blkOk_by (own := [("first", 2), ("second", 3)]) (N := nN_format_graph) (sc := defScope s_format_graph) (by decide +kernel)) (fun _ _ _ _ _ => (kg_tup (n := 2) K rfl rfl (pgs_cons (pg_name (i := 2) nd rfl (by first | exact Or.inl rfl | exact Or.inr rfl)) (pgs_cons (pg_name (i := 3) nd rfl (by first | exact Or.inl rfl | exact Or.inr rfl)) pgs_nil)))) (fun _ _ _ _ _ => pts_nil) (fun _ _ _ _ _ => (pe_joined (.cons (pe_fmt (pv 2)) (.cons pe_str (.cons (pe_fmt (pv 3)) .nil)))))) pa_nil)))
  (pss_one (ps_ret (pe_op (kAdd K rfl) (pe_op (kAdd K rfl) (pe_c C.format_nodes hr (by decide) rfl (pa_cons (pe_ix (kIx K rfl) (pv 0) pe_int (fun _ _ => rfl)) pa_nil)) pe_str) (pv 1))))), ?_⟩
    obtain ⟨ok1, ok2⟩ := gr_wds gs
    have l3 := gs.l3
    wtm_at "rd"
    refine rd_ixT (SqT.of gs.gr.top) (v := .ref e) rfl ?_
    refine rd_forT (SqT.of gs.gr.edges) ?_
    intro D fD
    refine lcT (K := K) (xs := es.map fun x => V.ref x.1) (fun i H' => Same H H' ∧ H' D = some (.lst ((((es.map (·.2)).map wdE).take i).map V.str))) ⟨Same.new fD, upd_same⟩ ?_ ?_ ?_
    · rintro i H' hi ⟨sb, _⟩
      exact SqT.of (sb _ _ gs.gr.edges)
    · rintro i y H' hy ⟨sb, hD⟩
      obtain ⟨hi, rfl⟩ := map_at hy
      have hm := List.getElem_mem hi
      have tk := take_snoc (xs := (es.map (·.2)).map wdE) (i := i) (by rw [List.length_map, List.length_map]; exact hi)
      rw [List.getElem_map, List.getElem_map] at tk
      rw [tk]
      have h1 := sb _ _ (gs.gr.pairs _ hm)
      have mm := gs.ok.mem _ (List.mem_map_of_mem (f := (·.2)) hm)
      have n1 := gs.ok.names.ok _ mm.1
      have n2 := gs.ok.names.ok _ mm.2
      generalize es[i] = x at *
      wtm_at "rd"
      refine rd_unp (SqT.of h1) rfl ?_
      wtm_at "rd"
      refine js3 rfl (.inl rfl) rfl (.inl rfl) (by have := n1.hi; have := n2.hi; have e : ("-" : Str).length = 1 := (by decide +kernel); omega) ?_
      refine rd_acc hD (by rw [List.length_map, List.length_take, List.length_map, List.length_map]; omega) ?_
      refine ⟨same_put sb fD, ?_⟩
      rw [upd_same, List.map_append]
      rfl
    rintro H1 ⟨s1, hD⟩
    rw [List.take_of_length_le (by rw [List.length_map, List.length_map, List.length_map]; exact Nat.le_refl _)] at hD
    wtm_at "rd"
    refine ⟨D, _, rfl, SqL.of hD, ok2, fun H2 s2 => ?_⟩
    have gs2 := gs.same (s1.trans s2)
    wtm_at "rd"
    refine rd_ixT (SqT.of gs2.gr.top) (v := .ref n) rfl ?_
    wtm_at "rd"
    refine ⟨n, ns, rfl, .inr (SqT.of gs2.gr.nodes), ok1, fun H3 s3 => ?_⟩
    have b1 := jw_len ok1
    have b2 := jw_len ok2
    have e1 : ("\n" : Str).length = 1 := by decide +kernel
    wtm_at "rd"
    refine rd_addS (by show _ ≤ sizeLine; have : 400000 ≤ sizeLine := (by decide); omega) ?_
    wtm_at "rd"
    refine rd_addS (by show _ ≤ sizeLine; rw [len_app]; have : 400000 ≤ sizeLine := (by decide); omega) ?_
    wtm_at "rd"
    exact q H3 ((s1.trans s2).trans s3)
theorem ok_fmoves {f : Addr} {fd : FuncData} (F : Fun K "format_moves" "format_moves" s_format_moves f fd) (B : Bt mg) (C : EAb P w K mg base) : FnG P w K mg base CX0 2 f fd ["moves"] (spFm K) := by
  refine fnG0 F sc_format_moves (fun vs H Q E h => ?_) (fun cdv A outer s H vs Q E hr h => ?_)
  · obtain ⟨l, ms, rfl, _⟩ := h
    rfl
  · obtain ⟨l, ms, rfl, hl, tw, nk, q⟩ := h
    have nd := sc_format_moves.nd
    have hu := hr.u1
    refine ⟨_, (pss_one (ps_ret (pe_c C.join_words hr (by decide) rfl (pa_cons (pe_lc (own := [("node", 1), ("value", 2)]) rfl nd (ki_list K rfl (pv 0)) (blkOk_by (own := [("node", 1), ("value", 2)]) (N := nN_format_moves) (sc := defScope s_format_moves) (by decide +kernel)) (fun _ _ _ _ _ => (kg_tup (n := 2) K rfl rfl (pgs_cons (pg_name (i := 1) nd rfl (by first | exact Or.inl rfl | exact Or.inr rfl)) (pgs_cons (pg_name (i := 2) nd rfl (by first | exact Or.inl rfl | exact Or.inr rfl)) pgs_nil)))) (fun _ _ _ _ _ => pts_nil) (fun _ _ _ _ _ => (pe_joined (.cons (pe_fmt (pv 1)) (.cons (pe_fmt (pv 2)) .nil))))) pa_nil)))), ?_⟩
    have l3 := nk.1
    rw [List.length_map] at l3
    wtm_at "rd"
    refine rd_forL hl ?_
    intro D fD
    refine lcL (K := K) (xs := ms.map fun x => V.ref x.1) (fun i H' => Same H H' ∧ H' D = some (.lst ((((ms.map (·.2)).map wdM).take i).map V.str))) ⟨Same.new fD, upd_same⟩ ?_ ?_ ?_
    · rintro i H' hi ⟨sb, _⟩
      exact seqL_sE hl sb
    · rintro i y H' hy ⟨sb, hD⟩
      obtain ⟨hi, rfl⟩ := map_at hy
      have hm := List.getElem_mem hi
      have tk := take_snoc (xs := (ms.map (·.2)).map wdM) (i := i) (by rw [List.length_map, List.length_map]; exact hi)
      rw [List.getElem_map, List.getElem_map] at tk
      rw [tk]
      have h1 := sb _ _ (tw _ hm)
      obtain ⟨n1, n2⟩ := nk.2 _ (List.mem_map_of_mem (f := (·.2)) hm)
      generalize ms[i] = x at *
      wtm_at "rd"
      refine rd_unp (SqT.of h1) rfl ?_
      wtm_at "rd"
      refine js2 rfl (.inl rfl) rfl (.inr ⟨_, rfl, log_of n2, rfl⟩) (by have := n1.hi; have := itx_len n2; omega) ?_
      refine rd_acc hD (by rw [List.length_map, List.length_take, List.length_map, List.length_map]; omega) ?_
      refine ⟨same_put sb fD, ?_⟩
      rw [upd_same, List.map_append]
      rfl
    rintro H1 ⟨s1, hD⟩
    rw [List.take_of_length_le (by rw [List.length_map, List.length_map, List.length_map]; exact Nat.le_refl _)] at hD
    wtm_at "rd"
    exact ⟨D, _, rfl, SqL.of hD, nk.wM, fun H2 s2 => q H2 (s1.trans s2)⟩
theorem ok_lmoves {f : Addr} {fd : FuncData} (F : Fun K "_law_moves_text" "_law_moves_text" s__law_moves_text f fd) (B : Bt mg) (C : Cal P w K mg base CX0 1 "_law_join" (spJw K)) : FnG P w K mg base CX0 2 f fd ["_law_moves"] (spFm K) := by
  refine fnG0 F sc__law_moves_text (fun vs H Q E h => ?_) (fun cdv A outer s H vs Q E hr h => ?_)
  · obtain ⟨l, ms, rfl, _⟩ := h
    rfl
  · obtain ⟨l, ms, rfl, hl, tw, nk, q⟩ := h
    have nd := sc__law_moves_text.nd
    have hu := hr.u1
    refine ⟨_, (pss_one (ps_ret (pe_c C hr (by decide) rfl (pa_cons (pe_lc (own := [("_law_node", 1), ("_law_value", 2)]) rfl nd (ki_list K rfl (pv 0)) (blkOk_by (own := [("_law_node", 1), ("_law_value", 2)]) (N := nN__law_moves_text) (sc := defScope s__law_moves_text) (by decide +kernel)) (fun _ _ _ _ _ => (kg_tup (n := 2) K rfl rfl (pgs_cons (pg_name (i := 1) nd rfl (by first | exact Or.inl rfl | exact Or.inr rfl)) (pgs_cons (pg_name (i := 2) nd rfl (by first | exact Or.inl rfl | exact Or.inr rfl)) pgs_nil)))) (fun _ _ _ _ _ => pts_nil) (fun _ _ _ _ _ => (pe_op (kAdd K rfl) (pv 1) (pe_callTy call_str_int (by rfl) B.str bb_str (pa_cons (pv 2) pa_nil))))) pa_nil)))), ?_⟩
    have l3 := nk.1
    rw [List.length_map] at l3
    wtm_at "rd"
    refine rd_forL hl ?_
    intro D fD
    refine lcL (K := K) (xs := ms.map fun x => V.ref x.1) (fun i H' => Same H H' ∧ H' D = some (.lst ((((ms.map (·.2)).map wdM).take i).map V.str))) ⟨Same.new fD, upd_same⟩ ?_ ?_ ?_
    · rintro i H' hi ⟨sb, _⟩
      exact seqL_sE hl sb
    · rintro i y H' hy ⟨sb, hD⟩
      obtain ⟨hi, rfl⟩ := map_at hy
      have hm := List.getElem_mem hi
      have tk := take_snoc (xs := (ms.map (·.2)).map wdM) (i := i) (by rw [List.length_map, List.length_map]; exact hi)
      rw [List.getElem_map, List.getElem_map] at tk
      rw [tk]
      have h1 := sb _ _ (tw _ hm)
      obtain ⟨n1, n2⟩ := nk.2 _ (List.mem_map_of_mem (f := (·.2)) hm)
      generalize ms[i] = x at *
      wtm_at "rd"
      refine rd_unp (SqT.of h1) rfl ?_
      wtm_at "rd"
      refine ⟨_, rfl, log_of n2, ?_⟩
      refine rd_addS (by have := n1.hi; have z := itx_len n2; unfold itx at z; have : 1000 ≤ sizeLine := (by decide); omega) ?_
      refine rd_acc hD (by rw [List.length_map, List.length_take, List.length_map, List.length_map]; omega) ?_
      refine ⟨same_put sb fD, ?_⟩
      rw [upd_same, List.map_append]
      rfl
    rintro H1 ⟨s1, hD⟩
    rw [List.take_of_length_le (by rw [List.length_map, List.length_map, List.length_map]; exact Nat.le_refl _)] at hD
    wtm_at "rd"
    exact ⟨D, _, rfl, SqL.of hD, nk.wM, fun H2 s2 => q H2 (s1.trans s2)⟩
theorem ok_lgraph {f : Addr} {fd : FuncData} (F : Fun K "_law_graph_text" "_law_graph_text" s__law_graph_text f fd) (B : Bt mg) (C : Cal P w K mg base CX0 1 "_law_join" (spJw K)) : FnG P w K mg base CX0 2 f fd ["_law_graph"] spFg := by
  refine fnG0 F sc__law_graph_text (fun vs H Q E h => ?_) (fun cdv A outer s H vs Q E hr h => ?_)
  · obtain ⟨g, n, e, ns, es, rfl, _⟩ := h
    rfl
  · obtain ⟨g, n, e, ns, es, rfl, gs, q⟩ := h
    have nd := sc__law_graph_text.nd
    have hu := hr.u1
    refine ⟨_, (pss_cons (ps_set (i := 1) nd rfl (by first | exact Or.inl rfl | exact Or.inr rfl) (pe_c C hr (by decide) rfl (pa_cons (pe_lc (own := [("_law_one", 2), ("_law_other", 3)]) rfl nd (ki_tup K rfl (pe_ix (kIx K rfl) (pv 0) pe_int (fun _ _ => rfl))) (blkOk_by (own := [("_law_one", 2), ("_law_other", 3)]) (N := nN__law_graph_text) (sc := defScope s__law_graph_text) (by decide +kernel)) (fun _ _ _ _ _ => (kg_tup (n := 2) K rfl rfl (pgs_cons (pg_name (i := 2) nd rfl (by first | exact Or.inl rfl | exact Or.inr rfl)) (pgs_cons (pg_name (i := 3) nd rfl (by first | exact Or.inl rfl | exact Or.inr rfl)) pgs_nil)))) (fun _ _ _ _ _ => pts_nil) (fun _ _ _ _ _ => (pe_op (kAdd K rfl) (pe_op (kAdd K rfl) (pv 2) pe_str) (pv 3)))) pa_nil)))
  (pss_one (ps_ret (pe_op (kAdd K rfl) (pe_op (kAdd K rfl) (pe_c C hr (by decide) rfl (pa_cons (pe_callTy (kList K rfl rfl) (by rfl) B.list bb_list (pa_cons (pe_ix (kIx K rfl) (pv 0) pe_int (fun _ _ => rfl)) pa_nil)) pa_nil)) pe_str) (pv 1))))), ?_⟩
    obtain ⟨ok1, ok2⟩ := gr_wds gs
    have l3 := gs.l3
    wtm_at "rd"
    refine rd_ixT (SqT.of gs.gr.top) (v := .ref e) rfl ?_
    refine rd_forT (SqT.of gs.gr.edges) ?_
    intro D fD
    refine lcT (K := K) (xs := es.map fun x => V.ref x.1) (fun i H' => Same H H' ∧ H' D = some (.lst ((((es.map (·.2)).map wdE).take i).map V.str))) ⟨Same.new fD, upd_same⟩ ?_ ?_ ?_
    · rintro i H' hi ⟨sb, _⟩
      exact SqT.of (sb _ _ gs.gr.edges)
    · rintro i y H' hy ⟨sb, hD⟩
      obtain ⟨hi, rfl⟩ := map_at hy
      have hm := List.getElem_mem hi
      have tk := take_snoc (xs := (es.map (·.2)).map wdE) (i := i) (by rw [List.length_map, List.length_map]; exact hi)
      rw [List.getElem_map, List.getElem_map] at tk
      rw [tk]
      have h1 := sb _ _ (gs.gr.pairs _ hm)
      have mm := gs.ok.mem _ (List.mem_map_of_mem (f := (·.2)) hm)
      have n1 := gs.ok.names.ok _ mm.1
      have n2 := gs.ok.names.ok _ mm.2
      generalize es[i] = x at *
      have big : 1000 ≤ sizeLine := by decide
      have d1 : ("-" : Str).length = 1 := by decide +kernel
      have := n1.hi
      have := n2.hi
      wtm_at "rd"
      refine rd_unp (SqT.of h1) rfl ?_
      wtm_at "rd"
      refine rd_addS (by omega) ?_
      wtm_at "rd"
      refine rd_addS (by rw [len_app]; omega) ?_
      refine rd_acc hD (by rw [List.length_map, List.length_take, List.length_map, List.length_map]; omega) ?_
      refine ⟨same_put sb fD, ?_⟩
      rw [upd_same, List.map_append]
      rfl
    rintro H1 ⟨s1, hD⟩
    rw [List.take_of_length_le (by rw [List.length_map, List.length_map, List.length_map]; exact Nat.le_refl _)] at hD
    wtm_at "rd"
    refine ⟨D, _, rfl, SqL.of hD, ok2, fun H2 s2 => ?_⟩
    have gs2 := gs.same (s1.trans s2)
    wtm_at "rd"
    refine rd_ixT (SqT.of gs2.gr.top) (v := .ref n) rfl ?_
    wtm_at "rd"
    refine rd_listT (SqT.of gs2.gr.nodes) ?_
    intro a fa
    have ka := Same.new (o := .lst (ns.map V.str)) fa
    wtm_at "rd"
    refine ⟨a, ns, rfl, SqL.of upd_same, ok1, fun H3 s3 => ?_⟩
    have b1 := jw_len ok1
    have b2 := jw_len ok2
    have e1 : ("\n" : Str).length = 1 := by decide +kernel
    wtm_at "rd"
    refine rd_addS (by show _ ≤ sizeLine; have : 400000 ≤ sizeLine := (by decide); omega) ?_
    wtm_at "rd"
    refine rd_addS (by show _ ≤ sizeLine; rw [len_app]; have : 400000 ≤ sizeLine := (by decide); omega) ?_
    wtm_at "rd"
    exact q H3 (((s1.trans s2).trans ka).trans s3)
/-- a dict of numbers, as its sorted pairs -/
theorem sorted_pairs {ks ss ys : List Str} (asc : Asc ss) (pm : ss.Perm ks) (py : ys.Perm ks) (sy : ys.Pairwise fun a b => ¬ sLt b a) : ys = ss := by
  have nd : ys.Nodup := py.nodup_iff.mpr (pm.nodup_iff.mp (asc_nodup asc))
  exact (py.trans pm.symm).eq_of_pairwise (fun x y _ _ h1 h2 => absurd h2 (sLt_asymm h1)) (asc_of_sorted sy nd) asc
theorem nm_dict {ks ss : List Str} {f : Str → Int} (pm : ss.Perm ks) (kl : ks.length ≤ 60) (nk : ∀ x ∈ ks, IsName x ∧ (f x).natAbs < 10 ^ 60) : NmOk (ss.map fun x => (x, f x)) := ⟨by rw [List.length_map, pm.length_eq]; omega, fun m hm => by
  obtain ⟨x, hx, rfl⟩ := List.mem_map.mp hm
  exact nk x (pm.mem_iff.mp hx)⟩
structure EAs (P : Program) (w : World) (K : PySem.W.Frag) (mg : Str → Option Value) (base : Heap) : Prop where
  format_moves : Cal P w K mg base CX0 2 "format_moves" (spFm K)
theorem ok_fstate {f : Addr} {fd : FuncData} (F : Fun K "format_state" "format_state" s_format_state f fd) (B : Bt mg) (C : EAs P w K mg base) : FnG P w K mg base CX0 3 f fd ["state"] (spFd wdM) := by
  refine fnG0 F sc_format_state (fun vs H Q E h => ?_) (fun cdv A outer s H vs Q E hr h => ?_)
  · obtain ⟨d, ks, ss, fv, rfl, _⟩ := h
    rfl
  · obtain ⟨d, ks, ss, fv, rfl, hd, kl, nk, asc, pm, q⟩ := h
    have nd := sc_format_state.nd
    have hu := hr.u1
    refine ⟨_, (pss_one (ps_ret (pe_c C.format_moves hr (by decide) rfl (pa_cons (pe_callB (cr_sortedItK rfl hr.u64) (by rfl) B.sorted bb_sorted (pa_cons (pe_bm0 PySem.F.plainAttrs_dict PySem.F.slot_dict_items PySem.F.type_dict_items mt_itemsK (pv 0)) pa_nil)) pa_nil)))), ?_⟩
    wtm_at "rd"
    refine rd_tyD hd ?_
    refine ⟨d, _, rfl, rfl, hd, fun p fp => ?_⟩
    have k1 := Same.new (o := L2.DX.itemsO p d) fp
    wtm_at "rd"
    refine ⟨p, d, ks, fv, rfl, upd_same, k1 _ _ hd, fun H2 l bs s2 fl hl tb py sy => ?_⟩
    have s12 := k1.trans s2
    have e := sorted_pairs asc pm py sy
    wtm_at "rd"
    have em : (bs.map fun b => (b.1, b.2, fv b.2)).map (·.2) = ss.map fun x => (x, fv x) := by
      rw [List.map_map, ← e, List.map_map]
      rfl
    refine ⟨l, bs.map fun b => (b.1, b.2, fv b.2), rfl, SqL.of (by rw [List.map_map]; exact hl), fun m hm => ?_, by rw [em]; exact nm_dict pm kl nk, fun H3 s3 => ?_⟩
    · obtain ⟨b, hb, rfl⟩ := List.mem_map.mp hm
      exact tb b hb
    · rw [em]
      exact q H3 (s12.trans s3)
theorem ok_flift {f : Addr} {fd : FuncData} (F : Fun K "format_lift" "format_lift" s_format_lift f fd) (B : Bt mg) (C : EAa P w K mg base) : FnG P w K mg base CX0 2 f fd ["lift"] (spFd wdL) := by
  refine fnG0 F sc_format_lift (fun vs H Q E h => ?_) (fun cdv A outer s H vs Q E hr h => ?_)
  · obtain ⟨d, ks, ss, fv, rfl, _⟩ := h
    rfl
  · obtain ⟨d, ks, ss, fv, rfl, hd, kl, nk, asc, pm, q⟩ := h
    have nd := sc_format_lift.nd
    have hu := hr.u1
    refine ⟨_, (pss_one (ps_ret (pe_c C.join_words hr (by decide) rfl (pa_cons (pe_lc (own := [("node", 1), ("number", 2)]) rfl nd (ki_list K rfl (pe_callB (cr_sortedItK rfl hr.u64) (by rfl) B.sorted bb_sorted (pa_cons (pe_bm0 PySem.F.plainAttrs_dict PySem.F.slot_dict_items PySem.F.type_dict_items mt_itemsK (pv 0)) pa_nil))) (blkOk_by (own := [("node", 1), ("number", 2)]) (N := nN_format_lift) (sc := defScope s_format_lift) (by decide +kernel)) (fun _ _ _ _ _ => (kg_tup (n := 2) K rfl rfl (pgs_cons (pg_name (i := 1) nd rfl (by first | exact Or.inl rfl | exact Or.inr rfl)) (pgs_cons (pg_name (i := 2) nd rfl (by first | exact Or.inl rfl | exact Or.inr rfl)) pgs_nil)))) (fun _ _ _ _ _ => pts_nil) (fun _ _ _ _ _ => (pe_joined (.cons (pe_fmt (pv 1)) (.cons pe_str (.cons (pe_fmt (pv 2)) .nil)))))) pa_nil)))), ?_⟩
    wtm_at "rd"
    refine rd_tyD hd ?_
    refine ⟨d, _, rfl, rfl, hd, fun p fp => ?_⟩
    have k1 := Same.new (o := L2.DX.itemsO p d) fp
    wtm_at "rd"
    refine ⟨p, d, ks, fv, rfl, upd_same, k1 _ _ hd, fun H2 l bs s2 fl hl tb py sy => ?_⟩
    have s12 := k1.trans s2
    have e := sorted_pairs asc pm py sy
    have nk2 := nm_dict pm kl nk
    subst e
    have bl : bs.length ≤ 60 := by
      have := py.length_eq
      rw [List.length_map] at this
      omega
    refine rd_forL (SqL.of hl) ?_
    intro D fD
    refine lcL (K := K) (xs := bs.map fun x => V.ref x.1) (fun i H' => Same H2 H' ∧ H' D = some (.lst (((((bs.map (·.2)).map fun x => (x, fv x)).map wdL).take i).map V.str))) ⟨Same.new fD, upd_same⟩ ?_ ?_ ?_
    · rintro i H' hi ⟨sb, _⟩
      exact SqL.of (sb _ _ hl)
    · rintro i y H' hy ⟨sb, hD⟩
      obtain ⟨hi, rfl⟩ := map_at hy
      have hm := List.getElem_mem hi
      have tk := take_snoc (xs := ((bs.map (·.2)).map fun x => (x, fv x)).map wdL) (i := i) (by rw [List.length_map, List.length_map, List.length_map]; exact hi)
      rw [List.getElem_map, List.getElem_map, List.getElem_map] at tk
      rw [tk]
      have h1 := sb _ _ (tb _ hm)
      obtain ⟨n1, n2⟩ := nk _ (py.mem_iff.mp (List.mem_map_of_mem (f := (·.2)) hm))
      generalize bs[i] = x at *
      wtm_at "rd"
      refine rd_unp (SqT.of h1) rfl ?_
      wtm_at "rd"
      refine js3 rfl (.inl rfl) rfl (.inr ⟨_, rfl, log_of n2, rfl⟩) (by have := n1.hi; have := itx_len n2; have e : (":" : Str).length = 1 := (by decide +kernel); omega) ?_
      refine rd_acc hD (by rw [List.length_map, List.length_take, List.length_map, List.length_map, List.length_map]; omega) ?_
      refine ⟨same_put sb fD, ?_⟩
      rw [upd_same, List.map_append]
      rfl
    rintro H3 ⟨s3, hD⟩
    rw [List.take_of_length_le (by rw [List.length_map, List.length_map, List.length_map, List.length_map]; exact Nat.le_refl _)] at hD
    wtm_at "rd"
    exact ⟨D, _, rfl, SqL.of hD, nk2.wL, fun H4 s4 => q H4 ((s12.trans s3).trans s4)⟩
theorem ok_llift {f : Addr} {fd : FuncData} (F : Fun K "_law_lift_text" "_law_lift_text" s__law_lift_text f fd) (B : Bt mg) (C : Cal P w K mg base CX0 1 "_law_join" (spJw K)) : FnG P w K mg base CX0 2 f fd ["_law_lift"] (spFd wdL) := by
  refine fnG0 F sc__law_lift_text (fun vs H Q E h => ?_) (fun cdv A outer s H vs Q E hr h => ?_)
  · obtain ⟨d, ks, ss, fv, rfl, _⟩ := h
    rfl
  · obtain ⟨d, ks, ss, fv, rfl, hd, kl, nk, asc, pm, q⟩ := h
    have nd := sc__law_lift_text.nd
    have hu := hr.u1
    refine ⟨_, (pss_one (ps_ret (pe_c C hr (by decide) rfl (pa_cons (pe_lc (own := [("_law_node", 1)]) rfl nd (ki_list K rfl (pe_callB (call_sortedD rfl) (by rfl) B.sorted bb_sorted (pa_cons (pv 0) pa_nil))) (blkOk_by (own := [("_law_node", 1)]) (N := nN__law_lift_text) (sc := defScope s__law_lift_text) (by decide +kernel)) (fun _ _ _ _ _ => (pg_name (i := 1) nd rfl (by first | exact Or.inl rfl | exact Or.inr rfl))) (fun _ _ _ _ _ => pts_nil) (fun _ _ _ _ _ => (pe_op (kAdd K rfl) (pe_op (kAdd K rfl) (pv 1) pe_str) (pe_callTy call_str_int (by rfl) B.str bb_str (pa_cons (pe_dget hu (pv 0) (pv 1) (fun _ _ => rfl)) pa_nil))))) pa_nil)))), ?_⟩
    wtm_at "rd"
    refine ⟨d, _, ks, rfl, .inl hd, by rw [List.map_map]; rfl, by omega, fun ys l py sy fl => ?_⟩
    have e := sorted_pairs asc pm py (sortedS_pw sy)
    have nk2 := nm_dict pm kl nk
    subst e
    have k1 := Same.new (o := .lst (ys.map V.str)) fl
    have hl := @upd_same H l (.lst (ys.map V.str))
    have yl : ys.length ≤ 60 := by
      have := py.length_eq
      omega
    generalize upd H l (.lst (ys.map V.str)) = H2 at *
    refine rd_forL (SqL.of hl) ?_
    intro D fD
    refine lcL (K := K) (xs := ys.map V.str) (fun i H' => Same H2 H' ∧ H' D = some (.lst ((((ys.map fun x => (x, fv x)).map wdL).take i).map V.str))) ⟨Same.new fD, upd_same⟩ ?_ ?_ ?_
    · rintro i H' hi ⟨sb, _⟩
      exact SqL.of (sb _ _ hl)
    · rintro i y H' hy ⟨sb, hD⟩
      obtain ⟨hi, rfl⟩ := map_at hy
      have hm := List.getElem_mem hi
      have tk := take_snoc (xs := (ys.map fun x => (x, fv x)).map wdL) (i := i) (by rw [List.length_map, List.length_map]; exact hi)
      rw [List.getElem_map, List.getElem_map] at tk
      rw [tk]
      have hk := py.mem_iff.mp hm
      obtain ⟨n1, n2⟩ := nk _ hk
      generalize ys[i] = x at *
      have big : 1000 ≤ sizeLine := by decide
      have d1 : (":" : Str).length = 1 := by decide +kernel
      have := n1.hi
      have z := itx_len n2
      unfold itx at z
      wtm_at "rd"
      refine rd_addS (by omega) ?_
      wtm_at "rd"
      refine rd_dat (.inl (sb _ _ (k1 _ _ hd))) (kvF_val hk) rfl ?_
      wtm_at "rd"
      refine ⟨_, rfl, log_of n2, ?_⟩
      refine rd_addS (by rw [len_app]; omega) ?_
      refine rd_acc hD (by rw [List.length_map, List.length_take, List.length_map, List.length_map]; omega) ?_
      refine ⟨same_put sb fD, ?_⟩
      rw [upd_same, List.map_append]
      rfl
    rintro H3 ⟨s3, hD⟩
    rw [List.take_of_length_le (by rw [List.length_map, List.length_map, List.length_map]; exact Nat.le_refl _)] at hD
    wtm_at "rd"
    exact ⟨D, _, rfl, SqL.of hD, nk2.wL, fun H4 s4 => q H4 ((k1.trans s3).trans s4)⟩
end
end Law

/-! sums of slopes along walks: the plain law -/
namespace U
open PySem PySem.Spec PyProof.Rows L2
def Adj (es : List (Str × Str)) (a b : Str) : Prop := (a, b) ∈ es ∨ (b, a) ∈ es
theorem Adj.symm {es : List (Str × Str)} {a b : Str} (h : Adj es a b) : Adj es b a := Or.symm h
def Wk (es : List (Str × Str)) : List Str → Prop
  | a :: b :: r => Adj es a b ∧ Wk es (b :: r)
  | _ => True
/-- the slopes along a list -/
def psl (f : Str → Int) : List Str → List Int
  | a :: b :: r => slp f a b :: psl f (b :: r)
  | _ => []
def psum (f : Str → Int) (p : List Str) : Int := (psl f p).sum
theorem psum_cons {f : Str → Int} {a b : Str} {r : List Str} : psum f (a :: b :: r) = slp f a b + psum f (b :: r) := by
  unfold psum
  rw [psl, List.sum_cons]
theorem psum_one {f : Str → Int} {a : Str} : psum f [a] = 0 := rfl
theorem Wk.join {es : List (Str × Str)} : ∀ {p r : List Str} {x : Str}, p.getLast? = some x → Wk es p → Wk es (x :: r) → Wk es (p ++ r)
  | [], _, _, h, _, _ => nomatch h
  | [a], r, x, h, _, w => by
    have : a = x := by simpa using h
    subst this
    exact w
  | a :: b :: q, r, x, h, w1, w2 => by
    have h' : (b :: q).getLast? = some x := by rw [List.getLast?_cons_cons] at h; exact h
    exact ⟨w1.1, Wk.join (p := b :: q) h' w1.2 w2⟩
theorem Wk.snoc {es : List (Str × Str)} {p : List Str} {x b : Str} (h : p.getLast? = some x) (w : Wk es p) (a : Adj es x b) : Wk es (p ++ [b]) := w.join h ⟨a, trivial⟩
theorem Wk.left {es : List (Str × Str)} : ∀ {p r : List Str}, Wk es (p ++ r) → Wk es p
  | [], _, _ => trivial
  | [_], _, _ => trivial
  | a :: b :: q, r, w => ⟨w.1, Wk.left (p := b :: q) (r := r) w.2⟩
theorem Wk.tail {es : List (Str × Str)} {a : Str} {p : List Str} (w : Wk es (a :: p)) : Wk es p := by
  cases p with
  | nil => trivial
  | cons b r => exact w.2
theorem Wk.right {es : List (Str × Str)} : ∀ {p r : List Str}, Wk es (p ++ r) → Wk es r
  | [], _, w => w
  | a :: q, r, w => Wk.right (p := q) (r := r) (Wk.tail w)
section
variable {ns : List Str} {es : List (Str × Str)} {f : Str → Int}
theorem slp_neg (ok : EsOk ns es f) {a b : Str} (h : Adj es a b) : slp f b a = - slp f a b := by
  have ha : a ∈ ns ∧ b ∈ ns ∧ f a ≠ f b := by
    rcases h with h | h
    · exact ⟨(ok.mem _ h).1, (ok.mem _ h).2, ok.pro _ h⟩
    · exact ⟨(ok.mem _ h).2, (ok.mem _ h).1, fun z => ok.pro _ h z.symm⟩
  have t1 := ok.tri a ha.1
  have t2 := ok.tri b ha.2.1
  have ne := ha.2.2
  unfold slp
  split <;> split <;> omega
theorem slp_mod (ok : EsOk ns es f) {a b : Str} (h : Adj es a b) : slp f a b % 3 = (f b - f a) % 3 := by
  have ha : a ∈ ns ∧ b ∈ ns ∧ f a ≠ f b := by
    rcases h with h | h
    · exact ⟨(ok.mem _ h).1, (ok.mem _ h).2, ok.pro _ h⟩
    · exact ⟨(ok.mem _ h).2, (ok.mem _ h).1, fun z => ok.pro _ h z.symm⟩
  have t1 := ok.tri a ha.1
  have t2 := ok.tri b ha.2.1
  have ne := ha.2.2
  unfold slp
  split <;> omega
/-- two states apart by the numbers h -/
theorem psum_lift {g h : Str → Int} (okf : EsOk ns es f) (okg : EsOk ns es g) (t : ∀ e ∈ es, slp f e.1 e.2 - slp g e.1 e.2 = 2 * (h e.1 - h e.2)) : ∀ {p : List Str} {a b : Str}, Wk es p → p.head? = some a → p.getLast? = some b → psum f p - psum g p = 2 * (h a - h b)
  | [], _, _, _, h, _ => nomatch h
  | [x], a, b, _, h, k => by
    have h1 : x = a := by simpa using h
    have h2 : x = b := by simpa using k
    subst h1
    subst h2
    rw [psum_one, psum_one]
    omega
  | x :: y :: r, a, b, w, k1, k => by
    have h1 : x = a := by simpa using k1
    subst h1
    have k' : (y :: r).getLast? = some b := by rw [List.getLast?_cons_cons] at k; exact k
    have ih := psum_lift okf okg t (p := y :: r) (a := y) w.2 rfl k'
    rw [psum_cons, psum_cons]
    have m : slp f x y - slp g x y = 2 * (h x - h y) := by
      rcases w.1 with q | q
      · exact t _ q
      · have := t _ q
        have n1 := slp_neg okf (.inl q)
        have n2 := slp_neg okg (.inl q)
        simp only at this
        omega
    omega
end
/-! ### the paths found are walks -/
theorem PathTo.wk {es : List (Str × Str)} {ok : Str → Str → Bool} {root x : Str} {p : List Str} (h : PathTo (nbS es) ok root x p) : Wk es p ∧ p.head? = some root ∧ p.getLast? = some x := by
  induction h with
  | one => exact ⟨trivial, rfl, rfl⟩
  | @snoc a b p _ m o ih =>
    obtain ⟨h1, h2, h3⟩ := ih
    refine ⟨h1.snoc h3 (nbS_mem.mp m), ?_, by simp⟩
    cases p with
    | nil => cases h2
    | cons _ _ => exact h2
/-! ### basis cycles -/
def pth (kp : List (Str × List Str)) (x : Str) : List Str := (kp.lookup x).getD []
section
variable {ns : List Str} {es : List (Str × Str)}
end
end U

/-! words taken apart (plain) -/
namespace U
open PySem PySem.Spec PyProof.Rows L2
theorem len_of {z : Str} : z.cps.toList.length = z.length := by simp [Str.length]
theorem cut_init {z : Str} : cutS z none (some (-1)) = ⟨(z.cps.toList.take (z.length - 1)).toArray⟩ := by
  unfold cutS HT.sIx
  simp only [Nat.sub_zero, List.drop_zero]
  rw [if_pos (by omega), show ((-1 : Int) + (z.length : Int)).toNat = z.length - 1 from by omega]
theorem cut_last {z : Str} (h : 1 ≤ z.length) : cutS z (some (-1)) none = ⟨(z.cps.toList.drop (z.length - 1)).toArray⟩ := by
  unfold cutS HT.sIx
  simp only
  have hl := len_of (z := z)
  rw [if_pos (by omega), show ((-1 : Int) + (z.length : Int)).toNat = z.length - 1 from by omega, List.take_of_length_le (by rw [List.length_drop]; omega)]
theorem itx_one {v : Int} (h0 : 0 ≤ v) (h3 : v < 10) : TL.tl (itx v) = [48 + v.toNat] := by
  obtain ⟨n, rfl⟩ := Int.eq_ofNat_of_zero_le h0
  have := TL.tl_num n
  rw [TL.numL_lt (by omega)] at this
  exact this
theorem wdM_len {m : Str × Int} (h0 : 0 ≤ m.2) (h3 : m.2 < 10) : (wdM m).length = m.1.length + 1 := by
  unfold wdM
  rw [len_app, TL.len_tl (itx m.2), itx_one h0 h3]
  rfl
theorem wdM_init {m : Str × Int} (h0 : 0 ≤ m.2) (h3 : m.2 < 10) : cutS (wdM m) none (some (-1)) = m.1 := by
  rw [cut_init, wdM_len h0 h3]
  refine TL.ext_tl ?_
  have e : (wdM m).cps.toList = TL.tl m.1 ++ TL.tl (itx m.2) := TL.tl_append _ _
  rw [TL.tl_mk, e, Nat.add_sub_cancel, TL.len_tl]
  exact List.take_left
theorem wdM_last {m : Str × Int} (h0 : 0 ≤ m.2) (h3 : m.2 < 10) : cutS (wdM m) (some (-1)) none = itx m.2 := by
  rw [cut_last (by rw [wdM_len h0 h3]; omega), wdM_len h0 h3]
  refine TL.ext_tl ?_
  have e : (wdM m).cps.toList = TL.tl m.1 ++ TL.tl (itx m.2) := TL.tl_append _ _
  rw [TL.tl_mk, e, Nat.add_sub_cancel, TL.len_tl]
  exact List.drop_left
theorem name_no {x : Str} (h : IsName x) {c : Nat} (b : c < 97 ∨ 122 < c) : c ∉ TL.tl x := fun m => by
  have := name_tl h _ m
  omega
theorem wdE_part {e : Str × Str} (h : IsName e.1) : Txt.partition (wdE e) "-" = (e.1, ("-" : Str), e.2) := TL.partition_app tl_dash (name_no h (by decide))
theorem wdL_part {m : Str × Int} (h : IsName m.1) : Txt.partition (wdL m) ":" = (m.1, (":" : Str), itx m.2) := TL.partition_app tl_colon (name_no h (by decide))
theorem feed_part {a b : Str} (h : 10 ∉ TL.tl a) : Txt.partition (a ++ "\n" ++ b) "\n" = (a, ("\n" : Str), b) := TL.partition_app tl_feed h
theorem int_back {i : Int} (h : i.natAbs < 10 ^ 60) : intText? (itx i) = some i ∧ (itx i).length ≤ 640 := by
  have l := itx_len h
  refine ⟨?_, by omega⟩
  have nl := TL.numL_len (n := i.natAbs) (k := 60) (by decide) h
  by_cases n : i < 0
  · have e := PySem.intText_neg (x := itx i) (cs := TL.numL i.natAbs) (tl_itx_neg n) (TL.numL_digits _) (TL.numL_ne _) (by omega)
    rw [TL.numL_val] at e
    rw [e]
    congr 1
    omega
  · obtain ⟨m, rfl⟩ := Int.eq_ofNat_of_zero_le (Int.not_lt.mp n)
    exact TL.int_num (by
      have : ((m : Int)).natAbs = m := rfl
      rw [this] at nl
      omega)
/-- the digits of a number's text -/
theorem rp_itx {i : Int} : Txt.removeprefix (itx i) "-" = itx (i.natAbs : Nat) := by
  have e1 : ("-" : Str).length = 1 := by decide +kernel
  unfold Txt.removeprefix
  rw [PySem.StrLaws.subAt_eq, List.drop_zero, e1]
  by_cases n : i < 0
  · have t : (itx i).cps.toList = 45 :: TL.numL i.natAbs := tl_itx_neg n
    have l : (itx i).length = (TL.numL i.natAbs).length + 1 := by
      rw [TL.len_tl]
      rw [tl_itx_neg n]
      rfl
    have tr : ((itx i).cps.toList.take 1 == ("-" : Str).cps.toList) = true := by
      rw [t]
      have : ("-" : Str).cps.toList = [45] := tl_dash
      rw [this]
      rfl
    rw [tr, if_pos rfl]
    unfold Txt.affix
    have ne : ((itx i).length - 1 == (itx i).length) = false := beq_eq_false_iff_ne.mpr (by omega)
    dsimp only
    rw [ne, if_neg Bool.false_ne_true]
    refine TL.ext_tl ?_
    rw [TL.tl_strSub_end, tl_itx_neg n, tl_itx_nat]
    rfl
  · obtain ⟨m, rfl⟩ := Int.eq_ofNat_of_zero_le (Int.not_lt.mp n)
    have fl : ((itx (m : Int)).cps.toList.take 1 == ("-" : Str).cps.toList) = false := by
      have t : (itx (m : Int)).cps.toList = TL.numL m := tl_itx_nat m
      have : ("-" : Str).cps.toList = [45] := tl_dash
      rw [t, this]
      refine beq_eq_false_iff_ne.mpr fun z => ?_
      have : 45 ∈ TL.numL m := List.mem_of_mem_take (by rw [z]; exact List.mem_cons_self)
      exact TL.numL_free (by decide) this
    rw [fl, if_neg Bool.false_ne_true]
    rfl
theorem itx_dash {i : Int} : itx i ≠ "-0" := fun z => by
  have e : TL.tl (itx i) = [45, 48] := by rw [z]; decide +kernel
  by_cases n : i < 0
  · rw [tl_itx_neg n] at e
    have e2 := (List.cons.inj e).2
    have : TL.numL 0 = [48] := TL.numL_lt (by decide)
    have := TL.numL_inj (e2.trans this.symm)
    omega
  · obtain ⟨m, rfl⟩ := Int.eq_ofNat_of_zero_le (Int.not_lt.mp n)
    rw [tl_itx_nat] at e
    have : 45 ∈ TL.numL m := by rw [e]; exact List.mem_cons_self
    exact TL.numL_free (by decide) this
/-- no leading zero -/
theorem numL_lead : ∀ {n : Nat}, n ≠ 0 → ∃ c r, TL.numL n = c :: r ∧ c ≠ 48 := by
  intro n
  induction n using Nat.strongRecOn with
  | ind n ih =>
    intro h
    by_cases l : n < 10
    · rw [TL.numL_lt l]
      exact ⟨48 + n, [], rfl, by omega⟩
    · obtain ⟨c, r, e, ne⟩ := ih (n / 10) (by omega) (by omega)
      rw [TL.numL_step (by omega), e]
      exact ⟨c, _, rfl, ne⟩
end U

/-! functions handed on: promises that speak of the cells which a handed function captured -/
namespace U
open PySem PySem.Spec PyProof.Rows L2 LamX NdefX
/-- the def at f keeps the promise sp, which may speak of the caller's frames and of the heap at the call -/
structure FnH (P : Program) (w : World) (K : PySem.W.Frag) (mg : Str → Option Value) (base : Heap) (CX : CXT) (k : Nat) (f : Addr) (fd : FuncData) (ps : List Str) (sp : List Env → Heap → Sp) : Prop where
  len : ∀ l h vs H Q E, sp l h vs H Q E → vs.length = ps.length
  go : ∀ (A : Around) (outer : List Env) (s : Shared) (H : Hp) (args : Args) (us : List Value) (vs : List V) (Q : VK) (E : XK), Rm k A →
    Env0 P w K mg base A outer s H → BindsTo s fd args (ps.zip us) → Vals vs us → sp outer s.heap vs H Q E → codeAny (model P w) A (.call (.ref f) args) (CR CX outer P w H s Q E) s
section
variable {P : Program} {w : World} {K : PySem.W.Frag} {mg : Str → Option Value} {base : Heap} {CX : CXT}
theorem fnH {x qual : Str} {st : Stmt} {f : Addr} {fd : FuncData} {N ps : List Str} {k : Nat} {sp : List Env → Heap → Sp} (F : Fun K x qual st f fd) (S : FnScope N ps (defScope st)) (len : ∀ l h vs H Q E, sp l h vs H Q E → vs.length = ps.length)
    (body : ∀ (cdv : Value) (A : Around) (outer : List Env) (s : Shared) (H : Hp) (vs : List V) (Q : VK) (E : XK), Rm k (A.deeper (envOfC qual (defScope st) s.heap.objs.size f cdv)) → sp outer s.heap vs H Q E →
      ∃ t, PSs (cxOf CX P w K mg base N qual (defScope st) f cdv A outer s H E) (defBody st) t ∧ t { nx := fun _ H' => Q .non H', rt := Q } (start N vs) H) :
    FnH P w K mg base CX (k + 1) f fd ps sp := by
  obtain ⟨oc, od, kV, doc, pm, an, cdv, ct, osl, rfl, lk, hcd⟩ := F.ex
  refine ⟨len, fun A outer s H args us vs Q E room e0 bd rel want => ?_⟩
  have count := len _ _ _ _ _ _ want
  have kin : K.In s.heap := e0.mod.kin.keeps fun b o e => (e0.bs b o e).1
  have kinds : ∀ y ∈ ps.zip us, (defScope st).names.lookup y.1 = some .local ∨ ((defScope st).names.lookup y.1 = some .cell ∧ ((cellsFrom (s.heap.objs.size + 1) (defScope st).names []).lookup y.1).isSome = true) := by
    rintro ⟨n, v⟩ hy
    cases S.par n (List.of_mem_zip hy).1 with
    | inl q => exact .inl q
    | inr q => exact .inr ⟨q, PySem.W.cellsFrom_some _ _ _ (.inl q)⟩
  apply codeAny_call_function room.r.depth (kin _ _ lk) rfl S.co S.gen rfl (PySem.W.codeRec_of kin hcd) (bd _ _ _ _ _)
  apply wpAny_newFunctionEnv_cells S.kind kinds
  intro env he s1 x
  subst he
  have lim : s.heap.NoLimit := e0.mod.nolimit.keeps fun b o e => (e0.bs b o e).1
  refine ⟨lim.keeps x.toInCall.keep, codeAny_func ?_⟩
  obtain ⟨t, ht, want'⟩ := body cdv A outer s H vs Q E (room.deeper _) want
  have I := inv_start (CX := CX) (P := P) (w := w) (K := K) (mg := mg) (base := base) (E := E) S room.r.hd e0 count rel x
  refine wpAny_mono (ht.run [] s1 (start N vs) H _ I want') ?_ fun e s' hs => hs
  intro fl s' hs
  cases fl with
  | ret u =>
    obtain ⟨v, σ', H', J, rv, q⟩ := hs
    exact ⟨v, H', J.os, J.bare, J.base, J.hok, rv, q⟩
  | next =>
    obtain ⟨σ', H', J, q⟩ := hs
    exact ⟨V.non, H', J.os, J.bare, J.base, J.hok, rfl, q⟩
  | brk => exact hs.elim fun _ z => z.elim fun _ z => z.2.elim
  | cont => exact hs.elim fun _ z => z.elim fun _ z => z.2.elim
structure CalH (P : Program) (w : World) (K : PySem.W.Frag) (mg : Str → Option Value) (base : Heap) (CX : CXT) (k : Nat) (x : Str) (sp : List Env → Heap → Sp) : Prop where
  ex : ∃ (f : Addr) (fd : FuncData) (ps : List Str), FnH P w K mg base CX k f fd ps sp ∧ mg x = some (.ref f) ∧ PySem.W.keepIn K (.ref f) = true ∧ Binds K fd ps []
end
/-- the captured cells as the callee may know them -/
structure Held (cl : List (Str × Addr)) (fr : List Str) (ws : List (Option V)) (l : List Env) (h : Heap) (H : Hp) : Prop where
  at_ : CellsAt cl fr ws h H
  off : ∀ y c, cl.lookup y = some c → c ∉ frs l
section
variable {X : Cx} {pins : List (Addr × Obj)} {σ : L2.St} {H : Hp} {s : Shared} {cl : List (Str × Addr)} {fr : List Str} {ws : List (Option V)} {js : List Nat}
/-- the def's own cells -/
theorem held_of (I : Inv X pins σ H s) (c : Caps X cl fr js) (own : ∀ y a, cl.lookup y = some a → X.fn y = true) : Held cl fr (js.map (slotAt σ)) X.stack s.heap H := by
  refine ⟨cells_of I c, fun y a e hm => ?_⟩
  have ea := c.sub y a e
  rcases List.mem_cons.mp (I.stkSub a hm) with z | z
  · exact I.cne y a ea z
  · obtain ⟨_, o, ho, _⟩ := I.ok.funs.mem z
    exact absurd (I.ok.cab y a (own y a e) ea) (Nat.not_le.mpr (Heap.lt_size ho))
end
end U

/-! a lambda with parameters and without captured names: entered -/
namespace U
open PySem PySem.Spec PyProof.Rows L2
end U
namespace U
open PySem PySem.Spec PyProof.Rows L2 PySem.W
end U
namespace U
open PySem PySem.Spec PyProof.Rows L2 PySem.W
/-- no more than new things, the callers' frames but for their slots -/
def Jm (X : Cx) (s0 s' : Shared) : Prop := s'.os = s0.os ∧ AllBare s'.gens ∧ Un (frs X.stack) [] (fun _ => none) (fun _ => none) s0.heap s'.heap
section
variable {X : Cx} {pins : List (Addr × Obj)} {σ : L2.St} {H : Hp} {s0 s : Shared}
theorem Jm.refl (I : Inv X pins σ H s0) : Jm X s0 s0 := ⟨rfl, I.bare, Un.refl⟩
variable {A : Around} {q : Str} {params : Arguments} {body : Expr} {scope : Scope} {pm ctv : Value} {f c' l : Addr} {items : List (Addr × List Str)} {its : List Value} {N : List Str} {p : Str} {tb : TE} {k : Nat}
end
end U
namespace U
open PySem PySem.Spec PyProof.Rows L2 PySem.W LamX
end U

/-! a def whose code object is known (its table of lambdas is tracked) -/
namespace U
open PySem PySem.Spec PyProof.Rows L2 LamX
structure FunC (K : PySem.W.Frag) (x qual : Str) (st : Stmt) (f : Addr) (fd : FuncData) (c : Addr) : Prop where
  ex : ∃ (oc : Value) (od : Option Addr) (kV doc pm : Value) (an : Option Addr) (ct : Value) (osl : Array (Option Value)),
    fd = PySem.W.fnOf x qual (defArgs st) (defBody st) (defScope st) .none kV doc pm an (.ref c) ct ∧ K.lookup f = some ⟨oc, od, .func fd, osl⟩ ∧ PySem.W.codeIn K (.ref c) qual = true
section
variable {P : Program} {w : World} {K : PySem.W.Frag} {mg : Str → Option Value} {base : Heap}
end
end U

/-! functions handed on: one rule for a def of the module and for a def made within the caller -/
namespace U
open PySem PySem.Spec PyProof.Rows L2 LamX NdefX
/-- what a def made within another one promises, no repr being under way -/
structure NdR (P : Program) (w : World) (K : PySem.W.Frag) (mg : Str → Option Value) (base : Heap) (CX : CXT) (k : Nat) (f : Addr) (F : NF) (ps fr : List Str) (sp : List (Option V) → Sp) : Prop where
  ln : ∀ ws vs H Q E, sp ws vs H Q E → vs.length = ps.length
  rn : ∀ (A : Around) (out : List Env) (s : Shared) (H : Hp) (us : List Value) (vs : List V) (ws : List (Option V)) (Q : VK) (E : XK), Rm k A → Env0 P w K mg base A out s H → H f = some (FnO f F) →
    H F.c = some (CodeO F.c F.qual) → CellsAt F.cl fr ws s.heap H → Vals vs us → sp ws vs H Q E → codeAny (model P w) A (.call (.ref f) ⟨us, []⟩) (CR CX out P w H s Q E) s
section
variable {CX : CXT} {P : Program} {w : World} {K : PySem.W.Frag} {mg : Str → Option Value} {base : Heap} {N ps fr : List Str} {F : NF} {f : Addr} {k j : Nat} {sp : List (Option V) → Sp}
theorem ndR_of (S : NScope N ps fr F.scope) (bind : ∀ (d m t : Value) (us : List Value), us.length = ps.length → bindArgs (F.fd d m t) ⟨us, []⟩ = pure (ps.zip us)) (ln : ∀ ws vs H Q E, sp ws vs H Q E → vs.length = ps.length)
    (bd : ∀ (A : Around) (out : List Env) (s : Shared) (H : Hp) (vs : List V) (ws : List (Option V)) (Q : VK) (E : XK), Rm k (A.deeper (envF F f s.heap.objs.size)) → ws.length = fr.length → sp ws vs H Q E →
      ∃ t, PSs (ncx CX P w K mg base N F f A out s H E) F.body t ∧ t { nx := fun _ H' => Q .non H', rt := Q } (startF N vs ws) H) : NdR P w K mg base CX (k + 1) f F ps fr sp := by
  refine ⟨ln, fun A out s H us vs ws Q E rm e0 hf hc C r want => ?_⟩
  have count := ln _ _ _ _ _ want
  obtain ⟨od, sl, d, m, t0, obj⟩ := fnO_at e0.hok hf
  have lim : s.heap.NoLimit := e0.mod.nolimit.keeps fun b o e => (e0.bs b o e).1
  refine codeAny_call_function rm.r.depth obj rfl S.co S.gen rfl (codeO_at e0.hok hc) ?_
  rw [bind d m t0 us (r.length ▸ count)]
  refine wpAny_pure (wpAny_newFunctionEnv S.nocell (fun ⟨y, _⟩ hy => S.par y (List.of_mem_zip hy).1) (fun h1 ns1 sb1 => ⟨lim.fresh _ sb1, ?_⟩) S.kind)
  have old : ∀ b o, s.heap.get? b = some o → h1.get? b = some o := fun b o e => sb1.extBut b o (Nat.ne_of_lt (Heap.lt_size e)) (Heap.get?_push_of_some _ e)
  obtain ⟨t, run, q⟩ := bd A out s H vs ws Q E (rm.deeper _) C.len want
  have I0 : Inv (ncx CX P w K mg base N F f A out s H E) [] (startF N vs ws) H { s with heap := h1, toks := s.toks + (ps.zip us).length } := inv_startN S rm.r.hd e0 count r C ns1 old
  refine codeAny_func (wpAny_mono (run.run [] _ (startF N vs ws) H _ I0 q) (fun fl s' z => ?_) fun _ _ z => z)
  cases fl with
  | next =>
    obtain ⟨σ', H', J, z⟩ := z
    exact ⟨V.non, H', J.os, J.bare, J.base, J.hok, rfl, z⟩
  | ret u =>
    obtain ⟨v, σ', H', J, rv, z⟩ := z
    exact ⟨v, H', J.os, J.bare, J.base, J.hok, rv, z⟩
  | cont =>
    obtain ⟨_, _, _, z⟩ := z
    exact z.elim
  | brk =>
    obtain ⟨_, _, _, z⟩ := z
    exact z.elim
end
/-- f is a function that keeps the promise sp: a def of the module, or one made within a def that still runs; Pre: what must be known of its object -/
def Handed (P : Program) (w : World) (K : PySem.W.Frag) (mg : Str → Option Value) (base : Heap) (k : Nat) (l : List Env) (h : Heap) (H : Hp) (f : Addr) (Pre : Hp → Prop) (sp : Sp) : Prop :=
  (∃ (F : NF) (ps fr : List Str) (ws : List (Option V)) (spF : List (Option V) → Sp), NdR P w K mg base CX0 k f F ps fr spF ∧ Held F.cl fr ws l h H ∧ (∀ H1, Pre H1 → H1 f = some (FnO f F) ∧ H1 F.c = some (CodeO F.c F.qual)) ∧ ∀ vs H Q E, sp vs H Q E → spF ws vs H Q E) ∨
  ∃ (fd : FuncData) (ps : List Str), FnG P w K mg base CX0 k f fd ps sp ∧ PySem.W.keepIn K (.ref f) = true ∧ Binds K fd ps []
theorem Handed.mono {P : Program} {w : World} {K : PySem.W.Frag} {mg : Str → Option Value} {base : Heap} {k : Nat} {l : List Env} {h : Heap} {H : Hp} {f : Addr} {Pre Pre2 : Hp → Prop} {sp sp2 : Sp} (x : Handed P w K mg base k l h H f Pre sp) (a : ∀ H1, Pre2 H1 → Pre H1) (b : ∀ vs H Q E, sp2 vs H Q E → sp vs H Q E) : Handed P w K mg base k l h H f Pre2 sp2 := by
  rcases x with ⟨F, ps, fr, ws, spF, x1, x2, x3, x4⟩ | ⟨fd, ps, x1, x2, x3⟩
  · exact .inl ⟨F, ps, fr, ws, spF, x1, x2, fun H1 p => x3 H1 (a H1 p), fun vs H Q E z => x4 _ _ _ _ (b _ _ _ _ z)⟩
  · exact .inr ⟨fd, ps, ⟨fun vs H Q E z => x1.len _ _ _ _ (b _ _ _ _ z), fun A out s H args us vs Q E rm e0 bd r z => x1.go A out s H args us vs Q E rm e0 bd r (b _ _ _ _ z)⟩, x2, x3⟩
/-- a def of the module may be handed on at any time -/
theorem Cal.handed {P : Program} {w : World} {K : PySem.W.Frag} {mg : Str → Option Value} {base : Heap} {k : Nat} {x : Str} {f : Addr} {sp : Sp} (c : Cal P w K mg base CX0 k x sp) (e : mg x = some (.ref f)) (l : List Env) (h : Heap) (H : Hp) : Handed P w K mg base k l h H f (fun _ => True) sp := by
  obtain ⟨f', fd, ps, F, m, kp, b⟩ := c.ex
  rw [e] at m
  cases m
  exact .inr ⟨fd, ps, F, kp, b⟩
section
variable {X : Cx} {pins : List (Addr × Obj)} {σ : L2.St} {H : Hp} {s : Shared}
/-- what was handed to the running def it may hand on -/
theorem Handed.on {k : Nat} {f : Addr} {Pre : Hp → Prop} {sp : Sp} (x : Handed X.prog X.w X.K X.mg X.base k X.outer X.s_0.heap X.H_0 f Pre sp) (hex : X.ex = []) (own : ∀ c, c ∈ frs X.stack → c ∈ frs X.outer ∨ X.s_0.heap.get? c = none) (I : Inv X pins σ H s) : Handed X.prog X.w X.K X.mg X.base k X.stack s.heap H f Pre sp := by
  rcases x with ⟨F, ps, fr, ws, spF, x1, x2, x3, x4⟩ | x
  · refine .inl ⟨F, ps, fr, ws, spF, x1, ⟨x2.at_.later x2.off (fun _ _ _ z => by rw [hex] at z; cases z) I, fun y c e z => ?_⟩, x3, x4⟩
    rcases own c z with z | z
    · exact x2.off y c e z
    · obtain ⟨_, v, o, ho, _⟩ := x2.at_.all y c e
      rw [z] at ho
      cases ho
  · exact .inr x
/-- v(e, ..), v a slot that holds the handed function -/
def tHd (f : Addr) (Pre : Hp → Prop) (i : Nat) (sp : Sp) (E : XK) (t : TA) : TE := fun σ H Q => σ[i]? = some (some (.ref f)) ∧ Pre H ∧ t σ H fun vs H1 => Pre H1 ∧ sp vs H1 Q E
theorem pe_hd {f : Addr} {Pre : Hp → Prop} {i k j : Nat} {x : Str} {sp : Sp} {t : TA} {e : Expr} {es : List Expr} {p pos : Pos} (hw : Handed X.prog X.w X.K X.mg X.base k X.outer X.s_0.heap X.H_0 f Pre sp) (hex : X.ex = []) (hr : Rm j X.A) (hk : k ≤ j)
    (hN : X.N[i]? = some x) (hv : Vis X.env.scope x) (ha : PA X (e :: es) t) (hd : (x == ("__debug__" : Str)) = false := by decide) (hcd : (x == ("__classdict__" : Str)) = false := by decide)
    (he : starEach (e :: es) X.env = (false, eval e X.env) :: starEach es X.env := by rfl) (hpl : (backTo pos (starEach es X.env)).any (·.1) = false := by rfl) :
    PE X (.Call (.Name x p) (e :: es) [] pos) (tHd f Pre i sp E0 t) := by
  refine ⟨fun pins s σ H Q I want => ?_⟩
  obtain ⟨at_, pre, ht⟩ := want
  have look := (pe_var (pos := p) hN hv hd hcd).run pins s σ H (fun v H1 => v = .ref f ∧ H1 = H) I ⟨.ref f, at_, rfl, rfl⟩
  refine wpAny_Call_Name_kw (thn look fun u s1 got => ?_)
  obtain ⟨v, H1, I1, r1, e1, e2⟩ := got
  subst e1
  subst e2
  obtain rfl : u = Value.ref f := r1
  rcases hw with ⟨F, ps, fr, ws, spF, nd, held, obj, imp⟩ | ⟨fd, ps, G, kp, b⟩
  · refine PySem.W.callWith_F (first := []) (fnAt_of I1 (obj _ pre).1) (thn (ha.run pos pins s1 σ _ _ I1 ht) fun us s2 got2 => ?_) he hpl
    obtain ⟨vs, H2, I2, r, pre2, q⟩ := got2
    obtain ⟨o1, o2⟩ := obj _ pre2
    refine ⟨fnAt_of I2 o1, ?_⟩
    show wpAny _ _ (call (.ref f) us) _ _ _
    have cells : CellsAt F.cl fr ws s2.heap H2 := held.at_.later held.off (fun _ _ _ z => by rw [hex] at z; cases z) I2
    refine wpAny_call (codeAny_mono (nd.rn X.A X.stack s2 H2 us vs ws Q E0 (hr.mono hk) I2.env0 o1 o2 cells r (imp _ _ _ _ q)) fun res s' z => ?_)
    cases res with
    | error er => exact pass0 pins σ H2 s2 er s' I2 z
    | ok fl =>
      cases fl with
      | next => exact z.elim
      | ret u => exact I2.after z
      | cont => exact z.elim
      | brk => exact z.elim
  · refine PySem.W.callWith_K (h₀ := X.base) I1.ok.mod.kin kp (thn (ha.run pos pins s1 σ _ _ I1 ht) fun us s2 got2 => ?_) he hpl
    obtain ⟨vs, H2, I2, r, _, q⟩ := got2
    exact ⟨I2.kIn, callG G (hr.mono hk) b pass0 I2 r q⟩
/-- g(e, ..): the promise is told of the frames and of the heap at the call; R: what is known of them -/
def tCHd (sp : List Env → Heap → Sp) (l : List Env) (R : L2.St → Heap → Hp → Prop) (t : TA) : TE := fun σ H Q => t σ H fun vs H1 => ∀ h, R σ h H1 → sp l h vs H1 Q E0
theorem pe_cHd {k j : Nat} {sp : List Env → Heap → Sp} {R : L2.St → Heap → Hp → Prop} {x : Str} {p pos : Pos} {e : Expr} {es : List Expr} {t : TA} (c : CalH X.prog X.w X.K X.mg X.base CX0 k x sp) (hr : Rm j X.A) (hk : k ≤ j) (hg : Gl X x)
    (kn : ∀ pins σ H s, Inv X pins σ H s → R σ s.heap H) (ha : PA X (e :: es) t)
    (hdb : (x == ("__debug__" : Str)) = false := by decide) (he : starEach (e :: es) X.env = (false, eval e X.env) :: starEach es X.env := by rfl) (hpl : (backTo pos (starEach es X.env)).any (·.1) = false := by rfl) :
    PE X (.Call (.Name x p) (e :: es) [] pos) (tCHd sp X.stack R t) := by
  obtain ⟨f, fd, ps, F, hm, kp, b⟩ := c.ex
  refine ⟨fun pins s σ H Q I h => wpAny_Call_Name_kw (ld_glob I hg hm ?_ hdb)⟩
  refine PySem.W.callWith_K (h₀ := X.base) I.ok.mod.kin kp (thn (ha.run pos pins s σ H _ I h) ?_) he hpl
  rintro us s1 ⟨vs, H1, I1, r, q⟩
  have want := q s1.heap (kn _ _ _ _ I1)
  have bd := b s1 us I1.kIn (by rw [List.append_nil]; exact r.length ▸ F.len _ _ _ _ _ _ want)
  rw [List.append_nil] at bd
  refine ⟨I1.kIn, wpAny_call (codeAny_mono (F.go X.A X.stack s1 H1 ⟨us, []⟩ us vs Q E0 (hr.mono hk) I1.env0 bd r want) fun res s' z => ?_)⟩
  cases res with
  | error er => exact pass0 pins σ H1 s1 er s' I1 z
  | ok fl =>
    cases fl with
    | next => exact z.elim
    | ret u => exact I1.after z
    | cont => exact z.elim
    | brk => exact z.elim
/-- .. what is raised is wished for at the caller's slots -/
def tCHx (sp : List Env → Heap → Sp) (l : List Env) (R : L2.St → Heap → Hp → Prop) (W : WX) (t : TA) : TE := fun σ H Q => t σ H fun vs H1 => ∀ h, R σ h H1 → sp l h vs H1 Q fun cls d H' => W cls d σ H'
theorem pe_cHx {W : WX} {k j : Nat} {sp : List Env → Heap → Sp} {R : L2.St → Heap → Hp → Prop} {x : Str} {p pos : Pos} {e : Expr} {es : List Expr} {t : TA} (c : CalH X.prog X.w X.K X.mg X.base (L2.CX X.prog X.w) k x sp) (hr : Rm j X.A) (hk : k ≤ j) (hg : Gl X x) (tk : Takes X W)
    (kn : ∀ pins σ H s, Inv X pins σ H s → R σ s.heap H) (ha : PA X (e :: es) t)
    (hdb : (x == ("__debug__" : Str)) = false := by decide) (he : starEach (e :: es) X.env = (false, eval e X.env) :: starEach es X.env := by rfl) (hpl : (backTo pos (starEach es X.env)).any (·.1) = false := by rfl) :
    PE X (.Call (.Name x p) (e :: es) [] pos) (tCHx sp X.stack R W t) := by
  obtain ⟨f, fd, ps, F, hm, kp, b⟩ := c.ex
  refine ⟨fun pins s σ H Q I h => wpAny_Call_Name_kw (ld_glob I hg hm ?_ hdb)⟩
  refine PySem.W.callWith_K (h₀ := X.base) I.ok.mod.kin kp (thn (ha.run pos pins s σ H _ I h) ?_) he hpl
  rintro us s1 ⟨vs, H1, I1, r, q⟩
  have want := q s1.heap (kn _ _ _ _ I1)
  have bd := b s1 us I1.kIn (by rw [List.append_nil]; exact r.length ▸ F.len _ _ _ _ _ _ want)
  rw [List.append_nil] at bd
  refine ⟨I1.kIn, wpAny_call (codeAny_mono (F.go X.A X.stack s1 H1 ⟨us, []⟩ us vs _ _ (hr.mono hk) I1.env0 bd r want) fun res s' z => ?_)⟩
  cases res with
  | error er => exact tk er s' (XE.of_call I1 (fun cls d H' z => z) z)
  | ok fl =>
    cases fl with
    | next => exact z.elim
    | ret u => exact I1.after z
    | cont => exact z.elim
    | brk => exact z.elim
end
end U
namespace U
open PySem PySem.Spec PyProof.Rows L2 LamX NdefX
section
variable {X : Cx}
theorem pe_cHcx {W : WX} {k j : Nat} {sp : List Env → Heap → Sp} {cl : List (Str × Addr)} {fr : List Str} {js : List Nat} {x : Str} {p pos : Pos} {e : Expr} {es : List Expr} {t : TA} (c : CalH X.prog X.w X.K X.mg X.base (L2.CX X.prog X.w) k x sp) (hr : Rm j X.A) (hk : k ≤ j) (hg : Gl X x) (tk : Takes X W)
    (cp : X.Ok → Caps X cl fr js) (own : ∀ y a, cl.lookup y = some a → X.fn y = true) (ha : PA X (e :: es) t)
    (hdb : (x == ("__debug__" : Str)) = false := by decide) (he : starEach (e :: es) X.env = (false, eval e X.env) :: starEach es X.env := by rfl) (hpl : (backTo pos (starEach es X.env)).any (·.1) = false := by rfl) :
    PE X (.Call (.Name x p) (e :: es) [] pos) (tCHx sp X.stack (fun σ h H => Held cl fr (js.map (slotAt σ)) X.stack h H) W t) :=
  pe_cHx c hr hk hg tk (fun _ _ _ _ I => held_of I (cp I.ok) own) ha hdb he hpl
/-- .. the argument was handed to this def -/
theorem pe_cHo {k j k2 : Nat} {sp : List Env → Heap → Sp} {f : Addr} {Pre : Hp → Prop} {sp2 : Sp} {x : Str} {p pos : Pos} {e : Expr} {es : List Expr} {t : TA} (c : CalH X.prog X.w X.K X.mg X.base CX0 k x sp) (hr : Rm j X.A) (hk : k ≤ j) (hg : Gl X x)
    (hw : Handed X.prog X.w X.K X.mg X.base k2 X.outer X.s_0.heap X.H_0 f Pre sp2) (hex : X.ex = []) (own : ∀ c, c ∈ frs X.stack → c ∈ frs X.outer ∨ X.s_0.heap.get? c = none) (ha : PA X (e :: es) t)
    (hdb : (x == ("__debug__" : Str)) = false := by decide) (he : starEach (e :: es) X.env = (false, eval e X.env) :: starEach es X.env := by rfl) (hpl : (backTo pos (starEach es X.env)).any (·.1) = false := by rfl) :
    PE X (.Call (.Name x p) (e :: es) [] pos) (tCHd sp X.stack (fun _ h H => Handed X.prog X.w X.K X.mg X.base k2 X.stack h H f Pre sp2) t) :=
  pe_cHd c hr hk hg (fun _ _ _ _ I => hw.on hex own I) ha hdb he hpl
/-- .. nothing is to be known -/
theorem pe_cHmx {W : WX} {k j : Nat} {sp : List Env → Heap → Sp} {x : Str} {p pos : Pos} {e : Expr} {es : List Expr} {t : TA} (c : CalH X.prog X.w X.K X.mg X.base (L2.CX X.prog X.w) k x sp) (hr : Rm j X.A) (hk : k ≤ j) (hg : Gl X x) (tk : Takes X W) (ha : PA X (e :: es) t)
    (hdb : (x == ("__debug__" : Str)) = false := by decide) (he : starEach (e :: es) X.env = (false, eval e X.env) :: starEach es X.env := by rfl) (hpl : (backTo pos (starEach es X.env)).any (·.1) = false := by rfl) :
    PE X (.Call (.Name x p) (e :: es) [] pos) (tCHx sp X.stack (fun _ _ _ => True) W t) :=
  pe_cHx c hr hk hg tk (fun _ _ _ _ _ => True.intro) ha hdb he hpl
end
/-- a def whose code object is known, that may raise -/
theorem fnGC {P : Program} {w : World} {K : PySem.W.Frag} {mg : Str → Option Value} {base : Heap} {CX : CXT} {x qual : Str} {st : Stmt} {f c : Addr} {fd : FuncData} {N ps : List Str} {k : Nat} {sp : Sp} (F : FunC K x qual st f fd c) (S : FnScope N ps (defScope st)) (ln : ∀ vs H Q E, sp vs H Q E → vs.length = ps.length)
    (bd : ∀ (A : Around) (out : List Env) (s : Shared) (H : Hp) (vs : List V) (Q : VK) (E : XK), Rm k (A.deeper (envOfC qual (defScope st) s.heap.objs.size f (.ref c))) → sp vs H Q E →
      ∃ t, PSs (cxOf CX P w K mg base N qual (defScope st) f (.ref c) A out s H E) (defBody st) t ∧ t { nx := fun _ H' => Q .non H', rt := Q } (start N vs) H) :
    FnG P w K mg base CX (k + 1) f fd ps sp := by
  obtain ⟨oc, od, kV, doc, pm, an, ct, osl, rfl, lk, hcd⟩ := F.ex
  refine ⟨ln, fun A out s H args us vs Q E rm e0 b r want => ?_⟩
  have kin : K.In s.heap := e0.mod.kin.keeps fun b o e => (e0.bs b o e).1
  have lim : s.heap.NoLimit := e0.mod.nolimit.keeps fun b o e => (e0.bs b o e).1
  have count := ln _ _ _ _ want
  apply codeAny_call_function rm.r.depth (kin _ _ lk) rfl S.co S.gen rfl (PySem.W.codeRec_of kin hcd) (b _ _ _ _ _)
  apply wpAny_newFunctionEnv_cells S.kind fun ⟨y, v⟩ hy => (S.par y (List.of_mem_zip hy).1).elim .inl fun q => .inr ⟨q, PySem.W.cellsFrom_some _ _ _ (.inl q)⟩
  intro env he s1 x
  subst he
  refine ⟨lim.keeps x.toInCall.keep, codeAny_func ?_⟩
  obtain ⟨t, ht, q⟩ := bd A out s H vs Q E (rm.deeper _) want
  have I0 := inv_start (CX := CX) (P := P) (w := w) (K := K) (mg := mg) (base := base) (E := E) S rm.r.hd e0 count r x
  refine wpAny_mono (ht.run [] s1 (start N vs) H _ I0 q) (fun fl s' z => ?_) fun _ _ z => z
  cases fl with
  | next =>
    obtain ⟨σ', H', J, z⟩ := z
    exact ⟨V.non, H', J.os, J.bare, J.base, J.hok, rfl, z⟩
  | ret u =>
    obtain ⟨v, σ', H', J, rv, z⟩ := z
    exact ⟨v, H', J.os, J.bare, J.base, J.hok, rv, z⟩
  | cont => exact z.elim fun _ z => z.elim fun _ z => z.2.elim
  | brk => exact z.elim fun _ z => z.elim fun _ z => z.2.elim
/-- any object of the common kinds -/
def Ob (H : Hp) (v : V) : Prop := v = .non ∨ (∃ b, v = .bl b) ∨ (∃ i, v = .int i) ∨ (∃ s, v = .str s) ∨ ∃ a o, v = .ref a ∧ H a = some o ∧ ((∃ xs, o = .lst xs) ∨ (∃ xs, o = .tup xs) ∨ ∃ k, o = .dK k)
theorem Ob.ext {H H' : Hp} {v : V} (h : Ob H v) (e : ∀ a o, H a = some o → (∀ ps, o ≠ .tbl ps) → H' a = some o) : Ob H' v := by
  rcases h with h | h | h | h | ⟨a, o, rfl, h1, h2⟩
  · exact .inl h
  · exact .inr (.inl h)
  · exact .inr (.inr (.inl h))
  · exact .inr (.inr (.inr (.inl h)))
  · refine .inr (.inr (.inr (.inr ⟨a, o, rfl, e a o h1 fun ps z => ?_, h2⟩)))
    subst z
    rcases h2 with ⟨_, h2⟩ | ⟨_, h2⟩ | ⟨_, h2⟩ <;> cases h2
theorem Ob.same {H H' : Hp} {v : V} (h : Ob H v) (s : Same H H') : Ob H' v := h.ext fun a o x _ => s a o x
/-- its class -/
theorem Ob.ty {K : PySem.W.Frag} {H : Hp} {v : V} (h : Ob H v) : ∃ t, TyIs K H v t ∧ (isT t .str = true ↔ ∃ s, v = .str s) ∧ (isT t .tup = true ↔ ∃ a xs, v = .ref a ∧ H a = some (.tup xs)) := by
  rcases h with rfl | ⟨b, rfl⟩ | ⟨i, rfl⟩ | ⟨s, rfl⟩ | ⟨a, o, rfl, h1, ⟨xs, rfl⟩ | ⟨xs, rfl⟩ | ⟨k, rfl⟩⟩
  · exact ⟨.non, ty_non, ⟨fun z => absurd z (by decide +kernel), fun ⟨_, z⟩ => nomatch z⟩, ⟨fun z => absurd z (by decide +kernel), fun ⟨_, _, z, _⟩ => nomatch z⟩⟩
  · exact ⟨.bl, ty_bl, ⟨fun z => absurd z (by decide +kernel), fun ⟨_, z⟩ => nomatch z⟩, ⟨fun z => absurd z (by decide +kernel), fun ⟨_, _, z, _⟩ => nomatch z⟩⟩
  · exact ⟨.int, ty_int, ⟨fun z => absurd z (by decide +kernel), fun ⟨_, z⟩ => nomatch z⟩, ⟨fun z => absurd z (by decide +kernel), fun ⟨_, _, z, _⟩ => nomatch z⟩⟩
  · exact ⟨.str, ty_str, ⟨fun _ => ⟨s, rfl⟩, fun _ => by decide +kernel⟩, ⟨fun z => absurd z (by decide +kernel), fun ⟨_, _, z, _⟩ => nomatch z⟩⟩
  · exact ⟨.lst, ty_lst h1, ⟨fun z => absurd z (by decide +kernel), fun ⟨_, z⟩ => nomatch z⟩, ⟨fun z => absurd z (by decide +kernel), fun ⟨b, ys, z, z2⟩ => by cases z; rw [h1] at z2; cases z2⟩⟩
  · exact ⟨.tup, ty_tup h1, ⟨fun z => absurd z (by decide +kernel), fun ⟨_, z⟩ => nomatch z⟩, ⟨fun _ => ⟨a, xs, rfl, h1⟩, fun _ => by decide +kernel⟩⟩
  · exact ⟨.dct, ty_dK h1, ⟨fun z => absurd z (by decide +kernel), fun ⟨_, z⟩ => nomatch z⟩, ⟨fun z => absurd z (by decide +kernel), fun ⟨b, ys, z, z2⟩ => by cases z; rw [h1] at z2; cases z2⟩⟩
end U
namespace U
open PySem PySem.Spec PyProof.Rows L2 LamX NdefX
/-- a def that is told of the caller's frames and that no exception leaves -/
theorem fnH0 {P : Program} {w : World} {K : PySem.W.Frag} {mg : Str → Option Value} {base : Heap} {x qual : Str} {st : Stmt} {f : Addr} {fd : FuncData} {N ps : List Str} {k : Nat} {sp : List Env → Heap → Sp} (F : Fun K x qual st f fd) (S : FnScope N ps (defScope st)) (ln : ∀ l h vs H Q E, sp l h vs H Q E → vs.length = ps.length)
    (bd : ∀ (cdv : Value) (A : Around) (out : List Env) (s : Shared) (H : Hp) (vs : List V) (Q : VK) (E : XK), Rm k (A.deeper (envOfC qual (defScope st) s.heap.objs.size f cdv)) → sp out s.heap vs H Q E →
      ∃ t, PSs (cxOf CX0 P w K mg base N qual (defScope st) f cdv A out s H E).nox (defBody st) t ∧ t { nx := fun _ H' => Q .non H', rt := Q } (start N vs) H) :
    FnH P w K mg base CX0 (k + 1) f fd ps sp := fnH F S ln fun cdv A out s H vs Q E rm z => by
  obtain ⟨t, r, q⟩ := bd cdv A out s H vs Q E rm z
  exact ⟨t, r.nox, q⟩
end U

/-! enumerate(tuple) -/
namespace U
open PySem PySem.Spec PyProof.Rows L2
theorem meets_enumT (t : Addr) (items : Array Value) :
    Meets (Builtin.«enumerate.__new__» ⟨[.type "enumerate", .ref t], []⟩) (fun _ R s => s.heap.IsTuple t items ∧
      R (.ok (.ret (.ref (s.heap.push { cls := .type "tuple_iterator", data := .fields #[.ref t, .int 0 0] }).objs.size)))
        { s with heap := (s.heap.push { cls := .type "tuple_iterator", data := .fields #[.ref t, .int 0 0] }).push { cls := .type "enumerate", data := .fields #[.none, .bool false, .ref s.heap.objs.size, rawInt 0, .none, .none] } }) :=
  .of_wp fun prog w A R s want => by
    obtain ⟨hp, g, d, tk, os⟩ := s
    obtain ⟨ht, want⟩ := want
    have known := sub_enumerate
    have walkT : ∀ {A' : Around} {E Q : Value → Shared → Prop}, Q (.ref hp.objs.size) ⟨hp.push { cls := .type "tuple_iterator", data := .fields #[.ref t, .int 0 0] }, g, d, tk, os⟩ → wpAny (model prog w) A' (pyIter (.ref t)) Q E ⟨hp, g, d, tk, os⟩ :=
      fun q => wpAny_pyIter_tuple (s := ⟨hp, g, d, tk, os⟩) ht q
    obtain ⟨o, ho, hc, n, hd⟩ := id ht
    wp_walk using AutoSeq1.wpAny_loadPart' ho, walkT
    refine wpAny_stack_any fun st => wpAny_pure ?_
    split
    · rename_i c _ _ _ _ _
      cases (c == Value.type "enumerate")
      · wp_walk using AutoSeq1.wpAny_loadPart' ho, walkT
        exact ⟨_, rfl, want⟩
      · wp_walk using AutoSeq1.wpAny_loadPart' ho, walkT
        exact ⟨_, rfl, want⟩
    · wp_walk using AutoSeq1.wpAny_loadPart' ho, walkT
      exact ⟨_, rfl, want⟩
theorem call_enumT {prog : Program} {w : World} {A : Around} {E Q : Value → Shared → Prop} {s : Shared} {t : Addr} {items : Array Value} (ht : s.heap.IsTuple t items)
    (h : ∀ h', IsEnum h' (s.heap.objs.size + 1) s.heap.objs.size 0 .none → h'.IsTupleIter s.heap.objs.size t 0 → (∀ b o, s.heap.get? b = some o → h'.get? b = some o) → Q (.ref (s.heap.objs.size + 1)) { s with heap := h' }) :
    wpAny (model prog w) A (call (.type "enumerate") [.ref t]) Q E s := by
  refine callType_new F.called_enumerate (by decide) (F.typeCall_enumerate_1 _) (F.newCall_enumerate_1 _) (fun obj => F.args_object_init_2 obj _) F.entry_enumerate_new (meets_enumT t items) ⟨ht, ?_⟩
  have sz : (s.heap.push { cls := .type "tuple_iterator", data := .fields #[.ref t, .int 0 0] }).objs.size = s.heap.objs.size + 1 := Heap.size_push ..
  show _ ∧ _
  rw [sz]
  have made : IsEnum ((s.heap.push { cls := .type "tuple_iterator", data := .fields #[.ref t, .int 0 0] }).push
      { cls := .type "enumerate", data := .fields #[.none, .bool false, .ref s.heap.objs.size, rawInt 0, .none, .none] }) (s.heap.objs.size + 1) s.heap.objs.size 0 .none := by
    have z := Heap.get?_push_size (s.heap.push { cls := .type "tuple_iterator", data := .fields #[.ref t, .int 0 0] })
      (o := { cls := .type "enumerate", data := .fields #[.none, .bool false, .ref s.heap.objs.size, rawInt 0, .none, .none] }) rfl
    rw [sz] at z
    exact z
  exact ⟨⟨_, made, rfl⟩, h _ made ⟨_, Heap.get?_push_of_some _ (Heap.get?_push_size _ rfl), rfl, rfl⟩ fun b o x => Heap.get?_push_of_some _ (Heap.get?_push_of_some _ x)⟩
/-- the tuple at a, each item in a new pair -/
def Iet (K : PySem.W.Frag) (a : Addr) : It :=
  ⟨fun i H => ∃ (xs : List V) (x : V), SqT K H a xs ∧ xs[i]? = some x, fun i H v H' => ∃ T x, v = .ref T ∧ H T = none ∧ H' = upd H T (.tup [.int (i : Nat), x]) ∧ ∀ xs, SqT K H a xs → xs[i]? = some x, fun i H => ∃ xs : List V, SqT K H a xs ∧ xs.length = i⟩
theorem off_iter {h : Heap} {a it : Addr} {items : Array Value} {i : Nat} (ht : h.IsTuple a items) (hi : h.IsTupleIter it a i) : a ≠ it := by
  rintro rfl
  obtain ⟨o, ho, hc, _⟩ := ht
  obtain ⟨o2, ho2, hc2, _⟩ := hi
  rw [ho] at ho2
  cases ho2
  rw [hc] at hc2
  simp at hc2
theorem off_enum {h : Heap} {a e it : Addr} {items : Array Value} {c : Int} {old : Value} (ht : h.IsTuple a items) (he : IsEnum h e it c old) : e ≠ a := by
  rintro rfl
  obtain ⟨o, ho, hc, _⟩ := ht
  have he' : h.get? e = some _ := he
  rw [ho] at he'
  cases he'
  simp at hc
theorem turn_enumT {P : Program} {w : World} {K : PySem.W.Frag} {elts : List Expr} {kk : Nat} {tpos : Pos} (a e it : Addr) :
    Turn P w K (.Tuple elts kk tpos) (Iet K a) [e, it] e (fun i h => (∃ old, IsEnum h e it ((i : Nat) : Int) old) ∧ h.IsTupleIter it a i ∧ e ≠ it) where
  mem := by simp
  obj := fun i h st b hb => by
    obtain ⟨⟨old, he⟩, ⟨o, ho, hc, hd⟩, _⟩ := st
    rcases (by simpa using hb : b = e ∨ b = it) with z | z
    · subst z
      exact ⟨_, he, fun v q => nomatch q⟩
    · subst z
      exact ⟨o, ho, fun v q => by rw [hd] at q; cases q⟩
  keep := fun i h h' st k => by
    obtain ⟨⟨old, he⟩, hi, hne⟩ := st
    exact ⟨⟨old, k e (by simp) _ he⟩, hi.at fun o q => k it (by simp) o q, hne⟩
  item := by
    intro X hP hw hK hc i pins s σ H E I hf st hg
    subst hP hw hK
    obtain ⟨⟨old, he⟩, hit, hne⟩ := st
    obtain ⟨xs, x, hq, hx⟩ := hg
    obtain ⟨its, rv, p, hz⟩ := I.tuple hq
    obtain ⟨u, hu, ru⟩ := rv.get hx
    have ht : s.heap.IsTuple a its.toArray := p
    have lte : e < s.heap.objs.size := Heap.lt_size he
    have lti : it < s.heap.objs.size := by
      obtain ⟨_, q, _⟩ := hit
      exact Heap.lt_size q
    have hlt : i < its.toArray.size := by
      rw [List.size_toArray]
      exact (List.getElem?_eq_some_iff.mp hu).1
    have nea := off_enum ht he
    refine wpAny_pyNext_enum_itemD (Draws.tuple (A := X.A.in1) (I.ok.hd hc) it a (off_iter ht hit) its.toArray) he ⟨hit, ht⟩ hlt hne (by simp [hne, nea]) fun y h' tk hy ho st2 hT _ hk => ?_
    have hyu : y = u := by
      have hy' : its.toArray[i]? = some y := hy
      rw [List.getElem?_toArray, hu] at hy'
      exact (Option.some.inj hy').symm
    subst hyu
    refine ⟨_, rfl, wpAny_letOwnedTupleGo_enum (s := { s with heap := h', toks := tk + 1 }) ho fun h'' he' sb => ?_⟩
    have hT2 : h''.get? s.heap.objs.size = some { cls := .type "tuple", data := .seq #[.int i tk, y] } := (sb.2 _ (Nat.ne_of_gt lte)).trans hT
    have new : ObjOk X.prog X.w (upd H s.heap.objs.size (.tup [.int (i : Nat), x])) h'' s.heap.objs.size (.tup [.int (i : Nat), x]) :=
      ⟨by show 2 ≤ sizeLine; decide, [.int i tk, y], .cons ⟨_, rfl⟩ (.cons ru .nil), ⟨_, hT2, rfl, _, rfl⟩⟩
    have I1 : Inv X pins σ (upd H s.heap.objs.size (.tup [.int (i : Nat), x])) { s with heap := h'', toks := tk + 1 } :=
      I.turnedNew (ch := [e, it]) (fun b ob hb q => (sb.2 b (fun z => hb (by simp [z]))).trans (hk b ob (fun z => hb (by simp [z])) (fun z => hb (by simp [z])) q)) hf (Nat.le_refl _) new
    refine ⟨.ref s.heap.objs.size, _, I1, rfl, ⟨_, x, rfl, I.hok.fresh (Nat.le_refl _), rfl, fun ys hy => by rw [I.tuple_inj hy hq]; exact hx⟩, ⟨⟨y, ?_⟩, st2.1.at fun o q => (sb.2 it (Ne.symm hne)).trans q, hne⟩, fun b hb => ?_⟩
    · have e1 : ((i + 1 : Nat) : Int) = (i : Int) + 1 := by omega
      rw [e1]
      exact he'
    · have lb : b < s.heap.objs.size := by
        rcases (by simpa using hb : b = e ∨ b = it) with z | z
        · rw [z]; exact lte
        · rw [z]; exact lti
      rw [upd_ne (Nat.ne_of_lt lb)]
      exact (hf b hb).1
  done := by
    intro X hP hw hK hc i pins s σ H E I hf st hg
    subst hP hw hK
    obtain ⟨⟨old, he⟩, hit, hne⟩ := st
    obtain ⟨xs, hq, hx⟩ := hg
    obtain ⟨its, rv, p, hz⟩ := I.tuple hq
    have ht : s.heap.IsTuple a its.toArray := p
    obtain ⟨f0, f1, f2, f3, f4, f5⟩ := hf it (by simp)
    have hl := rv.length
    have hn : i = its.toArray.size := by
      rw [List.size_toArray, ← hl, hx]
    subst hn
    exact wpAny_pyNext_enum_endD (Draws.tuple (A := X.A.in1) (I.ok.hd hc) it a (off_iter ht hit) its.toArray) he ⟨hit, ht⟩ fun h' eb => ⟨rfl, I.turned (t' := s.toks) (fun b o hb q => eb b o hb q) f0 f1 f3 f4 f5⟩
  self := fun A i s Q E st h => by
    obtain ⟨⟨_, he⟩, _⟩ := st
    exact wpAny_pyIter_enum he h
def iEnumT (K : PySem.W.Frag) (ta : TA) : TI := fun σ H R => ta σ H fun vs H1 => ∃ a xs, vs = [.ref a] ∧ SqT K H1 a xs ∧ R (Iet K a) H1
theorem ki_enumT {X : Cx} (K : PySem.W.Frag) (hK : X.K = K) {e : Expr} {ta : TA} {p pos tpos : Pos} {elts : List Expr} {kk : Nat} (hg : Gl X "enumerate") (hm : X.mg "enumerate" = none) (ha : PA X [e] ta) (hs : starEach [e] X.env = [(false, eval e X.env)] := by rfl) :
    PI X (.Tuple elts kk tpos) (.Call (.Name "enumerate" p) [e] [] pos) (iEnumT K ta) := by
  subst hK
  refine ⟨fun pins s σ H R I want => ?_⟩
  refine Call_ (ld_blt I hg hm boot_enumerate (PyProof.Rows.callWith_type1 (thn (ha.run pos pins s σ H _ I want) fun us s1 ⟨vs, H1, I1, r1, q1⟩ => ?_) hs rfl))
  obtain ⟨a, xs, rfl, hq, q⟩ := q1
  cases r1 with
  | cons r rr =>
    cases rr
    cases r
    obtain ⟨its, rv, p', hz⟩ := I1.tuple hq
    refine call_enumT (show s1.heap.IsTuple a its.toArray from p') fun h' he hit hk => wpAny_pyIter_enum he ?_
    have I2 : Inv X pins σ H1 { s1 with heap := h' } := I1.kept (t' := s1.toks) hk
    refine ⟨s1.heap.objs.size + 1, [s1.heap.objs.size + 1, s1.heap.objs.size], _, _, H1, rfl, I2, turn_enumT a (s1.heap.objs.size + 1) s1.heap.objs.size, ⟨⟨.none, he⟩, hit, Nat.succ_ne_self _⟩, fun b hb => ?_, q⟩
    have up : s1.heap.objs.size ≤ b := by
      rcases (by simpa using hb : b = s1.heap.objs.size + 1 ∨ b = s1.heap.objs.size) with z | z
      · rw [z]; exact Nat.le_add_right _ _
      · rw [z]; exact Nat.le_refl _
    exact I1.fpOk up (I1.hok.fresh up)
theorem walk_enumT {K : PySem.W.Frag} {a : Addr} {xs : List V} : Walk (Iet K a) xs.length (fun H => SqT K H a xs) (YPair (fun i => some (.int (i : Nat))) (fun i => xs[i]?)) := by
  refine ⟨fun i _ hi q => ⟨xs, xs[i], q, by simp [hi]⟩, fun _ q => ⟨xs, q, rfl⟩, fun i H v H' _ q y => ?_⟩
  obtain ⟨T, x, h1, h2, h3, h4⟩ := y
  exact ⟨T, .int (i : Nat), x, h1, h2, h3, rfl, h4 xs q⟩
end U

/-! rising cycles, feasible lifts, progress: the plain law -/
namespace U
open PySem PySem.Spec PyProof.Rows L2
def slOk (f : Str → Int) (dir : Int) (a b : Str) : Bool := decide (slp f a b = dir)
abbrev Rr (es : List (Str × Str)) (f : Str → Int) (dir : Int) (x y : Str) : Prop := Reach (nbS es) (slOk f dir) x y
/-- x is on a rising (falling) cycle -/
def CycD (es : List (Str × Str)) (f : Str → Int) (dir : Int) (x : Str) : Prop := ∃ y, Adj es y x ∧ slp f y x = dir ∧ Rr es f dir x y
abbrev Cyc (es : List (Str × Str)) (f : Str → Int) (x : Str) : Prop := CycD es f 1 x
section
variable {ns : List Str} {es : List (Str × Str)} {f : Str → Int} {dir : Int}
theorem rr_step {a b : Str} (h : Adj es a b) (k : slp f a b = dir) : Rr es f dir a b := .step .refl (nbS_mem.mpr h) (decide_eq_true k)
theorem rr_snoc {a b c : Str} (r : Rr es f dir a b) (h : Adj es b c) (k : slp f b c = dir) : Rr es f dir a c := .step r (nbS_mem.mpr h) (decide_eq_true k)
theorem rr_first {x y : Str} (r : Rr es f dir x y) : y = x ∨ ∃ z, Adj es x z ∧ slp f x z = dir ∧ Rr es f dir z y := by
  induction r with
  | refl => exact .inl rfl
  | @step a b _ m o ih =>
    have o' := of_decide_eq_true o
    have m' := nbS_mem.mp m
    rcases ih with rfl | ⟨z, h1, h2, h3⟩
    · exact .inr ⟨b, m', o', .refl⟩
    · exact .inr ⟨z, h1, h2, .step h3 m o⟩
theorem rr_last {x y : Str} (r : Rr es f dir x y) : y = x ∨ ∃ z, Adj es z y ∧ slp f z y = dir ∧ Rr es f dir x z := by
  cases r with
  | refl => exact .inl rfl
  | step r m o => exact .inr ⟨_, nbS_mem.mp m, of_decide_eq_true o, r⟩
/-- what lies on the way of a cycle is on a cycle -/
theorem cyc_on {x w y : Str} (r1 : Rr es f dir x w) (r2 : Rr es f dir w y) (h : Adj es y x) (k : slp f y x = dir) : CycD es f dir w := by
  rcases rr_last r1 with e | ⟨z, z1, z2, z3⟩
  · rw [e] at r2 ⊢
    exact ⟨y, h, k, r2⟩
  · exact ⟨z, z1, z2, (rr_snoc r2 h k).trans z3⟩
theorem adj_in (ok : EsOk ns es f) {a b : Str} (h : Adj es a b) : a ∈ ns ∧ b ∈ ns ∧ f a ≠ f b ∧ a ≠ b := by
  have m : a ∈ ns ∧ b ∈ ns ∧ f a ≠ f b := by
    rcases h with h | h
    · exact ⟨(ok.mem _ h).1, (ok.mem _ h).2, ok.pro _ h⟩
    · exact ⟨(ok.mem _ h).2, (ok.mem _ h).1, fun z => ok.pro _ h z.symm⟩
  exact ⟨m.1, m.2.1, m.2.2, fun z => m.2.2 (by rw [z])⟩
/-- a node on a cycle has no move -/
theorem cyc_still (ok : EsOk ns es f) {pn : List Str} {m : Str × Int} (l : Legal ns es f pn m) : ¬ Cyc es f m.1 := by
  rintro ⟨y, h, k, r⟩
  have ay := adj_in ok h
  rcases rr_first r with e | ⟨z, h1, h2, _⟩
  · exact ay.2.2.2 e
  have az := adj_in ok h1
  have ty := ok.tri y ay.1
  have tx := ok.tri _ ay.2.1
  have tz := ok.tri z az.2.1
  have n1 := l.nbr y (.symm h)
  have n2 := l.nbr z h1
  have n3 := l.own
  have tv := l.val
  have e1 : (f m.1 - f y) % 3 = 1 := by
    unfold slp at k
    split at k
    · assumption
    · cases k
  have e2 : (f z - f m.1) % 3 = 1 := by
    unfold slp at h2
    split at h2
    · assumption
    · cases h2
  have d1 := ay.2.2.1
  have d2 := az.2.2.1
  omega
theorem slp_off {n : Str} {v : Int} {a b : Str} (ha : a ≠ n) (hb : b ≠ n) : slp (updf f n v) a b = slp f a b := by
  unfold slp updf
  rw [if_neg ha, if_neg hb]
/-- cycles stay -/
theorem cyc_move (ok : EsOk ns es f) {pn : List Str} {m : Str × Int} (l : Legal ns es f pn m) {x : Str} (c : Cyc es f x) : Cyc es (updf f m.1 m.2) x := by
  obtain ⟨y, h, k, r⟩ := c
  have st := cyc_still ok l
  have off : ∀ w, Rr es f 1 x w → Rr es f 1 w y → w ≠ m.1 := fun w r1 r2 z => st (by rw [← z]; exact cyc_on r1 r2 h k)
  have walk : ∀ w, Rr es f 1 x w → Rr es f 1 w y → Rr es (updf f m.1 m.2) 1 x w := by
    intro w r1
    induction r1 with
    | refl => intro _; exact .refl
    | @step a b r1 mm o ih =>
      intro r2
      have o' := of_decide_eq_true o
      have m' := nbS_mem.mp mm
      have r2' : Rr es f 1 a y := (rr_step m' o').trans r2
      refine rr_snoc (ih r2') m' ?_
      rw [slp_off (off a r1 r2') (off b (.step r1 mm o) r2)]
      exact o'
  refine ⟨y, h, ?_, walk y r .refl⟩
  rw [slp_off (off y r .refl) (off x .refl r)]
  exact k
theorem legal_back (ok : EsOk ns es f) {pn : List Str} {m : Str × Int} (l : Legal ns es f pn m) : Legal ns es (updf f m.1 m.2) pn (m.1, f m.1) := by
  have own : f m.1 ≠ updf f m.1 m.2 m.1 := by
    unfold updf
    rw [if_pos rfl]
    exact fun z => l.own z.symm
  refine ⟨l.mem, l.pin, ok.tri _ l.mem, own, fun z hz => ?_⟩
  have a := adj_in ok (show Adj es m.1 z from hz)
  show f m.1 ≠ updf f m.1 m.2 z
  unfold updf
  rw [if_neg (Ne.symm a.2.2.2)]
  exact a.2.2.1
theorem updf_undo {n : Str} {v : Int} : updf (updf f n v) n (f n) = f := by
  funext x
  unfold updf
  by_cases e : x = n
  · rw [if_pos e, e]
  · rw [if_neg e, if_neg e]
theorem cyc_iff (ok : EsOk ns es f) {pn : List Str} {m : Str × Int} (l : Legal ns es f pn m) {x : Str} : Cyc es (updf f m.1 m.2) x ↔ Cyc es f x := by
  refine ⟨fun c => ?_, cyc_move ok l⟩
  have ok' := (move_keeps (f0 := f) (h := fun _ => 0) ok l fun e _ => by omega).1
  have := cyc_move ok' (legal_back ok l) c
  rw [updf_undo] at this
  exact this
/-! ### feasible lifts -/
structure Feas (ns : List Str) (es : List (Str × Str)) (f h : Str → Int) (pn : List Str) : Prop where
  fit : Fits es f h
  pin : ∀ x ∈ pn, h x = 0
  cyc : ∀ x, Cyc es f x → h x = 0
theorem fit_pm {a b : Str} : fitB f h a b = true ↔ slp f a b - 2 * (h a - h b) = 1 ∨ slp f a b - 2 * (h a - h b) = -1 := by
  rw [fit_iff]
  rcases slp_pm f a b with e | e
  · rw [if_pos e, e]
    omega
  · rw [if_neg (by rw [e]; decide), e]
    omega
/-- a move, and one less to go -/
theorem feas_move (ok : EsOk ns es f) {pn : List Str} {h : Str → Int} {m : Str × Int} (fe : Feas ns es f h pn) (l : Legal ns es f pn m) : Feas ns es (updf f m.1 m.2) (updf h m.1 (h m.1 - dlt (f m.1 - m.2))) pn := by
  have mk := (move_keeps (f0 := f) (h := fun _ => 0) ok l fun e _ => by omega).2
  have ne : ∀ x, Cyc es f x ∨ x ∈ pn → x ≠ m.1 := fun x hx z => by
    rcases hx with c | c
    · rw [z] at c
      exact cyc_still ok l c
    · rw [z] at c
      exact l.pin c
  refine ⟨fun e he => ?_, fun x hx => ?_, fun x hx => ?_⟩
  · have a := fit_pm.mp (fe.fit e he)
    have b := mk e he
    rw [fit_pm]
    have u1 : ∀ x, updf h m.1 (h m.1 - dlt (f m.1 - m.2)) x = h x - updf (fun _ => 0) m.1 (0 + dlt (f m.1 - m.2)) x := fun x => by
      unfold updf
      by_cases z : x = m.1
      · rw [if_pos z, if_pos z, z]
        omega
      · rw [if_neg z, if_neg z]
        show h x = h x - 0
        omega
    rw [u1, u1]
    omega
  · unfold updf
    rw [if_neg (ne x (.inr hx))]
    exact fe.pin x hx
  · have c := (cyc_iff ok l).mp hx
    unfold updf
    rw [if_neg (ne x (.inl c))]
    exact fe.cyc x c
/-! ### progress -/
end
end U

/-! frozen nodes: the plain law -/
namespace U
open PySem PySem.Spec PyProof.Rows L2
section
variable {ns : List Str} {es : List (Str × Str)} {f : Str → Int} {pn : List Str} {m : Str × Int}
end
end U

/-! paths of one slope; certificates -/
namespace U
open PySem PySem.Spec PyProof.Rows L2
def SlP (es : List (Str × Str)) (f : Str → Int) (dir : Int) : List Str → Prop
  | a :: b :: r => Adj es a b ∧ slp f a b = dir ∧ SlP es f dir (b :: r)
  | _ => True
section
variable {ns : List Str} {es : List (Str × Str)} {f : Str → Int} {dir : Int}
theorem SlP.join : ∀ {p r : List Str} {x : Str}, p.getLast? = some x → SlP es f dir p → SlP es f dir (x :: r) → SlP es f dir (p ++ r)
  | [], _, _, h, _, _ => nomatch h
  | [a], r, x, h, _, k => by
    have e : a = x := by simpa using h
    subst e
    exact k
  | a :: b :: q, r, x, h, w, k => by
    have h' : (b :: q).getLast? = some x := by rw [List.getLast?_cons_cons] at h; exact h
    exact ⟨w.1, w.2.1, SlP.join h' w.2.2 k⟩
theorem SlP.snoc {p : List Str} {x b : Str} (h : p.getLast? = some x) (w : SlP es f dir p) (a : Adj es x b) (e : slp f x b = dir) : SlP es f dir (p ++ [b]) := w.join h ⟨a, e, trivial⟩
theorem SlP.tail {a : Str} {p : List Str} (w : SlP es f dir (a :: p)) : SlP es f dir p := by
  cases p with
  | nil => trivial
  | cons b r => exact w.2.2
theorem SlP.left : ∀ {p r : List Str}, SlP es f dir (p ++ r) → SlP es f dir p
  | [], _, _ => trivial
  | [a], _, _ => trivial
  | a :: b :: q, r, w => ⟨w.1, w.2.1, SlP.left (p := b :: q) w.2.2⟩
theorem SlP.wk : ∀ {p : List Str}, SlP es f dir p → Wk es p
  | [], _ => trivial
  | [a], _ => trivial
  | a :: b :: q, w => ⟨w.1, SlP.wk w.2.2⟩
theorem SlP.at : ∀ {p : List Str}, SlP es f dir p → ∀ i (h : i + 1 < p.length), Adj es p[i] p[i + 1] ∧ slp f p[i] p[i + 1] = dir
  | a :: b :: q, w, 0, _ => ⟨w.1, w.2.1⟩
  | a :: b :: q, w, i + 1, h => SlP.at (p := b :: q) w.2.2 i (by simpa using h)
theorem SlP.of : ∀ {p : List Str}, (∀ i (h : i + 1 < p.length), Adj es p[i] p[i + 1] ∧ slp f p[i] p[i + 1] = dir) → SlP es f dir p
  | [], _ => trivial
  | [a], _ => trivial
  | a :: b :: q, h => ⟨(h 0 (by simp)).1, (h 0 (by simp)).2, SlP.of fun i hi => h (i + 1) (by simpa using hi)⟩
theorem PathTo.slp {x y : Str} {p : List Str} (h : PathTo (nbS es) (slOk f dir) x y p) : SlP es f dir p ∧ p.head? = some x ∧ p.getLast? = some y := by
  induction h with
  | one => exact ⟨trivial, rfl, rfl⟩
  | @snoc a b p q m o ih =>
    obtain ⟨i1, i2, i3⟩ := ih
    refine ⟨i1.snoc i3 (nbS_mem.mp m) (of_decide_eq_true o), ?_, ?_⟩
    · cases p with
      | nil => cases i2
      | cons c r => exact i2
    · simp only [List.getLast?_append, List.getLast?_singleton, Option.some_or]
end
end U

/-! cheapest paths: the plain law -/
namespace U
open PySem PySem.Spec PyProof.Rows L2 PySem.W
/-- what the steps of a path cost together -/
def ctF (w : Str → Str → Nat) : List Str → Nat
  | x :: y :: r => w x y + ctF w (y :: r)
  | _ => 0
section
variable {w : Str → Str → Nat}
theorem ctF_join : ∀ {p r : List Str} {x : Str}, p.getLast? = some x → ctF w (p ++ r) = ctF w p + ctF w (x :: r)
  | [], _, _, h => nomatch h
  | [a], r, x, h => by
    have : a = x := by simpa using h
    subst this
    show _ = 0 + _
    rw [Nat.zero_add]
    rfl
  | a :: b :: q, r, x, h => by
    have h' : (b :: q).getLast? = some x := by rw [List.getLast?_cons_cons] at h; exact h
    have ih := ctF_join (p := b :: q) (r := r) h'
    show w a b + ctF w (b :: q ++ r) = w a b + ctF w (b :: q) + _
    rw [ih]
    omega
theorem ctF_snoc {p : List Str} {x o : Str} (h : p.getLast? = some x) : ctF w (p ++ [o]) = ctF w p + w x o := by
  rw [ctF_join h]
  rfl
end
/-! ### ranks -/
def dRk (c : Nat) (p : List Str) : PyData := .tuple [.int c, .int p.length, .list (p.map PyData.str)]
def rl (w : Str → Str → Nat) (p q : List Str) : Bool := dataLt (dRk (ctF w p) p) (dRk (ctF w q) q)
section
variable {w : Str → Str → Nat} {p q r : List Str}
theorem rl_irrefl : rl w p p = false := lex_irrefl _
theorem rl_less (h : ctF w p < ctF w q ∨ (ctF w p = ctF w q ∧ p.length < q.length)) : rl w p q = true := by
  unfold rl dRk
  rw [dataLt_tuple]
  rcases h with h | ⟨e, h⟩
  · rw [dataLt_all_no (by simp [alike]) (by simp [PyData.eqv]; omega), dataLt_int]
    exact decide_eq_true (by omega)
  · rw [dataLt_all_yes (by simp [alike]) (by simp [PyData.eqv]; omega), dataLt_all_no (by simp [alike]) (by simp [PyData.eqv]; omega), dataLt_int]
    exact decide_eq_true (by omega)
theorem rl_cost (h : rl w p q = false) : ctF w q ≤ ctF w p := by
  by_cases z : ctF w p < ctF w q
  · rw [rl_less (.inl z)] at h
    cases h
  · omega
end
/-! ### all arrangements -/
/-! ### the paths found -/
structure ChS (ns : List Str) (es : List (Str × Str)) (w : Str → Str → Nat) (src ks : List Str) (P : Str → List Str) (qu : List Str) (pend : Str → Str → Prop) : Prop where
  nd : ks.Nodup
  inN : ∀ x ∈ ks, x ∈ ns
  sv : ∀ x ∈ src, x ∈ ks ∧ rl w [x] (P x) = false
  wk : ∀ x ∈ ks, Wk es (P x)
  hd : ∀ x ∈ ks, ∃ s ∈ src, (P x).head? = some s
  ls : ∀ x ∈ ks, (P x).getLast? = some x
  ndp : ∀ x ∈ ks, (P x).Nodup
  pin : ∀ x ∈ ks, ∀ y ∈ P x, y ∈ ns
  pre : ∀ x ∈ ks, ∀ a r, P x = a ++ r → ∀ z, a.getLast? = some z → z ∈ ks ∧ rl w a (P z) = false
  qin : ∀ x ∈ qu, x ∈ ks
  cl : ∀ x ∈ ks, ∀ o, Adj es x o → x ∈ qu ∨ pend x o ∨ (o ∈ ks ∧ rl w (P x ++ [o]) (P o) = false)
section
variable {ns : List Str} {es : List (Str × Str)} {f : Str → Int} {w : Str → Str → Nat} {src ks : List Str} {P : Str → List Str} {qu : List Str} {pend pend' : Str → Str → Prop}
theorem ChS.start (nd : src.Nodup) (hin : ∀ x ∈ src, x ∈ ns) : ChS ns es w src src (fun x => [x]) src (fun _ _ => False) := by
  refine ⟨nd, hin, fun x hx => ⟨hx, rl_irrefl⟩, fun _ _ => trivial, fun x hx => ⟨x, hx, rfl⟩, fun _ _ => rfl, fun x _ => by simp, fun x hx y hy => ?_, fun x hx a r e z hz => ?_, fun _ h => h, fun x hx o _ => .inl hx⟩
  · rw [List.mem_singleton.mp hy]
    exact hin x hx
  · cases a with
    | nil => cases hz
    | cons b a =>
      rw [List.cons_append] at e
      obtain ⟨rfl, e2⟩ := List.cons.inj e
      obtain ⟨rfl, rfl⟩ := List.append_eq_nil_iff.mp e2.symm
      cases hz
      exact ⟨hx, rl_irrefl⟩
/-- c is what the cheapest way from src to x costs -/
structure MinC (es : List (Str × Str)) (w : Str → Str → Nat) (src : List Str) (x : Str) (c : Nat) : Prop where
  ex : ∃ q, ∃ s ∈ src, Wk es q ∧ q.head? = some s ∧ q.getLast? = some x ∧ ctF w q = c
  le : ∀ q, ∀ s ∈ src, Wk es q → q.head? = some s → q.getLast? = some x → c ≤ ctF w q
theorem MinC.uniq {x : Str} {c d : Nat} (a : MinC es w src x c) (b : MinC es w src x d) : c = d := by
  obtain ⟨q, s, hs, h1, h2, h3, h4⟩ := a.ex
  obtain ⟨q', s', hs', h1', h2', h3', h4'⟩ := b.ex
  have := a.le q' s' hs' h1' h2' h3'
  have := b.le q s hs h1 h2 h3
  omega
/-- what is found at the end -/
theorem ChS.fin (c : ChS ns es w src ks P [] (fun _ _ => False)) : (∀ x ∈ ks, MinC es w src x (ctF w (P x))) ∧ ∀ q, ∀ s ∈ src, Wk es q → q.head? = some s → ∀ x, q.getLast? = some x → x ∈ ks := by
  have key : ∀ (r : List Str) (a : Str), a ∈ ks → Wk es (a :: r) → ∀ y, (a :: r).getLast? = some y → y ∈ ks ∧ ctF w (P y) ≤ ctF w (P a) + ctF w (a :: r) := by
    intro r
    induction r with
    | nil =>
      intro a ha _ y hy
      have : a = y := by simpa using hy
      subst this
      exact ⟨ha, Nat.le_add_right _ _⟩
    | cons b r ih =>
      intro a ha wk y hy
      rw [List.getLast?_cons_cons] at hy
      rcases c.cl a ha b wk.1 with h | h | ⟨h1, h2⟩
      · cases h
      · exact h.elim
      · obtain ⟨y1, y2⟩ := ih b h1 wk.2 y hy
        have k1 := rl_cost h2
        rw [ctF_snoc (c.ls a ha)] at k1
        refine ⟨y1, ?_⟩
        show _ ≤ ctF w (P a) + (w a b + ctF w (b :: r))
        omega
  have all : ∀ q, ∀ s ∈ src, Wk es q → q.head? = some s → ∀ x, q.getLast? = some x → x ∈ ks ∧ ctF w (P x) ≤ ctF w q := fun q s hs wk hq x hx => by
    cases q with
    | nil => cases hq
    | cons a r =>
      obtain rfl : a = s := Option.some.inj hq
      obtain ⟨s1, s2⟩ := c.sv a hs
      obtain ⟨y1, y2⟩ := key r a s1 wk x hx
      have := rl_cost s2
      have e0 : ctF w [a] = 0 := rfl
      exact ⟨y1, by omega⟩
  refine ⟨fun x hx => ⟨?_, fun q s hs wk hq hl => (all q s hs wk hq x hl).2⟩, fun q s hs wk hq x hl => (all q s hs wk hq x hl).1⟩
  obtain ⟨s, hs, e⟩ := c.hd x hx
  exact ⟨P x, s, hs, c.wk x hx, e, c.ls x hx, rfl⟩
end
end U

/-! data compared by <; kvG changed at a key; append to a long list -/
namespace U
open PySem PySem.Spec PyProof.Rows L2
def rLtD (K : PySem.W.Frag) : R2 := fun x y H Q => ∃ d d', Dp K H x d ∧ Dp K H y d' ∧ PySem.W.alike d d' = true ∧ d ≠ .none ∧ d.depth ≤ 60 ∧ Q (.bl (PySem.W.dataLt d d')) H
theorem kLtD {X : Cx} (K : PySem.W.Frag) (hK : X.K = K) (hu : X.A.units + 64 < cLine) : OpR X (compareOp .Lt) (rLtD K) := by
  subst hK
  intro pins s σ H x y v u Q I rx ry ⟨d, d', hd, he, al, nn, dep, q⟩
  obtain ⟨_, r1⟩ := Dp.reads I _ _ _ hd rx
  obtain ⟨_, r2⟩ := Dp.reads I _ _ _ he ry
  exact PySem.W.lt_data r1 r2 al nn (by omega) ⟨.bl _, H, I, rfl, q⟩
end U

/-! own exceptions with one field: made, raised, kept, read -/
namespace U
open PySem PySem.Spec PyProof.Rows L2
section
variable {σ : L2.St} {H : Hp} {Q : VK} {D : Ends} {K : PySem.W.Frag} {te : TE} {ta : TA}
theorem rd_vei {v : V} (h : ta σ H fun vs H1 => ∃ (a C : Addr) (ws : List V), vs = .ref a :: ws ∧ ws.length ≤ 1000 ∧ OexC K C ∧ H1 a = some (exo a C none) ∧ Q .non H1) : tVeI K ta σ H Q := h
theorem rd_ost {f : Str} {to : TE} (h : te σ H fun y H1 => to σ H1 fun x H2 => ∃ a C : Addr, x = .ref a ∧ OexC K C ∧ PySem.W.findIn K (.ref C) f = some none ∧
  ((H2 a = some (exo a C none) ∧ ∀ dx, H2 dx = none → dx ≠ a → D.nx σ (upd (upd H2 dx (exd dx [(f, y)])) a (exo a C (some dx)))) ∨
    ∃ (dx : Addr) (fs : List (Str × V)), H2 a = some (exo a C (some dx)) ∧ H2 dx = some (exd dx fs) ∧ fs.length ≤ 900 ∧ D.nx σ (upd H2 dx (exd dx ((f, y) :: fs))))) : tOst K f to te D σ H := h
end
/-! the class's facts, gathered -/
structure OwnX (K : PySem.W.Frag) (mg : Str → Option Value) (x : Str) (f : Str) (C CB fI : Addr) : Prop where
  gC : mg x = some (.ref C)
  ox : OexC K C
  no : PySem.W.findIn K (.ref C) f = some none
  iC : PySem.W.findIn K (.ref C) "__init__" = some (some (.ref fI))
  tI : PySem.W.typeIn K (.ref fI) = some (.type "function")
  xf : XfC K C
  gB : mg "InputError" = some (.ref CB)
  bi : BaseI K CB
  ex : PySem.W.exmOne K (.ref C) (.ref C) = some true
  eb : PySem.W.exmOne K (.ref C) (.ref CB) = some true
end U


/-! is_move of anything -/
namespace Law
open PySem PySem.Spec PyProof.Rows L2 U


/-- c: not a move by its form (o = none), or a text and a number -/
inductive CandAt (K : PySem.W.Frag) (H : Hp) : V → Option (Str × Int) → Prop
  | odd {c : V} {a : Ty} : TyIs K H c a → isT a .tup = false → CandAt K H c none
  | len {a : Addr} {xs : List V} : H a = some (.tup xs) → xs.length ≠ 2 → CandAt K H (.ref a) none
  | node {a : Addr} {x y : V} {t : Ty} : H a = some (.tup [x, y]) → TyIs K H x t → isT t .str = false → CandAt K H (.ref a) none
  | val {a : Addr} {x : Str} {y : V} {t : Ty} : H a = some (.tup [.str x, y]) → TyIs K H y t → t ≠ .int → CandAt K H (.ref a) none
  | mv {a : Addr} {x : Str} {v : Int} : H a = some (.tup [.str x, .int v]) → CandAt K H (.ref a) (some (x, v))
section
variable {P : Program} {w : World} {K : PySem.W.Frag} {mg : Str → Option Value} {base : Heap}
end
end Law


/-! first_invalid -/
namespace Law
open PySem PySem.Spec PyProof.Rows L2 U LamX NdefX


theorem rd_iEnumTq {K : PySem.W.Frag} {ta : TA} {σ : L2.St} {H : Hp} {R : It → Hp → Prop} (h : ta σ H fun vs H1 => ∃ a xs, vs = [.ref a] ∧ SqT K H1 a xs ∧ R (Iet K a) H1) : iEnumT K ta σ H R := h
theorem rd_hd {f : Addr} {Pre : Hp → Prop} {i : Nat} {sp : Sp} {E : XK} {t : TA} {σ : L2.St} {H : Hp} {Q : VK} (h : σ[i]? = some (some (.ref f)) ∧ Pre H ∧ t σ H fun vs H1 => Pre H1 ∧ sp vs H1 Q E) : tHd f Pre i sp E t σ H Q := h
theorem sqT_sameQ {K : PySem.W.Frag} {H H' : Hp} {a : Addr} {xs : List V} (h : SqT K H a xs) (s : Same H H') : SqT K H' a xs := by
  rcases h with (h | ⟨o, h⟩) | h
  · exact .inl (.inl (s _ _ h))
  · exact .inl (.inr ⟨o, s _ _ h⟩)
  · exact .inr h
/-- the item at i is invalid, or not greater than the one before -/
def badAt (good : V → Bool) (D : V → PyData) (xs : List V) (i : Nat) : Bool :=
  !good (xs[i]?.getD .non) || (decide (0 < i) && !PySem.W.dataLt (D (xs[i - 1]?.getD .non)) (D (xs[i]?.getD .non)))
/-- what is asked of the items -/
structure ItemsOk (K : PySem.W.Frag) (H : Hp) (good : V → Bool) (D : V → PyData) (xs : List V) : Prop where
  dp : ∀ x ∈ xs, good x = true → ∀ H', Same H H' → Dp K H' x (D x)
  al : ∀ x ∈ xs, ∀ y ∈ xs, good x = true → good y = true → PySem.W.alike (D x) (D y) = true
  nn : ∀ x ∈ xs, good x = true → D x ≠ .none ∧ (D x).depth ≤ 60
def spInv (P : Program) (w : World) (K : PySem.W.Frag) (mg : Str → Option Value) (base : Heap) (k : Nat) : List Env → Heap → Sp := fun l h vs H Q _ => ∃ (ti fa : Addr) (xs : List V) (Pre : Hp → Prop) (sp : Sp) (good : V → Bool) (D : V → PyData), vs = [.ref ti, .ref fa] ∧ SqT K H ti xs ∧ xs.length ≤ 100000 ∧
  Handed P w K mg base k l h H fa Pre sp ∧ (∀ H', Same H H' → Pre H') ∧ (∀ x ∈ xs, ∀ (H1 : Hp) (Q1 : VK), Same H H1 → (∀ H2, Same H1 H2 → Q1 (.bl (good x)) H2) → sp [x] H1 Q1 E0) ∧ ItemsOk K H good D xs ∧
  (∀ i, i < xs.length → badAt good D xs i = true → (∀ j, j < i → badAt good D xs j = false) → ∀ H', Same H H' → Q (.int i) H') ∧ ((∀ i, i < xs.length → badAt good D xs i = false) → ∀ H', Same H H' → Q .non H')
section
variable {P : Program} {w : World} {K : PySem.W.Frag} {mg : Str → Option Value} {base : Heap}
theorem ok_inv {f : Addr} {fd : FuncData} {k0 : Nat} (F : Fun K "first_invalid" "first_invalid" s_first_invalid f fd) (hk0 : k0 ≤ 2) (B : Bt mg) : FnH P w K mg base CX0 3 f fd ["items", "is_valid"] (spInv P w K mg base k0) := by
  refine fnH0 F sc_first_invalid (fun l h vs H Q E z => ?_) (fun cdv A outer s H vs Q E hr h => ?_)
  · obtain ⟨ti, fa, xs, Pre, sp, good, D, rfl, _⟩ := z
    rfl
  · obtain ⟨ti, fa, xs, Pre, sp, good, D, rfl, hti, len, hw, pre, call, ok, q1, q2⟩ := h
    have nd := sc_first_invalid.nd
    have hu := hr.u1
    refine ⟨_, (pss_cons (ps_for PassesOwn.never rfl (ki_enumT K rfl (by rfl) B.enumerate (pa_cons (pv 0) pa_nil)) (kg_tup (n := 2) K rfl rfl (pgs_cons (pg_name (i := 2) nd rfl (by first | exact Or.inl rfl | exact Or.inr rfl)) (pgs_cons (pg_name (i := 3) nd rfl (by first | exact Or.inl rfl | exact Or.inr rfl)) pgs_nil))) (pss_one (ps_if (PW.pt (pw_or (pt_not (pt_val (pe_hd (i := 1) hw rfl hr hk0 rfl (by first | exact Or.inl rfl | exact Or.inr (Or.inl rfl)) (pa_cons (pv 3) pa_nil)))) (pw_or1 (PW.pt (pw_and (pt_cmpR uGt (pv 2) pe_int (nomark _)) (pw_and1 (pt_not (pt_cmpR (kLtD K rfl hr.u64) (pe_ix (kIx K rfl) (pv 0) (pe_op uSub (pv 2) pe_int) (fun _ _ => rfl)) (pv 3) (nomark _))))))))) (pss_one (ps_ret (pv 2))) pss_nil)))
  (pss_one (ps_ret pe_non))), ?_⟩
    wtm_at "rd"
    refine rd_iEnumTq ?_
    wtm_at "rd"
    refine ⟨ti, xs, rfl, hti, ?_⟩
    refine turnsW (walk_enumT (K := K) (a := ti) (xs := xs)) (fun i σ H' => ∃ u2 u3 : Option V, σ = [some (.ref ti), some (.ref fa), u2, u3] ∧ Same H H' ∧ ∀ j, j < i → badAt good D xs j = false) ⟨_, _, rfl, (fun _ _ z => z), (fun j z => absurd z (Nat.not_lt_zero j))⟩ ?_ ?_ ?_
    · rintro i σ H' hi ⟨u2, u3, rfl, s1, _⟩
      exact sqT_sameQ hti s1
    · rintro i y σ H' H3 hi ⟨u2, u3, rfl, s1, bef⟩ ⟨T, x1, y1, rfl, fT, rfl, e1, e2⟩
      have e2 : xs[i]? = some y1 := e2
      have hx := Option.some.inj e1
      subst hx
      have hin : i < xs.length := (List.getElem?_eq_some_iff.mp e2).1
      have hy : y1 ∈ xs := List.mem_of_getElem? e2
      have kT := Same.new (o := .tup [.int (i : Nat), y1]) fT
      refine rd_unp (SqT.of upd_same) rfl ?_
      have s3 := s1.trans kT
      generalize upd H' T (.tup [.int (i : Nat), y1]) = H3 at *
      wtm_at "rd"
      refine rd_hd ⟨rfl, pre _ s3, ?_⟩
      wtm_at "rd"
      refine ⟨pre _ s3, call y1 hy H3 _ s3 fun H4 s4 => ?_⟩
      have s5 := s3.trans s4
      have bdef : badAt good D xs i = (!good y1 || (decide (0 < i) && !PySem.W.dataLt (D (xs[i - 1]?.getD .non)) (D y1))) := by
        unfold badAt
        rw [e2]
        rfl
      wtm_at "rd"
      by_cases c : good y1 = true
      · rw [c]
        wtm_at "rd"
        by_cases i0 : 0 < i
        · have l2 : i - 1 < xs.length := by omega
          have e3 := List.getElem?_eq_getElem l2
          have z2 : xs[i - 1] ∈ xs := List.getElem_mem l2
          have g2 : good xs[i - 1] = true := by
            have := bef (i - 1) (by omega)
            unfold badAt at this
            rw [e3] at this
            simp only [Option.getD_some, Bool.or_eq_false_iff] at this
            simpa using this.1
          refine rd_yes (show (0 : Int) < (i : Int) by omega) ?_
          wtm_at "rd"
          refine rd_ixT (sqT_sameQ hti s5) (v := xs[i - 1]) (by rw [show ((i : Int) - 1) = ((i - 1 : Nat) : Int) by omega]; exact atI_nat e3) ?_
          wtm_at "rd"
          refine ⟨D xs[i - 1], D y1, ok.dp _ z2 g2 _ s5, ok.dp _ hy c _ s5, ok.al _ z2 _ hy g2 c, (ok.nn _ z2 g2).1, (ok.nn _ z2 g2).2, ?_⟩
          rw [e3, c] at bdef
          simp only [Option.getD_some, Bool.not_true, Bool.false_or, decide_eq_true i0, Bool.true_and] at bdef
          cases lt : PySem.W.dataLt (D xs[i - 1]) (D y1) with
          | true =>
            rw [lt] at bdef
            wtm_at "rd"
            exact ⟨_, _, rfl, s5, fun j hj => by
              by_cases z : j < i
              · exact bef j z
              · rw [show j = i by omega]
                exact bdef⟩
          | false =>
            rw [lt] at bdef
            wtm_at "rd"
            exact q1 i hin bdef bef _ s5
        · refine rd_no (show ¬ ((0 : Int) < (i : Int)) by omega) ?_
          wtm_at "rd"
          rw [c, decide_eq_false i0] at bdef
          exact ⟨_, _, rfl, s5, fun j hj => by
            by_cases z : j < i
            · exact bef j z
            · rw [show j = i by omega]
              exact bdef⟩
      · have c : good y1 = false := by simpa using c
        rw [c]
        wtm_at "rd"
        refine q1 i hin ?_ bef _ s5
        rw [bdef, c]
        rfl
    · rintro σ H' ⟨u2, u3, rfl, s1, bef⟩
      wtm_at "rd"
      exact q2 bef _ s1
end
end Law

/-! nested defs: what several texts want -/
namespace Law
open PySem PySem.Spec PyProof.Rows L2 U LamX NdefX
theorem rd_cHd {sp : List Env → Heap → Sp} {l : List Env} {R : L2.St → Heap → Hp → Prop} {t : TA} {σ : L2.St} {H : Hp} {Q : VK} (h : t σ H fun vs H1 => ∀ hh, R σ hh H1 → sp l hh vs H1 Q E0) : tCHd sp l R t σ H Q := h
theorem rd_ndef {T : List NTab} {i : Nat} {mk : Addr → NF} {D : Ends} {σ : L2.St} {H : Hp} (h : TabsN T H ∧ ∀ (f c' : Addr) (H1 : Hp), ExtN H H1 → TabsN T H1 → H f = none → H1 f = some (FnO f (mk c')) → H1 c' = some (CodeO c' (mk c').qual) → D.nx (σ.set i (some (.ref f))) H1) : tNdef T i mk D σ H := h
/-- tables with names by place, from tables with one name -/
def NT (T : List (Addr × Str)) : List NTab := T.map fun p => (p.1, fun _ _ => p.2)
theorem nt_of {T : List (Addr × Str)} {H : Hp} (t : Tabs T H) : TabsN (NT T) H := fun p hp => by
  obtain ⟨q, hq, rfl⟩ := List.mem_map.mp hp
  exact TabN.of (t q hq)
theorem nt_to {T : List (Addr × Str)} {H : Hp} (t : TabsN (NT T) H) : Tabs T H := fun p hp => TabN.to (t _ (List.mem_map.mpr ⟨p, hp, rfl⟩))
theorem nt_mem {T : List (Addr × Str)} {a : Addr} {q : Str} (h : (a, q) ∈ T) : (a, fun _ _ => q) ∈ NT T := List.mem_map.mpr ⟨_, h, rfl⟩
theorem nt_one {T : List (Addr × Str)} {a : Addr} {q : Str} (h : ∀ y ∈ T, y.1 = a → y.2 = q) : ∀ p ∈ NT T, p.1 = a → p.2 = fun _ _ => q := fun p hp e => by
  obtain ⟨y, hy, rfl⟩ := List.mem_map.mp hp
  have := h y hy e
  rw [this]
theorem Ob.noTup {H H' : Hp} {v : V} (h : Ob H v) (nt : ∀ a xs, v = .ref a → H a ≠ some (.tup xs)) (x : ExtN H H') {a : Addr} {xs : List V} (e : v = .ref a) : H' a ≠ some (.tup xs) := by
  subst e
  rcases h with h | ⟨_, h⟩ | ⟨_, h⟩ | ⟨_, h⟩ | ⟨b, o, h, h1, h2⟩
  · cases h
  · cases h
  · cases h
  · cases h
  · cases h
    intro z
    rcases h2 with ⟨ys, rfl⟩ | ⟨ys, rfl⟩ | ⟨ys, rfl⟩
    · rw [x _ _ h1 nofun] at z
      cases z
    · exact nt a ys rfl h1
    · rw [x _ _ h1 nofun] at z
      cases z
theorem rd_cHx {sp : List Env → Heap → Sp} {l : List Env} {R : L2.St → Heap → Hp → Prop} {W : WX} {t : TA} {σ : L2.St} {H : Hp} {Q : VK} (h : t σ H fun vs H1 => ∀ hh, R σ hh H1 → sp l hh vs H1 Q fun cls d H' => W cls d σ H') : tCHx sp l R W t σ H Q := h
/-- the frames of a def that runs: its own, then the callers' -/
theorem frs_own {env : Env} {out : List Env} {h : Heap} (e : env.frame = some h.objs.size) : ∀ c, c ∈ frs (env :: out) → c ∈ frs out ∨ h.get? c = none := fun c hc => by
  unfold frs at hc ⊢
  rw [List.filterMap_cons_some e] at hc
  rcases List.mem_cons.mp hc with rfl | hc
  · exact .inr (Heap.get?_none_of_le (Nat.le_refl _))
  · exact .inl hc
theorem handed_up {P : Program} {w : World} {K : PySem.W.Frag} {mg : Str → Option Value} {base : Heap} {k j : Nat} {l : List Env} {h : Heap} {H : Hp} {f : Addr} {Pre : Hp → Prop} {sp : Sp} (x : Handed P w K mg base k l h H f Pre sp) (kj : k ≤ j) : Handed P w K mg base j l h H f Pre sp := by
  rcases x with ⟨F, ps, fr, ws, spF, x1, x2⟩ | ⟨fd, ps, x1, x2⟩
  · exact .inl ⟨F, ps, fr, ws, spF, ⟨x1.ln, fun A out s H us vs ws Q E rm => x1.rn A out s H us vs ws Q E (rm.mono kj)⟩, x2⟩
  · exact .inr ⟨fd, ps, ⟨x1.len, fun A out s H args us vs Q E rm => x1.go A out s H args us vs Q E (rm.mono kj)⟩, x2⟩
/-- what an own error of two fields carries -/
def Fld2 (f1 f2 : Str) (C : Addr) (v1 v2 : V) (H : Hp) (E : XK) : Prop := ∀ (d : Addr) (H' : Hp), Same H H' → H' d = some (.xd [(f2, v2), (f1, v1)]) → E (.ref C) (some d) H'
def Fld2Y (T : List (Addr × Str)) (f1 f2 : Str) (C : Addr) (v1 v2 : V) (H : Hp) (E : XK) : Prop := ∀ (d : Addr) (H' : Hp), ExtN H H' → Tabs T H' → H' d = some (.xd [(f2, v2), (f1, v1)]) → E (.ref C) (some d) H'
end Law

/-! calls with keywords and defaults of a def that may raise -/
namespace U
open PySem PySem.Spec PyProof.Rows L2
end U

/-! own exceptions with two fields -/
namespace U
open PySem PySem.Spec PyProof.Rows L2
/-- __init__(self, v1, v2): the fields f1 and f2 -/
def spInit2 (C : Addr) (f1 f2 : Str) : Sp := fun vs H Q _ => ∃ (a : Addr) (v1 v2 : V), vs = [.ref a, v1, v2] ∧ H a = some (exo a C none) ∧
  ∀ (dx : Addr) (H' : Hp), H dx = none → dx ≠ a → H' a = some (exo a C (some dx)) → H' dx = some (exd dx [(f2, v2), (f1, v1)]) → (∀ b, b ≠ a → b ≠ dx → H' b = H b) → Q .non H'
theorem rd_mk2 {C : Addr} {f1 f2 : Str} {v1 v2 : V} {H : Hp} {Q : XK} (h : ∀ (dd : Addr) (H' : Hp), Same H H' → H dd = none → H' dd = some (.xd [(f2, v2), (f1, v1)]) → Q (.ref C) (some dd) H') :
    [v1, v2].length ≤ 1000 ∧ ∀ a, H a = none → spInit2 C f1 f2 (.ref a :: ([v1, v2] ++ [])) (upd H a (exo a C none)) (fun w H2 => w = .non ∧ ∃ (d : Addr) (fs : List (Str × V)), H2 a = some (exo a C (some d)) ∧ H2 d = some (exd d fs) ∧ H d = none ∧ Q (.ref C) (some d) (upd (del H2 a) d (.xd fs))) (fun _ _ _ => False) := by
  refine ⟨(by show 2 ≤ 1000; decide), fun a na => ⟨a, v1, v2, rfl, upd_same, fun dx H' ndx nda e1 e2 e3 => ?_⟩⟩
  have nd0 : H dx = none := by
    rw [upd_ne nda] at ndx
    exact ndx
  refine ⟨rfl, dx, [(f2, v2), (f1, v1)], e1, e2, nd0, ?_⟩
  refine h dx _ (fun b o e => ?_) nd0 upd_same
  have n1 : b ≠ dx := ne_of_none e nd0
  have n2 : b ≠ a := ne_of_none e na
  rw [upd_ne n1, del_ne n2, e3 b n2 n1, upd_ne n2]
  exact e
structure ErrX2 (P : Program) (w : World) (K : PySem.W.Frag) (mg : Str → Option Value) (base : Heap) (x f1 f2 : Str) (C CB : Addr) : Prop where
  ex : ∃ (fI : Addr) (fd : FuncData), OwnX K mg x f1 C CB fI ∧ FnOk P w K mg base CX0 1 fI fd ["self", f1, f2] (spInit2 C f1 f2) ∧ Binds K fd ["self", f1, f2] []
  no2 : PySem.W.findIn K (.ref C) f2 = some none
/-- raise X(e1, e2): reading rd_rz2, the two's, rd_mk2 -/
def tRz2 (C : Addr) (f1 f2 : Str) (t1 t2 : TE) (W : WX) : TS := fun _ σ H => tMkO C (spInit2 C f1 f2) [] (tCons t1 (tCons t2 tNil)) σ H fun cls d H' => W cls d σ H'
theorem ps_rz2 {X : Cx} {W : WX} {j : Nat} {x f1 f2 : Str} {C CB : Addr} {e1 e2 : Expr} {t1 t2 : TE} {p p2 pos : Pos} (T : ErrX2 X.prog X.w X.K X.mg X.base x f1 f2 C CB) (hr : Rm j X.A) (hk : 2 ≤ j) (hc : X.calm = true) (tk : Takes X W) (hg : Gl X x) (h1 : PE X e1 t1) (h2 : PE X e2 t2)
    (hdb : (x == ("__debug__" : Str)) = false := by decide) (hs : starEach [e1, e2] X.env = (false, eval e1 X.env) :: starEach [e2] X.env := by rfl) (hs2 : starEach [e2] X.env = (false, eval e2 X.env) :: starEach [] X.env := by rfl) (hpl : (backTo p2 (starEach [e2] X.env)).any (·.1) = false := by rfl) :
    PS X (.Raise (some (.Call (.Name x p) [e1, e2] [] p2)) none pos) (tRz2 C f1 f2 t1 t2 W) := by
  obtain ⟨fI, fd, T1, F1, b⟩ := T.ex
  exact ps_raise (pos := pos) hc tk (pmk_oex (p := p) (pos := p2) (dvs := []) T1.ox T1.iC T1.tI F1 (hr.r.mono hk) b .nil pass0 hg T1.gC (pa_cons h1 (pa_cons h2 pa_nil (hs := hs2)) (hs := hs)) hdb hs hpl)
theorem rd_rz2 {C : Addr} {f1 f2 : Str} {t1 t2 : TE} {W : WX} {D : Ends} {σ : L2.St} {H : Hp} (h : tCons t1 (tCons t2 tNil) σ H fun vs H1 => vs.length ≤ 1000 ∧ ∀ a, H1 a = none → spInit2 C f1 f2 (.ref a :: (vs ++ [])) (upd H1 a (exo a C none))
  (fun v H2 => v = .non ∧ ∃ (d : Addr) (fs : List (Str × V)), H2 a = some (exo a C (some d)) ∧ H2 d = some (exd d fs) ∧ H1 d = none ∧ W (.ref C) (some d) σ (upd (del H2 a) d (.xd fs))) (fun _ _ _ => False)) : tRz2 C f1 f2 t1 t2 W D σ H := h
end U

/-! the facts of an own error class, gathered from the fragment -/
namespace U
open PySem PySem.Spec PyProof.Rows L2
theorem exm_sub {K : PySem.W.Frag} {S T : Addr} (h1 : PySem.W.subIn K (.ref S) (.type "BaseException") = some true) (b1 : PySem.W.subIn K (.ref T) (.type "BaseException") = some true) (h2 : PySem.W.isClsIn K T = true) (h3 : PySem.W.typeIn K (.ref T) = some (.type "type")) (h4 : PySem.W.subIn K (.ref S) (.ref T) = some true) :
    PySem.W.exmOne K (.ref S) (.ref T) = some true := by
  have e1 : (PySem.W.subIn K (.ref T) (.type "BaseException") == some true) = true := by rw [b1] <;> rfl
  have e2 : ((PySem.W.clsIn K T).isSome && PySem.W.typeIn K (.ref T) == some (.type "type")) = true := by
    have h2' : (PySem.W.clsIn K T).isSome = true := h2
    rw [h2', h3] <;> rfl
  show (if (PySem.W.subIn K (.ref T) (.type "BaseException") == some true) = true then (if ((PySem.W.clsIn K T).isSome && PySem.W.typeIn K (.ref T) == some (.type "type")) = true then PySem.W.subIn K (.ref S) (.ref T) else none) else none) = some true
  rw [if_pos e1, if_pos e2]
  exact h4
theorem own_mk {K : PySem.W.Frag} {mg : Str → Option Value} {x f : Str} {C CB fI : Addr} {nm q : Str} {N : Addr} {bs : List Value} {sn : List Str} {sub : List Value} {ab : Bool} {col : Option Bool} {dd : Option Addr} {m0 m1 m2 m3 m5 : Option Value}
    (gC : mg x = some (.ref C)) (gB : mg "InputError" = some (.ref CB))
    (xL : K.lookup C = some (excClassObj nm q C N bs [.ref CB, .type "ValueError", .type "Exception", .type "BaseException", .type "object"] true sn sub ab col dd m0 m1 m2 m3 m5 "ValueError.__new__"))
    (sa : PySem.W.findIn K (.ref C) "__setattr__" = some (some (.builtin "object.__setattr__"))) (ga : PySem.W.findIn K (.ref C) "__getattribute__" = some (some (.builtin "BaseException.__getattribute__"))) (gg : PySem.W.findIn K (.ref C) "__getattr__" = some none) (nb : PySem.W.findIn K (.ref C) f = some none)
    (a1 : PySem.W.findIn K (.ref C) "__init__" = some (some (.ref fI))) (t1 : PySem.W.typeIn K (.ref fI) = some (.type "function"))
    (kC : PySem.W.keepIn K (.ref C) = true) (eC : PySem.W.subIn K (.ref C) (.type "BaseException") = some true) (tC : PySem.W.typeIn K (.ref C) = some (.type "type")) (hC : PySem.W.hasDictIn K C = true) (iC : PySem.W.isClsIn K C = true) (sC : PySem.W.subIn K (.ref C) (.ref C) = some true)
    (kB : PySem.W.keepIn K (.ref CB) = true) (eB : PySem.W.subIn K (.ref CB) (.type "BaseException") = some true) (tB : PySem.W.typeIn K (.ref CB) = some (.type "type")) (iB : PySem.W.isClsIn K CB = true) (sB : PySem.W.subIn K (.ref C) (.ref CB) = some true)
    (gB2 : PySem.W.specialIn K (.ref CB) "__getattribute__" = some (some (.builtin "type.__getattribute__"))) (rB : PySem.W.readsIn K CB (.type "type") = true) (aB : PySem.W.findCls K (.ref CB) (.type "type") "__init__" = some (.val (.builtin "ValueError.__init__"))) : OwnX K mg x f C CB fI where
  gC := gC
  ox := ⟨⟨nm, q, N, bs, _, sn, sub, ab, col, dd, m0, m1, m2, m3, m5, xL, by first | rfl | decide +kernel⟩, sa, eC, tC, kC⟩
  no := nb
  iC := a1
  tI := t1
  xf := ⟨ga, gg, eC, hC⟩
  gB := gB
  bi := ⟨kB, gB2, rB, aB⟩
  ex := exm_sub eC eC iC tC sC
  eb := exm_sub eC eB iB tB sB
end U

/-! lists of lists of texts as data; min of a list -/
namespace U
open PySem PySem.Spec PyProof.Rows L2
end U

/-! sizes of shown data, put together from the parts -/
namespace U
open PySem PySem.Spec PyProof.Rows L2
/-- data that repr may be asked of: at most n of them, m deep -/
structure SmD (n m : Nat) (d : PyData) : Prop where
  lv : d.leavesShort 13 = true
  sh : d.showable = true
  bk : d.bulk ≤ n
  dp : d.depth ≤ m
  nd : d.hasDict = false
structure SmDs (n m : Nat) (ds : List PyData) : Prop where
  lv : PyData.leavesShortAll 13 ds = true
  sh : PyData.showableAll ds = true
  bk : PyData.bulkAll ds ≤ n
  dp : PyData.depthAll ds ≤ m
  nd : PyData.hasDictAll ds = false
theorem SmDs.nil : SmDs 0 0 [] := ⟨by simp [PyData.leavesShortAll], by simp [PyData.showableAll], by simp [PyData.bulkAll], by simp [PyData.depthAll], by simp [PyData.hasDictAll]⟩
theorem SmDs.cons {n m n2 m2 : Nat} {d : PyData} {ds : List PyData} (h : SmD n m d) (h2 : SmDs n2 m2 ds) : SmDs (n + 1 + n2) (m + m2) (d :: ds) := by
  obtain ⟨a1, a2, a3, a4, a5⟩ := h
  obtain ⟨b1, b2, b3, b4, b5⟩ := h2
  refine ⟨by rw [PyData.leavesShortAll, a1, b1]; rfl, by rw [PyData.showableAll, a2, b2]; rfl, ?_, ?_, by rw [PyData.hasDictAll, a5, b5]; rfl⟩
  · rw [PyData.bulkAll]
    omega
  · rw [PyData.depthAll]
    omega
theorem SmD.tup {n m : Nat} {ds : List PyData} (h : SmDs n m ds) : SmD n (m + 1) (.tuple ds) := by
  obtain ⟨b1, b2, b3, b4, b5⟩ := h
  exact ⟨by rw [PyData.leavesShort]; exact b1, by rw [PyData.showable]; exact b2, by rw [PyData.bulk]; exact b3, by rw [PyData.depth]; omega, by rw [PyData.hasDict]; exact b5⟩
theorem SmD.lst {n m : Nat} {ds : List PyData} (h : SmDs n m ds) : SmD n (m + 1) (.list ds) := by
  obtain ⟨b1, b2, b3, b4, b5⟩ := h
  exact ⟨by rw [PyData.leavesShort]; exact b1, by rw [PyData.showable]; exact b2, by rw [PyData.bulk]; exact b3, by rw [PyData.depth]; omega, by rw [PyData.hasDict]; exact b5⟩
theorem SmD.mono {n m n2 m2 : Nat} {d : PyData} (h : SmD n m d) (a : n ≤ n2) (b : m ≤ m2) : SmD n2 m2 d := ⟨h.lv, h.sh, Nat.le_trans h.bk a, Nat.le_trans h.dp b, h.nd⟩
theorem SmD.name {x : Str} (h : IsName x) : SmD 8 0 (.str x) := ⟨h.lv, by simp [PyData.showable], h.bk, by simp [PyData.depth], by simp [PyData.hasDict]⟩
theorem SmDs.names : ∀ {xs : List Str}, (∀ x ∈ xs, IsName x) → SmDs (9 * xs.length) 0 (xs.map PyData.str)
  | [], _ => SmDs.nil
  | x :: r, h => by
    have a := SmDs.cons (SmD.name (h x List.mem_cons_self)) (SmDs.names fun y hy => h y (List.mem_cons_of_mem _ hy))
    rw [List.map_cons, List.length_cons]
    exact ⟨a.lv, a.sh, by have := a.bk; omega, a.dp, a.nd⟩
theorem SmDs.of {n m : Nat} : ∀ {ds : List PyData}, (∀ d ∈ ds, SmD n m d) → SmDs ((n + 1) * ds.length) m ds
  | [], _ => ⟨SmDs.nil.lv, SmDs.nil.sh, by simp [PyData.bulkAll], by simp [PyData.depthAll], SmDs.nil.nd⟩
  | d :: ds, h => by
    obtain ⟨a1, a2, a3, a4, a5⟩ := h d List.mem_cons_self
    obtain ⟨b1, b2, b3, b4, b5⟩ := SmDs.of (n := n) (m := m) fun y hy => h y (List.mem_cons_of_mem _ hy)
    refine ⟨by rw [PyData.leavesShortAll, a1, b1]; rfl, by rw [PyData.showableAll, a2, b2]; rfl, ?_, ?_, by rw [PyData.hasDictAll, a5, b5]; rfl⟩
    · rw [PyData.bulkAll, List.length_cons, Nat.mul_succ]
      omega
    · rw [PyData.depthAll]
      omega
theorem Dp.same {K : PySem.W.Frag} {H H' : Hp} {v : V} {d : PyData} (h : Dp K H v d) (s : Same H H') : Dp K H' v d := dp_ext
  (fun a xs q => by
    rcases q with (q | ⟨o, q⟩) | q
    · exact .inl (.inl (s _ _ q))
    · exact .inl (.inr ⟨o, s _ _ q⟩)
    · exact .inr q) (fun a xs q => Same.seqT s q) _ _ h
end U

/-! a pair not in a tuple of pairs; tuples of numbers in a list; lists of lists of numbers compared and shown -/
namespace U
open PySem PySem.Spec PyProof.Rows L2
end U


/-! is_node, check_part, check_graph as they raise -/
namespace Law
open PySem PySem.Spec PyProof.Rows L2 U LamX NdefX


abbrev abcQ : List Nat := ("abcdefghijklmnopqrstuvwxyz" : Str).cps.toList
theorem abc_inQ {c : Nat} : c ∈ abcQ ↔ 97 ≤ c ∧ c ≤ 122 := by
  have e : abcQ = (List.range 26).map (· + 97) := by decide +kernel
  rw [e]
  constructor
  · intro h
    obtain ⟨k, hk, rfl⟩ := List.mem_map.mp h
    have := List.mem_range.mp hk
    omega
  · intro h
    exact List.mem_map.mpr ⟨c - 97, List.mem_range.mpr (by omega), by omega⟩
def nmB (s : Str) : Bool := decide (1 ≤ s.length) && (decide (s.length ≤ 8) && s.cps.toList.all fun c => decide (c ∈ abcQ))
theorem nmB_iff {s : Str} : nmB s = true ↔ IsName s := by
  unfold nmB
  rw [Bool.and_eq_true, Bool.and_eq_true, decide_eq_true_eq, decide_eq_true_eq, List.all_eq_true]
  constructor
  · rintro ⟨h1, h2, h3⟩
    exact ⟨h1, h2, fun c hc => abc_inQ.mp (of_decide_eq_true (h3 c hc))⟩
  · intro h
    exact ⟨h.lo, h.hi, fun c hc => decide_eq_true (abc_inQ.mpr (h.ch c hc))⟩
def goodM : V → Bool
  | .str s => nmB s
  | _ => false
def dM : V → PyData
  | .str s => .str s
  | _ => .none
theorem goodM_str {v : V} (h : goodM v = true) : ∃ s, v = .str s ∧ IsName s := by
  cases v with
  | str s => exact ⟨s, rfl, nmB_iff.mp h⟩
  | _ => exact absurd h Bool.false_ne_true
theorem goodM_no {v : V} (h : ¬ ∃ s, v = .str s) : goodM v = false := by
  cases v with
  | str s => exact absurd ⟨s, rfl⟩ h
  | _ => rfl
theorem items_node {K : PySem.W.Frag} {H : Hp} {xs : List V} : ItemsOk K H goodM dM xs := by
  refine ⟨fun x _ g H' _ => ?_, fun x _ y _ g g2 => ?_, fun x _ g => ?_⟩
  · obtain ⟨s, rfl, _⟩ := goodM_str g
    exact .str _
  · obtain ⟨s, rfl, _⟩ := goodM_str g
    obtain ⟨s2, rfl, _⟩ := goodM_str g2
    rfl
  · obtain ⟨s, rfl, _⟩ := goodM_str g
    exact ⟨nofun, by show (PyData.str s).depth ≤ 60; rw [PyData.depth]; decide⟩
/-- a value with short texts -/
def ShS (x : V) : Prop := ∀ s, x = .str s → s.length ≤ 1000
def spIsNdA : Sp := fun vs H Q _ => ∃ x : V, vs = [x] ∧ Ob H x ∧ ShS x ∧ ∀ H' : Hp, Same H H' → Q (.bl (goodM x)) H'
/-- a part of a would-be edge -/
def Pt (H : Hp) (x : V) : Prop := x = .non ∨ (∃ i, x = .int i) ∨ (∃ s, x = .str s ∧ s.length ≤ 1000 ∧ PyData.strOk s = true) ∨ ∃ (a : Addr) (ss : List Str), x = .ref a ∧ (H a = some (.tup (ss.map V.str)) ∨ H a = some (.lst (ss.map V.str))) ∧ ∀ s ∈ ss, s.length ≤ 1000 ∧ PyData.strOk s = true
/-- an item of the nodes or of the edges -/
def It1 (H : Hp) (v : V) : Prop := Pt H v ∨ (∃ a, v = .ref a ∧ H a = some (.dK [])) ∨ ∃ a xs, v = .ref a ∧ H a = some (.tup xs) ∧ ∀ x ∈ xs, Pt H x
theorem Pt.ext {H H' : Hp} {v : V} (h : Pt H v) (e : ∀ a o, v = .ref a → H a = some o → (∀ ps, o ≠ .tbl ps) → H' a = some o) : Pt H' v := by
  rcases h with h | h | h | ⟨a, ss, rfl, h, ok⟩
  · exact .inl h
  · exact .inr (.inl h)
  · exact .inr (.inr (.inl h))
  · refine .inr (.inr (.inr ⟨a, ss, rfl, ?_, ok⟩))
    rcases h with h | h
    · exact .inl (e a _ rfl h nofun)
    · exact .inr (e a _ rfl h nofun)
theorem It1.ext {H H' : Hp} {v : V} (h : It1 H v) (e : ∀ a o, H a = some o → (∀ ps, o ≠ .tbl ps) → H' a = some o) : It1 H' v := by
  rcases h with h | ⟨a, rfl, h⟩ | ⟨a, xs, rfl, h, k⟩
  · exact .inl (h.ext fun a o _ => e a o)
  · exact .inr (.inl ⟨a, rfl, e a _ h nofun⟩)
  · exact .inr (.inr ⟨a, xs, rfl, e a _ h nofun, fun x hx => (k x hx).ext fun a o _ => e a o⟩)
theorem It1.ob {H : Hp} {v : V} (h : It1 H v) : Ob H v ∧ ShS v := by
  rcases h with (rfl | ⟨i, rfl⟩ | ⟨s, rfl, l, _⟩ | ⟨a, ss, rfl, h | h, _⟩) | ⟨a, rfl, h⟩ | ⟨a, xs, rfl, h, _⟩
  · exact ⟨.inl rfl, nofun⟩
  · exact ⟨.inr (.inr (.inl ⟨_, rfl⟩)), nofun⟩
  · exact ⟨.inr (.inr (.inr (.inl ⟨_, rfl⟩))), fun s' e => by cases e; exact l⟩
  · exact ⟨.inr (.inr (.inr (.inr ⟨a, _, rfl, h, .inr (.inl ⟨_, rfl⟩)⟩))), nofun⟩
  · exact ⟨.inr (.inr (.inr (.inr ⟨a, _, rfl, h, .inl ⟨_, rfl⟩⟩))), nofun⟩
  · exact ⟨.inr (.inr (.inr (.inr ⟨a, _, rfl, h, .inr (.inr ⟨_, rfl⟩)⟩))), nofun⟩
  · exact ⟨.inr (.inr (.inr (.inr ⟨a, _, rfl, h, .inr (.inl ⟨_, rfl⟩)⟩))), nofun⟩
/-- its parts, if it is a tuple -/
theorem It1.parts {H : Hp} {a : Addr} {xs : List V} (h : It1 H (.ref a)) (ha : H a = some (.tup xs)) : ∀ x ∈ xs, Pt H x := by
  rcases h with (h | ⟨i, h⟩ | ⟨s, h, _⟩ | ⟨b, ss, h, h2 | h2, ok⟩) | ⟨b, h, h2⟩ | ⟨b, ys, h, h2, k⟩
  · cases h
  · cases h
  · cases h
  · cases h
    rw [ha] at h2
    cases h2
    intro x hx
    obtain ⟨s, hs, rfl⟩ := List.mem_map.mp hx
    exact .inr (.inr (.inl ⟨s, rfl, ok s hs⟩))
  · cases h
    rw [ha] at h2
    cases h2
  · cases h
    rw [ha] at h2
    cases h2
  · cases h
    rw [ha] at h2
    cases h2
    exact k
theorem rd_inChQ {c : Nat} {z : Str} {H : Hp} {Q : VK} (h : Q (.bl (decide (c ∈ z.cps.toList))) H) : rInS (.str ⟨#[c]⟩) (.str z) H Q := ⟨c, z, rfl, rfl, h⟩
theorem shapedQ {ss : List Str} (ok : ∀ s ∈ ss, s.length ≤ 1000 ∧ PyData.strOk s = true) : SeqAt.shaped (.tuple (ss.map PyData.str)) = true ∧ SeqAt.shaped (.list (ss.map PyData.str)) = true := by
  have c : ∀ ss : List Str, (∀ s ∈ ss, s.length ≤ 1000 ∧ PyData.strOk s = true) → PyData.canLayAll0 (ss.map PyData.str) = true ∧ PyData.depthAll (ss.map PyData.str) = 0 := by
    intro ss
    induction ss with
    | nil => exact fun _ => ⟨by simp [PyData.canLayAll0], by simp [PyData.depthAll]⟩
    | cons x r ih =>
      intro h
      obtain ⟨a, b⟩ := ih fun y hy => h y (List.mem_cons_of_mem _ hy)
      have := (h x List.mem_cons_self).2
      simp [PyData.canLayAll0, PyData.canLay0, PyData.depthAll, PyData.depth, a, b, this]
  obtain ⟨a, b⟩ := c ss ok
  unfold SeqAt.shaped
  rw [PyData.canLay0, PyData.canLay0, a, PyData.depth, PyData.depth, b]
  exact ⟨rfl, rfl⟩
theorem dp_strsQ {K : PySem.W.Frag} {H : Hp} : ∀ xs : List Str, DpAll K H (xs.map V.str) (xs.map PyData.str)
  | [] => .nil
  | x :: r => .cons (.str x) (dp_strsQ r)
theorem Pt.dat {K : PySem.W.Frag} {H : Hp} {x : V} (h : Pt H x) : (∃ s, x = .str s ∧ PyData.strOk s = true) ∨ ((∀ s, x ≠ .str s) ∧ ∃ d, Dp K H x d ∧ SeqAt.shaped d = true ∧ ∀ s, PyData.eqv (.str s) d = false) := by
  rcases h with rfl | ⟨i, rfl⟩ | ⟨s, rfl, _, ok⟩ | ⟨a, ss, rfl, h | h, ok⟩
  · exact .inr ⟨nofun, .none, .non, by decide +kernel, fun s => by simp [PyData.eqv]⟩
  · exact .inr ⟨nofun, .int i, .int _, by unfold SeqAt.shaped; simp [PyData.canLay0, PyData.depth], fun s => by simp [PyData.eqv]⟩
  · exact .inl ⟨s, rfl, ok⟩
  · exact .inr ⟨nofun, _, .tup (SqT.of h) (dp_strsQ ss), (shapedQ ok).1, fun s => by simp [PyData.eqv]⟩
  · exact .inr ⟨nofun, _, .lst (SqL.of h) (dp_strsQ ss), (shapedQ ok).2, fun s => by simp [PyData.eqv]⟩
/-- a part is one of the names -/
def inB (ns : List Str) : V → Bool
  | .str s => decide (s ∈ ns)
  | _ => false
theorem inB_str {ns : List Str} {s : Str} : inB ns (.str s) = decide (s ∈ ns) := rfl
theorem inB_no {ns : List Str} {x : V} (h : ∀ s, x ≠ .str s) : inB ns x = false := by
  cases x with
  | str s => exact absurd rfl (h s)
  | _ => rfl
theorem any_in {ns : List Str} {s : Str} : ((ns.map PyData.str).any fun z => PyData.eqv z (.str s)) = decide (s ∈ ns) := by
  induction ns with
  | nil => simp
  | cons y r ih =>
    rw [List.map_cons, List.any_cons, ih]
    have e : PyData.eqv (.str y) (.str s) = decide (y = s) := by
      rw [PyData.eqv]
      rfl
    rw [e, Bool.eq_iff_iff, Bool.or_eq_true, decide_eq_true_eq, decide_eq_true_eq, decide_eq_true_eq, List.mem_cons]
    exact ⟨fun h => h.elim (fun z => .inl z.symm) .inr, fun h => h.elim (fun z => .inl z.symm) .inr⟩
theorem any_no {ns : List Str} {d : PyData} (h : ∀ s, PyData.eqv (.str s) d = false) : ((ns.map PyData.str).any fun z => PyData.eqv z d) = false := by
  rw [List.any_eq_false]
  intro z hz
  obtain ⟨s, _, rfl⟩ := List.mem_map.mp hz
  rw [h s]
  exact Bool.false_ne_true
theorem rd_inPt {K : PySem.W.Frag} {H : Hp} {Q : VK} {p : Addr} {x : V} {ns : List Str} (hp : SqT K H p (ns.map V.str)) (ok : ∀ s ∈ ns, s.length ≤ 1000 ∧ PyData.strOk s = true) (hx : Pt H x) (h : Q (.bl (inB ns x)) H) : rInT K x (.ref p) H Q := by
  rcases hx.dat (K := K) with ⟨s, rfl, so⟩ | ⟨no, d, hd, sd, ne⟩
  · refine ⟨.str s, _, .str s, .tup hp (dp_strsQ ns), by unfold SeqAt.shaped; simp [PyData.canLay0, PyData.depth, so], (shapedQ ok).1, ?_⟩
    rw [any_in, ← inB_str]
    exact h
  · refine ⟨d, _, hd, .tup hp (dp_strsQ ns), sd, (shapedQ ok).1, ?_⟩
    rw [any_no ne, ← inB_no (ns := ns) no]
    exact h
/-- an edge between two of the names -/
def EdgeAt (H : Hp) (ns : List Str) (v : V) (x y : Str) : Prop := ∃ a, v = .ref a ∧ H a = some (.tup [.str x, .str y]) ∧ x ∈ ns ∧ y ∈ ns ∧ sLt x y
def goodE (H : Hp) (ns : List Str) : V → Bool
  | .ref a => match H a with
    | some (.tup [.str x, .str y]) => decide (x ∈ ns) && (decide (y ∈ ns) && decide (x.cps.toList < y.cps.toList))
    | _ => false
  | _ => false
def dEd (H : Hp) : V → PyData
  | .ref a => match H a with
    | some (.tup [.str x, .str y]) => .tuple [.str x, .str y]
    | _ => .none
  | _ => .none
theorem dEd_at {H : Hp} {a : Addr} {x y : Str} (h : H a = some (.tup [.str x, .str y])) : dEd H (.ref a) = .tuple [.str x, .str y] := by
  unfold dEd
  simp only [h]
theorem goodE_of {H : Hp} {ns : List Str} {a : Addr} {x y : Str} (h : H a = some (.tup [.str x, .str y])) : goodE H ns (.ref a) = (decide (x ∈ ns) && (decide (y ∈ ns) && decide (x.cps.toList < y.cps.toList))) := by
  unfold goodE
  simp only [h]
theorem goodE_at {H : Hp} {ns : List Str} {v : V} (h : goodE H ns v = true) : ∃ x y, EdgeAt H ns v x y := by
  cases v with
  | ref a =>
    simp only [goodE] at h
    split at h
    · rename_i x y e
      rw [Bool.and_eq_true, Bool.and_eq_true, decide_eq_true_eq, decide_eq_true_eq, decide_eq_true_eq] at h
      exact ⟨x, y, a, rfl, e, h.1, h.2.1, h.2.2⟩
    · cases h
  | _ => exact absurd h Bool.false_ne_true
/-- no pair of texts -/
theorem goodE_no {H : Hp} {ns : List Str} {v : V} (h : ∀ a x y, v = .ref a → H a ≠ some (.tup [.str x, .str y])) : goodE H ns v = false := by
  cases c : goodE H ns v with
  | false => rfl
  | true =>
    obtain ⟨x, y, a, e1, e2, _⟩ := goodE_at c
    exact absurd e2 (h a x y e1)
theorem goodE_same {H H' : Hp} {ns : List Str} {v : V} (o : Ob H v) (x : ∀ a o, H a = some o → (∀ ps, o ≠ .tbl ps) → H' a = some o) : goodE H' ns v = goodE H ns v := by
  rcases o with rfl | ⟨_, rfl⟩ | ⟨_, rfl⟩ | ⟨_, rfl⟩ | ⟨b, u, rfl, h1, h2⟩
  · rfl
  · rfl
  · rfl
  · rfl
  · have := x b u h1 (fun ps e => by subst e; rcases h2 with ⟨_, h2⟩ | ⟨_, h2⟩ | ⟨_, h2⟩ <;> cases h2)
    simp only [goodE, this, h1]
theorem dEd_same {H H' : Hp} {v : V} (o : Ob H v) (x : ∀ a o, H a = some o → (∀ ps, o ≠ .tbl ps) → H' a = some o) : dEd H' v = dEd H v := by
  rcases o with rfl | ⟨_, rfl⟩ | ⟨_, rfl⟩ | ⟨_, rfl⟩ | ⟨b, u, rfl, h1, h2⟩
  · rfl
  · rfl
  · rfl
  · rfl
  · have := x b u h1 (fun ps e => by subst e; rcases h2 with ⟨_, h2⟩ | ⟨_, h2⟩ | ⟨_, h2⟩ <;> cases h2)
    simp only [dEd, this, h1]
theorem items_edge {K : PySem.W.Frag} {H H2 : Hp} {ns : List Str} {xs : List V} (e : ExtN H H2) : ItemsOk K H2 (goodE H ns) (dEd H) xs := by
  refine ⟨fun x _ g H' s => ?_, fun x _ y _ g g2 => ?_, fun x _ g => ?_⟩
  · obtain ⟨y, z, a, rfl, h, _⟩ := goodE_at g
    rw [dEd_at h]
    exact .tup (SqT.of (s _ _ (e _ _ h nofun))) (.cons (.str _) (.cons (.str _) .nil))
  · obtain ⟨y, z, a, rfl, h, _⟩ := goodE_at g
    obtain ⟨y2, z2, a2, rfl, h2, _⟩ := goodE_at g2
    rw [dEd_at h, dEd_at h2]
    simp [PySem.W.alike, PySem.W.alikeAll]
  · obtain ⟨y, z, a, rfl, h, _⟩ := goodE_at g
    rw [dEd_at h]
    exact ⟨nofun, by simp [PyData.depth, PyData.depthAll]⟩
def ndEdge : Stmt := (defBody s_check_graph).getD 2 (.Pass ⟨0, 0, 0, 0⟩)
abbrev qEdge : Str := ("check_graph" : Str) ++ ".<locals>." ++ "is_edge"
theorem ns_edge : NScope ["edge", "nodes"] ["edge"] ["nodes"] (C8.fnScope ndEdge) := nscope_by (by decide +kernel)
theorem nb_edge : ndefB (defScope s_check_graph) (C8.fnScope ndEdge) ["nodes"] = true := by decide +kernel
def spNdEdge (K : PySem.W.Frag) : List (Option V) → Sp := fun ws vs H Q _ => ∃ (n : Addr) (v : V) (ns : List Str), ws = [some (.ref n)] ∧ vs = [v] ∧ SqT K H n (ns.map V.str) ∧ (∀ s ∈ ns, s.length ≤ 1000 ∧ PyData.strOk s = true) ∧ It1 H v ∧ ∀ H' : Hp, Same H H' → Q (.bl (goodE H ns v)) H'
/-- check_part: FnH -/
def spPart (P : Program) (w : World) (K : PySem.W.Frag) (mg : Str → Option Value) (base : Heap) (C : Addr) : List Env → Heap → Sp := fun l h vs H Q E => ∃ (part : Str) (v : V) (lim fa : Addr) (m : Nat) (Pre : Hp → Prop) (sp : Sp) (good : V → Bool) (D : V → PyData), vs = [.str part, v, .int m, .ref fa] ∧
  Handed P w K mg base 2 l h H fa Pre sp ∧ Ob H v ∧
  (((∀ a xs, v = .ref a → H a ≠ some (.tup xs)) ∧ Fld2 "part" "position" C (.str part) .non H E) ∨
   ∃ (a : Addr) (xs : List V), v = .ref a ∧ H a = some (.tup xs) ∧ xs.length ≤ 100000 ∧ (m < xs.length → Fld2 "part" "position" C (.str part) .non H E) ∧
    (xs.length ≤ m → (∀ H', Same H H' → Pre H') ∧ (∀ x ∈ xs, ∀ (H1 : Hp) (Q1 : VK), Same H H1 → (∀ H2, Same H1 H2 → Q1 (.bl (good x)) H2) → sp [x] H1 Q1 E0) ∧ ItemsOk K H good D xs ∧
      (∀ i : Nat, i < xs.length → badAt good D xs i = true → (∀ j, j < i → badAt good D xs j = false) → Fld2 "part" "position" C (.str part) (.int i) H E) ∧ ((∀ i, i < xs.length → badAt good D xs i = false) → ∀ H', Same H H' → Q .non H')))
structure QDb (P : Program) (w : World) (K : PySem.W.Frag) (mg : Str → Option Value) (base : Heap) : Prop where
  first_invalid : CalH P w K mg base CX0 3 "first_invalid" (spInv P w K mg base 2)
section
variable {P : Program} {w : World} {K : PySem.W.Frag} {mg : Str → Option Value} {base : Heap}
theorem ok_initIG {f : Addr} {fd : FuncData} {C CB : Addr} {x : Str} (F : Fun K "__init__" "InvalidGraph.__init__" s_InvalidGraph_init f fd) (T : OwnX K mg x "part" C CB f) (no2 : PySem.W.findIn K (.ref C) "position" = some none) : FnOk P w K mg base CX0 1 f fd ["self", "part", "position"] (spInit2 C "part" "position") := by
  refine F.ok sc_InvalidGraph_init (fun vs H Q E h => ?_) (fun cdv A outer s H vs Q E hr h => ?_)
  · obtain ⟨a, v1, v2, rfl, _⟩ := h
    rfl
  · obtain ⟨a, v1, v2, rfl, ha, q⟩ := h
    refine ⟨_, pss_cons (ps_expr (pe_binit (x := "InputError") rfl T.gB T.bi (pa_cons (pv 0) (pa_cons pe_str pa_nil)))) (pss_cons (ps_ost (pv 0) (pv 1)) (pss_one (ps_ost (pv 0) (pv 2)))), ?_⟩
    wtm_at "rd"
    refine rd_vei (v := v1) ?_
    wtm_at "rd"
    refine ⟨a, C, _, rfl, by decide, T.ox, ha, ?_⟩
    dsimp only
    refine rd_ost ?_
    wtm_at "rd"
    refine ⟨a, C, rfl, T.ox, T.no, .inl ⟨ha, fun dx n1 n2 => ?_⟩⟩
    dsimp only
    wtm_at "rd"
    refine rd_ost ?_
    wtm_at "rd"
    refine ⟨a, C, rfl, T.ox, no2, .inr ⟨dx, _, upd_same, by rw [upd_ne n2]; exact upd_same, (by show 1 ≤ 900; decide), ?_⟩⟩
    refine q dx _ n1 n2 ?_ upd_same fun b b1 b2 => ?_
    · rw [upd_ne (Ne.symm n2)]
      exact upd_same
    · rw [upd_ne b2, upd_ne b1, upd_ne b2]
theorem ok_isNdA {f : Addr} {fd : FuncData} (F : Fun K "is_node" "is_node" s_is_node f fd) (B : Bt mg) (cM : ∃ u, mg "MAX_NAME" = some u ∧ RelV (.int 8) u) (cL : ∃ u, mg "LETTERS" = some u ∧ RelV (.str "abcdefghijklmnopqrstuvwxyz") u) : FnG P w K mg base CX0 1 f fd ["candidate"] spIsNdA := by
  refine fnG0 F sc_is_node (fun vs H Q E h => ?_) (fun cdv A outer s H vs Q E hr h => ?_)
  · obtain ⟨x, rfl, _⟩ := h
    rfl
  · obtain ⟨x, rfl, ob, sh, q⟩ := h
    have nd := sc_is_node.nd
    have hu := hr.u1
    have sH : Same H H := fun _ _ h => h
    refine ⟨_, (pss_cons (ps_if (PW.pt (pw_or (pt_not (pt_val (pe_callB (kIsi K rfl) (by rfl) B.isinstance bb_isinstance (pa_cons (pv 0) (pa_cons (pe_ty rfl B.str bb_str) pa_nil))))) (pw_or1 (pt_not (pt_chain uLe uLe pe_int (pe_callB (kLen K rfl) (by rfl) B.len bb_len (pa_cons (pv 0) pa_nil)) (pe_gl rfl cM)))))) (pss_one (ps_ret pe_bl)) pss_nil)
  (pss_one (ps_ret (pe_callB (kAll K rfl rfl) (by rfl) B.all bb_all (pa_cons (pe_lc (own := [("letter", 1)]) rfl nd (pi_str (pv 0)) (blkOk_by (own := [("letter", 1)]) (N := nN_is_node) (sc := defScope s_is_node) (by decide +kernel)) (fun _ _ _ _ _ => (pg_name (i := 1) nd rfl (by first | exact Or.inl rfl | exact Or.inr rfl))) (fun _ _ _ _ _ => pts_nil) (fun _ _ _ _ _ => (pe_cmpR op_inS (pv 1) (pe_gl rfl cL) rfl))) pa_nil))))), ?_⟩
    obtain ⟨ty, hty, h1, _⟩ := ob.ty (K := K)
    wtm_at "rd"
    refine rd_isi hty (t := .str) (by decide +kernel) ?_
    by_cases z : ∃ s, x = .str s
    rotate_left
    · rw [show isT ty .str = false from by
        cases z2 : isT ty .str with
        | false => rfl
        | true => exact absurd (h1.mp z2) z]
      wtm_at "rd"
      have := q H sH
      rw [goodM_no z] at this
      exact this
    rw [h1.mpr z]
    obtain ⟨s, rfl⟩ := z
    have l1 := sh s rfl
    have q : ∀ H' : Hp, Same H H' → Q (.bl (nmB s)) H' := q
    wtm_at "rd"
    refine rd_lenS (by omega) ?_
    wtm_at "rd"
    by_cases c1 : 1 ≤ s.length
    rotate_left
    · refine rd_no (by omega) ?_
      wtm_at "rd"
      have := q H sH
      rw [show nmB s = false from by unfold nmB; rw [decide_eq_false c1]; rfl] at this
      exact this
    refine rd_yes (by omega) ?_
    wtm_at "rd"
    by_cases c2 : s.length ≤ 8
    rotate_left
    · refine rd_nyes (by omega) ?_
      wtm_at "rd"
      have := q H sH
      rw [show nmB s = false from by unfold nmB; rw [decide_eq_false c2, Bool.false_and, Bool.and_false]] at this
      exact this
    refine rd_nno (by omega) ?_
    wtm_at "rd"
    refine ⟨_, rfl, s, rfl, ?_⟩
    intro D fD
    have len8 : s.cps.size ≤ 8 := c2
    refine lc_it walk_str (fun i H2 => Same H H2 ∧ H2 D = some (.lst (((s.cps.toList.take i).map fun c => decide (c ∈ abcQ)).map V.bl))) ⟨Same.new fD, upd_same⟩ (fun _ _ _ _ => trivial) ?_ ?_
    · rintro i y H2 H3 hi ⟨s', hD⟩ ⟨rfl, c, hc, rfl⟩
      have hi : i < s.cps.size := hi
      have hi' : i < s.cps.toList.length := by simpa using hi
      have ec : s.cps.toList[i] = c := by
        have := Array.getElem?_eq_some_iff.mp hc
        obtain ⟨_, h⟩ := this
        rw [← h]
        simp
      show gName _ (V.str ⟨#[c]⟩) _ _ _
      wtm_at "rd"
      refine rd_inChQ ?_
      refine ⟨_, hD, by rw [List.length_map, List.length_map, List.length_take]; show _ < sizeLine; exact Nat.lt_of_lt_of_le (by omega : min i s.cps.toList.length < 9) (by decide), same_put s' fD, ?_⟩
      rw [upd_same, take_snoc hi', List.map_append, List.map_append, ec]
      rfl
    · rintro H2 ⟨s', hD⟩
      have e0 : s.cps.toList.take s.cps.size = s.cps.toList := List.take_of_length_le (by simp)
      rw [e0] at hD
      wtm_at "rd"
      refine rd_allL (SqL.of hD) ?_
      have := q H2 s'
      rw [show nmB s = ((s.cps.toList.map fun c => decide (c ∈ abcQ)).all id) from by
        unfold nmB
        rw [decide_eq_true c1, decide_eq_true c2, Bool.true_and, Bool.true_and, List.all_map]
        rfl] at this
      exact this
theorem nd_edge (B : Bt mg) {f : Addr} {cl : List (Str × Addr)} {c : Addr} : NdR P w K mg base CX0 1 f (NF.of ndEdge "is_edge" qEdge cl c) ["edge"] ["nodes"] (spNdEdge K) := by
  refine ndR_of (N := ["edge", "nodes"]) ns_edge (fun d m t us hl => match us, hl with | [_], _ => rfl) (fun ws vs H Q E h => ?_) (fun A out s H vs ws Q E hr hl h => ?_)
  · obtain ⟨g, v, ns, rfl, rfl, _⟩ := h
    rfl
  · obtain ⟨n, v, ns, rfl, rfl, hn, ok, it, q⟩ := h
    have nd : (["edge", "nodes"] : List Str).Nodup := by decide
    have hu := hr.u1
    have hu65 : (A.deeper (envF (NF.of ndEdge "is_edge" qEdge cl c) f s.heap.objs.size)).units + 65 < cLine := by
      have := hr.u100
      omega
    have sH : Same H H := fun _ _ h => h
    refine ⟨_, pss_cons (ps_if (PW.pt (pw_or (pt_not (pt_val (pe_callB (kIsi K rfl) (by rfl) B.isinstance bb_isinstance (pa_cons (pv 0) (pa_cons (pe_ty rfl B.tuple bb_tuple) pa_nil))))) (pw_or1 (pt_cmpR (kNe K rfl hr.u64) (pe_callB (kLen K rfl) (by rfl) B.len bb_len (pa_cons (pv 0) pa_nil)) pe_int (nomark _))))) (pss_one (ps_ret pe_bl)) pss_nil) (pss_one (ps_ret (pe_and (pe_cmpR (kInT K rfl hu65) (pe_ix (kIx K rfl) (pv 0) pe_int (fun _ _ => rfl)) (pv 1) rfl) (pe_and (pe_cmpR (kInT K rfl hu65) (pe_ix (kIx K rfl) (pv 0) pe_int (fun _ _ => rfl)) (pv 1) rfl) (pe_one (pe_cmpR uLt (pe_ix (kIx K rfl) (pv 0) pe_int (fun _ _ => rfl)) (pe_ix (kIx K rfl) (pv 0) pe_int (fun _ _ => rfl)) (nomark _))))))), ?_⟩
    wtm_at "rd"
    obtain ⟨ty, hty, _, h2⟩ := it.ob.1.ty (K := K)
    refine rd_isi hty (t := .tup) (by decide +kernel) ?_
    by_cases z : ∃ a xs, v = .ref a ∧ H a = some (.tup xs)
    rotate_left
    · rw [show isT ty .tup = false from by
        cases z2 : isT ty .tup with
        | false => rfl
        | true => exact absurd (h2.mp z2) z]
      wtm_at "rd"
      have := q H sH
      rw [goodE_no (fun a x y e1 e2 => z ⟨a, _, e1, e2⟩)] at this
      exact this
    rw [h2.mpr z]
    obtain ⟨a, xs, rfl, ha⟩ := z
    have parts := it.parts ha
    wtm_at "rd"
    refine rd_lenT (SqT.of ha) ?_
    wtm_at "rd"
    by_cases c2 : xs.length = 2
    rotate_left
    · refine rd_nyes (by omega) ?_
      wtm_at "rd"
      have := q H sH
      rw [goodE_no (fun b x y e1 e2 => by
        rw [← V.ref.inj e1, ha] at e2
        cases e2
        exact c2 rfl)] at this
      exact this
    refine rd_nno (by omega) ?_
    obtain ⟨x, y, rfl⟩ : ∃ x y, xs = [x, y] := by
      match xs, c2 with
      | [x, y], _ => exact ⟨x, y, rfl⟩
    have px := parts x List.mem_cons_self
    have py := parts y (List.mem_cons_of_mem _ List.mem_cons_self)
    have fin : ∀ b : Bool, goodE H ns (.ref a) = b → Q (.bl b) H := fun b e => by
      have := q H sH
      rw [e] at this
      exact this
    have noX : (∀ s, x ≠ .str s) ∨ (∀ s, y ≠ .str s) → goodE H ns (.ref a) = false := fun h => goodE_no fun b s s2 e1 e2 => by
      rw [← V.ref.inj e1, ha] at e2
      cases e2
      rcases h with h | h
      · exact h s rfl
      · exact h s2 rfl
    wtm_at "rd"
    refine rd_ixT (SqT.of ha) (v := x) rfl ?_
    wtm_at "rd"
    refine rd_inPt hn ok px ?_
    cases bx : inB ns x with
    | false =>
      wtm_at "rd"
      refine fin false ?_
      by_cases zx : ∃ s, x = .str s
      · obtain ⟨s, rfl⟩ := zx
        by_cases zy : ∃ s, y = .str s
        · obtain ⟨s2, rfl⟩ := zy
          rw [goodE_of ha, ← inB_str, bx]
          rfl
        · exact noX (.inr fun s e => zy ⟨s, e⟩)
      · exact noX (.inl fun s e => zx ⟨s, e⟩)
    | true =>
      wtm_at "rd"
      refine rd_ixT (SqT.of ha) (v := y) rfl ?_
      wtm_at "rd"
      refine rd_inPt hn ok py ?_
      obtain ⟨s, rfl⟩ : ∃ s, x = .str s := by
        cases x with
        | str s => exact ⟨s, rfl⟩
        | _ => exact absurd bx Bool.false_ne_true
      cases by_ : inB ns y with
      | false =>
        wtm_at "rd"
        refine fin false ?_
        by_cases zy : ∃ s, y = .str s
        · obtain ⟨s2, rfl⟩ := zy
          rw [goodE_of ha, ← inB_str, ← inB_str, bx, by_]
          rfl
        · exact noX (.inr fun s e => zy ⟨s, e⟩)
      | true =>
        obtain ⟨s2, rfl⟩ : ∃ s, y = .str s := by
          cases y with
          | str s => exact ⟨s, rfl⟩
          | _ => exact absurd by_ Bool.false_ne_true
        wtm_at "rd"
        refine rd_ixT (SqT.of ha) (v := .str s) rfl ?_
        wtm_at "rd"
        refine rd_ixT (SqT.of ha) (v := .str s2) rfl ?_
        wtm_at "rd"
        refine fin _ ?_
        rw [goodE_of ha, ← inB_str, ← inB_str, bx, by_, Bool.true_and, Bool.true_and]
theorem ok_part {f : Addr} {fd : FuncData} {CE CB : Addr} (F : Fun K "check_part" "check_part" s_check_part f fd) (B : Bt mg) (C : QDb P w K mg base) (TE : ErrX2 P w K mg base "InvalidGraph" "part" "position" CE CB) : FnH P w K mg base (L2.CX P w) 4 f fd ["part", "items", "limit", "is_valid"] (spPart P w K mg base CE) := by
  refine fnH F sc_check_part (fun l h vs H Q E z => ?_) (fun cdv A outer s H vs Q E hr h => ?_)
  · obtain ⟨part, v, lim, fa, m, Pre, sp, good, D, rfl, _⟩ := z
    rfl
  · obtain ⟨part, v, lim, fa, m, Pre, sp, good, D, rfl, hw, ob, alt⟩ := h
    have nd := sc_check_part.nd
    have hu := hr.u1
    refine ⟨_, (pss_cons (ps_if (PW.pt (pw_or (pt_not (pt_val (pe_callB (kIsi K rfl) (by rfl) B.isinstance bb_isinstance (pa_cons (pv 1) (pa_cons (pe_ty rfl B.tuple bb_tuple) pa_nil))))) (pw_or1 (pt_cmpR uGt (pe_callB (kLen K rfl) (by rfl) B.len bb_len (pa_cons (pv 1) pa_nil)) (pv 2) (nomark _))))) (pss_one (ps_rz2 TE hr (by decide) rfl (takes_of rfl rfl rfl rfl) rfl (pv 0) pe_non)) pss_nil)
  (pss_cons (ps_set (i := 4) nd rfl (by first | exact Or.inl rfl | exact Or.inr rfl) (pe_cHo C.first_invalid hr (by decide) rfl hw rfl (frs_own rfl) (pa_cons (pv 1) (pa_cons (pv 3) pa_nil))))
  (pss_one (ps_if (pt_cmpR uIsNot (pv 4) pe_non (nomark _)) (pss_one (ps_rz2 TE hr (by decide) rfl (takes_of rfl rfl rfl rfl) rfl (pv 0) (pv 4))) pss_nil)))), ?_⟩
    wtm_at "rd"
    have er0 : ∀ {E1 : XK} {v2 : V} {H1 : Hp}, Fld2 "part" "position" CE (.str part) v2 H1 E1 → [V.str part, v2].length ≤ 1000 ∧ ∀ a, H1 a = none → spInit2 CE "part" "position" (.ref a :: ([V.str part, v2] ++ [])) (upd H1 a (exo a CE none)) (fun w H2 => w = .non ∧ ∃ (d : Addr) (fs : List (Str × V)), H2 a = some (exo a CE (some d)) ∧ H2 d = some (exd d fs) ∧ H1 d = none ∧ E1 (.ref CE) (some d) (upd (del H2 a) d (.xd fs))) (fun _ _ _ => False) := fun er => rd_mk2 fun d H' s' _ hd => er d H' s' hd
    obtain ⟨ty, hty, _, h2⟩ := ob.ty (K := K)
    refine rd_isi hty (t := .tup) (by decide +kernel) ?_
    rcases alt with ⟨nt, er⟩ | ⟨a, xs, rfl, ha, len, big, rest⟩
    · rw [show isT ty .tup = false from by
        cases z : isT ty .tup with
        | false => rfl
        | true =>
          obtain ⟨b, ys, e1, e2⟩ := h2.mp z
          exact absurd e2 (nt b ys e1)]
      wtm_at "rd"
      refine rd_rz2 ?_
      wtm_at "rd"
      exact er0 er
    rw [h2.mpr ⟨a, xs, rfl, ha⟩]
    wtm_at "rd"
    refine rd_lenT (SqT.of ha) ?_
    wtm_at "rd"
    by_cases c : m < xs.length
    · refine rd_yes (by omega) ?_
      wtm_at "rd"
      refine rd_rz2 ?_
      wtm_at "rd"
      exact er0 (big c)
    refine rd_no (by omega) ?_
    obtain ⟨pre, call, items, er, q⟩ := rest (by omega)
    wtm_at "rd"
    refine rd_cHd ?_
    wtm_at "rd"
    intro hh held
    refine ⟨a, fa, xs, Pre, sp, good, D, rfl, SqT.of ha, len, held, pre, call, items, fun i hi bad bef H2 s2 => ?_, fun ok H2 s2 => ?_⟩
    · wtm_at "rd"
      refine rd_nyes (fun z => by cases z) ?_
      refine rd_rz2 ?_
      wtm_at "rd"
      exact er0 fun d H' s' hd => er i hi bad bef d H' (s2.trans s') hd
    · wtm_at "rd"
      exact q ok H2 s2
/-- no tuple -/
def NTup (H : Hp) (v : V) : Prop := ∀ a xs, v = .ref a → H a ≠ some (.tup xs)
def PartOk (H : Hp) (v : V) : Prop := Ob H v ∧ ∀ a xs, v = .ref a → H a = some (.tup xs) → xs.length ≤ 100000 ∧ ∀ x ∈ xs, It1 H x
/-- what becomes of the nodes or of the edges -/
def PartR (H : Hp) (part : Str) (m : Nat) (good : V → Bool) (D : V → PyData) (v : V) (r : Option (Str × V)) : Prop :=
  (NTup H v ∧ r = some (part, .non)) ∨ ∃ a xs, v = .ref a ∧ H a = some (.tup xs) ∧ ((m < xs.length ∧ r = some (part, .non)) ∨ (xs.length ≤ m ∧ ((∃ i : Nat, i < xs.length ∧ badAt good D xs i = true ∧ (∀ j, j < i → badAt good D xs j = false) ∧ r = some (part, .int i)) ∨ ((∀ i, i < xs.length → badAt good D xs i = false) ∧ r = none))))
/-- what becomes of a would-be graph -/
def RG (H : Hp) (v : V) (r : Option (Str × V)) : Prop := (Ob H v ∧ NTup H v ∧ r = some (("form" : Str), V.non)) ∨ ∃ a xs, v = .ref a ∧ H a = some (.tup xs) ∧ ((xs.length ≠ 2 ∧ r = some (("form" : Str), V.non)) ∨ ∃ vn ve, xs = [vn, ve] ∧ PartOk H vn ∧ PartOk H ve ∧
  ((∃ x, PartR H "nodes" 40 goodM dM vn (some x) ∧ r = some x) ∨ ∃ (n : Addr) (ns : List Str), vn = .ref n ∧ H n = some (.tup (ns.map V.str)) ∧ PartR H "nodes" 40 goodM dM vn none ∧ (∀ s ∈ ns, IsName s) ∧ PartR H "edges" 120 (goodE H ns) (dEd H) ve r))
def spCkGr (T : List (Addr × Str)) (C : Addr) : Sp := fun vs H Q E => ∃ (v : V) (r : Option (Str × V)), vs = [v] ∧ Tabs T H ∧ RG H v r ∧ (r = none → ∀ H', ExtN H H' → Tabs T H' → Q .non H') ∧ ∀ part pos, r = some (part, pos) → Fld2Y T "part" "position" C (.str part) pos H E
theorem PartOk.ext {H H' : Hp} {v : V} (h : PartOk H v) (x : ExtN H H') : PartOk H' v := by
  refine ⟨h.1.ext fun b o h z => x b o h z, fun a xs e ha => ?_⟩
  subst e
  rcases h.1 with z | ⟨_, z⟩ | ⟨_, z⟩ | ⟨_, z⟩ | ⟨b, o, z, h1, h2⟩
  · cases z
  · cases z
  · cases z
  · cases z
  · cases z
    have h3 := x a o h1 (fun ps e => by subst e; rcases h2 with ⟨_, h2⟩ | ⟨_, h2⟩ | ⟨_, h2⟩ <;> cases h2)
    rw [ha] at h3
    cases h3
    obtain ⟨l, k⟩ := h.2 a xs rfl h1
    exact ⟨l, fun y hy => (k y hy).ext fun b o h z => x b o h z⟩
theorem PartR.ext {H H' : Hp} {part : Str} {m : Nat} {good : V → Bool} {D : V → PyData} {v : V} {r : Option (Str × V)} (h : PartR H part m good D v r) (ob : Ob H v) (x : ExtN H H') : PartR H' part m good D v r := by
  rcases h with ⟨nt, e⟩ | ⟨a, xs, rfl, ha, k⟩
  · exact .inl ⟨fun a xs e2 => Law.Ob.noTup ob nt x e2, e⟩
  · exact .inr ⟨a, xs, rfl, x _ _ ha nofun, k⟩
theorem part_sp {P : Program} {w : World} {K : PySem.W.Frag} {mg : Str → Option Value} {base : Heap} {C fa : Addr} {l : List Env} {h : Heap} {H : Hp} {part : Str} {m : Nat} {good : V → Bool} {D : V → PyData} {v : V} {r : Option (Str × V)} {Pre : Hp → Prop} {sp : Sp} {Q : VK} {E : XK} (p : PartR H part m good D v r) (ok : PartOk H v) (hw : Handed P w K mg base 2 l h H fa Pre sp) (pre : ∀ H', Same H H' → Pre H')
    (call : ∀ a xs, v = .ref a → H a = some (.tup xs) → ∀ x ∈ xs, ∀ (H1 : Hp) (Q1 : VK), Same H H1 → (∀ H2, Same H1 H2 → Q1 (.bl (good x)) H2) → sp [x] H1 Q1 E0) (items : ∀ xs, ItemsOk K H good D xs)
    (er : ∀ pos, r = some (part, pos) → Fld2 "part" "position" C (.str part) pos H E) (q : r = none → ∀ H', Same H H' → Q .non H') : spPart P w K mg base C l h [.str part, v, .int m, .ref fa] H Q E := by
  refine ⟨part, v, fa, fa, m, Pre, sp, good, D, rfl, hw, ok.1, ?_⟩
  rcases p with ⟨nt, e⟩ | ⟨a, xs, rfl, ha, alt⟩
  · exact .inl ⟨nt, er _ e⟩
  · refine .inr ⟨a, xs, rfl, ha, (ok.2 a xs rfl ha).1, fun big => ?_, fun le => ⟨pre, call a xs rfl ha, items xs, fun i hi bad bef => ?_, fun good => ?_⟩⟩
    · rcases alt with ⟨_, e⟩ | ⟨le, _⟩
      · exact er _ e
      · omega
    · rcases alt with ⟨gt, _⟩ | ⟨_, ⟨k, k1, k2, k3, e⟩ | ⟨k, _⟩⟩
      · omega
      · refine er _ (?_ : r = some (part, .int i))
        rcases Nat.lt_trichotomy k i with z | z | z
        · rw [bef k z] at k2
          cases k2
        · rw [e, z]
        · rw [k3 i z] at bad
          cases bad
      · rw [k i hi] at bad
        cases bad
    · rcases alt with ⟨gt, _⟩ | ⟨_, ⟨k, k1, k2, _⟩ | ⟨_, e⟩⟩
      · omega
      · rw [good k k1] at k2
        cases k2
      · exact q e
theorem name_len {s : Str} (h : IsName s) : s.length ≤ 1000 ∧ PyData.strOk s = true := ⟨Nat.le_trans h.hi (by decide), h.sok⟩
structure QDc (P : Program) (w : World) (K : PySem.W.Frag) (mg : Str → Option Value) (base : Heap) (CE fn : Addr) : Prop where
  check_part : CalH P w K mg base (L2.CX P w) 4 "check_part" (spPart P w K mg base CE)
  is_node : Cal P w K mg base CX0 1 "is_node" spIsNdA
  MAX_NODES : ∃ u, mg "MAX_NODES" = some u ∧ RelV (.int 40) u
  MAX_EDGES : ∃ u, mg "MAX_EDGES" = some u ∧ RelV (.int 120) u
theorem ok_ckGr {f : Addr} {fd : FuncData} {c Pt : Addr} {T : List (Addr × Str)} {CE CB fn : Addr} (F : FunC K "check_graph" "check_graph" s_check_graph f fd c) (B : Bt mg) (C : QDc P w K mg base CE fn) (mN : mg "is_node" = some (.ref fn)) (TE : ErrX2 P w K mg base "InvalidGraph" "part" "position" CE CB) (TB : TabB base mg c Pt) (hT : (Pt, qEdge) ∈ T) (hu' : ∀ y ∈ T, y.1 = Pt → y.2 = qEdge) : FnG P w K mg base (L2.CX P w) 5 f fd ["candidate"] (spCkGr T CE) := by
  refine fnGC F sc_check_graph (fun vs H Q E h => ?_) (fun A outer s H vs Q E hr h => ?_)
  · obtain ⟨v, r, rfl, _⟩ := h
    rfl
  · obtain ⟨v, r, rfl, tabs, rg, q, er⟩ := h
    have nd := sc_check_graph.nd
    have hu := hr.u1
    have gN : ∃ u, mg "is_node" = some u ∧ RelV (.ref fn) u := ⟨_, mN, rfl⟩
    refine ⟨_, (pss_cons (ps_if (PW.pt (pw_or (pt_not (pt_val (pe_callB (kIsi K rfl) (by rfl) B.isinstance bb_isinstance (pa_cons (pv 0) (pa_cons (pe_ty rfl B.tuple bb_tuple) pa_nil))))) (pw_or1 (pt_cmpR (kNe K rfl hr.u64) (pe_callB (kLen K rfl) (by rfl) B.len bb_len (pa_cons (pv 0) pa_nil)) pe_int (nomark _))))) (pss_one (ps_rz2 TE hr (by decide) rfl (takes_of rfl rfl rfl rfl) rfl pe_str pe_non)) pss_nil)
  (pss_cons (ps_asg (pv 0) (kg_tup (n := 2) K rfl rfl (pgs_cons (pg_name (i := 1) nd rfl (by first | exact Or.inl rfl | exact Or.inr rfl)) (pgs_cons (pg_name (i := 2) nd rfl (by first | exact Or.inl rfl | exact Or.inr rfl)) pgs_nil))))
  (pss_cons (ps_ndefS (st := ndEdge) (T := NT T) (nm := fun _ _ => qEdge) (c := c) (P := Pt) (i := 3) rfl TB rfl (nt_mem hT) rfl (nt_one hu') (ndef_free nb_edge) rfl rfl rfl nd rfl (Or.inl rfl) (Or.inl rfl))
  (pss_cons (ps_expr (pe_cHmx C.check_part hr (by decide) rfl (takes_of rfl rfl rfl rfl) (pa_cons pe_str (pa_cons (pv 1) (pa_cons (pe_gl rfl C.MAX_NODES) (pa_cons (pe_gl rfl gN) pa_nil))))))
  (pss_one (ps_expr (pe_cHcx (js := [1]) (fr := ["nodes"]) C.check_part hr (by decide) rfl (takes_of rfl rfl rfl rfl) (fun ok => Caps.made (scope := C8.fnScope ndEdge) ok (ndef_free nb_edge) (ndef_fr nb_edge) rfl) (fun _ _ _ => rfl) (pa_cons pe_str (pa_cons (pv 2) (pa_cons (pe_gl rfl C.MAX_EDGES) (pa_cons (pv 3) pa_nil))))))))))), ?_⟩
    wtm_at "rd"
    have er0 : ∀ {E1 : XK} {v1 v2 : V} {H1 : Hp}, Fld2 "part" "position" CE v1 v2 H1 E1 → [v1, v2].length ≤ 1000 ∧ ∀ a, H1 a = none → spInit2 CE "part" "position" (.ref a :: ([v1, v2] ++ [])) (upd H1 a (exo a CE none)) (fun w H2 => w = .non ∧ ∃ (d : Addr) (fs : List (Str × V)), H2 a = some (exo a CE (some d)) ∧ H2 d = some (exd d fs) ∧ H1 d = none ∧ E1 (.ref CE) (some d) (upd (del H2 a) d (.xd fs))) (fun _ _ _ => False) := fun er => rd_mk2 fun d H' s' _ hd => er d H' s' hd
    have erS : ∀ {part : Str} {pos : V} {H1 : Hp}, r = some (part, pos) → ExtN H H1 → Tabs T H1 → Fld2 "part" "position" CE (.str part) pos H1 E := fun e x t d H' s hd => er _ _ e d H' (x.trans (ExtN.of fun b o h => s b o h)) (t.ext fun b o h => s b o h) hd
    have xH : ExtN H H := ExtN.of fun _ _ h => h
    rcases rg with ⟨ob, nt, e⟩ | ⟨a, xs, rfl, ha, rg⟩
    · obtain ⟨ty, hty, _, h2⟩ := ob.ty (K := K)
      refine rd_isi hty (t := .tup) (by decide +kernel) ?_
      rw [show isT ty .tup = false from by
        cases z : isT ty .tup with
        | false => rfl
        | true =>
          obtain ⟨b, ys, e1, e2⟩ := h2.mp z
          exact absurd e2 (nt b ys e1)]
      wtm_at "rd"
      refine rd_rz2 ?_
      wtm_at "rd"
      exact er0 (erS e xH tabs)
    refine rd_isi (ty_tup ha) (t := .tup) (by decide +kernel) ?_
    rw [show isT .tup .tup = true from by decide +kernel]
    wtm_at "rd"
    refine rd_lenT (SqT.of ha) ?_
    wtm_at "rd"
    rcases rg with ⟨ne, e⟩ | ⟨vn, ve, rfl, pn, pe, alt⟩
    · refine rd_nyes (by omega) ?_
      wtm_at "rd"
      refine rd_rz2 ?_
      wtm_at "rd"
      exact er0 (erS e xH tabs)
    refine rd_nno (by rfl) ?_
    wtm_at "rd"
    refine rd_unp (SqT.of ha) rfl ?_
    wtm_at "rd"
    refine rd_ndef ⟨nt_of tabs, fun fa c' H1 x1 t1 nf hfa hc' => ?_⟩
    have t1 := nt_to t1
    have pn1 := pn.ext x1
    have pe1 := pe.ext x1
    have callN : ∀ {H0 : Hp}, PartOk H0 vn → ∀ a xs, vn = .ref a → H0 a = some (.tup xs) → ∀ x ∈ xs, ∀ (H1 : Hp) (Q1 : VK), Same H0 H1 → (∀ H2, Same H1 H2 → Q1 (.bl (goodM x)) H2) → spIsNdA [x] H1 Q1 E0 := fun {H0} ok a xs e h x hx H1 Q1 s k => by
      obtain ⟨o, sh⟩ := ((ok.2 a xs e h).2 x hx).ob
      exact ⟨x, rfl, o.same s, sh, k⟩
    wtm_at "rd"
    refine rd_cHx ?_
    wtm_at "rd"
    intro hh _
    rcases alt with ⟨⟨prt, pos⟩, p1, e⟩ | ⟨n, ns, rfl, hn, p1, nms, p2⟩
    · refine part_sp (p1.ext pn.1 x1) pn1 (handed_up (C.is_node.handed mN _ _ _) (by decide)) (fun _ _ => trivial) (callN pn1) (fun _ => items_node) (fun pos2 e2 => ?_) (fun z => nomatch z)
      rw [e2] at e
      exact erS e x1 t1
    refine part_sp (p1.ext pn.1 x1) pn1 (handed_up (C.is_node.handed mN _ _ _) (by decide)) (fun _ _ => trivial) (callN pn1) (fun _ => items_node) (fun pos2 e2 => nomatch e2) fun _ H2 s2 => ?_
    have x2 := x1.trans (ExtN.of fun b o h => s2 b o h)
    have t2 := t1.ext fun b o h => s2 b o h
    have pe2 := pe.ext x2
    wtm_at "rd"
    refine rd_cHx ?_
    wtm_at "rd"
    intro hh2 held
    refine part_sp (Pre := fun H3 => H3 fa = some (FnO fa _) ∧ H3 c' = some (CodeO c' _)) (sp := fun vs H Q E => spNdEdge K [some (.ref n)] vs H Q E) (p2.ext pe.1 x2) pe2 (handed_up (k := 1) (.inl ⟨_, _, _, _, _, nd_edge B, held, fun H2 p => p, fun vs H Q E z => z⟩) (by decide)) (fun H3 s3 => ⟨s3 _ _ (s2 _ _ hfa), s3 _ _ (s2 _ _ hc')⟩) (fun b ys e3 hb x hx H3 Q1 s3 k => ?_) (fun _ => items_edge x2) (fun pos2 e2 => erS e2 x2 t2) fun e2 H3 s3 => ?_
    · have x3 := x2.trans (ExtN.of fun b o h => s3 b o h)
      have itH : It1 H x := by
        rcases pe.1 with z | ⟨_, z⟩ | ⟨_, z⟩ | ⟨_, z⟩ | ⟨b2, o, z, h1, h2⟩
        · rw [z] at e3; cases e3
        · rw [z] at e3; cases e3
        · rw [z] at e3; cases e3
        · rw [z] at e3; cases e3
        · rw [z] at e3
          cases e3
          have h3 := x2 b o h1 (fun ps e => by subst e; rcases h2 with ⟨_, h2⟩ | ⟨_, h2⟩ | ⟨_, h2⟩ <;> cases h2)
          rw [hb] at h3
          cases h3
          exact (pe.2 b ys z h1).2 x hx
      refine ⟨n, x, ns, rfl, rfl, SqT.of (x3 _ _ hn nofun), fun s hs => name_len (nms s hs), itH.ext fun b o h z => x3 b o h z, fun H4 s4 => ?_⟩
      have := k H4 s4
      rw [← goodE_same (H' := H3) itH.ob.1 (fun b o h z => x3 b o h z)] at this
      exact this
    · wtm_at "rd"
      exact q e2 H3 (x2.trans (ExtN.of fun b o h => s3 b o h)) (t2.ext fun b o h => s3 b o h)
end
end Law


/-! k92: words are parsed -/
namespace Law
open PySem PySem.Spec PyProof.Rows L2 U


theorem pe_rpfx {X : Cx} {o e : Expr} {to te : TE} {apos pos : Pos} (ho : PE X o to) (he : PE X e te) (hs : starEach [e] X.env = [(false, eval e X.env)] := by rfl) (hbase : attributeBase o "removeprefix" X.env (eval o X.env) = eval o X.env := by rfl) (hline : (apos.endLine == pos.line) = true := by rfl) :
    PE X (.Call (.Attribute o "removeprefix" apos) [e] [] pos) (tM1 (fun x xs H Q => ∃ a b, x = .str a ∧ xs = [.str b] ∧ a.length ≤ sizeLine ∧ Q (.str (Txt.removeprefix a b)) H) to te) :=
  pe_m1 PySem.F.slot_str_removeprefix PySem.F.type_str_removeprefix mt_removeprefix ho he hs hbase hline
def spPnw : Sp := fun vs H Q _ => ∃ w : Str, vs = [.str w] ∧ IsName w ∧ ∀ H' : Hp, Same H H' → Q (.str w) H'
def spPew : Sp := fun vs H Q _ => ∃ e : Str × Str, vs = [.str (wdE e)] ∧ IsName e.1 ∧ IsName e.2 ∧ ∀ (t : Addr) (H' : Hp), Same H H' → H' t = some (.tup [.str e.1, .str e.2]) → Q (.ref t) H'
def spPmw : Sp := fun vs H Q _ => ∃ m : Str × Int, vs = [.str (wdM m)] ∧ IsName m.1 ∧ 0 ≤ m.2 ∧ m.2 < 3 ∧ ∀ (t : Addr) (H' : Hp), Same H H' → H' t = some (.tup [.str m.1, .int m.2]) → Q (.ref t) H'
def spPlw : Sp := fun vs H Q _ => ∃ m : Str × Int, vs = [.str (wdL m)] ∧ IsName m.1 ∧ m.2.natAbs < 10 ^ 60 ∧ ∀ (t : Addr) (H' : Hp), Same H H' → H' t = some (.tup [.str m.1, .int m.2]) → Q (.ref t) H'
def spDig : Sp := fun vs H Q _ => ∃ n : Nat, vs = [.str (itx (n : Int))] ∧ n < 10 ^ 60 ∧ ∀ H' : Hp, Same H H' → Q (.bl true) H'
section
variable {P : Program} {w : World} {K : PySem.W.Frag} {mg : Str → Option Value} {base : Heap}
structure EBa (P : Program) (w : World) (K : PySem.W.Frag) (mg : Str → Option Value) (base : Heap) : Prop where
  is_node : Cal P w K mg base CX0 1 "is_node" spIsNdA
theorem use_node {x : Str} {H : Hp} {Q : VK} {E : XK} (nm : IsName x) (q : ∀ H', Same H H' → Q (.bl true) H') : spIsNdA [.str x] H Q E := ⟨.str x, rfl, .inr (.inr (.inr (.inl ⟨x, rfl⟩))), (fun s e => by
  cases e
  have := nm.hi
  omega), fun H' s => by
  have g : goodM (.str x) = true := nmB_iff.mpr nm
  rw [g]
  exact q H' s⟩
theorem ok_pnw {f : Addr} {fd : FuncData} (F : Fun K "parse_node_word" "parse_node_word" s_parse_node_word f fd) (B : Bt mg) (C : EBa P w K mg base) : FnG P w K mg base CX0 2 f fd ["word"] spPnw := by
  refine fnG0 F sc_parse_node_word (fun vs H Q E h => ?_) (fun cdv A outer s H vs Q E hr h => ?_)
  · obtain ⟨w0, rfl, _⟩ := h
    rfl
  · obtain ⟨w0, rfl, nm, q⟩ := h
    have nd := sc_parse_node_word.nd
    have hu := hr.u1
    refine ⟨_, (pss_one (ps_ret (pe_ifExp (pt_val (pe_c C.is_node hr (by decide) rfl (pa_cons (pv 0) pa_nil))) (pv 0) pe_non))), ?_⟩
    wtm_at "rd"
    refine use_node nm fun H' s => ?_
    wtm_at "rd"
    exact q H' s
theorem ok_pew {f : Addr} {fd : FuncData} (F : Fun K "parse_edge_word" "parse_edge_word" s_parse_edge_word f fd) (B : Bt mg) (C : EBa P w K mg base) : FnG P w K mg base CX0 2 f fd ["word"] spPew := by
  refine fnG0 F sc_parse_edge_word (fun vs H Q E h => ?_) (fun cdv A outer s H vs Q E hr h => ?_)
  · obtain ⟨e, rfl, _⟩ := h
    rfl
  · obtain ⟨e, rfl, n1, n2, q⟩ := h
    have nd := sc_parse_edge_word.nd
    have hu := hr.u1
    refine ⟨_, (pss_cons (ps_asg (pe_partition (pv 0) pe_str) (kg_tup (n := 3) K rfl rfl (pgs_cons (pg_name (i := 1) nd rfl (by first | exact Or.inl rfl | exact Or.inr rfl)) (pgs_cons (pg_name (i := 2) nd rfl (by first | exact Or.inl rfl | exact Or.inr rfl)) (pgs_cons (pg_name (i := 3) nd rfl (by first | exact Or.inl rfl | exact Or.inr rfl)) pgs_nil)))))
  (pss_one (ps_ret (pe_ifExp (PW.pt (pw_and (pt_cmpR (kNe K rfl hr.u64) (pv 2) pe_str (nomark _)) (pw_and (pt_val (pe_c C.is_node hr (by decide) rfl (pa_cons (pv 1) pa_nil))) (pw_and1 (pt_val (pe_c C.is_node hr (by decide) rfl (pa_cons (pv 3) pa_nil))))))) (pe_tup (pa_cons (pv 1) (pa_cons (pv 3) pa_nil))) pe_non)))), ?_⟩
    wtm_at "rd"
    refine rd_m1E ?_
    wtm_at "rd"
    refine ⟨⟨_, rfl⟩, ?_⟩
    wtm_at "rd"
    have l0 := (wd_edge n1 n2).ln
    refine ⟨_, _, rfl, rfl, by decide +kernel, by have : 1000 ≤ sizeLine := (by decide); omega, fun p fp => ?_⟩
    rw [wdE_part n1]
    have k1 := Same.new (o := .tup [.str e.1, .str ("-" : Str), .str e.2]) fp
    have hp := @upd_same H p (.tup [.str e.1, .str ("-" : Str), .str e.2])
    dsimp only
    generalize upd H p (.tup [.str e.1, .str ("-" : Str), .str e.2]) = H1 at *
    refine rd_unp (SqT.of hp) rfl ?_
    wtm_at "rd"
    rw [show (!decide (("-" : Str) = "")) = true from by decide +kernel]
    wtm_at "rd"
    refine use_node n1 fun H2 s2 => ?_
    wtm_at "rd"
    refine use_node n2 fun H3 s3 => ?_
    wtm_at "rd"
    intro t ft
    exact q t _ (((k1.trans s2).trans s3).trans (Same.new ft)) upd_same
theorem ok_pmw {f : Addr} {fd : FuncData} {va : Addr} (F : Fun K "parse_move_word" "parse_move_word" s_parse_move_word f fd) (B : Bt mg) (C : EBa P w K mg base) (hV : mg "VALUES" = some (.ref va)) (sV : ∀ H, SqT K H va [.str "0", .str "1", .str "2"]) : FnG P w K mg base CX0 2 f fd ["word"] spPmw := by
  refine fnG0 F sc_parse_move_word (fun vs H Q E h => ?_) (fun cdv A outer s H vs Q E hr h => ?_)
  · obtain ⟨m, rfl, _⟩ := h
    rfl
  · obtain ⟨m, rfl, nm, m0, m3, q⟩ := h
    have nd := sc_parse_move_word.nd
    have hu := hr.u1
    refine ⟨_, (pss_one (ps_ret (pe_ifExp (PW.pt (pw_and (pt_cmpR (kIn K rfl) (pe_slice (kSl K rfl) (pv 0) (po_some (pe_un un_neg pe_int)) po_none) (pe_gl (v := .ref va) rfl ⟨_, hV, rfl⟩) rfl) (pw_and1 (pt_val (pe_c C.is_node hr (by decide) rfl (pa_cons (pe_slice (kSl K rfl) (pv 0) po_none (po_some (pe_un un_neg pe_int))) pa_nil)))))) (pe_tup (pa_cons (pe_slice (kSl K rfl) (pv 0) po_none (po_some (pe_un un_neg pe_int))) (pa_cons (pe_callTy call_int_str (by rfl) B.int bb_int (pa_cons (pe_slice (kSl K rfl) (pv 0) (po_some (pe_un un_neg pe_int)) po_none) pa_nil)) pa_nil))) pe_non))), ?_⟩
    have big : 1000 ≤ sizeLine := by decide
    have wl := (wd_move nm (m := m) (by omega)).ln
    have l1 := nm.lo
    wtm_at "rd"
    refine rd_slS (by omega) ?_
    rw [wdM_last m0 (by omega)]
    wtm_at "rd"
    refine rd_inST (xs := ["0", "1", "2"]) (sV _) ?_
    have vin : itx m.2 ∈ (["0", "1", "2"] : List Str) := by
      have : m.2 = 0 ∨ m.2 = 1 ∨ m.2 = 2 := by omega
      rcases this with e | e | e <;> (rw [e]; decide +kernel)
    rw [decide_eq_true vin]
    wtm_at "rd"
    refine rd_slS (by omega) ?_
    rw [wdM_init m0 (by omega)]
    wtm_at "rd"
    refine use_node nm fun H1 s1 => ?_
    wtm_at "rd"
    refine rd_slS (by omega) ?_
    rw [wdM_init m0 (by omega)]
    wtm_at "rd"
    refine rd_slS (by omega) ?_
    rw [wdM_last m0 (by omega)]
    obtain ⟨b1, b2⟩ := int_back (i := m.2) (by omega)
    wtm_at "rd"
    refine ⟨_, _, rfl, b1, b2, ?_⟩
    wtm_at "rd"
    intro t ft
    exact q t _ (s1.trans (Same.new ft)) upd_same
theorem ok_dig {f : Addr} {fd : FuncData} (F : Fun K "is_digits" "is_digits" s_is_digits f fd) (B : Bt mg) (gM : ∃ u, mg "MAX_DIGITS" = some u ∧ RelV (.int 60) u) (gD : ∃ u, mg "DIGITS" = some u ∧ RelV (.str "0123456789") u) : FnG P w K mg base CX0 1 f fd ["text"] spDig := by
  refine fnG0 F sc_is_digits (fun vs H Q E h => ?_) (fun cdv A outer s H vs Q E hr h => ?_)
  · obtain ⟨n, rfl, _⟩ := h
    rfl
  · obtain ⟨n, rfl, n60, q⟩ := h
    have nd := sc_is_digits.nd
    have hu := hr.u1
    refine ⟨_, (pss_cons (ps_if (PW.pt (pw_or (pt_not (pt_chain uLe uLe pe_int (pe_callB (kLen K rfl) (by rfl) B.len bb_len (pa_cons (pv 0) pa_nil)) (pe_gl rfl gM))) (pw_or1 (pt_not (pt_val (pe_callB (kAll K rfl rfl) (by rfl) B.all bb_all (pa_cons (pe_lc (own := [("digit", 1)]) rfl nd (pi_str (pv 0)) (blkOk_by (own := [("digit", 1)]) (N := nN_is_digits) (sc := defScope s_is_digits) (by decide +kernel)) (fun _ _ _ _ _ => (pg_name (i := 1) nd rfl (by first | exact Or.inl rfl | exact Or.inr rfl))) (fun _ _ _ _ _ => pts_nil) (fun _ _ _ _ _ => (pe_cmpR op_inS (pv 1) (pe_gl rfl gD) rfl))) pa_nil))))))) (pss_one (ps_ret pe_bl)) pss_nil)
  (pss_one (ps_ret (pe_or (pe_cmpR (kNe K rfl hr.u64) (pe_ix (kIx K rfl) (pv 0) pe_int (fun _ _ => rfl)) pe_str (nomark _)) (pe_one (pe_cmpR (kEq K rfl hr.u64) (pv 0) pe_str (nomark _))))))), ?_⟩
    have tln := tl_itx_nat n
    have nl := TL.numL_len (n := n) (k := 60) (by decide) n60
    have ne := TL.numL_ne n
    have ln : (itx (n : Int)).length = (TL.numL n).length := by rw [TL.len_tl, tln]
    have l1 : 1 ≤ (TL.numL n).length := List.length_pos_iff.mpr ne
    wtm_at "rd"
    refine rd_lenS (by omega) ?_
    wtm_at "rd"
    refine rd_yes (by omega) ?_
    wtm_at "rd"
    refine rd_nno (by omega) ?_
    wtm_at "rd"
    refine ⟨_, rfl, itx (n : Int), rfl, ?_⟩
    intro D fD
    have csz : (itx (n : Int)).cps.size = (TL.numL n).length := ln
    refine lc_it walk_str (fun i H2 => Same H H2 ∧ H2 D = some (.lst ((((TL.numL n).take i).map fun c => decide (c ∈ ("0123456789" : Str).cps.toList)).map V.bl))) ⟨Same.new fD, upd_same⟩ (fun _ _ _ _ => trivial) ?_ ?_
    · rintro i y H2 H3 hi ⟨s', hD⟩ ⟨rfl, c, hc, rfl⟩
      have hi : i < (itx (n : Int)).cps.size := hi
      have hi' : i < (TL.numL n).length := by omega
      have ec : (TL.numL n)[i] = c := by
        have h := Array.getElem?_eq_some_iff.mp hc
        obtain ⟨_, h⟩ := h
        have e : (itx (n : Int)).cps.toList[i]? = some c := by
          rw [Array.getElem?_toList]
          exact hc
        have e2 : (itx (n : Int)).cps.toList = TL.numL n := tln
        rw [e2, List.getElem?_eq_getElem hi'] at e
        exact Option.some.inj e
      show gName _ (V.str ⟨#[c]⟩) _ _ _
      wtm_at "rd"
      refine ⟨c, _, rfl, rfl, ?_⟩
      refine ⟨_, hD, by rw [List.length_map, List.length_map, List.length_take]; show _ < sizeLine; exact Nat.lt_of_lt_of_le (by omega : min i (TL.numL n).length < 61) (by decide), same_put s' fD, ?_⟩
      rw [upd_same, take_snoc hi', List.map_append, List.map_append, ec]
      rfl
    · rintro H2 ⟨s', hD⟩
      have e0 : (TL.numL n).take (itx (n : Int)).cps.size = TL.numL n := List.take_of_length_le (by omega)
      rw [e0] at hD
      wtm_at "rd"
      refine rd_allL (SqL.of hD) ?_
      have al : ((TL.numL n).map fun c => decide (c ∈ ("0123456789" : Str).cps.toList)).all id = true := by
        rw [List.all_map, List.all_eq_true]
        intro c hc
        have := TL.numL_digits n c hc
        have e : ("0123456789" : Str).cps.toList = [48, 49, 50, 51, 52, 53, 54, 55, 56, 57] := by decide +kernel
        refine decide_eq_true ?_
        rw [e]
        have : c = 48 ∨ c = 49 ∨ c = 50 ∨ c = 51 ∨ c = 52 ∨ c = 53 ∨ c = 54 ∨ c = 55 ∨ c = 56 ∨ c = 57 := by omega
        simp only [List.mem_cons, List.not_mem_nil, or_false]
        exact this
      rw [al]
      wtm_at "rd"
      obtain ⟨c, r, ec⟩ : ∃ c r, TL.numL n = c :: r := by
        cases e : TL.numL n with
        | nil => exact absurd e ne
        | cons c r => exact ⟨c, r, rfl⟩
      have tc : (itx (n : Int)).cps.toList = c :: r := by rw [← ec]; exact tln
      refine rd_ixS (c := c) (by omega) (by rw [tc]; exact atI_nat (j := 0) rfl) ?_
      wtm_at "rd"
      by_cases n0 : n = 0
      · subst n0
        have e1 : TL.numL 0 = [48] := TL.numL_lt (by decide)
        rw [e1] at ec
        obtain rfl : 48 = c := (List.cons.inj ec).1
        rw [show (!decide ((⟨#[48]⟩ : Str) = "0")) = false from by decide +kernel]
        wtm_at "rd"
        rw [show decide (itx ((0 : Nat) : Int) = "0") = true from by decide +kernel]
        exact q H2 s'
      · obtain ⟨c2, r2, e2, n2⟩ := numL_lead n0
        rw [ec] at e2
        obtain rfl := (List.cons.inj e2).1
        have nz : (⟨#[c]⟩ : Str) ≠ "0" := fun z => by
          have z1 : TL.tl (⟨#[c]⟩ : Str) = TL.tl ("0" : Str) := by rw [z]
          have z2 : TL.tl ("0" : Str) = [48] := by decide +kernel
          rw [z2] at z1
          have : c = 48 := (List.cons.inj z1).1
          exact n2 this
        rw [decide_eq_false nz]
        wtm_at "rd"
        exact q H2 s'
theorem ok_plw {f : Addr} {fd : FuncData} (F : Fun K "parse_number_word" "parse_number_word" s_parse_number_word f fd) (B : Bt mg) (C : EBa P w K mg base) (D : Cal P w K mg base CX0 1 "is_digits" spDig) : FnG P w K mg base CX0 2 f fd ["word"] spPlw := by
  refine fnG0 F sc_parse_number_word (fun vs H Q E h => ?_) (fun cdv A outer s H vs Q E hr h => ?_)
  · obtain ⟨m, rfl, _⟩ := h
    rfl
  · obtain ⟨m, rfl, nm, m60, q⟩ := h
    have nd := sc_parse_number_word.nd
    have hu := hr.u1
    refine ⟨_, (pss_cons (ps_asg (pe_partition (pv 0) pe_str) (kg_tup (n := 3) K rfl rfl (pgs_cons (pg_name (i := 1) nd rfl (by first | exact Or.inl rfl | exact Or.inr rfl)) (pgs_cons (pg_name (i := 2) nd rfl (by first | exact Or.inl rfl | exact Or.inr rfl)) (pgs_cons (pg_name (i := 3) nd rfl (by first | exact Or.inl rfl | exact Or.inr rfl)) pgs_nil)))))
  (pss_cons (ps_set (i := 4) nd rfl (by first | exact Or.inl rfl | exact Or.inr rfl) (pe_rpfx (pv 3) pe_str))
  (pss_cons (ps_if (PW.pt (pw_or (pt_cmpR (kEq K rfl hr.u64) (pv 2) pe_str (nomark _)) (pw_or (pt_not (pt_val (pe_c C.is_node hr (by decide) rfl (pa_cons (pv 1) pa_nil)))) (pw_or (pt_not (pt_val (pe_c D hr (by decide) rfl (pa_cons (pv 4) pa_nil)))) (pw_or1 (pt_cmpR (kEq K rfl hr.u64) (pv 3) pe_str (nomark _))))))) (pss_one (ps_ret pe_non)) pss_nil)
  (pss_one (ps_ret (pe_tup (pa_cons (pv 1) (pa_cons (pe_callTy call_int_str (by rfl) B.int bb_int (pa_cons (pv 3) pa_nil)) pa_nil)))))))), ?_⟩
    wtm_at "rd"
    refine rd_m1E ?_
    wtm_at "rd"
    refine ⟨⟨_, rfl⟩, ?_⟩
    wtm_at "rd"
    have l0 := (wd_lift nm m60).ln
    have l2 := itx_len m60
    refine ⟨_, _, rfl, rfl, by decide +kernel, by have : 1000 ≤ sizeLine := (by decide); omega, fun p fp => ?_⟩
    rw [wdL_part nm]
    have k1 := Same.new (o := .tup [.str m.1, .str (":" : Str), .str (itx m.2)]) fp
    have hp := @upd_same H p (.tup [.str m.1, .str (":" : Str), .str (itx m.2)])
    dsimp only
    generalize upd H p (.tup [.str m.1, .str (":" : Str), .str (itx m.2)]) = H1 at *
    refine rd_unp (SqT.of hp) rfl ?_
    wtm_at "rd"
    refine rd_m1E ?_
    wtm_at "rd"
    refine ⟨⟨_, rfl⟩, ?_⟩
    wtm_at "rd"
    refine ⟨_, _, rfl, rfl, by have : 1000 ≤ sizeLine := (by decide); omega, ?_⟩
    rw [rp_itx]
    wtm_at "rd"
    rw [show decide ((":" : Str) = "") = false from by decide +kernel]
    wtm_at "rd"
    refine use_node nm fun H2 s2 => ?_
    wtm_at "rd"
    refine ⟨m.2.natAbs, rfl, m60, fun H3 s3 => ?_⟩
    wtm_at "rd"
    try refine rd_F ?_
    wtm_at "rd"
    rw [decide_eq_false itx_dash]
    wtm_at "rd"
    obtain ⟨b1, b2⟩ := int_back m60
    refine ⟨_, _, rfl, b1, b2, ?_⟩
    wtm_at "rd"
    intro t ft
    exact q t _ (((k1.trans s2).trans s3).trans (Same.new ft)) upd_same
end
end Law

/-! dict(a list of pairs), lists of truth values compared -/
namespace U
open PySem PySem.Spec PyProof.Rows L2
def rDictP (K : PySem.W.Frag) : List V → Hp → VK → Prop := fun xs H Q => ∃ (a : Addr) (ps : List Addr) (kvs : List (Key × V)), xs = [.ref a] ∧ SqL K H a (ps.map V.ref) ∧ Paired (fun p kv => SqT K H p [kV kv.1, kv.2]) ps kvs ∧
    ∀ p, H p = none → Q (.ref p) (upd H p (.dK (mergeK [] kvs)))
theorem kDictP {X : Cx} (K : PySem.W.Frag) (hK : X.K = K) (hc : X.calm = true) : CallR X (.type "dict") (rDictP K) := by
  subst hK
  intro pins s σ H xs us Q I r h
  exact call_dictP hc pins s σ H xs us Q I r h
theorem rd_dictP {K : PySem.W.Frag} {H : Hp} {Q : VK} {a : Addr} {ps : List Addr} {kvs : List (Key × V)} (h1 : SqL K H a (ps.map V.ref)) (h2 : Paired (fun p kv => SqT K H p [kV kv.1, kv.2]) ps kvs) (h : ∀ p, H p = none → Q (.ref p) (upd H p (.dK (mergeK [] kvs)))) : rDictP K [.ref a] H Q := ⟨a, ps, kvs, rfl, h1, h2, h⟩
end U

/-! a def with defaults of its positional parameters -/
namespace U
open PySem PySem.Spec PyProof.Rows L2
structure FunP (K : PySem.W.Frag) (x qual : Str) (st : Stmt) (f : Addr) (fd : FuncData) : Prop where
  ex : ∃ (oc : Value) (od : Option Addr) (dV kV doc pm : Value) (an : Option Addr) (cdv ct : Value) (osl : Array (Option Value)),
    fd = PySem.W.fnOf x qual (defArgs st) (defBody st) (defScope st) dV kV doc pm an cdv ct ∧ K.lookup f = some ⟨oc, od, .func fd, osl⟩ ∧ PySem.W.codeIn K cdv qual = true
section
variable {P : Program} {w : World} {K : PySem.W.Frag} {mg : Str → Option Value} {base : Heap}
theorem fnGP {CX : CXT} {x qual : Str} {st : Stmt} {f : Addr} {fd : FuncData} {N ps : List Str} {k : Nat} {sp : Sp} (F : FunP K x qual st f fd) (S : FnScope N ps (defScope st)) (len : ∀ vs H Q E, sp vs H Q E → vs.length = ps.length)
    (body : ∀ (cdv : Value) (A : Around) (outer : List Env) (s : Shared) (H : Hp) (vs : List V) (Q : VK) (E : XK), Rm k (A.deeper (envOfC qual (defScope st) s.heap.objs.size f cdv)) → sp vs H Q E →
      ∃ t, PSs (cxOf CX P w K mg base N qual (defScope st) f cdv A outer s H E) (defBody st) t ∧ t { nx := fun _ H' => Q .non H', rt := Q } (start N vs) H) :
    FnG P w K mg base CX (k + 1) f fd ps sp := by
  obtain ⟨oc, od, dV, kV, doc, pm, an, cdv, ct, osl, rfl, lk, hcd⟩ := F.ex
  refine ⟨len, fun A outer s H args us vs Q E room e0 bd rel want => ?_⟩
  have count := len _ _ _ _ want
  have kin : K.In s.heap := e0.mod.kin.keeps fun b o e => (e0.bs b o e).1
  have kinds : ∀ y ∈ ps.zip us, (defScope st).names.lookup y.1 = some .local ∨ ((defScope st).names.lookup y.1 = some .cell ∧ ((cellsFrom (s.heap.objs.size + 1) (defScope st).names []).lookup y.1).isSome = true) := by
    rintro ⟨n, v⟩ hy
    cases S.par n (List.of_mem_zip hy).1 with
    | inl q => exact .inl q
    | inr q => exact .inr ⟨q, PySem.W.cellsFrom_some _ _ _ (.inl q)⟩
  apply codeAny_call_function room.r.depth (kin _ _ lk) rfl S.co S.gen rfl (PySem.W.codeRec_of kin hcd) (bd _ _ _ _ _)
  apply wpAny_newFunctionEnv_cells S.kind kinds
  intro env he s1 x
  subst he
  have lim : s.heap.NoLimit := e0.mod.nolimit.keeps fun b o e => (e0.bs b o e).1
  refine ⟨lim.keeps x.toInCall.keep, codeAny_func ?_⟩
  obtain ⟨t, ht, want'⟩ := body cdv A outer s H vs Q E (room.deeper _) want
  have I := inv_start (CX := CX) (P := P) (w := w) (K := K) (mg := mg) (base := base) (E := E) S room.r.hd e0 count rel x
  refine wpAny_mono (ht.run [] s1 (start N vs) H _ I want') ?_ fun e s' hs => hs
  intro fl s' hs
  cases fl with
  | ret u =>
    obtain ⟨v, σ', H', J, rv, q⟩ := hs
    exact ⟨v, H', J.os, J.bare, J.base, J.hok, rv, q⟩
  | next =>
    obtain ⟨σ', H', J, q⟩ := hs
    exact ⟨V.non, H', J.os, J.bare, J.base, J.hok, rfl, q⟩
  | brk => exact hs.elim fun _ z => z.elim fun _ z => z.2.elim
  | cont => exact hs.elim fun _ z => z.elim fun _ z => z.2.elim
theorem fnG0P {x qual : Str} {st : Stmt} {f : Addr} {fd : FuncData} {N ps : List Str} {k : Nat} {sp : Sp} (F : FunP K x qual st f fd) (S : FnScope N ps (defScope st)) (len : ∀ vs H Q E, sp vs H Q E → vs.length = ps.length)
    (body : ∀ (cdv : Value) (A : Around) (outer : List Env) (s : Shared) (H : Hp) (vs : List V) (Q : VK) (E : XK), Rm k (A.deeper (envOfC qual (defScope st) s.heap.objs.size f cdv)) → sp vs H Q E →
      ∃ t, PSs (cxOf CX0 P w K mg base N qual (defScope st) f cdv A outer s H E).nox (defBody st) t ∧ t { nx := fun _ H' => Q .non H', rt := Q } (start N vs) H) :
    FnG P w K mg base CX0 (k + 1) f fd ps sp := fnGP F S len fun cdv A outer s H vs Q E hr h => by
  obtain ⟨t, p, q⟩ := body cdv A outer s H vs Q E hr h
  exact ⟨t, p.nox, q⟩
end
end U


/-! k92: texts of words are parsed -/
namespace Law
open PySem PySem.Spec PyProof.Rows L2 U LamX NdefX


theorem rd_hdE {f : Addr} {Pre : Hp → Prop} {i : Nat} {sp : Sp} {E : XK} {t : TA} {σ : L2.St} {H : Hp} {Q : VK} (h : σ[i]? = some (some (.ref f)) ∧ Pre H ∧ t σ H fun vs H1 => Pre H1 ∧ sp vs H1 Q E) : tHd f Pre i sp E t σ H Q := h
/-- valid words parsed by a handed function: R i: what the i-th word gives -/
def spPw (P : Program) (w : World) (K : PySem.W.Frag) (mg : Str → Option Value) (base : Heap) : Sp := fun vs H Q _ => ∃ (fa : Addr) (st : Int) (ws : List Str) (sp : Sp) (R : Nat → Hp → V → Prop), vs = [.str (jw ws), .ref fa, .int st] ∧ WdsOk ws ∧ (∀ l h H, Handed P w K mg base 2 l h H fa (fun _ => True) sp) ∧
  (∀ i H H' v, R i H v → (∀ a xs, H a = some (.tup xs) → H' a = some (.tup xs)) → R i H' v) ∧ (∀ i (hi : i < ws.length) (H1 : Hp) (Q1 : VK), Same H H1 → (∀ v H2, Same H1 H2 → v ≠ .non → R i H2 v → Q1 v H2) → sp [.str ws[i]] H1 Q1 E0) ∧
  ∀ (l : Addr) (us : List V) (H' : Hp), Same H H' → H l = none → H' l = some (.lst us) → us.length = ws.length → (∀ i (hi : i < us.length), R i H' us[i]) → Q (.ref l) H'
section
variable {P : Program} {w : World} {K : PySem.W.Frag} {mg : Str → Option Value} {base : Heap}
theorem ok_pws {f : Addr} {fd : FuncData} (F : FunP K "parse_words" "parse_words" s_parse_words f fd) (B : Bt mg) (gE : ∃ u, mg "EMPTY" = some u ∧ RelV (.str ".") u) : FnG P w K mg base CX0 4 f fd ["text", "parse", "start"] (spPw P w K mg base) := by
  refine fnG0P F sc_parse_words (fun vs H Q E h => ?_) (fun cdv A outer s H vs Q E hr h => ?_)
  · obtain ⟨fa, st, ws, sp, R, rfl, _⟩ := h
    rfl
  · obtain ⟨fa, st, ws, sp, R, rfl, ok, hw, stab, call, q⟩ := h
    have nd := sc_parse_words.nd
    have hu := hr.u1
    refine ⟨_, (pss_cons (ps_if (pt_not (pt_val (pe_callB (kIsi K rfl) (by rfl) B.isinstance bb_isinstance (pa_cons (pv 0) (pa_cons (pe_ty rfl B.str bb_str) pa_nil))))) (pss_one ps_dead) pss_nil)
  (pss_cons (ps_if (pt_cmpR (kEq K rfl hr.u64) (pv 0) (pe_gl rfl gE) (nomark _)) (pss_one (ps_ret (pe_lst pa_nil))) pss_nil)
  (pss_cons (ps_set (i := 3) nd rfl (by first | exact Or.inl rfl | exact Or.inr rfl) (pe_lst pa_nil))
  (pss_cons (ps_for PassesOwn.never rfl (pi_enum (by rfl) B.enumerate (pa_cons (pe_split (pv 0) pe_str) pa_nil)) (kg_tup (n := 2) K rfl rfl (pgs_cons (pg_name (i := 4) nd rfl (by first | exact Or.inl rfl | exact Or.inr rfl)) (pgs_cons (pg_name (i := 5) nd rfl (by first | exact Or.inl rfl | exact Or.inr rfl)) pgs_nil))) (pss_cons (ps_set (i := 6) nd rfl (by first | exact Or.inl rfl | exact Or.inr rfl) (pe_hd (i := 1) (hw _ _ _) rfl hr (by decide) rfl (by first | exact Or.inl rfl | exact Or.inr (Or.inl rfl)) (pa_cons (pv 5) pa_nil)))
  (pss_cons (ps_if (pt_cmpR uIs (pv 6) pe_non (nomark _)) (pss_one ps_dead) pss_nil)
  (pss_one (ps_expr (pe_bm PySem.F.plainAttrs_list PySem.F.slot_list_append PySem.F.type_list_append mt_append (pv 3) (pa_cons (pv 6) pa_nil)))))))
  (pss_one (ps_ret (pv 3))))))), ?_⟩
    wtm_at "rd"
    refine rd_isi ty_str rfl ?_
    rw [show isT Ty.str Ty.str = true from rfl]
    wtm_at "rd"
    cases ws with
    | nil =>
      rw [show decide (jw [] = ".") = true from by decide +kernel]
      wtm_at "rd"
      intro l fl
      exact q l [] _ (Same.new fl) fl upd_same rfl (fun i hi => absurd hi (Nat.not_lt_zero _))
    | cons w0 wr =>
      have nd0 : ¬ jw (w0 :: wr) = "." := fun z => by
        have := (jw_dot ok.2).mp z
        cases this
      rw [decide_eq_false nd0]
      have jl := jw_len ok
      have sp0 := jw_split ok.2
      have wl := ok.1
      generalize jw (w0 :: wr) = text at *
      generalize w0 :: wr = ws at *
      wtm_at "rd"
      intro l fl
      have k1 := Same.new (o := .lst []) fl
      have hl := @upd_same H l (.lst [])
      generalize upd H l (.lst []) = H1 at *
      wtm_at "rd"
      refine rd_m1E ?_
      wtm_at "rd"
      refine ⟨⟨_, rfl⟩, ?_⟩
      wtm_at "rd"
      refine ⟨_, _, rfl, rfl, by decide +kernel, by have : 200000 ≤ sizeLine := (by decide); omega, ?_⟩
      rw [sp0]
      intro sl fsl
      have k2 := Same.new (o := .lst (ws.map V.str)) fsl
      have hsl := @upd_same H1 sl (.lst (ws.map V.str))
      have nls := ne_of_none hl fsl
      have hl := k2 _ _ hl
      have s2 := k1.trans k2
      generalize upd H1 sl (.lst (ws.map V.str)) = H2 at *
      wtm_at "rd"
      refine ⟨sl, ws.map V.str, rfl, SqL.of hsl, ?_⟩
      refine turnsW (walk_enum (K := K) (a := sl) (xs := ws.map V.str)) (fun i σ H' => ∃ (u4 u5 u6 : Option V) (us : List V), σ = [some (.str text), some (.ref fa), some (.int st), some (.ref l), u4, u5, u6] ∧ Same H H' ∧ H' sl = some (.lst (ws.map V.str)) ∧ H' l = some (.lst us) ∧ us.length = i ∧ ∀ j (hj : j < us.length), R j H' us[j]) ⟨_, _, _, [], rfl, s2, hsl, hl, rfl, fun j hj => absurd hj (Nat.not_lt_zero _)⟩ ?_ ?_ ?_
      · rintro i σ H' hi ⟨_, _, _, _, rfl, _, h, _⟩
        exact SqL.of h
      · rintro i y σ H' H3 hi ⟨u4, u5, u6, us, rfl, sb, hsl, hl, ul, ru⟩ ⟨T, x1, y1, rfl, fT, rfl, e1, e2⟩
        have hx := Option.some.inj e1
        subst hx
        obtain ⟨hin, rfl⟩ := map_at e2
        have kT := Same.new (o := .tup [.int (i : Nat), .str ws[i]]) fT
        have hT := @upd_same H' T (.tup [.int (i : Nat), .str ws[i]])
        have hl := kT _ _ hl
        have hsl := kT _ _ hsl
        have sb := sb.trans kT
        have ru : ∀ j (hj : j < us.length), R j (upd H' T (.tup [.int (i : Nat), .str ws[i]])) us[j] := fun j hj => stab _ _ _ _ (ru j hj) fun a xs h => kT _ _ h
        generalize upd H' T (.tup [.int (i : Nat), .str ws[i]]) = H3 at *
        refine rd_unp (SqT.of hT) rfl ?_
        wtm_at "rd"
        refine rd_hdE ⟨rfl, trivial, ?_⟩
        wtm_at "rd"
        refine ⟨trivial, call i hin H3 _ sb fun v H4 s4 nv rv => ?_⟩
        have hl4 := s4 _ _ hl
        wtm_at "rd"
        refine rd_no nv ?_
        wtm_at "rd"
        refine rd_tyL hl4 ?_
        wtm_at "rd"
        refine rd_append hl4 (by omega) ?_
        have kt : ∀ a xs, H4 a = some (.tup xs) → (upd H4 l (.lst (us ++ [v]))) a = some (.tup xs) := fun a xs h => at_upd (ne_of h hl4 (fun z => nomatch z)) h
        wtm_at "rd"
        refine ⟨_, _, _, us ++ [v], rfl, same_put (sb.trans s4) fl, at_upd (fun e => ?_) (s4 _ _ hsl), upd_same, by rw [List.length_append, ul]; rfl, fun j hj => ?_⟩
        · exact nls e.symm
        · by_cases c : j < us.length
          · rw [List.getElem_append_left c]
            exact stab _ _ _ _ (stab _ _ _ _ (ru j c) fun a xs h => s4 _ _ h) kt
          · rw [List.length_append, List.length_singleton] at hj
            have e : j = i := by omega
            subst e
            rw [List.getElem_append_right (by omega)]
            simp only [ul, Nat.sub_self, List.getElem_cons_zero]
            exact stab _ _ _ _ rv kt
      · rintro σ H' ⟨u4, u5, u6, us, rfl, sb, hsl, hl, ul, ru⟩
        wtm_at "rd"
        rw [List.length_map] at ul
        exact q l us H' sb fl hl ul ru
def spPns : Sp := fun vs H Q _ => ∃ ws : List Str, vs = [.str (jw ws)] ∧ ws.length ≤ 1000 ∧ (∀ w ∈ ws, IsName w) ∧ ∀ (l : Addr) (H' : Hp), Same H H' → H l = none → H' l = some (.lst (ws.map V.str)) → Q (.ref l) H'
/-- pairs of a name and a number from a text -/
def spPms (wd : Str × Int → Str) (ok : Str × Int → Prop) : Sp := fun vs H Q _ => ∃ ms : List (Str × Int), vs = [.str (jw (ms.map wd))] ∧ ms.length ≤ 1000 ∧ (∀ m ∈ ms, ok m) ∧ ∀ (l : Addr) (ts : List (Addr × Str × Int)) (H' : Hp), Same H H' → H l = none → H' l = some (.lst (ts.map fun t => V.ref t.1)) → TwAt H' ts → ts.map (·.2) = ms → Q (.ref l) H'
def okM (m : Str × Int) : Prop := IsName m.1 ∧ 0 ≤ m.2 ∧ m.2 < 3
def okL (m : Str × Int) : Prop := IsName m.1 ∧ m.2.natAbs < 10 ^ 60
theorem okM.l {m : Str × Int} (h : okM m) : okL m := ⟨h.1, by have := h.2.1; have := h.2.2; omega⟩
structure ECa (P : Program) (w : World) (K : PySem.W.Frag) (mg : Str → Option Value) (base : Heap) : Prop where
  parse_node_word : Cal P w K mg base CX0 2 "parse_node_word" spPnw
  parse_words_d : CalD P w K mg base CX0 4 "parse_words" [.int 0] (spPw P w K mg base)
structure ECb (P : Program) (w : World) (K : PySem.W.Frag) (mg : Str → Option Value) (base : Heap) : Prop where
  parse_move_word : Cal P w K mg base CX0 2 "parse_move_word" spPmw
  parse_words_d : CalD P w K mg base CX0 4 "parse_words" [.int 0] (spPw P w K mg base)
/-- what the parsed list is -/
theorem list_str {ws : List Str} {us : List V} (l : us.length = ws.length) (h : ∀ i (hi : i < us.length), us[i] = .str (ws[i]'(by omega))) : us = ws.map V.str := by
  refine List.ext_getElem (by rw [List.length_map]; exact l) fun i h1 h2 => ?_
  rw [List.getElem_map, h i h1]
theorem list_tw {H : Hp} : ∀ {ms : List (Str × Int)} {us : List V}, us.length = ms.length → (∀ i (h1 : i < us.length) (h2 : i < ms.length), ∃ a, us[i] = .ref a ∧ H a = some (.tup [.str ms[i].1, .int ms[i].2])) → ∃ ts : List (Addr × Str × Int), us = ts.map (fun t => V.ref t.1) ∧ ts.map (·.2) = ms ∧ TwAt H ts
  | [], [], _, _ => ⟨[], rfl, rfl, fun m h => nomatch h⟩
  | m :: ms, u :: us, l, h => by
    obtain ⟨a, e, ha⟩ := h 0 (Nat.succ_pos _) (Nat.succ_pos _)
    have e : u = .ref a := e
    obtain ⟨ts, e1, e2, tw⟩ := list_tw (ms := ms) (us := us) (Nat.succ.inj l) fun i h1 h2 => h (i + 1) (Nat.succ_lt_succ h1) (Nat.succ_lt_succ h2)
    refine ⟨(a, m) :: ts, by rw [List.map_cons, e, e1], by rw [List.map_cons, e2], fun t ht => ?_⟩
    rcases List.mem_cons.mp ht with rfl | ht
    · exact ha
    · exact tw t ht
theorem ok_pns {f : Addr} {fd : FuncData} {fw : Addr} (F : Fun K "parse_nodes" "parse_nodes" s_parse_nodes f fd) (B : Bt mg) (C : ECa P w K mg base) (mN : mg "parse_node_word" = some (.ref fw)) : FnG P w K mg base CX0 5 f fd ["text"] spPns := by
  refine fnG0 F sc_parse_nodes (fun vs H Q E h => ?_) (fun cdv A outer s H vs Q E hr h => ?_)
  · obtain ⟨ws, rfl, _⟩ := h
    rfl
  · obtain ⟨ws, rfl, wl, nm, q⟩ := h
    have nd := sc_parse_nodes.nd
    have hu := hr.u1
    refine ⟨_, (pss_one (ps_ret (pe_cD C.parse_words_d hr (by decide) rfl pass0 (pa_cons (pv 0) (pa_cons (pe_gl (v := .ref fw) rfl ⟨_, mN, rfl⟩) pa_nil))))), ?_⟩
    wtm_at "rd"
    refine ⟨fw, 0, ws, spPnw, fun i _ v => ∃ h : i < ws.length, v = .str ws[i], rfl, ⟨wl, fun x hx => wd_name (nm x hx)⟩, fun l h H => C.parse_node_word.handed mN l h H, fun _ _ _ _ h _ => h, fun i hi H1 Q1 s1 k => ?_, fun l us H' s fl hl ul hus => ?_⟩
    · exact ⟨ws[i], rfl, nm _ (List.getElem_mem hi), fun H' s => k _ H' s (fun z => by cases z) ⟨hi, rfl⟩⟩
    · wtm_at "rd"
      refine q l H' s fl ?_
      rw [hl, list_str ul fun i hi => (hus i hi).2]
theorem ok_pms {f : Addr} {fd : FuncData} {fw : Addr} (F : Fun K "parse_moves" "parse_moves" s_parse_moves f fd) (B : Bt mg) (C : ECb P w K mg base) (mN : mg "parse_move_word" = some (.ref fw)) : FnG P w K mg base CX0 5 f fd ["text"] (spPms wdM okM) := by
  refine fnG0 F sc_parse_moves (fun vs H Q E h => ?_) (fun cdv A outer s H vs Q E hr h => ?_)
  · obtain ⟨ms, rfl, _⟩ := h
    rfl
  · obtain ⟨ms, rfl, wl, nm, q⟩ := h
    have nd := sc_parse_moves.nd
    have hu := hr.u1
    refine ⟨_, (pss_one (ps_ret (pe_cD C.parse_words_d hr (by decide) rfl pass0 (pa_cons (pv 0) (pa_cons (pe_gl (v := .ref fw) rfl ⟨_, mN, rfl⟩) pa_nil))))), ?_⟩
    wtm_at "rd"
    refine ⟨fw, 0, ms.map wdM, spPmw, fun i H v => ∃ (h : i < ms.length) (a : Addr), v = .ref a ∧ H a = some (.tup [.str ms[i].1, .int ms[i].2]), rfl, NmOk.wM ⟨wl, fun m hm => (nm m hm).l⟩, fun l h H => C.parse_move_word.handed mN l h H, fun _ _ _ _ ⟨h, a, e, ha⟩ k => ⟨h, a, e, k _ _ ha⟩, fun i hi H1 Q1 s1 k => ?_, fun l us H' s fl hl ul hus => ?_⟩
    · have hi2 : i < ms.length := by rw [List.length_map] at hi; exact hi
      have o := nm _ (List.getElem_mem hi2)
      exact ⟨ms[i], by rw [List.getElem_map], o.1, o.2.1, o.2.2, fun t H' s ht => k _ H' s (fun z => by cases z) ⟨hi2, t, rfl, ht⟩⟩
    · wtm_at "rd"
      rw [List.length_map] at ul
      obtain ⟨ts, rfl, e2, tw⟩ := list_tw (H := H') ul fun i h1 h2 => (hus i h1).2
      exact q l ts H' s fl hl tw e2
/-- a dict of pairs whose names ascend -/
def spAsc : Sp := fun vs H Q _ => ∃ (l : Addr) (ts : List (Addr × Str × Int)) (f : Str → Int), vs = [.ref l] ∧ H l = some (.lst (ts.map fun t => V.ref t.1)) ∧ TwAt H ts ∧ ts.length ≤ 1000 ∧ Asc (ts.map fun t => t.2.1) ∧ (∀ t ∈ ts, t.2.2 = f t.2.1) ∧ ∀ (d : Addr) (H' : Hp), Same H H' → H d = none → H' d = some (.dK (kvF (ts.map fun t => t.2.1) f)) → Q (.ref d) H'
theorem ok_asc {f : Addr} {fd : FuncData} (F : Fun K "ascending_dict" "ascending_dict" s_ascending_dict f fd) (B : Bt mg) : FnG P w K mg base CX0 1 f fd ["items"] spAsc := by
  refine fnG0 F sc_ascending_dict (fun vs H Q E h => ?_) (fun cdv A outer s H vs Q E hr h => ?_)
  · obtain ⟨l, ts, fv, rfl, _⟩ := h
    rfl
  · obtain ⟨l, ts, fv, rfl, hl, tw, tl, asc, vf, q⟩ := h
    have nd := sc_ascending_dict.nd
    have hu := hr.u1
    refine ⟨_, (pss_cons (ps_for PassesOwn.never rfl (pi_enum (by rfl) B.enumerate (pa_cons (pv 0) pa_nil)) (kg_tup (n := 2) K rfl rfl (pgs_cons (pg_name (i := 1) nd rfl (by first | exact Or.inl rfl | exact Or.inr rfl)) (pgs_cons (kg_tup (n := 2) K rfl rfl (pgs_cons (pg_name (i := 2) nd rfl (by first | exact Or.inl rfl | exact Or.inr rfl)) (pgs_cons (pg_name (i := 3) nd rfl (by first | exact Or.inl rfl | exact Or.inr rfl)) pgs_nil))) pgs_nil))) (pss_one (ps_if (PW.pt (pw_and (pt_cmpR uGt (pv 1) pe_int (nomark _)) (pw_and1 (pt_not (pt_cmpR uLt (pe_ix (kIx K rfl) (pe_ix (kIx K rfl) (pv 0) (pe_op uSub (pv 1) pe_int) (fun _ _ => rfl)) pe_int (fun _ _ => rfl)) (pv 2) (nomark _)))))) (pss_one ps_dead) pss_nil)))
  (pss_one (ps_ret (pe_callTy (kDictP K rfl rfl) (by rfl) B.dict bb_dict (pa_cons (pv 0) pa_nil))))), ?_⟩
    wtm_at "rd"
    refine ⟨l, ts.map (fun t => V.ref t.1), rfl, SqL.of hl, ?_⟩
    refine turnsW (walk_enum (K := K) (a := l) (xs := ts.map fun t => V.ref t.1)) (fun i σ H' => ∃ u1 u2 u3 : Option V, σ = [some (.ref l), u1, u2, u3] ∧ Same H H') ⟨_, _, _, rfl, fun b o h => h⟩ ?_ ?_ ?_
    · rintro i σ H' hi ⟨_, _, _, rfl, s⟩
      exact SqL.of (s _ _ hl)
    · rintro i y σ H' H3 hi ⟨u1, u2, u3, rfl, s⟩ ⟨T, x1, y1, rfl, fT, rfl, e1, e2⟩
      have hx := Option.some.inj e1
      subst hx
      obtain ⟨hin, rfl⟩ := map_at e2
      have kT := Same.new (o := .tup [.int (i : Nat), .ref ts[i].1]) fT
      have hT := @upd_same H' T (.tup [.int (i : Nat), .ref ts[i].1])
      have s3 := s.trans kT
      generalize upd H' T (.tup [.int (i : Nat), .ref ts[i].1]) = H3 at *
      have tw3 := tw.same s3
      refine rd_unp (SqT.of hT) rfl ?_
      wtm_at "rd"
      refine rd_unp (SqT.of (tw3 _ (List.getElem_mem hin))) rfl ?_
      wtm_at "rd"
      refine rd_split (fun c => ?_) (fun c => ?_)
      · have c : (0 : Int) < (i : Nat) := c
        have l2 : i - 1 < ts.length := by omega
        wtm_at "rd"
        refine rd_ixL (SqL.of (s3 _ _ hl)) (v := .ref ts[i - 1].1) (by rw [show (((i : Nat) : Int) - 1) = ((i - 1 : Nat) : Int) from by omega]; exact atI_nat (by rw [List.getElem?_map, List.getElem?_eq_getElem l2]; rfl)) ?_
        wtm_at "rd"
        refine rd_ixT (SqT.of (tw3 _ (List.getElem_mem l2))) (v := .str ts[i - 1].2.1) rfl ?_
        wtm_at "rd"
        have lt : sLt ts[i - 1].2.1 ts[i].2.1 := by
          have := List.pairwise_iff_getElem.mp asc (i - 1) i (by rw [List.length_map]; omega) (by rw [List.length_map]; omega) (by omega)
          rw [List.getElem_map, List.getElem_map] at this
          exact this
        rw [decide_eq_true (show ts[i - 1].2.1.cps.toList < ts[i].2.1.cps.toList from lt)]
        wtm_at "rd"
        try refine rd_F ?_
        wtm_at "rd"
        exact ⟨_, _, _, rfl, s3⟩
      · wtm_at "rd"
        exact ⟨_, _, _, rfl, s3⟩
    · rintro σ H' ⟨u1, u2, u3, rfl, s⟩
      wtm_at "rd"
      have tw' := tw.same s
      have pr : Paired (fun p kv => SqT K H' p [kV kv.1, kv.2]) (ts.map (·.1)) (kvF (ts.map fun t => t.2.1) fv) := by
        clear hl tl asc q
        induction ts with
        | nil => exact .nil
        | cons t r ih =>
          refine .cons ?_ (ih (fun m hm => tw m (List.mem_cons_of_mem _ hm)) (fun m hm => vf m (List.mem_cons_of_mem _ hm)) (fun m hm => tw' m (List.mem_cons_of_mem _ hm)))
          have h := tw' t List.mem_cons_self
          rw [vf t List.mem_cons_self] at h
          exact SqT.of h
      refine rd_dictP (SqL.of (by rw [List.map_map]; exact s _ _ hl)) pr ?_
      rw [merge_all (asc_nodup asc)]
      intro d fd
      wtm_at "rd"
      exact q d _ (s.trans (Same.new fd)) (new_of_same s fd) upd_same
/-- a dict of numbers from its text -/
def spPsd (wd : Str × Int → Str) (ok : Str × Int → Prop) : Sp := fun vs H Q _ => ∃ (ss : List Str) (f : Str → Int), vs = [.str (jw ((ss.map fun x => (x, f x)).map wd))] ∧ ss.length ≤ 60 ∧ Asc ss ∧ (∀ x ∈ ss, ok (x, f x)) ∧ ∀ (d : Addr) (H' : Hp), Same H H' → H d = none → H' d = some (.dK (kvF ss f)) → Q (.ref d) H'
structure ECc (P : Program) (w : World) (K : PySem.W.Frag) (mg : Str → Option Value) (base : Heap) : Prop where
  parse_move_word : Cal P w K mg base CX0 2 "parse_move_word" spPmw
  parse_words_d : CalD P w K mg base CX0 4 "parse_words" [.int 0] (spPw P w K mg base)
  ascending_dict : Cal P w K mg base CX0 1 "ascending_dict" spAsc
structure ECd (P : Program) (w : World) (K : PySem.W.Frag) (mg : Str → Option Value) (base : Heap) : Prop where
  parse_number_word : Cal P w K mg base CX0 2 "parse_number_word" spPlw
  parse_words_d : CalD P w K mg base CX0 4 "parse_words" [.int 0] (spPw P w K mg base)
  ascending_dict : Cal P w K mg base CX0 1 "ascending_dict" spAsc
theorem ok_pst {f : Addr} {fd : FuncData} {fw : Addr} (F : Fun K "parse_state" "parse_state" s_parse_state f fd) (B : Bt mg) (C : ECc P w K mg base) (mN : mg "parse_move_word" = some (.ref fw)) : FnG P w K mg base CX0 5 f fd ["text"] (spPsd wdM okM) := by
  refine fnG0 F sc_parse_state (fun vs H Q E h => ?_) (fun cdv A outer s H vs Q E hr h => ?_)
  · obtain ⟨ss, fv, rfl, _⟩ := h
    rfl
  · obtain ⟨ss, fv, rfl, wl, asc, nm, q⟩ := h
    have nd := sc_parse_state.nd
    have hu := hr.u1
    refine ⟨_, (pss_one (ps_ret (pe_c C.ascending_dict hr (by decide) rfl (pa_cons (pe_cD C.parse_words_d hr (by decide) rfl pass0 (pa_cons (pv 0) (pa_cons (pe_gl (v := .ref fw) rfl ⟨_, mN, rfl⟩) pa_nil))) pa_nil)))), ?_⟩
    have nm2 : ∀ m ∈ ss.map (fun x => (x, fv x)), okM m := fun m hm => by
      obtain ⟨x, hx, rfl⟩ := List.mem_map.mp hm
      exact nm x hx
    have ml : (ss.map fun x => (x, fv x)).length = ss.length := List.length_map _
    have em : (ss.map fun x => (x, fv x)).map (·.1) = ss := by
      rw [List.map_map]
      exact List.map_id _
    have ev : ∀ m ∈ ss.map (fun x => (x, fv x)), m.2 = fv m.1 := fun m hm => by
      obtain ⟨x, hx, rfl⟩ := List.mem_map.mp hm
      rfl
    generalize ss.map (fun x => (x, fv x)) = ms at *
    wtm_at "rd"
    refine ⟨fw, 0, ms.map wdM, spPmw, fun i H v => ∃ (h : i < ms.length) (a : Addr), v = .ref a ∧ H a = some (.tup [.str ms[i].1, .int ms[i].2]), rfl, NmOk.wM ⟨by omega, fun m hm => (nm2 m hm).l⟩, fun l h H => C.parse_move_word.handed mN l h H, fun _ _ _ _ ⟨h, a, e, ha⟩ k => ⟨h, a, e, k _ _ ha⟩, fun i hi H1 Q1 s1 k => ?_, fun l us H' s fl hl ul hus => ?_⟩
    · have hi2 : i < ms.length := by rw [List.length_map] at hi; exact hi
      have o := nm2 _ (List.getElem_mem hi2)
      exact ⟨ms[i], by rw [List.getElem_map], o.1, o.2.1, o.2.2, fun t H' s ht => k _ H' s (fun z => by cases z) ⟨hi2, t, rfl, ht⟩⟩
    · rw [List.length_map] at ul
      obtain ⟨ts, rfl, e2, tw⟩ := list_tw (H := H') ul fun i h1 h2 => (hus i h1).2
      have tl : ts.length = ms.length := by rw [← e2, List.length_map]
      have e3 : ts.map (fun t => t.2.1) = ss := by
        rw [← em, ← e2, List.map_map]
        rfl
      wtm_at "rd"
      refine ⟨l, ts, fv, rfl, hl, tw, by omega, by rw [e3]; exact asc, fun t ht => ev _ (by rw [← e2]; exact List.mem_map_of_mem (f := (·.2)) ht), fun d H2 s2 fd hd => ?_⟩
      rw [e3] at hd
      wtm_at "rd"
      exact q d H2 (s.trans s2) (new_of_same s fd) hd
theorem ok_plf {f : Addr} {fd : FuncData} {fw : Addr} (F : Fun K "parse_lift" "parse_lift" s_parse_lift f fd) (B : Bt mg) (C : ECd P w K mg base) (mN : mg "parse_number_word" = some (.ref fw)) : FnG P w K mg base CX0 5 f fd ["text"] (spPsd wdL okL) := by
  refine fnG0 F sc_parse_lift (fun vs H Q E h => ?_) (fun cdv A outer s H vs Q E hr h => ?_)
  · obtain ⟨ss, fv, rfl, _⟩ := h
    rfl
  · obtain ⟨ss, fv, rfl, wl, asc, nm, q⟩ := h
    have nd := sc_parse_lift.nd
    have hu := hr.u1
    refine ⟨_, (pss_one (ps_ret (pe_c C.ascending_dict hr (by decide) rfl (pa_cons (pe_cD C.parse_words_d hr (by decide) rfl pass0 (pa_cons (pv 0) (pa_cons (pe_gl (v := .ref fw) rfl ⟨_, mN, rfl⟩) pa_nil))) pa_nil)))), ?_⟩
    have nm2 : ∀ m ∈ ss.map (fun x => (x, fv x)), okL m := fun m hm => by
      obtain ⟨x, hx, rfl⟩ := List.mem_map.mp hm
      exact nm x hx
    have ml : (ss.map fun x => (x, fv x)).length = ss.length := List.length_map _
    have em : (ss.map fun x => (x, fv x)).map (·.1) = ss := by
      rw [List.map_map]
      exact List.map_id _
    have ev : ∀ m ∈ ss.map (fun x => (x, fv x)), m.2 = fv m.1 := fun m hm => by
      obtain ⟨x, hx, rfl⟩ := List.mem_map.mp hm
      rfl
    generalize ss.map (fun x => (x, fv x)) = ms at *
    wtm_at "rd"
    refine ⟨fw, 0, ms.map wdL, spPlw, fun i H v => ∃ (h : i < ms.length) (a : Addr), v = .ref a ∧ H a = some (.tup [.str ms[i].1, .int ms[i].2]), rfl, NmOk.wL ⟨by omega, fun m hm => nm2 m hm⟩, fun l h H => C.parse_number_word.handed mN l h H, fun _ _ _ _ ⟨h, a, e, ha⟩ k => ⟨h, a, e, k _ _ ha⟩, fun i hi H1 Q1 s1 k => ?_, fun l us H' s fl hl ul hus => ?_⟩
    · have hi2 : i < ms.length := by rw [List.length_map] at hi; exact hi
      have o := nm2 _ (List.getElem_mem hi2)
      exact ⟨ms[i], by rw [List.getElem_map], o.1, o.2, fun t H' s ht => k _ H' s (fun z => by cases z) ⟨hi2, t, rfl, ht⟩⟩
    · rw [List.length_map] at ul
      obtain ⟨ts, rfl, e2, tw⟩ := list_tw (H := H') ul fun i h1 h2 => (hus i h1).2
      have tl : ts.length = ms.length := by rw [← e2, List.length_map]
      have e3 : ts.map (fun t => t.2.1) = ss := by
        rw [← em, ← e2, List.map_map]
        rfl
      wtm_at "rd"
      refine ⟨l, ts, fv, rfl, hl, tw, by omega, by rw [e3]; exact asc, fun t ht => ev _ (by rw [← e2]; exact List.mem_map_of_mem (f := (·.2)) ht), fun d H2 s2 fd hd => ?_⟩
      rw [e3] at hd
      wtm_at "rd"
      exact q d H2 (s.trans s2) (new_of_same s fd) hd
end
end Law


/-! apply_moves of anything -/
namespace Law
open PySem PySem.Spec PyProof.Rows L2 U


theorem tyx_same {K : PySem.W.Frag} {H H' : Hp} {x : V} {t : Value} (h : TyX K H x t) (s : Same H H') : TyX K H' x t := by
  cases h with
  | base h =>
    cases h with
    | non => exact .base .non
    | bl x => exact .base (.bl x)
    | int x => exact .base (.int x)
    | str x => exact .base (.str x)
    | flt x => exact .base (.flt x)
    | lst e => exact .base (.lst (s _ _ e))
    | frz e => exact .base (.frz (s _ _ e))
    | tup e => exact .base (.tup (s _ _ e))
    | dK e => exact .base (.dK (s _ _ e))
    | dT e => exact .base (.dT (s _ _ e))
    | ins e a b c d f => exact .base (.ins (s _ _ e) a b c d f)
  | byt b => exact .byt b
  | set e => exact .set (s _ _ e)
  | kList e c => exact .kList e c
  | kTuple e c => exact .kTuple e c
  | kDict e c => exact .kDict e c
  | fTuple e => exact .fTuple (s _ _ e)
  | fDict e => exact .fDict (s _ _ e)
theorem CandAt.same {K : PySem.W.Frag} {H H' : Hp} {c : V} {o : Option (Str × Int)} (h : CandAt K H c o) (s : Same H H') : CandAt K H' c o := by
  cases h with
  | odd a b => exact .odd (tyx_same a s) b
  | len a b => exact .len (s _ _ a) b
  | node a b c => exact .node (s _ _ a) (tyx_same b s) c
  | val a b c => exact .val (s _ _ a) (tyx_same b s) c
  | mv a => exact .mv (s _ _ a)
section
variable {P : Program} {w : World} {K : PySem.W.Frag} {mg : Str → Option Value} {base : Heap}
end
end Law


namespace Law
open PySem PySem.Spec PyProof.Rows L2 U


section
variable {P : Program} {w : World} {K : PySem.W.Frag} {mg : Str → Option Value} {base : Heap}
end
end Law


namespace Law
open PySem PySem.Spec PyProof.Rows L2 U


section
variable {P : Program} {w : World} {K : PySem.W.Frag} {mg : Str → Option Value} {base : Heap}
end
end Law


/-! paths found level by level: paths_from, sloped_paths -/
namespace Law
open PySem PySem.Spec PyProof.Rows L2 U


theorem AdjAt.at {H : Hp} {d : Addr} {ns : List Str} {es : List (Str × Str)} {A : Str → Addr} (h : AdjAt H d ns es A) (ok : GrOk ns es) {n : Str} (hn : n ∈ ns) : H (A n) = some (.lst ((nbS es n).map V.str)) := by
  obtain ⟨ys, h1, h2, h3⟩ := h.li n hn
  rw [← nbS_of ok h2 h3]
  exact h1
/-- paths found stand at d -/
structure PathsAt (H : Hp) (d : Addr) (kp : List (Str × List Str)) (A : Str → Addr) : Prop where
  di : H d = some (.dK (kvG (keysF kp) fun n => .ref (A n)))
  li : ∀ c ∈ kp, H (A c.1) = some (.lst (c.2.map V.str))
theorem PathsAt.same {H H' : Hp} {d : Addr} {kp : List (Str × List Str)} {A : Str → Addr} (h : PathsAt H d kp A) (s : Same H H') : PathsAt H' d kp A := ⟨s _ _ h.di, fun c hc => s _ _ (h.li c hc)⟩
theorem kvG_congr {ns : List Str} {F G : Str → V} (h : ∀ n ∈ ns, F n = G n) : kvG ns F = kvG ns G := List.map_congr_left fun n hn => by rw [h n hn]
/-- one more path -/
theorem PathsAt.put {H : Hp} {d t : Addr} {kp : List (Str × List Str)} {A : Str → Addr} {o : Str} {p : List Str} (h : PathsAt H d kp A) (no : o ∉ keysF kp) (ht : H t = some (.lst (p.map V.str))) :
    PathsAt (upd H d (.dK (putK (kvG (keysF kp) fun n => .ref (A n)) (.inr o) (.ref t)))) d (kp ++ [(o, p)]) (updV A o t) := by
  refine ⟨?_, fun c hc => ?_⟩
  · rw [upd_same, kvG_new no, show keysF (kp ++ [(o, p)]) = keysF kp ++ [o] from List.map_append]
    congr 2
    refine kvG_congr fun m _ => ?_
    unfold updV
    by_cases z : m = o
    · rw [if_pos z, if_pos z]
    · rw [if_neg z, if_neg z]
  · unfold updV
    rcases List.mem_append.mp hc with hc | hc
    · rw [if_neg (fun z => no (by rw [← z]; exact List.mem_map_of_mem hc))]
      exact at_upd (ne_of (h.li c hc) h.di (by intro z; cases z)) (h.li c hc)
    · rw [List.mem_singleton] at hc
      subst hc
      rw [if_pos rfl]
      exact at_upd (ne_of ht h.di (by intro z; cases z)) ht
theorem PathsAt.off {H : Hp} {d q : Addr} {kp : List (Str × List Str)} {A : Str → Addr} {xs ys : List V} (h : PathsAt H d kp A) (hq : H q = some (.lst xs)) (off : ∀ c ∈ kp, A c.1 ≠ q) : PathsAt (upd H q (.lst ys)) d kp A :=
  ⟨at_upd (ne_of h.di hq (by intro z; cases z)) h.di, fun c hc => at_upd (off c hc) (h.li c hc)⟩
def slOk (f : Str → Int) (dir : Int) (a b : Str) : Bool := decide (slp f a b = dir)
section
variable {P : Program} {w : World} {K : PySem.W.Frag} {mg : Str → Option Value} {base : Heap}
end
end Law


/-! paths_from, components, root_paths, basis_cycles -/
namespace Law
open PySem PySem.Spec PyProof.Rows L2 U


section
variable {X : Cx} {o e : Expr} {es : List Expr} {to : TE} {t : TA} {apos cpos : Pos}
end
/-- lists of names stand, each at its own place -/
structure ListsAt (H : Hp) (l : Addr) (cs : List (Addr × List Str)) : Prop where
  li : H l = some (.lst (cs.map fun c => V.ref c.1))
  at_ : ∀ c ∈ cs, H c.1 = some (.lst (c.2.map V.str))
theorem ListsAt.same {H H' : Hp} {l : Addr} {cs : List (Addr × List Str)} (h : ListsAt H l cs) (s : Same H H') : ListsAt H' l cs := ⟨s _ _ h.li, fun c hc => s _ _ (h.at_ c hc)⟩
section
variable {P : Program} {w : World} {K : PySem.W.Frag} {mg : Str → Option Value} {base : Heap}
end
end Law


/-! root_paths, basis_cycles, path_sum, windings -/
namespace Law
open PySem PySem.Spec PyProof.Rows L2 U


abbrev rtF (ns : List Str) (es : List (Str × Str)) : List (Str × List Str) := rootsF es (compsF ns es)
section
variable {P : Program} {w : World} {K : PySem.W.Frag} {mg : Str → Option Value} {base : Heap}
end
end Law


/-! slopes as the laws count them; walks drawn -/
namespace Law
open PySem PySem.Spec PyProof.Rows L2 U


theorem use_graphB {H : Hp} {p : Addr} {most : Int} {Q : VK} {E : XK} (h : PoolAt H p) (m0 : 1 ≤ most) (m1 : most ≤ 25)
    (k : ∀ (t g n e st : Addr) (ns ord : List Str) (es : List (Addr × Str × Str)) (f : Str → Int) (H' : Hp), Go p H H' → H' t = some (.tup [.ref g, .ref st]) → GSt H' g n e st ns ord es f → 1 ≤ ns.length → (ns.length : Int) ≤ most → H t = none → H g = none → H st = none → Q (.ref t) H') : spGraph [.ref p, .int most] H Q E := by
  refine ⟨p, most, rfl, h, m0, m1, fun t g n e st ns ord es ws H' go ht hg hs ng nst l1 l2 ok pm so pro el nt => ?_⟩
  have ndo : ord.Nodup := pm.nodup_iff.mpr (asc_nodup ok.names.asc)
  refine k t g n e st ns ord es (numOf ws) H' go ht ⟨hg, ok, pm, by omega, el, ?_, fun x hx => so.at (pm.mem_iff.mpr hx), pro⟩ l1 (by omega) nt ng nst
  rw [← kvs_F so ndo]
  exact hs
section
variable {P : Program} {w : World} {K : PySem.W.Frag} {mg : Str → Option Value} {base : Heap}
end
end Law


/-! shortest_path; closed walks drawn; the law behind moves -/
namespace Law
open PySem PySem.Spec PyProof.Rows L2 U


section
variable {P : Program} {w : World} {K : PySem.W.Frag} {mg : Str → Option Value} {base : Heap}
end
end Law

/-! components as a law finds them: the plain law -/
namespace U
open PySem PySem.Spec PyProof.Rows L2
end U


/-! components as the laws find them -/
namespace Law
open PySem PySem.Spec PyProof.Rows L2 U


section
variable {P : Program} {w : World} {K : PySem.W.Frag} {mg : Str → Option Value} {base : Heap}
end
end Law

/-! as many basis cycles as edges, nodes and components tell: the plain law -/
namespace U
open PySem PySem.Spec PyProof.Rows L2
section
variable {adj : Str → List Str} {ok : Str → Str → Bool} {root : Str}
end
section
variable {ns : List Str} {es : List (Str × Str)}
end
end U


/-! k04: graphs with more edges, basis cycles as the law finds them -/
namespace Law
open PySem PySem.Spec PyProof.Rows L2 U


/-- the root paths stand at d, as the law lays them -/
structure PthAt (H : Hp) (d : Addr) (ks : List Str) (A : Str → Addr) (ns : List Str) (es : List (Str × Str)) : Prop where
  di : H d = some (.dK (kvG ks fun n => .ref (A n)))
  li : ∀ x ∈ ks, H (A x) = some (.lst ((pth (rtF ns es) x).map V.str))
theorem PthAt.same {H H' : Hp} {d : Addr} {ks : List Str} {A : Str → Addr} {ns : List Str} {es : List (Str × Str)} (h : PthAt H d ks A ns es) (s : Same H H') : PthAt H' d ks A ns es := ⟨s _ _ h.di, fun x hx => s _ _ (h.li x hx)⟩
theorem Go.grs {p : Addr} {H H' : Hp} {g n e : Addr} {ns : List Str} {es : List (Addr × Str × Str)} (hp : PoolAt H p) (b : Go p H H') (h : GrS H g n e ns es) : GrS H' g n e ns es := by
  obtain ⟨ys, hy⟩ := hp.isL
  exact ⟨h.gr.but hy b.but, h.ok, h.l2, h.l3⟩
section
variable {P : Program} {w : World} {K : PySem.W.Frag} {mg : Str → Option Value} {base : Heap}
end
end Law

/-! numbered names; twenty pairs of nodes, each joined with the next pair -/
namespace U
open PySem PySem.Spec PyProof.Rows L2
end U


/-! numbered names -/
namespace Law
open PySem PySem.Spec PyProof.Rows L2 U


section
variable {P : Program} {w : World} {K : PySem.W.Frag} {mg : Str → Option Value} {base : Heap}
end
end Law

/-! progress moves: the plain law -/
namespace U
open PySem PySem.Spec PyProof.Rows L2
def sz (ns : List Str) (h : Str → Int) : Int := (ns.map fun n => ((h n).natAbs : Int)).sum
def goP (f h : Str → Int) (m : Str × Int) : Bool := decide (0 < h m.1) && decide ((f m.1 - m.2) % 3 = 1) || decide (h m.1 < 0) && !decide ((f m.1 - m.2) % 3 = 1)
def progF (ns : List Str) (es : List (Str × Str)) (f h : Str → Int) (pn : List Str) : List (Str × Int) := (movesF ns es f pn).filter (goP f h)
def dirU (x : Int) : Int := if 0 < x then 1 else -1
/-- the value of a progress move -/
def pvF (f : Str → Int) (ys : List Str) (n : Str) (x : Int) : Option Int := if x ≠ 0 ∧ ∀ o ∈ ys, slp f n o = dirU x then some ((f n - dirU x) % 3) else none
def pmF (es : List (Str × Str)) (f h : Str → Int) (pn : List Str) (n : Str) : List (Str × Int) := match pvF f (nbS es n) n (h n) with
  | none => []
  | some v => if n ∈ pn then [] else [(n, v)]
theorem three {q : Int → Bool} {v0 : Int} {c : Bool} (h0 : 0 ≤ v0) (h2 : v0 ≤ 2) (h : ∀ v, 0 ≤ v → v ≤ 2 → q v = (decide (v = v0) && c)) : ([0, 1, 2] : List Int).filter q = if c = true then [v0] else [] := by
  have a := h 0 (by decide) (by decide)
  have b := h 1 (by decide) (by decide)
  have d := h 2 (by decide) (by decide)
  have e : v0 = 0 ∨ v0 = 1 ∨ v0 = 2 := by omega
  rcases e with rfl | rfl | rfl <;> cases c <;> simp_all [List.filter_cons]
section
variable {ns : List Str} {es : List (Str × Str)} {f h : Str → Int} {pn : List Str}
theorem prog_at (ok : EsOk ns es f) {n : Str} (hn : n ∈ ns) : (movesOf es f n).filter (goP f h) = match pvF f (nbS es n) n (h n) with
  | none => []
  | some v => [(n, v)] := by
  classical
  have tri := ok.tri n hn
  have nbr : ∀ o ∈ nbrF es n, 0 ≤ f o ∧ f o < 3 ∧ f n ≠ f o := fun o ho => by
    have a := adj_in ok (show Adj es n o from mem_nbrF.mp ho)
    exact ⟨(ok.tri o a.2.1).1, (ok.tri o a.2.1).2, a.2.2.1⟩
  have nbm : ∀ o, o ∈ nbS es n ↔ o ∈ nbrF es n := fun o => nbS_mem.trans mem_nbrF.symm
  have slo : ∀ o ∈ nbrF es n, ∀ d : Int, d = 1 ∨ d = -1 → (slp f n o = d ↔ f o ≠ (f n - d) % 3) := fun o ho d hd => by
    obtain ⟨a, b, c⟩ := nbr o ho
    unfold slp
    rcases hd with rfl | rfl <;> split <;> omega
  unfold movesOf
  rw [List.filter_map, List.filter_filter]
  have dd : dirU (h n) = 1 ∨ dirU (h n) = -1 := by
    unfold dirU
    split <;> simp
  rw [three (v0 := (f n - dirU (h n)) % 3) (c := decide (h n ≠ 0 ∧ ∀ o ∈ nbS es n, slp f n o = dirU (h n))) (by omega) (by omega) ?_]
  · unfold pvF
    by_cases c : h n ≠ 0 ∧ ∀ o ∈ nbS es n, slp f n o = dirU (h n)
    · rw [decide_eq_true c, if_pos rfl, if_pos c]
      rfl
    · rw [decide_eq_false c, if_neg Bool.false_ne_true, if_neg c]
      rfl
  · intro v v0 v2
    rw [Bool.eq_iff_iff, Bool.and_eq_true, Bool.and_eq_true, decide_eq_true_iff, decide_eq_true_iff]
    show (goP f h (n, v) = true ∧ freeB es f n v = true) ↔ _
    have fr : freeB es f n v = true ↔ (∀ o ∈ nbrF es n, f o ≠ v) ∧ v ≠ f n := by
      unfold freeB
      rw [Bool.not_eq_true', decide_eq_false_iff_not, List.mem_append, List.mem_singleton, List.mem_map, not_or]
      constructor
      · rintro ⟨a, b⟩
        exact ⟨fun o ho z => a ⟨o, ho, z⟩, b⟩
      · rintro ⟨a, b⟩
        exact ⟨fun ⟨o, ho, z⟩ => a o ho z, b⟩
    have go : goP f h (n, v) = true ↔ (0 < h n ∧ (f n - v) % 3 = 1) ∨ (h n < 0 ∧ ¬ (f n - v) % 3 = 1) := by
      unfold goP
      simp only [Bool.or_eq_true, Bool.and_eq_true, decide_eq_true_iff, Bool.not_eq_true', decide_eq_false_iff_not]
    rw [fr, go]
    constructor
    · rintro ⟨a, b, c⟩
      have ev : v = (f n - dirU (h n)) % 3 := by
        unfold dirU
        rcases a with a | a
        · rw [if_pos a.1]
          omega
        · rw [if_neg (by omega)]
          omega
      refine ⟨ev, by omega, fun o ho => (slo o ((nbm o).mp ho) _ dd).mpr ?_⟩
      rw [← ev]
      exact b o ((nbm o).mp ho)
    · rintro ⟨ev, c, k⟩
      refine ⟨?_, fun o ho => ?_, ?_⟩
      · unfold dirU at ev
        by_cases p : 0 < h n
        · rw [if_pos p] at ev
          left
          omega
        · rw [if_neg p] at ev
          right
          omega
      · rw [ev]
        exact (slo o ho _ dd).mp (k o ((nbm o).mpr ho))
      · rcases dd with z | z <;> rw [z] at ev <;> omega
theorem prog_eq (ok : EsOk ns es f) : ∀ {xs : List Str}, (∀ x ∈ xs, x ∈ ns) → progF xs es f h pn = xs.flatMap (pmF es f h pn)
  | [], _ => rfl
  | x :: r, hx => by
    have ih := prog_eq ok (xs := r) fun y hy => hx y (List.mem_cons_of_mem _ hy)
    unfold progF movesF at ih ⊢
    rw [List.flatMap_cons, List.filter_append, List.flatMap_cons, ih]
    congr 1
    unfold pmF
    by_cases c : x ∈ pn
    · rw [if_pos c]
      cases pvF f (nbS es x) x (h x) with
      | none => rfl
      | some v =>
        show _ = if x ∈ pn then [] else [(x, v)]
        rw [if_pos c]
        rfl
    · rw [if_neg c, prog_at ok (hx x List.mem_cons_self)]
      cases pvF f (nbS es x) x (h x) with
      | none => rfl
      | some v =>
        show _ = if x ∈ pn then [] else [(x, v)]
        rw [if_neg c]
theorem sz_zero : ∀ {ns : List Str}, sz ns h = 0 ↔ ∀ n ∈ ns, h n = 0
  | [] => ⟨(fun _ _ m => nomatch m), fun _ => rfl⟩
  | n :: r => by
    have ih := sz_zero (ns := r)
    have e : sz (n :: r) h = ((h n).natAbs : Int) + sz r h := List.sum_cons
    have p : ∀ xs : List Str, 0 ≤ sz xs h := fun xs => by
      induction xs with
      | nil => exact Int.le_refl _
      | cons x t ih =>
        have e : sz (x :: t) h = ((h x).natAbs : Int) + sz t h := List.sum_cons
        omega
    have := p r
    rw [e]
    constructor
    · intro z x hx
      rcases List.mem_cons.mp hx with rfl | hx
      · omega
      · exact ih.mp (by omega) x hx
    · intro z
      have a := z n List.mem_cons_self
      have b := ih.mpr fun x hx => z x (List.mem_cons_of_mem _ hx)
      omega
theorem prog_legal {m : Str × Int} (hm : m ∈ progF ns es f h pn) : Legal ns es f pn m ∧ goP f h m = true := ⟨legal_of (List.mem_filter.mp hm).1, (List.mem_filter.mp hm).2⟩
/-- the number after a progress move -/
theorem prog_dlt (ok : EsOk ns es f) {m : Str × Int} (hm : m ∈ progF ns es f h pn) : h m.1 - dlt (f m.1 - m.2) = h m.1 + (if 0 < h m.1 then -1 else 1) := by
  obtain ⟨l, g⟩ := prog_legal hm
  have go : (0 < h m.1 ∧ (f m.1 - m.2) % 3 = 1) ∨ (h m.1 < 0 ∧ ¬ (f m.1 - m.2) % 3 = 1) := by
    unfold goP at g
    simpa only [Bool.or_eq_true, Bool.and_eq_true, decide_eq_true_iff, Bool.not_eq_true', decide_eq_false_iff_not] using g
  have v := l.val
  have t := ok.tri _ l.mem
  have ne := l.own
  unfold dlt
  rcases go with ⟨a, b⟩ | ⟨a, b⟩
  · rw [if_pos a, if_neg (by omega), if_pos b]
    omega
  · have c : ¬ 0 < h m.1 := by omega
    rw [if_neg c, if_neg (by omega), if_neg b]
    omega
end
end U

/-! feasible lifts: of moves, and shifted -/
namespace U
open PySem PySem.Spec PyProof.Rows L2
section
variable {ns : List Str} {es : List (Str × Str)} {f h : Str → Int} {pn : List Str}
end
end U

/-! lifts performed, step by step -/
namespace U
open PySem PySem.Spec PyProof.Rows L2
/-- one less to go at n -/
def redU (h : Str → Int) (n : Str) : Str → Int := updf h n (h n + (if 0 < h n then -1 else 1))
section
variable {ns : List Str} {es : List (Str × Str)} {f h : Str → Int} {pn : List Str}
theorem sz_cons {n : Str} {r : List Str} : sz (n :: r) h = ((h n).natAbs : Int) + sz r h := List.sum_cons
theorem sz_off {n : Str} {v : Int} : ∀ {xs : List Str}, n ∉ xs → sz xs (updf h n v) = sz xs h
  | [], _ => rfl
  | x :: t, nm => by
    rw [sz_cons, sz_cons, sz_off fun z => nm (List.mem_cons_of_mem _ z)]
    have : x ≠ n := fun z => nm (z ▸ List.mem_cons_self)
    unfold updf
    rw [if_neg this]
theorem sz_upd {n : Str} {v : Int} : ∀ {xs : List Str}, xs.Nodup → n ∈ xs → sz xs (updf h n v) = sz xs h - ((h n).natAbs : Int) + (v.natAbs : Int)
  | x :: t, nd, hm => by
    rw [sz_cons, sz_cons]
    rw [List.nodup_cons] at nd
    by_cases e : x = n
    · subst e
      rw [sz_off nd.1]
      unfold updf
      rw [if_pos rfl]
      omega
    · rw [sz_upd nd.2 ((List.mem_cons.mp hm).resolve_left fun z => e z.symm)]
      have : updf h n v x = h x := by
        unfold updf
        rw [if_neg e]
      rw [this]
      omega
theorem sz_red {n : Str} (nd : ns.Nodup) (hn : n ∈ ns) (h0 : h n ≠ 0) : sz ns (redU h n) = sz ns h - 1 := by
  unfold redU
  rw [sz_upd nd hn]
  split <;> omega
theorem dlt_mod {d : Int} : (d - dlt d) % 3 = 0 ∧ -1 ≤ dlt d ∧ dlt d ≤ 1 := by
  unfold dlt
  split
  · omega
  · split <;> omega
/-- the moves of a lift, each the first progress move -/
inductive PerfR (ns : List Str) (es : List (Str × Str)) (pn : List Str) (f h : Str → Int) : List (Str × Int) → (Str → Int) → (Str → Int) → Prop
  | nil : PerfR ns es pn f h [] f h
  | snoc {ms : List (Str × Int)} {f' h' : Str → Int} {m : Str × Int} {r : List (Str × Int)} : PerfR ns es pn f h ms f' h' → progF ns es f' h' pn = m :: r → PerfR ns es pn f h (ms ++ [m]) (updf f' m.1 m.2) (redU h' m.1)
/-- .. or any progress move -/
inductive AnyR (ns : List Str) (es : List (Str × Str)) (pn : List Str) (f h : Str → Int) : List (Str × Int) → (Str → Int) → (Str → Int) → Prop
  | nil : AnyR ns es pn f h [] f h
  | snoc {ms : List (Str × Int)} {f' h' : Str → Int} {m : Str × Int} : AnyR ns es pn f h ms f' h' → m ∈ progF ns es f' h' pn → AnyR ns es pn f h (ms ++ [m]) (updf f' m.1 m.2) (redU h' m.1)
theorem PerfR.any {ms : List (Str × Int)} {f' h' : Str → Int} (r : PerfR ns es pn f h ms f' h') : AnyR ns es pn f h ms f' h' := by
  induction r with
  | nil => exact .nil
  | snoc _ e ih => exact .snoc ih (by rw [e]; exact List.mem_cons_self)
theorem prog_ne {m : Str × Int} (hm : m ∈ progF ns es f h pn) : h m.1 ≠ 0 := by
  have g := (prog_legal hm).2
  have go : (0 < h m.1 ∧ (f m.1 - m.2) % 3 = 1) ∨ (h m.1 < 0 ∧ ¬ (f m.1 - m.2) % 3 = 1) := by
    unfold goP at g
    simpa only [Bool.or_eq_true, Bool.and_eq_true, decide_eq_true_iff, Bool.not_eq_true', decide_eq_false_iff_not] using g
  omega
/-- a progress move: what it keeps -/
theorem prog_step (ok : EsOk ns es f) (nd : ns.Nodup) (fe : Feas ns es f h pn) {m : Str × Int} (hm : m ∈ progF ns es f h pn) :
    EsOk ns es (updf f m.1 m.2) ∧ Feas ns es (updf f m.1 m.2) (redU h m.1) pn ∧ sz ns (redU h m.1) = sz ns h - 1 ∧ ∀ n ∈ ns, (updf f m.1 m.2 n - redU h m.1 n) % 3 = (f n - h n) % 3 := by
  have lg := (prog_legal hm).1
  have e := prog_dlt ok hm
  have fe2 := feas_move ok fe lg
  rw [e] at fe2
  refine ⟨(move_keeps (f0 := f) (h := fun _ => 0) ok lg fun e _ => by omega).1, fe2, sz_red nd lg.mem (prog_ne hm), fun n hn => ?_⟩
  unfold redU
  rw [← e]
  unfold updf
  by_cases z : n = m.1
  · rw [if_pos z, if_pos z, z]
    have := dlt_mod (d := f m.1 - m.2)
    omega
  · rw [if_neg z, if_neg z]
theorem AnyR.keeps (ok : EsOk ns es f) (nd : ns.Nodup) (fe : Feas ns es f h pn) {ms : List (Str × Int)} {f' h' : Str → Int} (r : AnyR ns es pn f h ms f' h') :
    EsOk ns es f' ∧ Feas ns es f' h' pn ∧ sz ns h' + ms.length = sz ns h ∧ (∀ n ∈ ns, (f' n - h' n) % 3 = (f n - h n) % 3) ∧ Plays ns es pn f ms f' := by
  induction r with
  | nil => exact ⟨ok, fe, by simp, fun _ _ => rfl, .nil⟩
  | @snoc ms f' h' m r hm ih =>
    obtain ⟨i1, i2, i3, i4, i5⟩ := ih
    obtain ⟨s1, s2, s3, s4⟩ := prog_step i1 nd i2 hm
    refine ⟨s1, s2, ?_, fun n hn => (s4 n hn).trans (i4 n hn), .snoc i5 (prog_legal hm).1⟩
    rw [List.length_append, List.length_singleton]
    omega
/-- nothing is left: the state of the lift -/
theorem AnyR.done (ok : EsOk ns es f) (nd : ns.Nodup) (fe : Feas ns es f h pn) {ms : List (Str × Int)} {f' h' : Str → Int} (r : AnyR ns es pn f h ms f' h') (z : sz ns h' = 0) : ∀ n ∈ ns, f' n = (f n - h n) % 3 := fun n hn => by
  obtain ⟨a, _, _, b, _⟩ := r.keeps ok nd fe
  have t := a.tri n hn
  have := b n hn
  rw [sz_zero.mp z n hn] at this
  omega
/-- a lift of moves: no more than these, and the state it leads to -/
theorem plays_lift (ok : EsOk ns es f) (nd : ns.Nodup) {ms : List (Str × Int)} {f' : Str → Int} (p : Plays ns es pn f ms f') :
    EsOk ns es f' ∧ (countF f (fun _ => 0) ms).1 = f' ∧ sz ns (countF f (fun _ => 0) ms).2 ≤ ms.length ∧ ∀ n ∈ ns, f' n = (f n - (countF f (fun _ => 0) ms).2 n) % 3 := by
  induction p with
  | nil =>
    refine ⟨ok, rfl, ?_, fun n hn => ?_⟩
    · show sz ns (fun _ => 0) ≤ 0
      exact Int.le_of_eq (sz_zero.mpr fun _ _ => rfl)
    · show f n = (f n - 0) % 3
      have := ok.tri n hn
      omega
  | @snoc ms f' m p l ih =>
    obtain ⟨i1, i2, i3, i4⟩ := ih
    have ok2 := (move_keeps (f0 := f') (h := fun _ => 0) i1 l fun e _ => by omega).1
    obtain ⟨n, v⟩ := m
    rw [countF_snoc, i2]
    generalize (countF f (fun _ => 0) ms).2 = h0 at *
    have dm := dlt_mod (d := f' n - v)
    refine ⟨ok2, rfl, ?_, fun x hx => ?_⟩
    · rw [sz_upd nd l.mem, List.length_append, List.length_singleton]
      show sz ns h0 - ((h0 n).natAbs : Int) + ((h0 n + dlt (f' n - v)).natAbs : Int) ≤ _
      omega
    · have j := i4 x hx
      have t := ok2.tri x hx
      show updf f' n v x = (f x - updf h0 n (h0 n + dlt (f' n - v)) x) % 3
      have t : 0 ≤ updf f' n v x ∧ updf f' n v x < 3 := t
      unfold updf at t ⊢
      by_cases z : x = n
      · rw [if_pos z] at t ⊢
        rw [if_pos z]
        rw [z] at j ⊢
        omega
      · rw [if_neg z] at t ⊢
        rw [if_neg z]
        exact j
def plU (f : Str → Int) (ms : List (Str × Int)) : Str → Int := ms.foldl (fun f m => updf f m.1 m.2) f
def rdU (h : Str → Int) (ms : List (Str × Int)) : Str → Int := ms.foldl (fun h m => redU h m.1) h
theorem plU_snoc {ms : List (Str × Int)} {m : Str × Int} : plU f (ms ++ [m]) = updf (plU f ms) m.1 m.2 := by
  unfold plU
  rw [List.foldl_append]
  rfl
theorem rdU_snoc {ms : List (Str × Int)} {m : Str × Int} : rdU h (ms ++ [m]) = redU (rdU h ms) m.1 := by
  unfold rdU
  rw [List.foldl_append]
  rfl
theorem AnyR.ends {ms : List (Str × Int)} {f' h' : Str → Int} (r : AnyR ns es pn f h ms f' h') : f' = plU f ms ∧ h' = rdU h ms := by
  induction r with
  | nil => exact ⟨rfl, rfl⟩
  | snoc _ _ ih => exact ⟨by rw [plU_snoc, ih.1], by rw [rdU_snoc, ih.2]⟩
theorem AnyR.at {ms : List (Str × Int)} {f' h' : Str → Int} (r : AnyR ns es pn f h ms f' h') : ∀ i (hi : i < ms.length), AnyR ns es pn f h (ms.take i) (plU f (ms.take i)) (rdU h (ms.take i)) ∧ ms[i] ∈ progF ns es (plU f (ms.take i)) (rdU h (ms.take i)) pn := by
  induction r with
  | nil => exact fun i hi => absurd hi (Nat.not_lt_zero i)
  | @snoc ms f' h' m r hm ih =>
    intro i hi
    rw [List.length_append, List.length_singleton] at hi
    by_cases c : i < ms.length
    · rw [List.take_append_of_le_length (by omega), List.getElem_append_left c]
      exact ih i c
    · obtain rfl : i = ms.length := by omega
      obtain ⟨e1, e2⟩ := r.ends
      rw [List.take_append_of_le_length (Nat.le_refl _), List.take_length, List.getElem_append_right (Nat.le_refl _), ← e1, ← e2]
      simp only [Nat.sub_self, List.getElem_cons_zero]
      exact ⟨r, hm⟩
end
end U

/-! the smallest lift to a state that a feasible lift leads to: the plain law -/
namespace U
open PySem PySem.Spec PyProof.Rows L2
section
variable {ns : List Str} {es : List (Str × Str)} {f g h h0 : Str → Int} {pn : List Str}
theorem pm_mod {x y : Int} (hx : x = 1 ∨ x = -1) (hy : y = 1 ∨ y = -1) (e : x % 3 = y % 3) : x = y := by
  omega
/-- the slopes of the state that a feasible lift leads to -/
theorem feas_t (ok : EsOk ns es f) (okg : EsOk ns es g) (fe : Feas ns es f h pn) (hg : ∀ x ∈ ns, (f x - h x - g x) % 3 = 0) : ∀ e ∈ es, slp f e.1 e.2 - slp g e.1 e.2 = 2 * (h e.1 - h e.2) := fun e he => by
  have a := fit_pm.mp (fe.fit e he)
  have k : Adj es e.1 e.2 := .inl he
  obtain ⟨i1, i2, _⟩ := adj_in ok k
  have g1 := hg _ i1
  have g2 := hg _ i2
  have m1 := slp_mod ok k
  have m2 := slp_mod okg k
  have b := slp_pm g e.1 e.2
  have := pm_mod a b (by omega)
  omega
/-! ### shifts -/
/-! ### the lift found -/
/-- the lift back -/
theorem feas_back (ok : EsOk ns es f) (okg : EsOk ns es g) (fe : Feas ns es f h pn) (t : ∀ e ∈ es, slp f e.1 e.2 - slp g e.1 e.2 = 2 * (h e.1 - h e.2)) (cy : ∀ x, Cyc es g x → Cyc es f x) : Feas ns es g (fun x => - h x) pn := by
  refine ⟨fun e he => ?_, fun x hx => ?_, fun x hx => ?_⟩
  · have a := t e he
    have b := slp_pm f e.1 e.2
    rw [fit_pm]
    omega
  · have := fe.pin x hx
    show - h x = 0
    omega
  · have := fe.cyc x (cy x hx)
    show - h x = 0
    omega
end
end U

/-! the numbers along the root paths; when there is no lift: the plain law -/
namespace U
open PySem PySem.Spec PyProof.Rows L2
section
variable {ns : List Str} {es : List (Str × Str)} {f g h0 : Str → Int} {pn : List Str}
end
end U

/-! lifts back, lifts joined, the size of the smallest lift: the plain law -/
namespace U
open PySem PySem.Spec PyProof.Rows L2
section
variable {ns : List Str} {es : List (Str × Str)} {f g h : Str → Int} {pn : List Str} {dir : Int}
theorem psum_top {f : Str → Int} : ∀ {p : List Str}, Wk es p → psum f p + 1 ≤ (p.length : Int) ∨ p = [] := fun {p} => by
  induction p with
  | nil => intro _; exact .inr rfl
  | cons a r ih =>
    intro w
    cases r with
    | nil => left; rw [psum_one]; simp
    | cons b q =>
      left
      rcases ih w.2 with i | i
      · have s := slp_pm f a b
        rw [psum_cons]
        simp only [List.length_cons] at i ⊢
        omega
      · cases i
/-- all slopes are 1 where the sum is greatest -/
theorem slp_full {f : Str → Int} : ∀ {p : List Str}, Wk es p → psum f p + 1 = (p.length : Int) → SlP es f 1 p := fun {p} => by
  induction p with
  | nil => intro _ _; trivial
  | cons a r ih =>
    intro w e
    cases r with
    | nil => trivial
    | cons b q =>
      have s := slp_pm f a b
      rw [psum_cons] at e
      simp only [List.length_cons] at e
      rcases psum_top (f := f) w.2 with i | i
      · simp only [List.length_cons] at i
        have e1 : slp f a b = 1 := by omega
        exact ⟨w.1, e1, ih w.2 (by simp only [List.length_cons]; omega)⟩
      · cases i
theorem slp_sum {f : Str → Int} : ∀ {p : List Str}, SlP es f 1 p → p ≠ [] → psum f p + 1 = (p.length : Int) := fun {p} => by
  induction p with
  | nil => intro _ n; exact absurd rfl n
  | cons a r ih =>
    intro w _
    cases r with
    | nil => rw [psum_one]; rfl
    | cons b q =>
      have i := ih w.2.2 (by simp)
      rw [psum_cons, w.2.1]
      simp only [List.length_cons] at i ⊢
      omega
theorem rr_path {x y : Str} (r : Rr es f dir x y) : ∃ p, SlP es f dir p ∧ p.head? = some x ∧ p.getLast? = some y := by
  induction r with
  | refl => exact ⟨[x], trivial, rfl, rfl⟩
  | @step a b _ m o ih =>
    obtain ⟨p, i1, i2, i3⟩ := ih
    refine ⟨p ++ [b], i1.snoc i3 (nbS_mem.mp m) (of_decide_eq_true o), ?_, ?_⟩
    · cases p with
      | nil => cases i2
      | cons c r => exact i2
    · simp only [List.getLast?_append, List.getLast?_singleton, Option.some_or]
theorem path_rr : ∀ {p : List Str} {x y : Str}, SlP es f dir p → p.head? = some x → p.getLast? = some y → Rr es f dir x y := fun {p} => by
  induction p with
  | nil => intro x y _ h; cases h
  | cons a r ih =>
    intro x y w h l
    obtain rfl : a = x := by simpa using h
    cases r with
    | nil =>
      obtain rfl : a = y := by simpa using l
      exact .refl
    | cons b q =>
      have l' : (b :: q).getLast? = some y := by rw [List.getLast?_cons_cons] at l; exact l
      exact (rr_step w.1 w.2.1).trans (ih w.2.2 rfl l')
/-- cycles stay on the way of a lift -/
theorem cyc_t (okf : EsOk ns es f) (okg : EsOk ns es g) (t : ∀ e ∈ es, slp f e.1 e.2 - slp g e.1 e.2 = 2 * (h e.1 - h e.2)) {x : Str} (c : Cyc es g x) : Cyc es f x := by
  obtain ⟨y, k, e, r⟩ := c
  obtain ⟨p, p1, p2, p3⟩ := rr_path r
  have q1 := p1.snoc p3 k e
  have la : (p ++ [x]).getLast? = some x := by simp only [List.getLast?_append, List.getLast?_singleton, Option.some_or]
  have hd : (p ++ [x]).head? = some x := by
    cases p with
    | nil => cases p2
    | cons c r => exact p2
  have e1 := psum_lift okf okg t q1.wk hd la
  have e2 := slp_sum q1 (by simp)
  have q2 := slp_full (f := f) q1.wk (by omega)
  refine ⟨y, k, ?_, path_rr q2.left p2 p3⟩
  have pl : 0 < p.length := by
    cases p with
    | nil => cases p2
    | cons c r => simp
  have := (q2.at (p.length - 1) (by rw [List.length_append, List.length_singleton]; omega)).2
  have a1 : (p ++ [x])[p.length - 1]'(by rw [List.length_append]; omega) = y := by
    rw [List.getElem_append_left (by omega)]
    have := p3
    rw [List.getLast?_eq_getElem?, List.getElem?_eq_getElem (by omega)] at this
    exact Option.some.inj this
  have a2 : (p ++ [x])[p.length - 1 + 1]'(by rw [List.length_append, List.length_singleton]; omega) = x := by
    rw [List.getElem_append_right (by omega)]
    simp
  rw [a1, a2] at this
  exact this
/-- a feasible lift leads from f to g -/
def Lft (ns : List Str) (es : List (Str × Str)) (f g : Str → Int) (pn : List Str) (h : Str → Int) : Prop := Feas ns es f h pn ∧ ∀ x ∈ ns, (f x - h x - g x) % 3 = 0
theorem Lft.back (okf : EsOk ns es f) (okg : EsOk ns es g) (l : Lft ns es f g pn h) : Lft ns es g f pn fun x => - h x := by
  have t := feas_t okf okg l.1 l.2
  refine ⟨feas_back okf okg l.1 t fun x c => cyc_t okf okg t c, fun x hx => ?_⟩
  have := l.2 x hx
  show (g x - - h x - f x) % 3 = 0
  omega
theorem Lft.join {k h2 : Str → Int} (okf : EsOk ns es f) (okg : EsOk ns es g) (okk : EsOk ns es k) (l : Lft ns es f g pn h) (m : Lft ns es g k pn h2) : Lft ns es f k pn fun x => h x + h2 x := by
  have t := feas_t okf okg l.1 l.2
  have tb := feas_t okg okf (l.back okf okg).1 (l.back okf okg).2
  refine ⟨⟨fun e he => ?_, fun x hx => ?_, fun x hx => ?_⟩, fun x hx => ?_⟩
  · have a := t e he
    have b := fit_pm.mp (m.1.fit e he)
    rw [fit_pm]
    omega
  · have := l.1.pin x hx
    have := m.1.pin x hx
    omega
  · have := l.1.cyc x hx
    have := m.1.cyc x (cyc_t (h := fun x => - h x) okg okf tb hx)
    omega
  · have := l.2 x hx
    have := m.2 x hx
    show (f x - (h x + h2 x) - k x) % 3 = 0
    omega
end
end U

/-! rounds of progress moves: the plain law -/
namespace U
open PySem PySem.Spec PyProof.Rows L2
section
variable {ns : List Str} {es : List (Str × Str)} {f h : Str → Int} {pn : List Str}
theorem prog_iff (ok : EsOk ns es f) {m : Str × Int} : m ∈ progF ns es f h pn ↔ m.1 ∈ ns ∧ m.1 ∉ pn ∧ h m.1 ≠ 0 ∧ (∀ o, Adj es m.1 o → slp f m.1 o = dirU (h m.1)) ∧ m.2 = (f m.1 - dirU (h m.1)) % 3 := by
  rw [prog_eq ok fun _ h => h, List.mem_flatMap]
  constructor
  · rintro ⟨x, hx, hm⟩
    unfold pmF pvF at hm
    by_cases c : h x ≠ 0 ∧ ∀ o ∈ nbS es x, slp f x o = dirU (h x)
    · rw [if_pos c] at hm
      have hm : m ∈ (if x ∈ pn then [] else [(x, (f x - dirU (h x)) % 3)]) := hm
      split at hm
      · cases hm
      · rename_i np
        obtain rfl := List.mem_singleton.mp hm
        exact ⟨hx, np, c.1, fun o ho => c.2 o (nbS_mem.mpr ho), rfl⟩
    · rw [if_neg c] at hm
      cases hm
  · rintro ⟨a, b, c, d, e⟩
    refine ⟨m.1, a, ?_⟩
    unfold pmF pvF
    rw [if_pos ⟨c, fun o ho => d o (nbS_mem.mp ho)⟩]
    show m ∈ (if m.1 ∈ pn then [] else [(m.1, (f m.1 - dirU (h m.1)) % 3)])
    rw [if_neg b, ← e]
    exact List.mem_singleton.mpr rfl
theorem pm_shape {x : Str} : pmF es f h pn x = [] ∨ pmF es f h pn x = [(x, (f x - dirU (h x)) % 3)] := by
  unfold pmF pvF
  by_cases c : h x ≠ 0 ∧ ∀ o ∈ nbS es x, slp f x o = dirU (h x)
  · rw [if_pos c]
    show (if x ∈ pn then [] else [(x, (f x - dirU (h x)) % 3)]) = [] ∨ (if x ∈ pn then [] else [(x, (f x - dirU (h x)) % 3)]) = _
    split
    · exact .inl rfl
    · exact .inr rfl
  · rw [if_neg c]
    exact .inl rfl
theorem pm_nodup : ∀ {xs : List Str}, xs.Nodup → ((xs.flatMap (pmF es f h pn)).map (·.1)).Nodup ∧ ∀ y ∈ (xs.flatMap (pmF es f h pn)).map (·.1), y ∈ xs
  | [], _ => ⟨List.nodup_nil, fun y h => nomatch h⟩
  | x :: r, nd => by
    have nd' := List.nodup_cons.mp nd
    obtain ⟨i1, i2⟩ := pm_nodup nd'.2
    rw [List.flatMap_cons, List.map_append]
    rcases pm_shape (es := es) (f := f) (h := h) (pn := pn) (x := x) with e | e
    · rw [e]
      exact ⟨i1, fun y hy => List.mem_cons_of_mem _ (i2 y hy)⟩
    · rw [e]
      refine ⟨List.nodup_cons.mpr ⟨fun z => nd'.1 (i2 x z), i1⟩, fun y hy => ?_⟩
      rcases List.mem_cons.mp hy with z | z
      · rw [z]
        exact List.mem_cons_self
      · exact List.mem_cons_of_mem _ (i2 y z)
theorem prog_nodup (ok : EsOk ns es f) (nd : ns.Nodup) : ((progF ns es f h pn).map (·.1)).Nodup := by
  rw [prog_eq ok fun _ h => h]
  exact (pm_nodup nd).1
/-- numbers of neighbors differ by one at most -/
theorem fe_near (ok : EsOk ns es f) (fe : Feas ns es f h pn) {a b : Str} (k : Adj es a b) : slp f a b - 2 * (h a - h b) = 1 ∨ slp f a b - 2 * (h a - h b) = -1 := by
  rcases k with k | k
  · exact fit_pm.mp (fe.fit _ k)
  · have e := fit_pm.mp (fe.fit _ k)
    have s := slp_neg ok (show Adj es b a from .inl k)
    have e : slp f b a - 2 * (h b - h a) = 1 ∨ slp f b a - 2 * (h b - h a) = -1 := e
    omega
theorem prog_apart (ok : EsOk ns es f) (fe : Feas ns es f h pn) {a b : Str × Int} (ha : a ∈ progF ns es f h pn) (hb : b ∈ progF ns es f h pn) : ¬ Adj es a.1 b.1 := fun k => by
  obtain ⟨_, _, a3, a4, _⟩ := (prog_iff ok).mp ha
  obtain ⟨_, _, b3, b4, _⟩ := (prog_iff ok).mp hb
  have e1 := a4 _ k
  have e2 := b4 _ k.symm
  have e3 := slp_neg ok k
  have e4 := fe_near ok fe k
  unfold dirU at e1 e2
  split at e1 <;> split at e2 <;> omega
theorem prog_after (ok : EsOk ns es f) (nd : ns.Nodup) (fe : Feas ns es f h pn) {a b : Str × Int} (ha : a ∈ progF ns es f h pn) (hb : b ∈ progF ns es f h pn) (ne : b.1 ≠ a.1) : b ∈ progF ns es (updf f a.1 a.2) (redU h a.1) pn := by
  obtain ⟨ok', _⟩ := prog_step ok nd fe ha
  obtain ⟨b1, b2, b3, b4, b5⟩ := (prog_iff ok).mp hb
  have u1 : updf f a.1 a.2 b.1 = f b.1 := if_neg ne
  have u2 : redU h a.1 b.1 = h b.1 := if_neg ne
  refine (prog_iff ok').mpr ⟨b1, b2, by rw [u2]; exact b3, fun o ho => ?_, by rw [u1, u2]; exact b5⟩
  have no : o ≠ a.1 := fun z => prog_apart ok fe hb ha (by rw [← z]; exact ho)
  rw [slp_off ne no, u2]
  exact b4 o ho
theorem AnyR.trans {ms ms2 : List (Str × Int)} {f' h' f2 h2 : Str → Int} (a : AnyR ns es pn f h ms f' h') (b : AnyR ns es pn f' h' ms2 f2 h2) : AnyR ns es pn f h (ms ++ ms2) f2 h2 := by
  induction b with
  | nil => rw [List.append_nil]; exact a
  | snoc _ hm ih => rw [← List.append_assoc]; exact .snoc ih hm
/-- progress moves of one point, one after another -/
theorem round_any (ok : EsOk ns es f) (nd : ns.Nodup) (fe : Feas ns es f h pn) {ms : List (Str × Int)} (all : ∀ m ∈ ms, m ∈ progF ns es f h pn) (ndm : (ms.map (·.1)).Nodup) : ∀ i, i ≤ ms.length →
    AnyR ns es pn f h (ms.take i) (plU f (ms.take i)) (rdU h (ms.take i)) ∧ ∀ b ∈ progF ns es f h pn, b.1 ∉ (ms.take i).map (·.1) → b ∈ progF ns es (plU f (ms.take i)) (rdU h (ms.take i)) pn := by
  intro i
  induction i with
  | zero => exact fun _ => ⟨.nil, fun b hb _ => hb⟩
  | succ i ih =>
    intro hi
    obtain ⟨r, k⟩ := ih (by omega)
    have tk : ms.take (i + 1) = ms.take i ++ [ms[i]] := by
      rw [List.take_succ, List.getElem?_eq_getElem (by omega)]
      rfl
    have hm := all _ (List.getElem_mem (by omega : i < ms.length))
    have nin : ms[i].1 ∉ (ms.take i).map (·.1) := fun z => by
      rw [List.nodup_iff_pairwise_ne, List.pairwise_iff_getElem] at ndm
      obtain ⟨j, hj, e⟩ := List.mem_iff_getElem.mp z
      rw [List.getElem_map, List.getElem_take] at e
      rw [List.length_map, List.length_take] at hj
      have := ndm j i (by rw [List.length_map]; omega) (by rw [List.length_map]; omega) (by omega)
      rw [List.getElem_map, List.getElem_map] at this
      exact this e
    have hm' := k _ hm nin
    obtain ⟨ok', fe', _⟩ := r.keeps ok nd fe
    rw [tk, plU_snoc, rdU_snoc]
    refine ⟨.snoc r hm', fun b hb nb => ?_⟩
    rw [List.map_append, List.mem_append, not_or] at nb
    exact prog_after ok' nd fe' hm' (k b hb nb.1) fun z => nb.2 (by rw [z]; exact List.mem_singleton.mpr rfl)
theorem round_all (ok : EsOk ns es f) (nd : ns.Nodup) (fe : Feas ns es f h pn) : AnyR ns es pn f h (progF ns es f h pn) (plU f (progF ns es f h pn)) (rdU h (progF ns es f h pn)) := by
  have := (round_any ok nd fe (ms := progF ns es f h pn) (fun _ h => h) (prog_nodup ok nd) _ (Nat.le_refl _)).1
  rw [List.take_length] at this
  exact this
/-- rounds that are each all progress moves -/
inductive RoundR (ns : List Str) (es : List (Str × Str)) (pn : List Str) (f h : Str → Int) : List (List (Str × Int)) → (Str → Int) → (Str → Int) → Prop
  | nil : RoundR ns es pn f h [] f h
  | snoc {rs : List (List (Str × Int))} {f' h' : Str → Int} : RoundR ns es pn f h rs f' h' → progF ns es f' h' pn ≠ [] → RoundR ns es pn f h (rs ++ [progF ns es f' h' pn]) (plU f' (progF ns es f' h' pn)) (rdU h' (progF ns es f' h' pn))
theorem RoundR.any (ok : EsOk ns es f) (nd : ns.Nodup) (fe : Feas ns es f h pn) {rs : List (List (Str × Int))} {f' h' : Str → Int} (r : RoundR ns es pn f h rs f' h') : AnyR ns es pn f h rs.flatten f' h' := by
  induction r with
  | nil => exact .nil
  | @snoc rs f' h' r ne ih =>
    obtain ⟨ok', fe', _⟩ := ih.keeps ok nd fe
    rw [List.flatten_append]
    have := ih.trans (round_all ok' nd fe')
    simpa using this
theorem RoundR.len (ok : EsOk ns es f) (nd : ns.Nodup) (fe : Feas ns es f h pn) {rs : List (List (Str × Int))} {f' h' : Str → Int} (r : RoundR ns es pn f h rs f' h') : (rs.length : Int) + sz ns h' ≤ sz ns h := by
  induction r with
  | nil => simp
  | @snoc rs f' h' r ne ih =>
    obtain ⟨ok', fe', _⟩ := (r.any ok nd fe).keeps ok nd fe
    obtain ⟨_, _, s, _⟩ := (round_all ok' nd fe').keeps ok' nd fe'
    have : 0 < (progF ns es f' h' pn).length := List.length_pos_iff.mpr ne
    rw [List.length_append, List.length_singleton]
    omega
theorem RoundR.at {rs : List (List (Str × Int))} {f' h' : Str → Int} (r : RoundR ns es pn f h rs f' h') : ∀ i (hi : i < rs.length), ∃ f1 h1, RoundR ns es pn f h (rs.take i) f1 h1 ∧ rs[i] = progF ns es f1 h1 pn ∧ progF ns es f1 h1 pn ≠ [] ∧ RoundR ns es pn f h (rs.take (i + 1)) (plU f1 rs[i]) (rdU h1 rs[i]) := by
  induction r with
  | nil => exact fun i hi => absurd hi (Nat.not_lt_zero i)
  | @snoc rs f' h' r ne ih =>
    intro i hi
    rw [List.length_append, List.length_singleton] at hi
    by_cases c : i < rs.length
    · obtain ⟨f1, h1, a, b, d, e⟩ := ih i c
      refine ⟨f1, h1, ?_⟩
      rw [List.take_append_of_le_length (by omega), List.getElem_append_left c, List.take_append_of_le_length (by omega)]
      exact ⟨a, b, d, e⟩
    · obtain rfl : i = rs.length := by omega
      refine ⟨f', h', ?_⟩
      rw [List.take_append_of_le_length (Nat.le_refl _), List.take_length, List.getElem_append_right (Nat.le_refl _), List.take_of_length_le (by rw [List.length_append]; exact Nat.le_refl _)]
      simp only [Nat.sub_self, List.getElem_cons_zero]
      exact ⟨r, trivial, ne, .snoc r ne⟩
theorem RoundR.ends {rs : List (List (Str × Int))} {f' h' : Str → Int} (r : RoundR ns es pn f h rs f' h') : f' = plU f rs.flatten ∧ h' = rdU h rs.flatten := by
  induction r with
  | nil => exact ⟨rfl, rfl⟩
  | @snoc rs f' h' r ne ih =>
    obtain ⟨e1, e2⟩ := ih
    constructor
    · conv => lhs; rw [show plU f' = plU (plU f rs.flatten) from by rw [← e1]]
      unfold plU
      simp [List.foldl_append]
    · conv => lhs; rw [show rdU h' = rdU (rdU h rs.flatten) from by rw [← e2]]
      unfold rdU
      simp [List.foldl_append]
end
end U

/-! all states that can be reached, found breadth-first: the plain law -/
namespace U
open PySem PySem.Spec PyProof.Rows L2
section
variable {ns : List Str} {es : List (Str × Str)} {f g h : Str → Int} {pn : List Str}
/-- the states found so far, the first at of them done -/
structure RchS (ns : List Str) (es : List (Str × Str)) (pn : List Str) (f : Str → Int) (ss : List (List Int × Nat)) (at_ : Nat) : Prop where
  nd : (ss.map (·.1)).Nodup
  ok : ∀ s ∈ ss, ∃ ms f', Plays ns es pn f ms f' ∧ ms.length = s.2 ∧ s.1 = ns.map f'
  z : ∃ r, ss = (ns.map f, 0) :: r
  mono : ∀ i j (hi : i ≤ j) (hj : j < ss.length), (ss[i]'(Nat.lt_of_le_of_lt hi hj)).2 ≤ ss[j].2
  top : ∀ (h : at_ < ss.length) j (hj : j < ss.length), ss[j].2 ≤ ss[at_].2 + 1
  cl : ∀ i (h : i < ss.length), i < at_ → ∀ f1, EsOk ns es f1 → ss[i].1 = ns.map f1 → ∀ m, Legal ns es f1 pn m → ∃ k, k ≤ ss[i].2 + 1 ∧ (ns.map (updf f1 m.1 m.2), k) ∈ ss
theorem RchS.start : RchS ns es pn f [(ns.map f, 0)] 0 := by
  refine ⟨by simp, fun s hs => ?_, ⟨[], rfl⟩, fun i j hi hj => ?_, fun h j hj => ?_, fun i h hi => absurd hi (Nat.not_lt_zero _)⟩
  · rw [List.mem_singleton.mp hs]
    exact ⟨[], f, .nil, rfl, rfl⟩
  · have : j = 0 := by
      have : j < 1 := hj
      omega
    subst this
    have : i = 0 := by omega
    subst this
    exact Nat.le_refl _
  · have : j = 0 := by
      have : j < 1 := hj
      omega
    subst this
    exact Nat.zero_le _
/-- one more -/
theorem RchS.add {ss : List (List Int × Nat)} {a : Nat} (r : RchS ns es pn f ss a) (ha : a < ss.length) {f1 : Str → Int} (e1 : ss[a].1 = ns.map f1) (ok1 : EsOk ns es f1) {m : Str × Int} (lg : Legal ns es f1 pn m) (new : ns.map (updf f1 m.1 m.2) ∉ ss.map (·.1)) :
    RchS ns es pn f (ss ++ [(ns.map (updf f1 m.1 m.2), ss[a].2 + 1)]) a := by
  have at1 : ∀ j (hj : j < ss.length) (hj2 : j < (ss ++ [(ns.map (updf f1 m.1 m.2), ss[a].2 + 1)]).length), (ss ++ [(ns.map (updf f1 m.1 m.2), ss[a].2 + 1)])[j] = ss[j] := fun j hj _ => List.getElem_append_left hj
  have at2 : ∀ j (hj2 : j < (ss ++ [(ns.map (updf f1 m.1 m.2), ss[a].2 + 1)]).length), ¬ j < ss.length → (ss ++ [(ns.map (updf f1 m.1 m.2), ss[a].2 + 1)])[j] = (ns.map (updf f1 m.1 m.2), ss[a].2 + 1) := fun j hj2 hn => by
    rw [List.length_append, List.length_singleton] at hj2
    have : j = ss.length := by omega
    subst this
    rw [List.getElem_append_right (Nat.le_refl _)]
    simp
  obtain ⟨r0, ez⟩ := r.z
  refine ⟨?_, fun s hs => ?_, ⟨r0 ++ [(ns.map (updf f1 m.1 m.2), ss[a].2 + 1)], congrArg (fun l => l ++ [(ns.map (updf f1 m.1 m.2), ss[a].2 + 1)]) ez⟩, fun i j hi hj => ?_, fun h j hj => ?_, fun i h hi g1 og eg m' lm => ?_⟩
  · rw [List.map_append, List.nodup_append]
    refine ⟨r.nd, by simp, fun x hx y hy e => ?_⟩
    rw [List.map_cons, List.map_nil, List.mem_singleton] at hy
    rw [e, hy] at hx
    exact new hx
  · rcases List.mem_append.mp hs with hs | hs
    · exact r.ok s hs
    · rw [List.mem_singleton.mp hs]
      obtain ⟨ms, f', p, l, e⟩ := r.ok _ (List.getElem_mem ha)
      have ag := e.symm.trans e1
      rw [List.map_inj_left] at ag
      have lg' : Legal ns es f' pn m := ⟨lg.mem, lg.pin, lg.val, by rw [ag _ lg.mem]; exact lg.own, fun z hz => by
        have : z ∈ ns := by
          rcases hz with hz | hz
          · exact (ok1.mem _ hz).2
          · exact (ok1.mem _ hz).1
        rw [ag z this]
        exact lg.nbr z hz⟩
      refine ⟨_, _, p.snoc lg', by rw [List.length_append, l]; rfl, ?_⟩
      show ns.map (updf f1 m.1 m.2) = ns.map (updf f' m.1 m.2)
      have ee := e.symm.trans e1
      rw [List.map_inj_left] at ee
      refine List.map_congr_left fun x hx => ?_
      unfold updf
      rw [ee x hx]
  · by_cases q : j < ss.length
    · rw [at1 j q hj, at1 i (by omega) (by omega)]
      exact r.mono i j hi q
    · rw [at2 j hj q]
      by_cases q2 : i < ss.length
      · rw [at1 i q2 (by omega)]
        exact r.top ha i q2
      · rw [at2 i (by omega) q2]
        exact Nat.le_refl _
  · rw [at1 a ha h]
    by_cases q : j < ss.length
    · rw [at1 j q hj]
      exact r.top ha j q
    · rw [at2 j hj q]
      exact Nat.le_refl _
  · have q : i < ss.length := by omega
    rw [at1 i q h] at eg ⊢
    obtain ⟨k, k1, k2⟩ := r.cl i q hi g1 og eg m' lm
    exact ⟨k, k1, List.mem_append_left _ k2⟩
/-- one is done -/
theorem RchS.done {ss : List (List Int × Nat)} {a : Nat} (r : RchS ns es pn f ss a) (ha : a < ss.length) (all : ∀ f1, EsOk ns es f1 → ss[a].1 = ns.map f1 → ∀ m, Legal ns es f1 pn m → ∃ k, k ≤ ss[a].2 + 1 ∧ (ns.map (updf f1 m.1 m.2), k) ∈ ss) : RchS ns es pn f ss (a + 1) :=
  ⟨r.nd, r.ok, r.z, r.mono, fun h j hj => Nat.le_trans (r.top ha j hj) (Nat.add_le_add_right (r.mono a (a + 1) (Nat.le_succ _) h) 1), fun i h hi f1 o1 e1 m lm => by
    by_cases q : i = a
    · subst q
      exact all f1 o1 e1 m lm
    · exact r.cl i h (by omega) f1 o1 e1 m lm⟩
/-- all that moves reach is found, at its distance -/
theorem RchS.all {ss : List (List Int × Nat)} (r : RchS ns es pn f ss ss.length) (okf : EsOk ns es f) (nd : ns.Nodup) {ms : List (Str × Int)} {f' : Str → Int} (p : Plays ns es pn f ms f') : ∃ k, k ≤ ms.length ∧ (ns.map f', k) ∈ ss := by
  induction p with
  | nil =>
    obtain ⟨r0, e⟩ := r.z
    exact ⟨0, Nat.le_refl _, by rw [e]; exact List.mem_cons_self⟩
  | @snoc ms f1 m p lg ih =>
    obtain ⟨k, k1, k2⟩ := ih
    obtain ⟨ok1, _⟩ := plays_lift okf nd p
    obtain ⟨i, hi, e⟩ := List.mem_iff_getElem.mp k2
    obtain ⟨k', q1, q2⟩ := r.cl i hi hi f1 ok1 (by rw [e]) m lg
    rw [e] at q1
    refine ⟨k', ?_, q2⟩
    rw [List.length_append, List.length_singleton]
    have : k' ≤ k + 1 := q1
    omega
end
end U

/-! dicts whose keys are tuples of numbers; tuples of three values -/
namespace U
open PySem PySem.Spec PyProof.Rows L2
def allT : Nat → List (List Int)
  | 0 => [[]]
  | n + 1 => (allT n).flatMap fun s => [0 :: s, 1 :: s, 2 :: s]
theorem allT_len : ∀ n, (allT n).length = 3 ^ n
  | 0 => rfl
  | n + 1 => by
    have key : ∀ xs : List (List Int), (xs.flatMap fun s => [0 :: s, 1 :: s, 2 :: s]).length = 3 * xs.length := by
      intro xs
      induction xs with
      | nil => rfl
      | cons x r ih =>
        rw [List.flatMap_cons, List.length_append, ih, List.length_cons]
        simp only [List.length_cons, List.length_nil]
        omega
    rw [allT, key, allT_len n, Nat.pow_succ, Nat.mul_comm]
theorem allT_mem : ∀ {n : Nat} {s : List Int}, s.length = n → (∀ v ∈ s, 0 ≤ v ∧ v < 3) → s ∈ allT n
  | 0, [], _, _ => List.mem_singleton.mpr rfl
  | n + 1, v :: s, h, b => by
    have ih := allT_mem (s := s) (Nat.succ.inj h) fun w hw => b w (List.mem_cons_of_mem _ hw)
    refine List.mem_flatMap.mpr ⟨s, ih, ?_⟩
    have := b v List.mem_cons_self
    have : v = 0 ∨ v = 1 ∨ v = 2 := by omega
    rcases this with rfl | rfl | rfl <;> simp
/-- few states -/
theorem RchS.few {ns : List Str} {es : List (Str × Str)} {pn : List Str} {f : Str → Int} {ss : List (List Int × Nat)} {a : Nat} (r : RchS ns es pn f ss a) (okf : EsOk ns es f) (nd : ns.Nodup) (n7 : ns.length ≤ 7) : ss.length ≤ 2187 := by
  have := nodup_len (ys := allT ns.length) r.nd fun s hs => by
    obtain ⟨t, ht, rfl⟩ := List.mem_map.mp hs
    obtain ⟨ms, f', p, _, e⟩ := r.ok t ht
    obtain ⟨ok', _⟩ := plays_lift okf nd p
    rw [e]
    refine allT_mem (List.length_map _) fun v hv => ?_
    obtain ⟨x, hx, rfl⟩ := List.mem_map.mp hv
    exact ok'.tri x hx
  rw [List.length_map, allT_len] at this
  have : 3 ^ ns.length ≤ 3 ^ 7 := Nat.pow_le_pow_right (by decide) n7
  omega
end U


/-! slices and sums of tuples, the tuple itself told -/
namespace Law
open PySem PySem.Spec PyProof.Rows L2 U
end Law

/-! a list turned round: its place is not that of the modules' table -/
namespace U
open PySem PySem.W PySem.Calls PyProof.Rows PyProof.V PySem.Spec L2
variable {X : Cx}
end U

/-! slices of a tuple, and of a list, backwards -/
namespace U
open PySem PySem.W PySem.Calls PyProof.Rows PyProof.V PySem.Spec L2 HT
section
variable {prog : Program} {w : World} {A : Around} {E : Value → Shared → Prop} {s : Shared}
end
end U

/-! isinstance of a kept exception, its dict known -/
namespace U
open PySem PySem.Spec PyProof.Rows L2
section
variable {P : Program} {w : World} {A : Around} {E : Value → Shared → Prop} {K : PySem.W.Frag} {x D : Addr} {ox : Obj} {od : Option Obj}
end
end U
namespace U
open PySem PySem.Spec PyProof.Rows L2
theorem kit_ty {K : PySem.W.Frag} {D : Addr} {T : String} {b : Bool} (h1 : PySem.W.kitMeta T = true) (h3 : PySem.W.subIn K (.ref D) (.type T) = some b) : PySem.W.kitOne K (.ref D) (.type T) = some b := by
  unfold PySem.W.kitOne PySem.W.kitCls
  show (if (Value.ref D == Value.type T) = true then some true else if PySem.W.kitMeta T = true then PySem.W.subIn K (.ref D) (.type T) else none) = some b
  rw [if_neg (fun z => nomatch (beq_iff_eq.mp z : Value.ref D = Value.type T)), if_pos h1]
  exact h3
end U


/-! smallest_path -/
namespace Law
open PySem PySem.Spec PyProof.Rows L2 U LamX


section
variable {P : Program} {w : World} {K : PySem.W.Frag} {mg : Str → Option Value} {base : Heap}
end
end Law


/-! cycle_at, cycle_nodes, find_anchors -/
namespace Law
open PySem PySem.Spec PyProof.Rows L2 U LamX


theorem ExtN.li {H H' : Hp} (e : ExtN H H') {a : Addr} {xs : List V} (h : H a = some (.lst xs)) : H' a = some (.lst xs) := e _ _ h fun _ z => nomatch z
theorem ExtN.tu {H H' : Hp} (e : ExtN H H') {a : Addr} {xs : List V} (h : H a = some (.tup xs)) : H' a = some (.tup xs) := e _ _ h fun _ z => nomatch z
theorem ExtN.dk {H H' : Hp} (e : ExtN H H') {a : Addr} {xs : List (Key × V)} (h : H a = some (.dK xs)) : H' a = some (.dK xs) := e _ _ h fun _ z => nomatch z
theorem GSt.ext {H H' : Hp} {g n e st : Addr} {ns ord : List Str} {es : List (Addr × Str × Str)} {f : Str → Int} (h : GSt H g n e st ns ord es f) (x : ExtN H H') : GSt H' g n e st ns ord es f :=
  ⟨⟨ExtN.tu x h.gr.top, ExtN.tu x h.gr.nodes, ExtN.tu x h.gr.edges, fun y hy => ExtN.tu x (h.gr.pairs y hy)⟩, h.ok, h.pm, h.l2, h.l3, ExtN.dk x h.st, h.tri, h.pro⟩
section
variable {P : Program} {w : World} {K : PySem.W.Frag} {mg : Str → Option Value} {base : Heap}
end
end Law


/-! cycle_nodes, find_anchors -/
namespace Law
open PySem PySem.Spec PyProof.Rows L2 U LamX


section
variable {P : Program} {w : World} {K : PySem.W.Frag} {mg : Str → Option Value} {base : Heap}
end
end Law


/-! reach, cycles, anchors as the laws find them -/
namespace Law
open PySem PySem.Spec PyProof.Rows L2 U


section
variable {P : Program} {w : World} {K : PySem.W.Frag} {mg : Str → Option Value} {base : Heap}
end
end Law


/-! draws and tables of code objects together -/
namespace Law
open PySem PySem.Spec PyProof.Rows L2 U LamX
/-- nothing but the draws' source and the tables changes -/
structure GoN (T : List (Addr × Str)) (p : Addr) (H H' : Hp) : Prop where
  but : ∀ b o, b ≠ p → H b = some o → (∀ ps, o ≠ .tbl ps) → H' b = some o
  pool : PoolAt H' p
  tabs : Tabs T H'
theorem tabs_but {T : List (Addr × Str)} {H H' : Hp} {p : Addr} {ys : List V} (t : Tabs T H) (hp : H p = some (.lst ys)) (b : But p H H') : Tabs T H' := fun q hq => by
  obtain ⟨ps, h1, h2, h3⟩ := t q hq
  refine ⟨ps, b _ _ (ne_of h1 hp (by intro z; cases z)) h1, h2, fun pos cv hc => ?_⟩
  obtain ⟨c, e1, e2⟩ := h3 pos cv hc
  exact ⟨c, e1, b _ _ (ne_of e2 hp (by intro z; unfold CodeO at z; cases z)) e2⟩
section
variable {T : List (Addr × Str)} {p : Addr} {H H1 H' : Hp}
theorem GoN.refl (hp : PoolAt H p) (t : Tabs T H) : GoN T p H H := ⟨fun _ _ _ h _ => h, hp, t⟩
theorem GoN.trans (a : GoN T p H H1) (b : GoN T p H1 H') : GoN T p H H' := ⟨fun c o n h z => b.but c o n (a.but c o n h z) z, b.pool, b.tabs⟩
theorem GoN.of_go (t : Tabs T H) (hp : PoolAt H p) (g : Go p H H') : GoN T p H H' := ⟨fun b o n h _ => g.but b o n h, g.pool, by
  obtain ⟨ys, hy⟩ := hp.isL
  exact tabs_but t hy g.but⟩
theorem GoN.of_ext (hp : PoolAt H p) (x : ExtN H H') (t : Tabs T H') : GoN T p H H' := ⟨fun b o _ h z => x b o h z, hp.keep fun a xs h => ExtN.li x h, t⟩
theorem GoN.of_same (t : Tabs T H) (hp : PoolAt H p) (s : Same H H') : GoN T p H H' := .of_go t hp (Go.of_same hp s)
theorem GoN.go (a : GoN T p H H1) (g : Go p H1 H') : GoN T p H H' := a.trans (.of_go a.tabs a.pool g)
theorem GoN.same (a : GoN T p H H1) (s : Same H1 H') : GoN T p H H' := a.trans (.of_same a.tabs a.pool s)
theorem GoN.ext (a : GoN T p H H1) (x : ExtN H1 H') (t : Tabs T H') : GoN T p H H' := a.trans (.of_ext a.pool x t)
theorem GoN.tu (g : GoN T p H H') (hp : PoolAt H p) {a : Addr} {xs : List V} (h : H a = some (.tup xs)) : H' a = some (.tup xs) := g.but _ _ (hp.offT h) h fun _ z => nomatch z
theorem GoN.dk (g : GoN T p H H') (hp : PoolAt H p) {a : Addr} {xs : List (Key × V)} (h : H a = some (.dK xs)) : H' a = some (.dK xs) := g.but _ _ (hp.offD h) h fun _ z => nomatch z
theorem GoN.li (g : GoN T p H H') {a : Addr} {xs : List V} (n : a ≠ p) (h : H a = some (.lst xs)) : H' a = some (.lst xs) := g.but _ _ n h fun _ z => nomatch z
theorem seqL_newN {K : PySem.W.Frag} {a : Addr} {o : HO} {xs : List V} (h : SqL K H a xs) (np : H p = none) (b : GoN T p (upd H p o) H') : SqL K H' a xs := by
  rcases h with (h | ⟨o, h⟩) | h
  · exact .inl (.inl (b.but _ _ (ne_of_none h np) (at_upd (ne_of_none h np) h) fun _ z => nomatch z))
  · exact .inl (.inr ⟨o, b.but _ _ (ne_of_none h np) (at_upd (ne_of_none h np) h) fun _ z => nomatch z⟩)
  · exact .inr h
theorem PoolAt.offN {a : Addr} (h : PoolAt H p) (n : H a = none) : a ≠ p := Ne.symm (h.ne n)
theorem sqL_ext {K : PySem.W.Frag} {a : Addr} {xs : List V} (h : SqL K H a xs) (x : ExtN H H') : SqL K H' a xs := by
  rcases h with (h | ⟨o, h⟩) | h
  · exact .inl (.inl (ExtN.li x h))
  · exact .inl (.inr ⟨o, x _ _ h fun _ z => nomatch z⟩)
  · exact .inr h
theorem TupsAt.ext {ms : List (Addr × Str × Int)} (h : TupsAt H ms) (x : ExtN H H') : TupsAt H' ms := fun m hm => ExtN.tu x (h m hm)
end
end Law


/-! k01: what is to be expected, what comes -/
namespace Law
open PySem PySem.Spec PyProof.Rows L2 U LamX NdefX


/-- what is told of a would-be graph -/
def ResG (H : Hp) (x : V) (r : Option (Str × V)) : Prop := (r = none ∧ x = .non) ∨ ∃ t part pos, r = some (part, pos) ∧ x = .ref t ∧ H t = some (.tup [.str part, pos])
theorem ResG.keep {H H' : Hp} {x : V} {r : Option (Str × V)} (h : ResG H x r) (k : ∀ a xs, H a = some (.tup xs) → H' a = some (.tup xs)) : ResG H' x r := by
  rcases h with h | ⟨t, p, y, e1, e2, h⟩
  · exact .inl h
  · exact .inr ⟨t, p, y, e1, e2, k _ _ h⟩
theorem RG.ext {H H' : Hp} {v : V} {r : Option (Str × V)} (h : RG H v r) (x : ExtN H H') : RG H' v r := by
  rcases h with ⟨ob, nt, e⟩ | ⟨a, xs, rfl, ha, rg⟩
  · exact .inl ⟨ob.ext fun b o h z => x b o h z, fun a xs e => Law.Ob.noTup ob nt x e, e⟩
  · refine .inr ⟨a, xs, rfl, x _ _ ha nofun, ?_⟩
    rcases rg with z | ⟨vn, ve, e, pn, pe, alt⟩
    · exact .inl z
    · refine .inr ⟨vn, ve, e, pn.ext x, pe.ext x, ?_⟩
      rcases alt with ⟨y, p, e⟩ | ⟨n, ns, e, hn, p1, nm, p2⟩
      · exact .inl ⟨y, PartR.ext p pn.1 x, e⟩
      · refine .inr ⟨n, ns, e, x _ _ hn nofun, PartR.ext p1 pn.1 x, nm, ?_⟩
        have p3 := PartR.ext p2 pe.1 x
        rcases p3 with z | ⟨b, ys, e3, hb, k⟩
        · exact .inl z
        · refine .inr ⟨b, ys, e3, hb, ?_⟩
          have its : ∀ y ∈ ys, It1 H y := by
            rcases p2 with ⟨nt, _⟩ | ⟨b2, ys2, e4, hb2, _⟩
            · exact absurd hb (Law.Ob.noTup pe.1 nt x e3)
            · rw [e3] at e4
              cases e4
              have := x _ _ hb2 nofun
              rw [hb] at this
              cases this
              exact (pe.2 b ys e3 hb2).2
          have same : ∀ i, i < ys.length → badAt (goodE H' ns) (dEd H') ys i = badAt (goodE H ns) (dEd H) ys i := fun i hi => by
            have one : ∀ j, j < ys.length → goodE H' ns (ys[j]?.getD .non) = goodE H ns (ys[j]?.getD .non) ∧ dEd H' (ys[j]?.getD .non) = dEd H (ys[j]?.getD .non) := fun j hj => by
              rw [List.getElem?_eq_getElem hj]
              have it := its _ (List.getElem_mem hj)
              exact ⟨goodE_same it.ob.1 fun b o h z => x b o h z, dEd_same it.ob.1 fun b o h z => x b o h z⟩
            unfold badAt
            rw [(one i hi).1, (one i hi).2]
            by_cases i0 : 0 < i
            · rw [(one (i - 1) (by omega)).2]
            · rw [decide_eq_false i0, Bool.false_and, Bool.false_and]
          rcases k with z | ⟨le, ⟨i, i1, i2, i3, e5⟩ | ⟨i1, e5⟩⟩
          · exact .inl z
          · exact .inr ⟨le, .inl ⟨i, i1, by rw [same i i1]; exact i2, fun j hj => by rw [same j (by omega)]; exact i3 j hj, e5⟩⟩
          · exact .inr ⟨le, .inr ⟨fun j hj => by rw [same j hj]; exact i1 j hj, e5⟩⟩
section
variable {P : Program} {w : World} {K : PySem.W.Frag} {mg : Str → Option Value} {base : Heap}
end
end Law


/-! k01: what comes, what is tried -/
namespace Law
open PySem PySem.Spec PyProof.Rows L2 U LamX NdefX


/-- a right graph is one -/
theorem rg_good {H : Hp} {g n e : Addr} {ns : List Str} {es : List (Addr × Str × Str)} (gr : GrAt H g n e ns es) (l1 : ns.length ≤ 40) (l2 : es.length ≤ 120) (nm : ∀ x ∈ ns, IsName x) (asc : ns.Pairwise sLt) (mem : ∀ x ∈ es, x.2.1 ∈ ns ∧ x.2.2 ∈ ns ∧ sLt x.2.1 x.2.2) (ascE : es.Pairwise fun x y => PySem.W.dataLt (.tuple [.str x.2.1, .str x.2.2]) (.tuple [.str y.2.1, .str y.2.2]) = true) : RG H (.ref g) none := by
  have okN : PartOk H (.ref n) := ⟨.inr (.inr (.inr (.inr ⟨n, _, rfl, gr.nodes, .inr (.inl ⟨_, rfl⟩)⟩))), fun a xs e h => by
    rw [← V.ref.inj e, gr.nodes] at h
    cases h
    refine ⟨by rw [List.length_map]; omega, fun x hx => ?_⟩
    obtain ⟨s, hs, rfl⟩ := List.mem_map.mp hx
    exact .inl (.inr (.inr (.inl ⟨s, rfl, name_len (nm s hs)⟩)))⟩
  have okE : PartOk H (.ref e) := ⟨.inr (.inr (.inr (.inr ⟨e, _, rfl, gr.edges, .inr (.inl ⟨_, rfl⟩)⟩))), fun a xs e h => by
    rw [← V.ref.inj e, gr.edges] at h
    cases h
    refine ⟨by rw [List.length_map]; omega, fun x hx => ?_⟩
    obtain ⟨y, hy, rfl⟩ := List.mem_map.mp hx
    refine .inr (.inr ⟨y.1, _, rfl, gr.pairs y hy, fun z hz => ?_⟩)
    obtain ⟨m1, m2, _⟩ := mem y hy
    rcases List.mem_cons.mp hz with rfl | hz
    · exact .inr (.inr (.inl ⟨_, rfl, name_len (nm _ m1)⟩))
    · rw [List.mem_singleton.mp hz]
      exact .inr (.inr (.inl ⟨_, rfl, name_len (nm _ m2)⟩))⟩
  refine .inr ⟨g, _, rfl, gr.top, .inr ⟨.ref n, .ref e, rfl, okN, okE, .inr ⟨n, ns, rfl, gr.nodes, .inr ⟨n, _, rfl, gr.nodes, .inr ⟨by rw [List.length_map]; omega, .inr ⟨fun i hi => ?_, rfl⟩⟩⟩, nm, .inr ⟨e, _, rfl, gr.edges, .inr ⟨by rw [List.length_map]; omega, .inr ⟨fun i hi => ?_, rfl⟩⟩⟩⟩⟩⟩
  · rw [List.length_map] at hi
    have at_ : ∀ j (hj : j < ns.length), (ns.map V.str)[j]?.getD .non = .str ns[j] := fun j hj => by
      rw [List.getElem?_map, List.getElem?_eq_getElem hj]
      rfl
    unfold badAt
    rw [at_ i hi, show goodM (.str ns[i]) = true from nmB_iff.mpr (nm _ (List.getElem_mem hi))]
    by_cases i0 : 0 < i
    · rw [at_ (i - 1) (by omega), show PySem.W.dataLt (dM (.str ns[i - 1])) (dM (.str ns[i])) = true from by
        show PySem.W.dataLt (.str ns[i - 1]) (.str ns[i]) = true
        rw [PySem.W.dataLt_str]
        exact decide_eq_true (List.pairwise_iff_getElem.mp asc (i - 1) i (by omega) hi (by omega))]
      simp
    · rw [decide_eq_false i0]
      rfl
  · rw [List.length_map] at hi
    have at_ : ∀ j (hj : j < es.length), (es.map fun x => V.ref x.1)[j]?.getD .non = .ref es[j].1 := fun j hj => by
      rw [List.getElem?_map, List.getElem?_eq_getElem hj]
      rfl
    have hp := gr.pairs _ (List.getElem_mem hi)
    obtain ⟨m1, m2, m3⟩ := mem _ (List.getElem_mem hi)
    unfold badAt
    rw [at_ i hi, goodE_of hp, decide_eq_true m1, decide_eq_true m2, show decide (es[i].2.1.cps.toList < es[i].2.2.cps.toList) = true from decide_eq_true m3]
    by_cases i0 : 0 < i
    · rw [at_ (i - 1) (by omega), dEd_at hp, dEd_at (gr.pairs _ (List.getElem_mem (show i - 1 < es.length by omega))), List.pairwise_iff_getElem.mp ascE (i - 1) i (by omega) hi (by omega)]
      simp
    · rw [decide_eq_false i0]
      rfl
section
variable {P : Program} {w : World} {K : PySem.W.Frag} {mg : Str → Option Value} {base : Heap}
end
end Law


/-! k92: parse_graph -/
namespace Law
open PySem PySem.Spec PyProof.Rows L2 U LamX NdefX


theorem list_te {H : Hp} : ∀ {ms : List (Str × Str)} {us : List V}, us.length = ms.length → (∀ i (h1 : i < us.length) (h2 : i < ms.length), ∃ a, us[i] = .ref a ∧ H a = some (.tup [.str ms[i].1, .str ms[i].2])) → ∃ ts : List (Addr × Str × Str), us = ts.map (fun t => V.ref t.1) ∧ ts.map (·.2) = ms ∧ ∀ t ∈ ts, H t.1 = some (.tup [.str t.2.1, .str t.2.2])
  | [], [], _, _ => ⟨[], rfl, rfl, fun m h => nomatch h⟩
  | m :: ms, u :: us, l, h => by
    obtain ⟨a, e, ha⟩ := h 0 (Nat.succ_pos _) (Nat.succ_pos _)
    have e : u = .ref a := e
    obtain ⟨ts, e1, e2, tw⟩ := list_te (ms := ms) (us := us) (Nat.succ.inj l) fun i h1 h2 => h (i + 1) (Nat.succ_lt_succ h1) (Nat.succ_lt_succ h2)
    refine ⟨(a, m) :: ts, by rw [List.map_cons, e, e1], by rw [List.map_cons, e2], fun t ht => ?_⟩
    rcases List.mem_cons.mp ht with rfl | ht
    · exact ha
    · exact tw t ht
theorem eLt_dataD {a b : Str × Str} (h : eLt a b) : PySem.W.dataLt (.tuple [.str a.1, .str a.2]) (.tuple [.str b.1, .str b.2]) = true := by
  rw [PySem.W.dataLt_pair (by simp [PySem.W.alike]) (by simp [PySem.W.alike]), PySem.W.dataLt_str, PySem.W.dataLt_str]
  simp only [PyData.eqv, beq_iff_eq]
  rcases h with h | ⟨e, h⟩
  · have n : ¬ a.1 = b.1 := fun e => sLt_irrefl _ (by rw [e] at h; exact h)
    rw [if_neg n]
    exact decide_eq_true h
  · rw [if_pos e]
    have n : ¬ a.2 = b.2 := fun e => sLt_irrefl _ (by rw [e] at h; exact h)
    rw [if_neg n]
    exact decide_eq_true h
theorem GrS.extD {H H' : Hp} {g n e : Addr} {ns : List Str} {es : List (Addr × Str × Str)} (h : GrS H g n e ns es) (x : ExtN H H') : GrS H' g n e ns es := ⟨⟨ExtN.tu x h.gr.top, ExtN.tu x h.gr.nodes, ExtN.tu x h.gr.edges, fun y hy => ExtN.tu x (h.gr.pairs y hy)⟩, h.ok, h.l2, h.l3⟩
def spPg (T : List (Addr × Str)) : Sp := fun vs H Q _ => ∃ (ns : List Str) (es : List (Str × Str)), vs = [.str (grT ns es)] ∧ GrOk ns es ∧ ns.length ≤ 40 ∧ es.length ≤ 120 ∧ Tabs T H ∧ ∀ (g n e : Addr) (es' : List (Addr × Str × Str)) (H' : Hp), ExtN H H' → Tabs T H' → GrS H' g n e ns es' → es'.map (·.2) = es → Q (.ref g) H'
section
variable {P : Program} {w : World} {K : PySem.W.Frag} {mg : Str → Option Value} {base : Heap}
structure EDa (P : Program) (w : World) (K : PySem.W.Frag) (mg : Str → Option Value) (base : Heap) (T : List (Addr × Str)) (CE : Addr) : Prop where
  parse_node_word : Cal P w K mg base CX0 2 "parse_node_word" spPnw
  parse_edge_word : Cal P w K mg base CX0 2 "parse_edge_word" spPew
  parse_words_d : CalD P w K mg base CX0 4 "parse_words" [.int 0] (spPw P w K mg base)
  parse_words : Cal P w K mg base CX0 4 "parse_words" (spPw P w K mg base)
  check_graph : Cal P w K mg base (L2.CX P w) 5 "check_graph" (spCkGr T CE)
  gG : mg "InvalidGraph" = some (.ref CE)
theorem ok_pgr {f : Addr} {fd : FuncData} {T : List (Addr × Str)} {CE fn fe : Addr} (F : Fun K "parse_graph" "parse_graph" s_parse_graph f fd) (B : Bt mg) (C : EDa P w K mg base T CE) (mN : mg "parse_node_word" = some (.ref fn)) (mE : mg "parse_edge_word" = some (.ref fe)) : FnG P w K mg base CX0 6 f fd ["text"] (spPg T) := by
  refine fnG0 F sc_parse_graph (fun vs H Q E h => ?_) (fun cdv A outer s H vs Q E hr h => ?_)
  · obtain ⟨ns, es, rfl, _⟩ := h
    rfl
  · obtain ⟨ns, es, rfl, ok, nl, el, tabs, q⟩ := h
    have nd := sc_parse_graph.nd
    have hu := hr.u1
    refine ⟨_, (pss_cons (ps_if (pt_not (pt_val (pe_callB (kIsi K rfl) (by rfl) B.isinstance bb_isinstance (pa_cons (pv 0) (pa_cons (pe_ty rfl B.str bb_str) pa_nil))))) (pss_one ps_dead) pss_nil)
  (pss_cons (ps_asg (pe_partition (pv 0) pe_str) (kg_tup (n := 3) K rfl rfl (pgs_cons (pg_name (i := 1) nd rfl (by first | exact Or.inl rfl | exact Or.inr rfl)) (pgs_cons (pg_name (i := 2) nd rfl (by first | exact Or.inl rfl | exact Or.inr rfl)) (pgs_cons (pg_name (i := 3) nd rfl (by first | exact Or.inl rfl | exact Or.inr rfl)) pgs_nil)))))
  (pss_cons (ps_set (i := 4) nd rfl (by first | exact Or.inl rfl | exact Or.inr rfl) (pe_cD C.parse_words_d hr (by decide) rfl pass0 (pa_cons (pv 1) (pa_cons (pe_gl (v := .ref fn) rfl ⟨_, mN, rfl⟩) pa_nil))))
  (pss_cons (ps_if (pt_cmpR (kEq K rfl hr.u64) (pv 2) pe_str (nomark _)) (pss_one ps_dead) pss_nil)
  (pss_cons (ps_set (i := 5) nd rfl (by first | exact Or.inl rfl | exact Or.inr rfl) (pe_tup (pa_cons (pe_callTy (kTuple K rfl) (by rfl) B.tuple bb_tuple (pa_cons (pv 4) pa_nil)) (pa_cons (pe_callTy (kTuple K rfl) (by rfl) B.tuple bb_tuple (pa_cons (pe_c C.parse_words hr (by decide) rfl (pa_cons (pv 3) (pa_cons (pe_gl (v := .ref fe) rfl ⟨_, mE, rfl⟩) (pa_cons (pe_callB (kLen K rfl) (by rfl) B.len bb_len (pa_cons (pe_split (pv 1) pe_str) pa_nil)) pa_nil)))) pa_nil)) pa_nil))))
  (pss_cons (ps_try_keep (i := 6) (Wout := fun _ _ _ _ => False) rfl rfl nd rfl rfl ⟨rfl, by decide, Or.inl C.gG⟩ L2.takes0 (fun W pn xe tk _ => pss_one (ps_expr (pe_cX C.check_graph hr (by decide) rfl tk (pa_cons (pv 5) pa_nil)))) (fun a pn => pss_one ps_dead))
  (pss_one (ps_ret (pv 5))))))))), ?_⟩
    have w1 : WdsOk ns := ⟨by omega, fun w hw => wd_name (ok.names.ok w hw)⟩
    have w2 : WdsOk (es.map wdE) := ⟨by rw [List.length_map]; omega, fun w hw => by
      obtain ⟨x, hx, rfl⟩ := List.mem_map.mp hw
      have := ok.mem x hx
      exact wd_edge (ok.names.ok _ this.1) (ok.names.ok _ this.2)⟩
    have b1 := jw_len w1
    have b2 := jw_len w2
    have ef : ("\n" : Str).length = 1 := by decide +kernel
    have big : 400000 ≤ sizeLine := by decide
    wtm_at "rd"
    refine rd_isi ty_str rfl ?_
    rw [show isT Ty.str Ty.str = true from rfl]
    wtm_at "rd"
    refine rd_m1E ?_
    wtm_at "rd"
    refine ⟨⟨_, rfl⟩, ?_⟩
    wtm_at "rd"
    refine ⟨_, _, rfl, rfl, by decide +kernel, by show (jw ns ++ "\n" ++ jw (es.map wdE)).length ≤ sizeLine; rw [len_app, len_app]; omega, fun p fp => ?_⟩
    have pt : Txt.partition (grT ns es) "\n" = (jw ns, ("\n" : Str), jw (es.map wdE)) := feed_part (jw_feed w1.2)
    rw [pt]
    have k1 := Same.new (o := .tup [.str (jw ns), .str ("\n" : Str), .str (jw (es.map wdE))]) fp
    have hp := @upd_same H p (.tup [.str (jw ns), .str ("\n" : Str), .str (jw (es.map wdE))])
    dsimp only
    generalize upd H p (.tup [.str (jw ns), .str ("\n" : Str), .str (jw (es.map wdE))]) = H1 at *
    refine rd_unp (SqT.of hp) rfl ?_
    wtm_at "rd"
    refine ⟨fn, 0, ns, spPnw, fun i _ v => ∃ h : i < ns.length, v = .str ns[i], rfl, w1, fun l h H => C.parse_node_word.handed mN l h H, fun _ _ _ _ h _ => h, fun i hi H1 Q1 s1 k => ?_, fun l us H2 s2 fl hl ul hus => ?_⟩
    · exact ⟨ns[i], rfl, ok.names.ok _ (List.getElem_mem hi), fun H' s => k _ H' s (fun z => by cases z) ⟨hi, rfl⟩⟩
    rw [list_str ul fun i hi => (hus i hi).2] at hl
    have s12 := k1.trans s2
    wtm_at "rd"
    rw [show decide (("\n" : Str) = "") = false from by decide +kernel]
    wtm_at "rd"
    refine rd_tupleL (SqL.of hl) ?_
    intro n fn
    have kn := Same.new (o := .tup (ns.map V.str)) fn
    have hn := @upd_same H2 n (.tup (ns.map V.str))
    have s12 := s12.trans kn
    generalize upd H2 n (.tup (ns.map V.str)) = H3 at hn s12
    clear kn fn
    wtm_at "rd"
    refine rd_m1E ?_
    wtm_at "rd"
    refine ⟨⟨_, rfl⟩, ?_⟩
    wtm_at "rd"
    refine ⟨_, _, rfl, rfl, by decide +kernel, by omega, ?_⟩
    generalize Txt.split (jw ns) " " = sp0
    intro sl fsl
    have ks := Same.new (o := .lst (sp0.map V.str)) fsl
    have hsl := @upd_same H3 sl (.lst (sp0.map V.str))
    have hn := ks _ _ hn
    have s12 := s12.trans ks
    generalize upd H3 sl (.lst (sp0.map V.str)) = H4 at *
    wtm_at "rd"
    refine rd_lenL (SqL.of hsl) ?_
    wtm_at "rd"
    refine ⟨fe, _, es.map wdE, spPew, fun i H v => ∃ (h : i < es.length) (a : Addr), v = .ref a ∧ H a = some (.tup [.str es[i].1, .str es[i].2]), rfl, w2, fun l h H => C.parse_edge_word.handed mE l h H, fun _ _ _ _ ⟨h, a, e, ha⟩ k => ⟨h, a, e, k _ _ ha⟩, fun i hi H1 Q1 s1 k => ?_, fun l2 us2 H5 s5 fl2 hl2 ul2 hus2 => ?_⟩
    · have hi2 : i < es.length := by rw [List.length_map] at hi; exact hi
      have o := ok.mem _ (List.getElem_mem hi2)
      exact ⟨es[i], by rw [List.getElem_map], ok.names.ok _ o.1, ok.names.ok _ o.2, fun t H' s ht => k _ H' s (fun z => by cases z) ⟨hi2, t, rfl, ht⟩⟩
    rw [List.length_map] at ul2
    obtain ⟨ts, rfl, e2, tw⟩ := list_te (H := H5) ul2 fun i h1 h2 => (hus2 i h1).2
    have hn := s5 _ _ hn
    have s12 := s12.trans s5
    clear hus2 s5 fl2 hsl ks fsl hus
    wtm_at "rd"
    refine rd_tupleL (SqL.of hl2) ?_
    intro e fe0
    have ke := Same.new (o := .tup (ts.map fun t => V.ref t.1)) fe0
    have he := @upd_same H5 e (.tup (ts.map fun t => V.ref t.1))
    have tw : ∀ t ∈ ts, (upd H5 e (.tup (ts.map fun t => V.ref t.1))) t.1 = some (.tup [.str t.2.1, .str t.2.2]) := fun t ht => ke _ _ (tw t ht)
    have hn := ke _ _ hn
    have s12 := s12.trans ke
    generalize upd H5 e (.tup (ts.map fun t => V.ref t.1)) = H6 at *
    wtm_at "rd"
    intro g fg
    have kg := Same.new (o := .tup [.ref n, .ref e]) fg
    have hg := @upd_same H6 g (.tup [.ref n, .ref e])
    have tw : ∀ t ∈ ts, (upd H6 g (.tup [.ref n, .ref e])) t.1 = some (.tup [.str t.2.1, .str t.2.2]) := fun t ht => kg _ _ (tw t ht)
    have hn := kg _ _ hn
    have he := kg _ _ he
    have s12 := s12.trans kg
    generalize upd H6 g (.tup [.ref n, .ref e]) = H7 at *
    have gr : GrAt H7 g n e ns ts := ⟨hg, hn, he, tw⟩
    have tl : ts.length = es.length := by rw [← e2, List.length_map]
    have gs : GrS H7 g n e ns ts := ⟨gr, by rw [e2]; exact ok, by omega, by omega⟩
    have rg : RG H7 (.ref g) none := by
      refine rg_good gr nl (by omega) ok.names.ok ok.names.asc (fun x hx => ⟨(gs.inE x hx).1, (gs.inE x hx).2, gs.ok.lt _ (List.mem_map_of_mem hx)⟩) ?_
      have := gs.ok.asc
      rw [show AscE (ts.map (·.2)) = (ts.map (·.2)).Pairwise eLt from rfl, List.pairwise_map] at this
      exact this.imp fun h => eLt_dataD h
    wtm_at "rd"
    refine ⟨.ref g, none, rfl, tabs.ext fun b o h => s12 _ _ h, rg, fun _ H8 x8 tb8 => ?_, fun _ _ z => by cases z⟩
    wtm_at "rd"
    exact q g n e ts H8 ((ExtN.of fun b o h => s12 b o h).trans x8) tb8 (gs.extD x8) e2
end
end Law

/-! dicts of numbers by names compared, equal or not -/
namespace U
open PySem PySem.Spec PyProof.Rows L2
def rNeKI : R2 := fun x y H Q => ∃ (a b : Addr) (ks ls : List Str) (f g : Str → Int), x = .ref a ∧ y = .ref b ∧ H a = some (.dK (kvF ks f)) ∧ H b = some (.dK (kvF ls g)) ∧ ks.length = ls.length ∧ (∀ x ∈ ks, x ∈ ls) ∧ Q (.bl (!ks.all fun x => decide (f x = g x))) H
theorem hits_int {A : Around} {s : Shared} {ls : List Str} {g f : Str → Int} {vb : List (Key × Value)} (rb : KV (kvF ls g) vb) : ∀ {ks : List Str} {va : List (Key × Value)}, KV (kvF ks f) va → (∀ x ∈ ks, x ∈ ls) → PySem.W.KeqHits A s vb va (ks.all fun x => decide (f x = g x))
  | [], _, ra, _ => by
    cases ra
    exact .nil
  | k :: ks, va, ra, hp => by
    unfold KV kvF at ra
    rw [List.map_cons] at ra
    cases ra with
    | @cons p q ps qs h t =>
      obtain ⟨h1, h2⟩ := h
      have e : valV (kvF ls g) (.inr k) = some (.int (g k)) := kvF_val (hp k List.mem_cons_self)
      have rr : RelO (some (.int (g k))) (valueAt vb (.inr k)) := by rw [← e]; exact rb.val _
      obtain ⟨y, hy, ry⟩ := rr.some_of
      obtain ⟨k', v⟩ := q
      have h1' : (Sum.inr k : Key) = k' := h1
      subst h1'
      obtain ⟨t1, ev⟩ : ∃ t1, v = Value.int (f k) t1 := h2
      obtain ⟨t2, ey⟩ : ∃ t2, y = Value.int (g k) t2 := ry
      subst ev ey
      rw [List.all_cons]
      have e2 : decide (f k = g k) = PyData.eqv (.int (f k)) (.int (g k)) := by
        rw [Bool.eq_iff_iff, decide_eq_true_iff]
        simp [PyData.eqv]
      rw [e2]
      exact .hit hy (PySem.W.keq_flat (.int _ _) (.int _ _)) (hits_int rb t fun x hx => hp x (List.mem_cons_of_mem _ hx))
theorem op_ne_KI {X : Cx} (hu : X.A.units < cLine) : OpR X (compareOp .NotEq) rNeKI := by
  intro pins s σ H x y v u Q I rx ry h
  obtain ⟨a, b, ks, ls, f, g, rfl, rfl, ea, eb, hlen, hp, q⟩ := h
  obtain rfl : v = Value.ref a := rx
  obtain rfl : u = Value.ref b := ry
  obtain ⟨_, ya, va, ra, da⟩ := (show ObjOk X.prog X.w H s.heap a (.dK (kvF ks f)) from I.hok a _ ea)
  obtain ⟨_, yb, vb, rb, db⟩ := (show ObjOk X.prog X.w H s.heap b (.dK (kvF ls g)) from I.hok b _ eb)
  have hl : va.length = vb.length := by
    rw [← ra.length, ← rb.length, List.length_map, List.length_map]
    exact hlen
  exact PySem.W.keq_ne (knd := mixKind X.prog X.w) ya yb da db hu (fun _ => hits_int rb ra hp) (fin_bl I q (by simp [hl]))
end U

/-! tuples, lists and dicts within each other: equal, so not unequal -/
namespace U
open PySem PySem.Spec PyProof.Rows L2 SeqAt
open MeetsSeq MeetsSeq2 MeetsSeq3
section
variable {P : Program} {w : World}
theorem teq_run (t1 t2 : Addr) (xs ys : Array Value) (m1 m2 : Nat) (e1 e2 : Option Addr) (c1 c2 : Array (Option Value)) (sz : xs.size = ys.size) :
    MeetsIn P w (Builtin.«tuple.__eq__» ⟨[.ref t1, .ref t2], []⟩) (fun A R s => s.heap.get? t1 = some ⟨.type "tuple", e1, .seq xs m1, c1⟩ ∧ s.heap.get? t2 = some ⟨.type "tuple", e2, .seq ys m2, c2⟩ ∧
      (∀ j (ha : j < xs.size) (hb : j < ys.size), EqP P w A.in1 s xs[j] ys[j] true) ∧ R (.ok (.ret (.bool true))) s) := by
  rintro A R ⟨hp, g, d, tk, os⟩ ⟨hl, hb, he, hR⟩
  have st := AutoSeq1.sub_tuple_tuple
  wp_walk using AutoSeq1.wpAny_loadPart' hl, AutoSeq1.wpAny_loadPart' hb, wpAny_forIn_list _ (fun rest b s' => b.1 = none ∧ s' = ⟨hp, g, d, tk, os⟩ ∧ ∃ i, rest = (xs.toList.zip ys.toList).drop i) _
  case turn =>
    rintro ⟨y, x⟩ rest b s' ⟨hn, rfl, i, hz⟩
    have hm : i < xs.size := Nat.lt_of_not_le fun q => by
      rw [List.drop_of_length_le (by simp; omega)] at hz
      cases hz
    rw [List.drop_eq_getElem_cons (by simp; omega)] at hz
    injection hz with h1 h2
    have hx : y = xs[i] ∧ x = ys[i] := by simpa using h1
    rw [hx.1, hx.2]
    refine wpAny_bind (he i hm (by omega) _ _ ?_)
    wp_walk
    exact ⟨rfl, rfl, i + 1, h2⟩
  case fin =>
    rintro ⟨b1, b2⟩ s' ⟨hn, rfl, i, hz⟩
    cases (show b1 = none from hn)
    wp_walk
    show R (.ok (.ret (Builtin.Tuple.tupleCompareSizes .Eq xs.size ys.size))) _
    rw [sz, show Builtin.Tuple.tupleCompareSizes .Eq ys.size ys.size = .bool true from by simp [Builtin.Tuple.tupleCompareSizes, bne]]
    exact hR
  case h =>
    exact ⟨rfl, rfl, 0, rfl⟩
theorem tne_run (t1 t2 : Addr) (xs ys : Array Value) (m1 m2 : Nat) (e1 e2 : Option Addr) (c1 c2 : Array (Option Value)) (sz : xs.size = ys.size) :
    MeetsIn P w (Builtin.«tuple.__ne__» ⟨[.ref t1, .ref t2], []⟩) (fun A R s => s.heap.get? t1 = some ⟨.type "tuple", e1, .seq xs m1, c1⟩ ∧ s.heap.get? t2 = some ⟨.type "tuple", e2, .seq ys m2, c2⟩ ∧
      (∀ j (ha : j < xs.size) (hb : j < ys.size), EqP P w A.in1 s xs[j] ys[j] true) ∧ R (.ok (.ret (.bool false))) s) := by
  rintro A R ⟨hp, g, d, tk, os⟩ ⟨hl, hb, he, hR⟩
  have st := AutoSeq1.sub_tuple_tuple
  wp_walk using AutoSeq1.wpAny_loadPart' hl, AutoSeq1.wpAny_loadPart' hb, wpAny_forIn_list _ (fun rest b s' => b.1 = none ∧ s' = ⟨hp, g, d, tk, os⟩ ∧ ∃ i, rest = (xs.toList.zip ys.toList).drop i) _
  case turn =>
    rintro ⟨y, x⟩ rest b s' ⟨hn, rfl, i, hz⟩
    have hm : i < xs.size := Nat.lt_of_not_le fun q => by
      rw [List.drop_of_length_le (by simp; omega)] at hz
      cases hz
    rw [List.drop_eq_getElem_cons (by simp; omega)] at hz
    injection hz with h1 h2
    have hx : y = xs[i] ∧ x = ys[i] := by simpa using h1
    rw [hx.1, hx.2]
    refine wpAny_bind (he i hm (by omega) _ _ ?_)
    wp_walk
    exact ⟨rfl, rfl, i + 1, h2⟩
  case fin =>
    rintro ⟨b1, b2⟩ s' ⟨hn, rfl, i, hz⟩
    cases (show b1 = none from hn)
    wp_walk
    show R (.ok (.ret (Builtin.Tuple.tupleCompareSizes .NotEq xs.size ys.size))) _
    rw [sz, show Builtin.Tuple.tupleCompareSizes .NotEq ys.size ys.size = .bool false from by simp [Builtin.Tuple.tupleCompareSizes, bne]]
    exact hR
  case h =>
    exact ⟨rfl, rfl, 0, rfl⟩
theorem lne_loop (t1 t2 : Addr) (xs ys : Array Value) (m1 m2 : Nat) (e1 e2 : Option Addr) (c1 c2 : Array (Option Value)) (sz : xs.size = ys.size) (k : Nat) : ∀ i : Nat, xs.size - i = k →
    MeetsIn P w (Builtin.«list.__eq__.loop» ⟨[.ref t1, .ref t2, rawInt i, rawInt 3], []⟩) (fun A R s => s.heap.get? t1 = some ⟨.type "list", e1, .seq xs m1, c1⟩ ∧ s.heap.get? t2 = some ⟨.type "list", e2, .seq ys m2, c2⟩ ∧
      (∀ j (ha : j < xs.size) (hb : j < ys.size), EqP P w A.in1 s xs[j] ys[j] true) ∧ R (.ok (.ret (.bool false))) s) := by
  induction k with
  | zero =>
    rintro i hk A R ⟨hp, g, d, tk, os⟩ ⟨hl, hb, he, hR⟩
    wp_walk using AutoSeq1.wpAny_loadPart' hl, AutoSeq1.wpAny_loadPart' hb
    rw [show xs[((i : Nat) : Int).toNat]? = none by simp; omega, show ys[((i : Nat) : Int).toNat]? = none by simp; omega]
    wp_walk using AutoSeq1.wpAny_loadPart' hl, AutoSeq1.wpAny_loadPart' hb
    show R (.ok (.ret (.bool (xs.size != ys.size)))) _
    rw [sz, show (ys.size != ys.size) = false by simp]
    exact hR
  | succ k ih =>
    rintro i hk A R ⟨hp, g, d, tk, os⟩ ⟨hl, hb, he, hR⟩
    wp_walk using AutoSeq1.wpAny_loadPart' hl, AutoSeq1.wpAny_loadPart' hb
    have h1 : i < xs.size := by omega
    have h2 : i < ys.size := by omega
    rw [show xs[((i : Nat) : Int).toNat]? = some xs[i] by simp [h1], show ys[((i : Nat) : Int).toNat]? = some ys[i] by simp [h2]]
    refine wpAny_bind (he i h1 h2 _ _ ?_)
    wp_walk
    rw [show ((i : Int) + 1) = ((i + 1 : Nat) : Int) by omega]
    refine ⟨plainId_quiet plain_eq_loop _, codeAny_builtin entry_eq_loop ?_⟩
    rw [Around.under_plainId plain_eq_loop _]
    exact ih (i + 1) (by omega) A R _ ⟨hl, hb, he, hR⟩
theorem lne_run (t1 t2 : Addr) (xs ys : Array Value) (m1 m2 : Nat) (e1 e2 : Option Addr) (c1 c2 : Array (Option Value)) (sz : xs.size = ys.size) :
    MeetsIn P w (Builtin.«list.__ne__» ⟨[.ref t1, .ref t2], []⟩) (fun A R s => s.heap.get? t1 = some ⟨.type "list", e1, .seq xs m1, c1⟩ ∧ s.heap.get? t2 = some ⟨.type "list", e2, .seq ys m2, c2⟩ ∧
      (∀ j (ha : j < xs.size) (hb : j < ys.size), EqP P w A.in1 s xs[j] ys[j] true) ∧ R (.ok (.ret (.bool false))) s) := by
  rintro A R ⟨hp, g, d, tk, os⟩ ⟨hl, hb, he, hR⟩
  have st := AutoSeq1.sub_list_list
  have hne : ¬ (xs.size != ys.size) = true := by simp [sz]
  wp_walk using AutoSeq1.wpAny_loadPart' hl, AutoSeq1.wpAny_loadPart' hb
  refine ⟨plainId_quiet plain_eq_loop _, codeAny_builtin entry_eq_loop ?_⟩
  rw [Around.under_plainId plain_eq_loop _]
  exact lne_loop t1 t2 xs ys m1 m2 e1 e2 c1 c2 sz _ 0 rfl A R _ ⟨hl, hb, he, hR⟩
section
variable {A : Around} {s : Shared} {t1 t2 : Addr} {xs ys : Array Value} {E Q : Value → Shared → Prop}
theorem rcP_teq (hl : s.heap.IsTuple t1 xs) (hb : s.heap.IsTuple t2 ys) (sz : xs.size = ys.size) (hu : A.units < cLine) (he : ∀ j (ha : j < xs.size) (hb : j < ys.size), EqP P w A.in1 s xs[j] ys[j] true) (h : Q (.bool true) s) :
    wpAny (model P w) A (richCompare .Eq (.ref t1) (.ref t2)) Q E s := by
  obtain ⟨⟨_, e1, _, c1⟩, g1, rfl, m1, rfl⟩ := id hl
  obtain ⟨⟨_, e2, _, c2⟩, g2, rfl, m2, rfl⟩ := id hb
  have a1 : s.TypeIs (.ref t1) "tuple" := ⟨_, g1, rfl⟩
  have a2 : s.TypeIs (.ref t2) "tuple" := ⟨_, g2, rfl⟩
  exact wpAny_richCompare_same_room (op := .Eq) a1 a2 F.slot_tuple_eq (call_meetsIn F.slot_tuple_eq a1 F.entry_tuple_eq (F.args_tuple_eq_2 _ _) (teq_run t1 t2 xs ys m1 m2 e1 e2 c1 c2 sz) ⟨g1, g2, he, ⟨(fun z => nomatch z), h⟩⟩) hu
theorem rcP_tne (hl : s.heap.IsTuple t1 xs) (hb : s.heap.IsTuple t2 ys) (sz : xs.size = ys.size) (hu : A.units < cLine) (he : ∀ j (ha : j < xs.size) (hb : j < ys.size), EqP P w A.in1 s xs[j] ys[j] true) (h : Q (.bool false) s) :
    wpAny (model P w) A (richCompare .NotEq (.ref t1) (.ref t2)) Q E s := by
  obtain ⟨⟨_, e1, _, c1⟩, g1, rfl, m1, rfl⟩ := id hl
  obtain ⟨⟨_, e2, _, c2⟩, g2, rfl, m2, rfl⟩ := id hb
  have a1 : s.TypeIs (.ref t1) "tuple" := ⟨_, g1, rfl⟩
  have a2 : s.TypeIs (.ref t2) "tuple" := ⟨_, g2, rfl⟩
  exact wpAny_richCompare_same_room (op := .NotEq) a1 a2 F.slot_tuple_ne (call_meetsIn F.slot_tuple_ne a1 F.entry_tuple_ne (F.args_tuple_ne_2 _ _) (tne_run t1 t2 xs ys m1 m2 e1 e2 c1 c2 sz) ⟨g1, g2, he, ⟨(fun z => nomatch z), h⟩⟩) hu
theorem rcP_lne (hl : s.heap.IsList t1 xs) (hb : s.heap.IsList t2 ys) (sz : xs.size = ys.size) (hu : A.units < cLine) (he : ∀ j (ha : j < xs.size) (hb : j < ys.size), EqP P w A.in1 s xs[j] ys[j] true) (h : Q (.bool false) s) :
    wpAny (model P w) A (richCompare .NotEq (.ref t1) (.ref t2)) Q E s := by
  obtain ⟨⟨_, e1, _, c1⟩, g1, rfl, m1, rfl⟩ := id hl
  obtain ⟨⟨_, e2, _, c2⟩, g2, rfl, m2, rfl⟩ := id hb
  have a1 : s.TypeIs (.ref t1) "list" := ⟨_, g1, rfl⟩
  have a2 : s.TypeIs (.ref t2) "list" := ⟨_, g2, rfl⟩
  exact wpAny_richCompare_same_room (op := .NotEq) a1 a2 F.slot_list_ne (call_meetsIn F.slot_list_ne a1 F.entry_list_ne (F.args_list_ne_2 _ _) (lne_run t1 t2 xs ys m1 m2 e1 e2 c1 c2 sz) ⟨g1, g2, he, ⟨(fun z => nomatch z), h⟩⟩) hu
end
end
/-- equal in each other's items: two tuples, two lists, two dicts -/
def EqT1 (K : PySem.W.Frag) (H : Hp) (E : V → V → Prop) (x y : V) : Prop := (∃ a b xs ys, x = .ref a ∧ y = .ref b ∧ SqT K H a xs ∧ SqT K H b ys ∧ Paired E xs ys) ∨ EqR K H E x y
/-- equal, of nesting below n -/
def EqT (K : PySem.W.Frag) (H : Hp) : Nat → V → V → Prop
  | 0 => fun _ _ => False
  | n + 1 => fun x y => (x = y ∧ flatB x = true) ∨ (∃ a, x = .ref a ∧ y = .ref a) ∨ EqT1 K H (EqT K H n) x y
section
variable {X : Cx} {pins : List (Addr × Obj)} {σ : L2.St} {H : Hp} {s : Shared}
theorem eqT1_run (I : Inv X pins σ H s) {A : Around} {F : V → V → Prop} (hu : A.units < cLine) (ih : ∀ x y v u, F x y → RelV x v → RelV y u → EqP X.prog X.w A.in1 s v u true) {x y : V} {v u : Value} (h : EqT1 X.K H F x y) (rx : RelV x v) (ry : RelV y u)
    (E Q : Value → Shared → Prop) (q : Q (.bool true) s) : wpAny (model X.prog X.w) A (richCompare .Eq v u) Q E s := by
  rcases h with ⟨a, b, xs, ys, rfl, rfl, ha, hb, hp⟩ | h
  · cases (show v = Value.ref a from rx)
    cases (show u = Value.ref b from ry)
    obtain ⟨us, r1, p1, _⟩ := I.tuple ha
    obtain ⟨ws, r2, p2, _⟩ := I.tuple hb
    have hsz : us.toArray.size = ws.toArray.size := by
      rw [List.size_toArray, List.size_toArray, ← r1.length, ← r2.length]
      exact Paired.length hp
    exact rcP_teq p1 p2 hsz hu (fun j h1 h2 => by simpa using items_run ih hp r1 r2 j (by simpa using h1) (by simpa using h2)) q
  · exact eqR_run I hu ih h rx ry E Q q
theorem eqT1_refs {K : PySem.W.Frag} {F : V → V → Prop} {x y : V} (h : EqT1 K H F x y) : ∃ a b, x = .ref a ∧ y = .ref b := by
  rcases h with ⟨a, b, _, _, e1, e2, _⟩ | ⟨a, b, _, _, e1, e2, _⟩ | ⟨a, b, _, _, e1, e2, _⟩ <;> exact ⟨a, b, e1, e2⟩
theorem eqT_run (I : Inv X pins σ H s) : ∀ (n : Nat) (A : Around), A.units + n < cLine → ∀ (x y : V) (v u : Value), EqT X.K H n x y → RelV x v → RelV y u → EqP X.prog X.w A s v u true
  | 0, _, _, _, _, _, _, h, _, _ => (show False from h).elim
  | n + 1, A, hu, x, y, v, u, h, rx, ry => by
    rcases h with ⟨rfl, f⟩ | ⟨a, rfl, rfl⟩ | h
    · exact (eqAt_same rx ry f).eqP
    · cases (show v = Value.ref a from rx)
      cases (show u = Value.ref a from ry)
      exact (EqAt.same _).eqP
    · have step := eqT1_run I (A := A) (by omega) (eqT_run I n A.in1 (by show A.units + 1 + n < cLine; omega)) h rx ry
      obtain ⟨a, b, rfl, rfl⟩ := eqT1_refs h
      cases (show v = Value.ref a from rx)
      cases (show u = Value.ref b from ry)
      by_cases e : a = b
      · subst e
        exact (EqAt.same _).eqP
      · exact eqP_refs e step
end
/-- a == b of nested things that are equal -/
def rEqN (K : PySem.W.Frag) : R2 := fun x y H Q => ∃ n, n ≤ 60 ∧ EqT1 K H (EqT K H n) x y ∧ Q (.bl true) H
theorem kEqN {X : Cx} (K : PySem.W.Frag) (hK : X.K = K) (hu : X.A.units + 64 < cLine) : OpR X (compareOp .Eq) (rEqN K) := by
  subst hK
  intro pins s σ H x y v u Q I rx ry h
  obtain ⟨n, hn, h, q⟩ := h
  exact eqT1_run I (A := X.A) (by omega) (eqT_run I n X.A.in1 (by show X.A.units + 1 + n < cLine; omega)) h rx ry _ _ ⟨.bl true, H, I, rfl, q⟩
/-- a != b of two tuples or two lists that are equal -/
def rNeN (K : PySem.W.Frag) : R2 := fun x y H Q => ∃ n a b xs ys, n ≤ 60 ∧ x = .ref a ∧ y = .ref b ∧ ((SqT K H a xs ∧ SqT K H b ys) ∨ (SqL K H a xs ∧ SqL K H b ys)) ∧ Paired (EqT K H n) xs ys ∧ Q (.bl false) H
theorem kNeN {X : Cx} (K : PySem.W.Frag) (hK : X.K = K) (hu : X.A.units + 64 < cLine) : OpR X (compareOp .NotEq) (rNeN K) := by
  subst hK
  intro pins s σ H x y v u Q I rx ry h
  obtain ⟨n, a, b, xs, ys, hn, rfl, rfl, hs, hp, q⟩ := h
  cases (show v = Value.ref a from rx)
  cases (show u = Value.ref b from ry)
  have ih := eqT_run I n X.A.in1 (by show X.A.units + 1 + n < cLine; omega)
  rcases hs with ⟨ha, hb⟩ | ⟨ha, hb⟩
  · obtain ⟨us, r1, p1, _⟩ := I.tuple ha
    obtain ⟨ws, r2, p2, _⟩ := I.tuple hb
    have hsz : us.toArray.size = ws.toArray.size := by
      rw [List.size_toArray, List.size_toArray, ← r1.length, ← r2.length]
      exact Paired.length hp
    exact rcP_tne p1 p2 hsz (by omega) (fun j h1 h2 => by simpa using items_run ih hp r1 r2 j (by simpa using h1) (by simpa using h2)) ⟨.bl false, H, I, rfl, q⟩
  · obtain ⟨us, r1, p1, _⟩ := I.list ha
    obtain ⟨ws, r2, p2, _⟩ := I.list hb
    have hsz : us.toArray.size = ws.toArray.size := by
      rw [List.size_toArray, List.size_toArray, ← r1.length, ← r2.length]
      exact Paired.length hp
    exact rcP_lne p1.isList p2.isList hsz (by omega) (fun j h1 h2 => by simpa using items_run ih hp r1 r2 j (by simpa using h1) (by simpa using h2)) ⟨.bl false, H, I, rfl, q⟩
section
variable {K : PySem.W.Frag} {H : Hp} {Q : VK} {p q : Addr} {xs ys : List V}
theorem EqT.flat {n : Nat} {x : V} (h : flatB x = true) : EqT K H (n + 1) x x := .inl ⟨rfl, h⟩
theorem EqT.self {n : Nat} {a : Addr} : EqT K H (n + 1) (.ref a) (.ref a) := .inr (.inl ⟨a, rfl, rfl⟩)
theorem EqT.tup {n : Nat} {a b : Addr} {xs ys : List V} (ha : SqT K H a xs) (hb : SqT K H b ys) (h : Paired (EqT K H n) xs ys) : EqT K H (n + 1) (.ref a) (.ref b) := .inr (.inr (.inl ⟨a, b, xs, ys, rfl, rfl, ha, hb, h⟩))
theorem EqT.lst {n : Nat} {a b : Addr} {xs ys : List V} (ha : SqL K H a xs) (hb : SqL K H b ys) (h : Paired (EqT K H n) xs ys) : EqT K H (n + 1) (.ref a) (.ref b) := .inr (.inr (.inr (.inl ⟨a, b, xs, ys, rfl, rfl, ha, hb, h⟩)))
end
end U

/-! dicts of numbers compared, either answer; data of the same shape is equal -/
namespace U
open PySem PySem.Spec PyProof.Rows L2
theorem hits_kf {A : Around} {s : Shared} {ls : List Str} {g : Str → Int} {vb : List (Key × Value)} (rb : KV (kvF ls g) vb) {f : Str → Int} : ∀ {ks : List Str} {va : List (Key × Value)}, KV (kvF ks f) va → (∀ n ∈ ks, n ∈ ls) → PySem.W.KeqHits A s vb va (ks.all fun n => f n == g n)
  | [], va, ra, _ => by
    cases ra
    exact .nil
  | n :: ks, va, ra, h => by
    cases ra with
    | @cons p q ps qs h0 t =>
      obtain ⟨h1, h2⟩ := h0
      have rr : RelO (some (V.int (g n))) (valueAt vb (Sum.inr n)) := by
        have := rb.val (Sum.inr n)
        rwa [kvF_val (h n List.mem_cons_self)] at this
      obtain ⟨y, hy, ry⟩ := rr.some_of
      obtain ⟨k, v⟩ := q
      have h1' : (Sum.inr n : Key) = k := h1
      rw [h1'] at hy
      obtain ⟨t1, rfl⟩ := (show ∃ t, v = Value.int (f n) t from h2)
      obtain ⟨t2, rfl⟩ := (show ∃ t, y = Value.int (g n) t from ry)
      show PySem.W.KeqHits A s vb ((k, .int (f n) t1) :: qs) ((f n == g n) && (ks.all fun n => f n == g n))
      exact .hit hy (SeqAt.EqAt.int_int (f n) t1 (g n) t2) (hits_kf rb t fun m hm => h m (List.mem_cons_of_mem _ hm))
def rEqKF : R2 := fun x y H Q => ∃ (a b : Addr) (ks ls : List Str) (f g : Str → Int), x = .ref a ∧ y = .ref b ∧ H a = some (.dK (kvF ks f)) ∧ H b = some (.dK (kvF ls g)) ∧ ks.length = ls.length ∧ (∀ n ∈ ks, n ∈ ls) ∧ Q (.bl (ks.all fun n => f n == g n)) H
theorem op_eqKF {X : Cx} (hu : X.A.units < cLine) : OpR X (compareOp .Eq) rEqKF := by
  intro pins s σ H x y v u Q I rx ry h
  obtain ⟨a, b, ks, ls, f, g, rfl, rfl, ea, eb, hlen, hp, q⟩ := h
  obtain rfl : v = Value.ref a := rx
  obtain rfl : u = Value.ref b := ry
  obtain ⟨_, ya, va, ra, da⟩ := (show ObjOk X.prog X.w H s.heap a (.dK _) from I.hok a _ ea)
  obtain ⟨_, yb, vb, rb, db⟩ := (show ObjOk X.prog X.w H s.heap b (.dK _) from I.hok b _ eb)
  have hl : va.length = vb.length := by rw [← ra.length, ← rb.length, List.length_map, List.length_map]; exact hlen
  exact PySem.W.keq_eq (knd := mixKind X.prog X.w) (r := ks.all fun n => f n == g n) ya yb da db hu (fun _ => hits_kf rb ra hp) (fin_bl I q (by simp [hl]))
theorem eqT_up1 {K : PySem.W.Frag} {H : Hp} : ∀ (n : Nat) (x y : V), EqT K H n x y → EqT K H (n + 1) x y
  | 0, _, _, h => h.elim
  | n + 1, x, y, h => by
    rcases h with h | h | h
    · exact .inl h
    · exact .inr (.inl h)
    · refine .inr (.inr ?_)
      have up := eqT_up1 (K := K) (H := H) n
      rcases h with ⟨a, b, xs, ys, e1, e2, h1, h2, pr⟩ | ⟨a, b, xs, ys, e1, e2, h1, h2, pr⟩ | ⟨a, b, ks, ls, e1, e2, h1, h2, l, pr⟩
      · exact .inl ⟨a, b, xs, ys, e1, e2, h1, h2, Paired.mono up pr⟩
      · exact .inr (.inl ⟨a, b, xs, ys, e1, e2, h1, h2, Paired.mono up pr⟩)
      · exact .inr (.inr ⟨a, b, ks, ls, e1, e2, h1, h2, l, fun p hp => (pr p hp).imp fun u ⟨z1, z2⟩ => ⟨z1, up _ _ z2⟩⟩)
theorem eqT_up {K : PySem.W.Frag} {H : Hp} {x y : V} {n : Nat} : ∀ {m : Nat}, n ≤ m → EqT K H n x y → EqT K H m x y
  | 0, h, k => by
    obtain rfl : n = 0 := by omega
    exact k
  | m + 1, h, k => by
    by_cases e : n = m + 1
    · rw [← e]
      exact k
    · exact eqT_up1 m x y (eqT_up (m := m) (by omega) k)
mutual
/-- the same data, standing twice: equal -/
theorem eqT_dp {K : PySem.W.Frag} {H : Hp} : ∀ (d : PyData) (v w : V), Dp K H v d → Dp K H w d → EqT K H (d.depth + 1) v w
  | .none, _, _, h, k => by cases h; cases k; exact EqT.flat rfl
  | .bool _, _, _, h, k => by cases h; cases k; exact EqT.flat rfl
  | .int _, _, _, h, k => by cases h; cases k; exact EqT.flat rfl
  | .str _, _, _, h, k => by cases h; cases k; exact EqT.flat rfl
  | .list ds, _, _, h, k => by
    cases h with
    | lst h1 h2 =>
      cases k with
      | lst k1 k2 =>
        have e : (PyData.list ds).depth = PyData.depthAll ds + 1 := by rw [PyData.depth]
        rw [e]
        exact EqT.lst h1 k1 (eqT_dpA ds _ _ _ (Nat.le_refl _) h2 k2)
  | .tuple ds, _, _, h, k => by
    cases h with
    | tup h1 h2 =>
      cases k with
      | tup k1 k2 =>
        have e : (PyData.tuple ds).depth = PyData.depthAll ds + 1 := by rw [PyData.depth]
        rw [e]
        exact EqT.tup h1 k1 (eqT_dpA ds _ _ _ (Nat.le_refl _) h2 k2)
  | .dict _, _, _, h, _ => by cases h
theorem eqT_dpA {K : PySem.W.Frag} {H : Hp} : ∀ (ds : List PyData) (vs ws : List V) (m : Nat), PyData.depthAll ds ≤ m → DpAll K H vs ds → DpAll K H ws ds → Paired (EqT K H (m + 1)) vs ws
  | [], _, _, _, _, h, k => by cases h; cases k; exact .nil
  | d :: ds, _, _, m, e, h, k => by
    rw [PyData.depthAll] at e
    cases h with
    | cons h1 h2 =>
      cases k with
      | cons k1 k2 => exact .cons (eqT_up (by omega) (eqT_dp d _ _ h1 k1)) (eqT_dpA ds _ _ m (by omega) h2 k2)
end
end U


/-! k92: small texts -/
namespace Law
open PySem PySem.Spec PyProof.Rows L2 U LamX NdefX


theorem rd_neNd {K : PySem.W.Frag} {H : Hp} {Q : VK} {p q : Addr} {d : PyData} (hp : Dp K H (.ref p) d) (hq : Dp K H (.ref q) d) (dep : d.depth ≤ 50) (h : Q (.bl false) H) : rNeN K (.ref p) (.ref q) H Q := by
  cases hp with
  | @lst _ xs ds h1 h2 =>
    cases hq with
    | lst k1 k2 =>
      have e : (PyData.list ds).depth = PyData.depthAll ds + 1 := by rw [PyData.depth]
      exact ⟨_, _, _, _, _, (by omega : PyData.depthAll ds + 1 ≤ 60), rfl, rfl, .inr ⟨h1, k1⟩, eqT_dpA ds _ _ _ (Nat.le_refl _) h2 k2, h⟩
  | @tup _ xs ds h1 h2 =>
    cases hq with
    | tup k1 k2 =>
      have e : (PyData.tuple ds).depth = PyData.depthAll ds + 1 := by rw [PyData.depth]
      exact ⟨_, _, _, _, _, (by omega : PyData.depthAll ds + 1 ≤ 60), rfl, rfl, .inl ⟨h1, k1⟩, eqT_dpA ds _ _ _ (Nat.le_refl _) h2 k2, h⟩
theorem rd_eqNd {K : PySem.W.Frag} {H : Hp} {Q : VK} {p q : Addr} {d : PyData} (hp : Dp K H (.ref p) d) (hq : Dp K H (.ref q) d) (dep : d.depth ≤ 50) (h : Q (.bl true) H) : rEqN K (.ref p) (.ref q) H Q := by
  cases hp with
  | @lst _ xs ds h1 h2 =>
    cases hq with
    | lst k1 k2 =>
      have e : (PyData.list ds).depth = PyData.depthAll ds + 1 := by rw [PyData.depth]
      exact ⟨_, (by omega : PyData.depthAll ds + 1 ≤ 60), .inr (.inl ⟨_, _, _, _, rfl, rfl, h1, k1, eqT_dpA ds _ _ _ (Nat.le_refl _) h2 k2⟩), h⟩
  | @tup _ xs ds h1 h2 =>
    cases hq with
    | tup k1 k2 =>
      have e : (PyData.tuple ds).depth = PyData.depthAll ds + 1 := by rw [PyData.depth]
      exact ⟨_, (by omega : PyData.depthAll ds + 1 ≤ 60), .inl ⟨_, _, _, _, rfl, rfl, h1, k1, eqT_dpA ds _ _ _ (Nat.le_refl _) h2 k2⟩, h⟩
/-- pairs' data -/
def prD (x : Str × Str) : PyData := .tuple [.str x.1, .str x.2]
def moD (x : Str × Int) : PyData := .tuple [.str x.1, .int x.2]
theorem dpA_pr {K : PySem.W.Frag} {H : Hp} : ∀ {es : List (Addr × Str × Str)}, (∀ x ∈ es, H x.1 = some (.tup [.str x.2.1, .str x.2.2])) → DpAll K H (es.map fun x => V.ref x.1) ((es.map (·.2)).map prD)
  | [], _ => .nil
  | x :: r, h => .cons (.tup (SqT.of (h x List.mem_cons_self)) (.cons (.str _) (.cons (.str _) .nil))) (dpA_pr fun y hy => h y (List.mem_cons_of_mem _ hy))
theorem dpA_mo {K : PySem.W.Frag} {H : Hp} : ∀ {ms : List (Addr × Str × Int)}, TwAt H ms → DpAll K H (ms.map fun x => V.ref x.1) ((ms.map (·.2)).map moD)
  | [], _ => .nil
  | x :: r, h => .cons (.tup (SqT.of (h x List.mem_cons_self)) (.cons (.str _) (.cons (.int _) .nil))) (dpA_mo fun y hy => h y (List.mem_cons_of_mem _ hy))
theorem dpA_sE {K : PySem.W.Frag} {H : Hp} : ∀ xs : List Str, DpAll K H (xs.map V.str) (xs.map PyData.str)
  | [] => .nil
  | x :: r => .cons (.str _) (dpA_sE r)
def grD (ns : List Str) (es : List (Str × Str)) : PyData := .tuple [.tuple (ns.map .str), .tuple (es.map prD)]
theorem gr_dpE {K : PySem.W.Frag} {H : Hp} {g n e : Addr} {ns : List Str} {es : List (Addr × Str × Str)} (h : GrAt H g n e ns es) : Dp K H (.ref g) (grD ns (es.map (·.2))) :=
  .tup (SqT.of h.top) (.cons (.tup (SqT.of h.nodes) (dpA_sE ns)) (.cons (.tup (SqT.of h.edges) (dpA_pr h.pairs)) .nil))
theorem dep_s : ∀ xs : List Str, PyData.depthAll (xs.map PyData.str) ≤ 1
  | [] => by simp [PyData.depthAll]
  | x :: r => by
    have := dep_s r
    simp only [List.map_cons, PyData.depthAll, PyData.depth]
    omega
theorem dep_pr : ∀ es : List (Str × Str), PyData.depthAll (es.map prD) ≤ 2
  | [] => by simp [PyData.depthAll]
  | x :: r => by
    have := dep_pr r
    simp only [List.map_cons, PyData.depthAll, PyData.depth, prD]
    omega
theorem dep_mo : ∀ es : List (Str × Int), PyData.depthAll (es.map moD) ≤ 2
  | [] => by simp [PyData.depthAll]
  | x :: r => by
    have := dep_mo r
    simp only [List.map_cons, PyData.depthAll, PyData.depth, moD]
    omega
theorem dep_gr {ns : List Str} {es : List (Str × Str)} : (grD ns es).depth ≤ 50 := by
  have := dep_s ns
  have := dep_pr es
  simp only [grD, PyData.depth, PyData.depthAll]
  omega
def spBnd (T : List (Addr × Str)) : Sp := fun vs H Q _ => vs = [] ∧ Tabs T H ∧ ∀ H' : Hp, ExtN H H' → Tabs T H' → Q (.bl true) H'
section
variable {P : Program} {w : World} {K : PySem.W.Frag} {mg : Str → Option Value} {base : Heap}
structure EEa (P : Program) (w : World) (K : PySem.W.Frag) (mg : Str → Option Value) (base : Heap) (T : List (Addr × Str)) : Prop where
  format_graph : Cal P w K mg base CX0 3 "format_graph" spFg
  parse_graph : Cal P w K mg base CX0 6 "parse_graph" (spPg T)
  format_nodes : Cal P w K mg base CX0 2 "format_nodes" (spFn K)
  parse_nodes : Cal P w K mg base CX0 5 "parse_nodes" spPns
  format_state : Cal P w K mg base CX0 3 "format_state" (spFd wdM)
  parse_state : Cal P w K mg base CX0 5 "parse_state" (spPsd wdM okM)
  format_moves : Cal P w K mg base CX0 2 "format_moves" (spFm K)
  parse_moves : Cal P w K mg base CX0 5 "parse_moves" (spPms wdM okM)
  format_lift : Cal P w K mg base CX0 2 "format_lift" (spFd wdL)
  parse_lift : Cal P w K mg base CX0 5 "parse_lift" (spPsd wdL okL)
theorem ok_bound {f : Addr} {fd : FuncData} {T : List (Addr × Str)} (F : Fun K "_law_bound_holds" "_law_bound_holds" s__law_bound_holds f fd) (B : Bt mg) (C : EEa P w K mg base T) : FnG P w K mg base CX0 7 f fd [] (spBnd T) := by
  refine fnG0 F sc__law_bound_holds (fun vs H Q E h => ?_) (fun cdv A outer s H vs Q E hr h => ?_)
  · obtain ⟨rfl, _⟩ := h
    rfl
  · obtain ⟨rfl, tabs, q⟩ := h
    have nd := sc__law_bound_holds.nd
    have hu := hr.u1
    refine ⟨_, (pss_cons (ps_set (i := 0) nd rfl (by first | exact Or.inl rfl | exact Or.inr rfl) (pe_tup (pa_cons (pe_tup pa_nil) (pa_cons (pe_tup pa_nil) pa_nil))))
  (pss_cons (ps_if (PW.pt (pw_or (pt_cmpR (kNe K rfl hr.u64) (pe_c C.format_graph hr (by decide) rfl (pa_cons (pv 0) pa_nil)) pe_str (nomark _)) (pw_or (pt_cmpR (kNeN K rfl hr.u64) (pe_c C.parse_graph hr (by decide) rfl (pa_cons pe_str pa_nil)) (pv 0) (nomark _)) (pw_or1 (pt_cmpR (kNe K rfl hr.u64) (pe_c C.format_nodes hr (by decide) rfl (pa_cons (pe_tup pa_nil) pa_nil)) pe_str (nomark _)))))) (pss_one (ps_ret pe_bl)) pss_nil)
  (pss_cons (ps_if (pt_cmpR (kNeN K rfl hr.u64) (pe_c C.parse_nodes hr (by decide) rfl (pa_cons pe_str pa_nil)) (pe_lst pa_nil) (nomark _)) (pss_one (ps_ret pe_bl)) pss_nil)
  (pss_cons (ps_if (PW.pt (pw_or (pt_cmpR (kNe K rfl hr.u64) (pe_c C.format_state hr (by decide) rfl (pa_cons pe_dnewK pa_nil)) pe_str (nomark _)) (pw_or (pt_cmpR (op_ne_KI hr.u0) (pe_c C.parse_state hr (by decide) rfl (pa_cons pe_str pa_nil)) pe_dnewK (nomark _)) (pw_or (pt_cmpR (kNe K rfl hr.u64) (pe_c C.format_moves hr (by decide) rfl (pa_cons (pe_lst pa_nil) pa_nil)) pe_str (nomark _)) (pw_or1 (pt_cmpR (kNeN K rfl hr.u64) (pe_c C.parse_moves hr (by decide) rfl (pa_cons pe_str pa_nil)) (pe_lst pa_nil) (nomark _))))))) (pss_one (ps_ret pe_bl)) pss_nil)
  (pss_one (ps_ret (pe_and (pe_cmpR (kEq K rfl hr.u64) (pe_c C.format_lift hr (by decide) rfl (pa_cons pe_dnewK pa_nil)) pe_str (nomark _)) (pe_and (pe_cmpR (op_eqKF hr.u0) (pe_c C.parse_lift hr (by decide) rfl (pa_cons pe_str pa_nil)) pe_dnewK (nomark _)) (pe_one (pe_cmpR (kEqN K rfl hr.u64) (pe_c C.parse_graph hr (by decide) rfl (pa_cons pe_str pa_nil)) (pe_tup (pa_cons (pe_tup (pa_cons pe_str pa_nil)) (pa_cons (pe_tup pa_nil) pa_nil))) (nomark _))))))))))), ?_⟩
    wtm_at "rd"
    have s1 : Same H H := fun b o h => h
    intro a1 fa1
    have ka1 := Same.new (o := .tup []) fa1
    have ha1 := @upd_same H a1 (.tup [])
    have s1 := s1.trans ka1
    generalize upd H a1 (.tup []) = H1 at ha1 s1
    clear ka1 fa1
    wtm_at "rd"
    intro a2 fa2
    have ka2 := Same.new (o := .tup []) fa2
    have ha2 := @upd_same H1 a2 (.tup [])
    have ha1 := ka2 _ _ ha1
    have s1 := s1.trans ka2
    generalize upd H1 a2 (.tup []) = H2 at ha2 ha1 s1
    clear ka2 fa2
    wtm_at "rd"
    intro ta fta
    have kta := Same.new (o := .tup [.ref a1, .ref a2]) fta
    have hta := @upd_same H2 ta (.tup [.ref a1, .ref a2])
    have ha1 := kta _ _ ha1
    have ha2 := kta _ _ ha2
    have s1 := s1.trans kta
    generalize upd H2 ta (.tup [.ref a1, .ref a2]) = H3 at hta ha1 ha2 s1
    clear kta fta
    wtm_at "rd"
    have gs : GrS H3 ta a1 a2 [] [] := ⟨⟨hta, ha1, ha2, fun x hx => nomatch hx⟩, ⟨⟨List.Pairwise.nil, fun x hx => nomatch hx⟩, List.Pairwise.nil, (fun x hx => nomatch hx), (fun x hx => nomatch hx)⟩, by decide, by decide⟩
    have x03 := ExtN.of fun b o h => s1 b o h
    have tabs3 := tabs.ext fun b o h => s1 b o h
    refine ⟨ta, a1, a2, [], [], rfl, gs, fun H4 s4 => ?_⟩
    have gs := gs.same s4
    have x04 := x03.trans (ExtN.of fun b o h => s4 b o h)
    have tabs4 := tabs3.ext fun b o h => s4 b o h
    clear s4 x03 tabs3 s1 hta ha1 ha2
    wtm_at "rd"
    rw [show decide (grT [] (([] : List (Addr × Str × Str)).map (·.2)) = ".\n.") = true from by decide +kernel]
    wtm_at "rd"
    refine ⟨[], [], by rw [show grT [] [] = ".\n." from by decide +kernel], gs.ok, by decide, by decide, tabs4, fun g5 n5 e5 es5 H5 x5 tabs5 gs5 e5q => ?_⟩
    have gsx := gs.extD x5
    have x05 := x04.trans x5
    wtm_at "rd"
    have d5 := gr_dpE (K := K) gs5.gr
    rw [e5q] at d5
    refine rd_neNd d5 (gr_dpE gsx.gr) dep_gr ?_
    wtm_at "rd"
    intro b1 fb1
    have kb1 := Same.new (o := .tup []) fb1
    have hb1 := @upd_same H5 b1 (.tup [])
    have x05 := x05.trans (ExtN.of fun b o h => kb1 b o h)
    have tabs5 := tabs5.ext fun b o h => kb1 b o h
    generalize upd H5 b1 (.tup []) = H6 at hb1 x05 tabs5
    clear kb1 fb1
    have eJ : jw ([] : List Str) = "." := rfl
    refine ⟨b1, [], rfl, .inr (SqT.of hb1), ⟨by decide, fun w hw => nomatch hw⟩, fun H7 s7 => ?_⟩
    have x07 := x05.trans (ExtN.of fun b o h => s7 b o h)
    have tabs7 := tabs5.ext fun b o h => s7 b o h
    clear gs gsx gs5 d5 e5q x5 x05 tabs5 s7 hb1
    wtm_at "rd"
    rw [eJ, show decide (("." : Str) = ".") = true from by decide +kernel]
    wtm_at "rd"
    refine ⟨[], by rw [eJ], by decide, (fun w hw => nomatch hw), fun l1 H8 s8 _ hl1 => ?_⟩
    have x08 := x07.trans (ExtN.of fun b o h => s8 b o h)
    have tabs8 := tabs7.ext fun b o h => s8 b o h
    wtm_at "rd"
    intro l2 fl2
    have kl2 := Same.new (o := .lst []) fl2
    have hl2 := @upd_same H8 l2 (.lst [])
    have hl1 := kl2 _ _ hl1
    have x08 := x08.trans (ExtN.of fun b o h => kl2 b o h)
    have tabs8 := tabs8.ext fun b o h => kl2 b o h
    generalize upd H8 l2 (.lst []) = H9 at hl2 hl1 x08 tabs8
    clear kl2 fl2
    refine rd_neNd (d := .list []) (.lst (SqL.of hl1) .nil) (.lst (SqL.of hl2) .nil) (by simp [PyData.depth, PyData.depthAll]) ?_
    clear hl1 hl2 x07 tabs7 s8
    wtm_at "rd"
    intro e1 fe1
    have ke1 := Same.new (o := .dK []) fe1
    have he1 := @upd_same H9 e1 (.dK [])
    have x08 := x08.trans (ExtN.of fun b o h => ke1 b o h)
    have tabs8 := tabs8.ext fun b o h => ke1 b o h
    generalize upd H9 e1 (.dK []) = HA at he1 x08 tabs8
    clear ke1 fe1
    refine ⟨e1, [], [], fun _ => 0, rfl, he1, by decide, (fun x hx => nomatch hx), List.Pairwise.nil, List.Perm.refl _, fun HB sB => ?_⟩
    have x0B := x08.trans (ExtN.of fun b o h => sB b o h)
    have tabsB := tabs8.ext fun b o h => sB b o h
    clear he1 x08 tabs8 sB
    have eM : jw ((([] : List Str).map fun x => (x, (0 : Int))).map wdM) = "." := rfl
    have eL : jw ((([] : List Str).map fun x => (x, (0 : Int))).map wdL) = "." := rfl
    wtm_at "rd"
    rw [eM, show decide (("." : Str) = ".") = true from by decide +kernel]
    wtm_at "rd"
    refine ⟨[], fun _ => 0, by rw [eM], by decide, List.Pairwise.nil, (fun x hx => nomatch hx), fun d1 HC sC _ hd1 => ?_⟩
    have x0C := x0B.trans (ExtN.of fun b o h => sC b o h)
    have tabsC := tabsB.ext fun b o h => sC b o h
    clear x0B tabsB sC
    wtm_at "rd"
    intro d2 fd2
    have kd2 := Same.new (o := .dK []) fd2
    have hd2 := @upd_same HC d2 (.dK [])
    have hd1 := kd2 _ _ hd1
    have x0C := x0C.trans (ExtN.of fun b o h => kd2 b o h)
    have tabsC := tabsC.ext fun b o h => kd2 b o h
    generalize upd HC d2 (.dK []) = HD at hd2 hd1 x0C tabsC
    clear kd2 fd2
    refine ⟨d1, d2, [], [], fun _ => 0, fun _ => 0, rfl, rfl, hd1, hd2, rfl, (fun x hx => nomatch hx), ?_⟩
    clear hd1 hd2
    rw [List.all_nil, Bool.not_true]
    wtm_at "rd"
    intro m1 fm1
    have km1 := Same.new (o := .lst []) fm1
    have hm1 := @upd_same HD m1 (.lst [])
    have x0C := x0C.trans (ExtN.of fun b o h => km1 b o h)
    have tabsC := tabsC.ext fun b o h => km1 b o h
    generalize upd HD m1 (.lst []) = HE at hm1 x0C tabsC
    clear km1 fm1
    refine ⟨m1, [], rfl, SqL.of hm1, (fun x hx => nomatch hx), ⟨by decide, fun x hx => nomatch hx⟩, fun HF sF => ?_⟩
    have x0F := x0C.trans (ExtN.of fun b o h => sF b o h)
    have tabsF := tabsC.ext fun b o h => sF b o h
    clear hm1 x0C tabsC sF
    wtm_at "rd"
    rw [show decide (jw ((([] : List (Addr × Str × Int)).map (·.2)).map wdM) = ".") = true from by decide +kernel]
    wtm_at "rd"
    refine ⟨[], by rw [show jw (([] : List (Str × Int)).map wdM) = "." from rfl], by decide, (fun x hx => nomatch hx), fun l1 ts HG sG _ hl1 _ et => ?_⟩
    obtain rfl : ts = [] := List.map_eq_nil_iff.mp et
    have x0G := x0F.trans (ExtN.of fun b o h => sG b o h)
    have tabsG := tabsF.ext fun b o h => sG b o h
    clear x0F tabsF sG
    wtm_at "rd"
    intro l2 fl2
    have kl2 := Same.new (o := .lst []) fl2
    have hl2 := @upd_same HG l2 (.lst [])
    have hl1 := kl2 _ _ hl1
    have x0G := x0G.trans (ExtN.of fun b o h => kl2 b o h)
    have tabsG := tabsG.ext fun b o h => kl2 b o h
    generalize upd HG l2 (.lst []) = HH at hl2 hl1 x0G tabsG
    clear kl2 fl2
    refine rd_neNd (d := .list []) (.lst (SqL.of hl1) .nil) (.lst (SqL.of hl2) .nil) (by simp [PyData.depth, PyData.depthAll]) ?_
    clear hl1 hl2
    wtm_at "rd"
    intro e1 fe1
    have ke1 := Same.new (o := .dK []) fe1
    have he1 := @upd_same HH e1 (.dK [])
    have x0G := x0G.trans (ExtN.of fun b o h => ke1 b o h)
    have tabsG := tabsG.ext fun b o h => ke1 b o h
    generalize upd HH e1 (.dK []) = HI at he1 x0G tabsG
    clear ke1 fe1
    refine ⟨e1, [], [], fun _ => 0, rfl, he1, by decide, (fun x hx => nomatch hx), List.Pairwise.nil, List.Perm.refl _, fun HJ sJ => ?_⟩
    have x0J := x0G.trans (ExtN.of fun b o h => sJ b o h)
    have tabsJ := tabsG.ext fun b o h => sJ b o h
    clear he1 x0G tabsG sJ
    wtm_at "rd"
    rw [eL, show decide (("." : Str) = ".") = true from by decide +kernel]
    wtm_at "rd"
    refine ⟨[], fun _ => 0, by rw [eL], by decide, List.Pairwise.nil, (fun x hx => nomatch hx), fun d1 HK sK _ hd1 => ?_⟩
    have x0K := x0J.trans (ExtN.of fun b o h => sK b o h)
    have tabsK := tabsJ.ext fun b o h => sK b o h
    clear x0J tabsJ sK
    wtm_at "rd"
    intro d2 fd2
    have kd2 := Same.new (o := .dK []) fd2
    have hd2 := @upd_same HK d2 (.dK [])
    have hd1 := kd2 _ _ hd1
    have x0K := x0K.trans (ExtN.of fun b o h => kd2 b o h)
    have tabsK := tabsK.ext fun b o h => kd2 b o h
    generalize upd HK d2 (.dK []) = HL at hd2 hd1 x0K tabsK
    clear kd2 fd2
    refine ⟨d1, d2, [], [], fun _ => 0, fun _ => 0, rfl, rfl, hd1, hd2, rfl, (fun x hx => nomatch hx), ?_⟩
    rw [List.all_nil]
    wtm_at "rd"
    clear hd1 hd2
    have nA : IsName "a" := ⟨by decide +kernel, by decide +kernel, by decide +kernel⟩
    refine ⟨["a"], [], by rw [show grT ["a"] [] = "a\n." from by decide +kernel], ⟨⟨List.pairwise_singleton _ _, fun x hx => by rw [List.mem_singleton.mp hx]; exact nA⟩, List.Pairwise.nil, (fun x hx => nomatch hx), (fun x hx => nomatch hx)⟩, by decide, by decide, tabsK, fun g5 n5 e5 es5 H5 x5 tabs5 gs5 e5q => ?_⟩
    have xM := x0K.trans x5
    clear x5 x0K tabsK
    have d5 := gr_dpE (K := K) gs5.gr
    wtm_at "rd"
    intro t1 ft1
    have kt1 := Same.new (o := .tup [.str "a"]) ft1
    have ht1 := @upd_same H5 t1 (.tup [.str "a"])
    have gs5 := gs5.same kt1
    have xM := xM.trans (ExtN.of fun b o h => kt1 b o h)
    have tabs5 := tabs5.ext fun b o h => kt1 b o h
    generalize upd H5 t1 (.tup [.str "a"]) = H6 at ht1 gs5 xM tabs5
    clear kt1 ft1
    wtm_at "rd"
    intro t2 ft2
    have kt2 := Same.new (o := .tup []) ft2
    have ht2 := @upd_same H6 t2 (.tup [])
    have ht1 := kt2 _ _ ht1
    have gs5 := gs5.same kt2
    have xM := xM.trans (ExtN.of fun b o h => kt2 b o h)
    have tabs5 := tabs5.ext fun b o h => kt2 b o h
    generalize upd H6 t2 (.tup []) = H7 at ht2 ht1 gs5 xM tabs5
    clear kt2 ft2
    wtm_at "rd"
    intro t3 ft3
    have kt3 := Same.new (o := .tup [.ref t1, .ref t2]) ft3
    have ht3 := @upd_same H7 t3 (.tup [.ref t1, .ref t2])
    have ht1 := kt3 _ _ ht1
    have ht2 := kt3 _ _ ht2
    have gs5 := gs5.same kt3
    have xM := xM.trans (ExtN.of fun b o h => kt3 b o h)
    have tabs5 := tabs5.ext fun b o h => kt3 b o h
    generalize upd H7 t3 (.tup [.ref t1, .ref t2]) = H8 at ht3 ht1 ht2 gs5 xM tabs5
    clear kt3 ft3
    have d5 := gr_dpE (K := K) gs5.gr
    rw [e5q] at d5
    have d6 : Dp K H8 (.ref t3) (grD ["a"] []) := .tup (SqT.of ht3) (.cons (.tup (SqT.of ht1) (.cons (.str _) .nil)) (.cons (.tup (SqT.of ht2) .nil) .nil))
    refine rd_eqNd d5 d6 dep_gr ?_
    exact q _ xM tabs5
end
end Law


/-! k92's law -/
namespace Law
open PySem PySem.Spec PyProof.Rows L2 U LamX NdefX


def spLaw (K : PySem.W.Frag) (T : Addr) : Sp := fun vs H Q _ => ∃ (a : Addr) (nums : List Int), vs = [.ref a] ∧ SqL K H a (nums.map V.int) ∧ nums.length ≤ 63 ∧ Tabs [(T, qEdge)] H ∧ ∀ H' : Hp, Q (.bl true) H'
theorem plays_memE {ns : List Str} {es : List (Str × Str)} {ps : List Str} {f f' : Str → Int} {ms : List (Str × Int)} (h : Plays ns es ps f ms f') : ∀ m ∈ ms, m.1 ∈ ns := by
  induction h with
  | nil => exact fun m hm => nomatch hm
  | snoc h l ih =>
    intro m hm
    rcases List.mem_append.mp hm with hm | hm
    · exact ih m hm
    · rw [List.mem_singleton.mp hm]
      exact l.mem
theorem plays_val {ns : List Str} {es : List (Str × Str)} {ps : List Str} {f f' : Str → Int} {ms : List (Str × Int)} (h : Plays ns es ps f ms f') : ∀ m ∈ ms, 0 ≤ m.2 ∧ m.2 < 3 := by
  induction h with
  | nil => exact fun m hm => nomatch hm
  | snoc h l ih =>
    intro m hm
    rcases List.mem_append.mp hm with hm | hm
    · exact ih m hm
    · rw [List.mem_singleton.mp hm]
      exact l.val
theorem tabs_dictE {T : List (Addr × Str)} {H : Hp} {d : Addr} {kvs kvs2 : List (Key × V)} (t : Tabs T H) (hd : H d = some (.dK kvs)) : Tabs T (upd H d (.dK kvs2)) := fun q hq => by
  obtain ⟨ps, h1, h2, h3⟩ := t q hq
  refine ⟨ps, at_upd (ne_of h1 hd (by intro z; cases z)) h1, h2, fun pos cv hc => ?_⟩
  obtain ⟨c, e1, e2⟩ := h3 pos cv hc
  exact ⟨c, e1, at_upd (ne_of e2 hd (by intro z; unfold CodeO at z; cases z)) e2⟩
theorem tk_snocE {α : Type} {xs : List α} {i : Nat} (hi : i < xs.length) : xs.take (i + 1) = xs.take i ++ [xs[i]] := by
  rw [List.take_succ, List.getElem?_eq_getElem hi]
  rfl
/-- a dict of one's own is written -/
theorem GoN.wrE {T : List (Addr × Str)} {p d : Addr} {H H' : Hp} {kvs kvs2 : List (Key × V)} (x : GoN T p H H') (fr : ∀ o, H d = some o → (∀ ps, o ≠ .tbl ps) → False) (hd : H' d = some (.dK kvs)) (np : d ≠ p) : GoN T p H (upd H' d (.dK kvs2)) :=
  ⟨fun b o nb hb z => by
    by_cases e : b = d
    · subst e
      exact (fr o hb z).elim
    · exact at_upd e (x.but b o nb hb z), x.pool.upd (Ne.symm np), tabs_dictE x.tabs hd⟩
theorem cutV_toE {xs : List V} {i : Nat} : cutV xs none (some (i : Int)) = xs.take i := by
  unfold cutV HT.sIx
  simp only [Nat.sub_zero, List.drop_zero]
  rw [if_neg (by omega), Int.toNat_natCast]
  by_cases h : i ≤ xs.length
  · rw [Nat.min_eq_left h]
  · rw [Nat.min_eq_right (by omega), List.take_of_length_le (Nat.le_refl _), List.take_of_length_le (by omega)]
theorem es_lim {H : Hp} {g n e : Addr} {ns : List Str} {es : List (Addr × Str × Str)} (gs : GrS H g n e ns es) (l : ns.length ≤ 10) : (es.map (·.2)).length ≤ 120 := by
  have := nodup_len (ascE_nodup gs.ok.asc) (ys := ns.flatMap fun a => ns.map fun b => (a, b)) fun y hy => List.mem_flatMap.mpr ⟨y.1, (gs.ok.mem _ hy).1, List.mem_map.mpr ⟨y.2, (gs.ok.mem _ hy).2, rfl⟩⟩
  have ln : ∀ (as bs : List Str), (as.flatMap fun a => bs.map fun b => (a, b)).length = as.length * bs.length := by
    intro as bs
    induction as with
    | nil => simp
    | cons a r ih => rw [List.flatMap_cons, List.length_append, ih, List.length_map, List.length_cons, Nat.succ_mul]; omega
  rw [ln] at this
  have : ns.length * ns.length ≤ 10 * 10 := Nat.mul_le_mul l l
  omega
theorem gs_upd {H : Hp} {g n e st d : Addr} {ns ord : List Str} {es : List (Addr × Str × Str)} {f : Str → Int} {o : HO} {kvs : List (Key × V)} (h : GSt H g n e st ns ord es f) (hd : H d = some (.dK kvs)) (ne : st ≠ d) : GSt (upd H d o) g n e st ns ord es f :=
  ⟨⟨at_upd (ne_of h.gr.top hd nofun) h.gr.top, at_upd (ne_of h.gr.nodes hd nofun) h.gr.nodes, at_upd (ne_of h.gr.edges hd nofun) h.gr.edges, fun x hx => at_upd (ne_of (h.gr.pairs x hx) hd nofun) (h.gr.pairs x hx)⟩, h.ok, h.pm, h.l2, h.l3, at_upd ne h.st, h.tri, h.pro⟩
theorem take_nin {ns : List Str} {j : Nat} (nd : ns.Nodup) (hj : j < ns.length) : ns[j] ∉ ns.take j := fun m => by
  obtain ⟨k, hk, e⟩ := List.mem_iff_getElem.mp m
  rw [List.length_take] at hk
  rw [List.getElem_take] at e
  have := (List.getElem_inj nd).mp e
  omega
section
variable {P : Program} {w : World} {K : PySem.W.Frag} {mg : Str → Option Value} {base : Heap}
structure N92c (P : Program) (w : World) (K : PySem.W.Frag) (mg : Str → Option Value) (base : Heap) (T : List (Addr × Str)) : Prop where
  _law_bound_holds : Cal P w K mg base CX0 7 "_law_bound_holds" (spBnd T)
  _law_pool : Cal P w K mg base CX0 1 "_law_pool" (spPool K)
  _law_draw : Cal P w K mg base CX0 1 "_law_draw" spDraw
  _law_draw_graph : Cal P w K mg base CX0 3 "_law_draw_graph" spGraph
  _law_draw_moves : Cal P w K mg base CX0 3 "_law_draw_moves" (spDrawMoves K)
  _law_shuffle : Cal P w K mg base CX0 2 "_law_shuffle" (spShuf K)
  _law_join : Cal P w K mg base CX0 1 "_law_join" (spJw K)
  _law_graph_text : Cal P w K mg base CX0 2 "_law_graph_text" spFg
  _law_moves_text : Cal P w K mg base CX0 2 "_law_moves_text" (spFm K)
  _law_lift_text : Cal P w K mg base CX0 2 "_law_lift_text" (spFd wdL)
  format_graph : Cal P w K mg base CX0 3 "format_graph" spFg
  parse_graph : Cal P w K mg base CX0 6 "parse_graph" (spPg T)
  format_nodes : Cal P w K mg base CX0 2 "format_nodes" (spFn K)
  parse_nodes : Cal P w K mg base CX0 5 "parse_nodes" spPns
  format_state : Cal P w K mg base CX0 3 "format_state" (spFd wdM)
  parse_state : Cal P w K mg base CX0 5 "parse_state" (spPsd wdM okM)
  format_moves : Cal P w K mg base CX0 2 "format_moves" (spFm K)
  parse_moves : Cal P w K mg base CX0 5 "parse_moves" (spPms wdM okM)
  format_lift : Cal P w K mg base CX0 2 "format_lift" (spFd wdL)
  parse_lift : Cal P w K mg base CX0 5 "parse_lift" (spPsd wdL okL)
theorem ok_law {f : Addr} {fd : FuncData} {T : Addr} (F : Fun K "law" "law" s_law f fd) (B : Bt mg) (C : N92c P w K mg base [(T, qEdge)]) : FnG P w K mg base CX0 8 f fd ["_law_script"] (spLaw K T) := by
  refine fnG0 F sc_law (fun vs H Q E h => ?_) (fun cdv A outer s H vs Q E hr h => ?_)
  · obtain ⟨a, nums, rfl, _⟩ := h
    rfl
  · obtain ⟨a, nums, rfl, hs, hl, tabs, q⟩ := h
    have nd := sc_law.nd
    have hu := hr.u1
    refine ⟨_, (pss_cons (ps_if (pt_not (pt_val (pe_cG0 C._law_bound_holds hr (by decide) rfl pass0))) (pss_one (ps_ret pe_bl)) pss_nil)
  (pss_cons (ps_for PassesOwn.never rfl (pi_range1 rfl B.range (pa_cons (pe_callB (cMax rfl) (by rfl) B.max bb_max (pa_cons pe_int (pa_cons (pe_callB (cMin rfl) (by rfl) B.min bb_min (pa_cons pe_int (pa_cons (pe_callB (kLen K rfl) (by rfl) B.len bb_len (pa_cons (pv 0) pa_nil)) pa_nil))) pa_nil))) pa_nil)) (pg_name (i := 1) nd rfl (by first | exact Or.inl rfl | exact Or.inr rfl)) (pss_cons (ps_set (i := 2) nd rfl (by first | exact Or.inl rfl | exact Or.inr rfl) (pe_c C._law_pool hr (by decide) rfl (pa_cons (pv 0) (pa_cons (pv 1) pa_nil))))
  (pss_cons (ps_asg (pe_c C._law_draw_graph hr (by decide) rfl (pa_cons (pv 2) (pa_cons pe_int pa_nil))) (kg_tup (n := 2) K rfl rfl (pgs_cons (pg_name (i := 3) nd rfl (by first | exact Or.inl rfl | exact Or.inr rfl)) (pgs_cons (pg_name (i := 4) nd rfl (by first | exact Or.inl rfl | exact Or.inr rfl)) pgs_nil))))
  (pss_cons (ps_asg (pe_c C._law_draw_moves hr (by decide) rfl (pa_cons (pv 2) (pa_cons (pv 3) (pa_cons (pv 4) (pa_cons (pe_tup pa_nil) (pa_cons pe_int pa_nil)))))) (kg_tup (n := 2) K rfl rfl (pgs_cons (pg_name (i := 5) nd rfl (by first | exact Or.inl rfl | exact Or.inr rfl)) (pgs_cons (pg_name (i := 6) nd rfl (by first | exact Or.inl rfl | exact Or.inr rfl)) pgs_nil))))
  (pss_cons (ps_set (i := 7) nd rfl (by first | exact Or.inl rfl | exact Or.inr rfl) pe_dnewK)
  (pss_cons (ps_for PassesOwn.never rfl (ki_tup K rfl (pe_ix (kIx K rfl) (pv 3) pe_int (fun _ _ => rfl))) (pg_name (i := 8) nd rfl (by first | exact Or.inl rfl | exact Or.inr rfl)) (pss_one (ps_dput hu (pv 7) (pv 8) (pe_ix (kIx K rfl) (pe_lst (pa_cons pe_int (pa_cons pe_int (pa_cons (pe_un un_neg pe_int) (pa_cons (pe_op uSub (pe_op uPow pe_int pe_int) pe_int) (pa_cons (pe_op uSub pe_int (pe_op uPow pe_int pe_int)) (pa_cons (pe_c C._law_draw hr (by decide) rfl (pa_cons (pv 2) (pa_cons (pe_op uPow pe_int pe_int) pa_nil))) pa_nil))))))) (pe_c C._law_draw hr (by decide) rfl (pa_cons (pv 2) (pa_cons pe_int pa_nil))) (fun _ _ => rfl)) rfl)))
  (pss_cons (ps_set (i := 9) nd rfl (by first | exact Or.inl rfl | exact Or.inr rfl) (pe_c C._law_shuffle hr (by decide) rfl (pa_cons (pv 2) (pa_cons (pe_op (kAdd K rfl) (pe_callTy (kList K rfl rfl) (by rfl) B.list bb_list (pa_cons (pe_ix (kIx K rfl) (pv 3) pe_int (fun _ _ => rfl)) pa_nil)) (pe_slice (kSl K rfl) (pe_callTy (kList K rfl rfl) (by rfl) B.list bb_list (pa_cons (pe_ix (kIx K rfl) (pv 3) pe_int (fun _ _ => rfl)) pa_nil)) po_none (po_some pe_int))) pa_nil))))
  (pss_cons (ps_set (i := 10) nd rfl (by first | exact Or.inl rfl | exact Or.inr rfl) (pe_c C._law_graph_text hr (by decide) rfl (pa_cons (pv 3) pa_nil)))
  (pss_cons (ps_if (PW.pt (pw_or (pt_cmpR (kNe K rfl hr.u64) (pe_c C.format_graph hr (by decide) rfl (pa_cons (pv 3) pa_nil)) (pv 10) (nomark _)) (pw_or1 (pt_cmpR (kNeN K rfl hr.u64) (pe_c C.parse_graph hr (by decide) rfl (pa_cons (pv 10) pa_nil)) (pv 3) (nomark _))))) (pss_one (ps_ret pe_bl)) pss_nil)
  (pss_cons (ps_set (i := 10) nd rfl (by first | exact Or.inl rfl | exact Or.inr rfl) (pe_c C._law_moves_text hr (by decide) rfl (pa_cons (pe_callB (cr_sortedItK rfl hr.u64) (by rfl) B.sorted bb_sorted (pa_cons (pe_bm0 PySem.F.plainAttrs_dict PySem.F.slot_dict_items PySem.F.type_dict_items mt_itemsK (pv 4)) pa_nil)) pa_nil)))
  (pss_cons (ps_if (PW.pt (pw_or (pt_cmpR (kNe K rfl hr.u64) (pe_c C.format_state hr (by decide) rfl (pa_cons (pv 4) pa_nil)) (pv 10) (nomark _)) (pw_or1 (pt_cmpR (op_ne_KI hr.u0) (pe_c C.parse_state hr (by decide) rfl (pa_cons (pv 10) pa_nil)) (pv 4) (nomark _))))) (pss_one (ps_ret pe_bl)) pss_nil)
  (pss_cons (ps_set (i := 10) nd rfl (by first | exact Or.inl rfl | exact Or.inr rfl) (pe_c C._law_moves_text hr (by decide) rfl (pa_cons (pv 5) pa_nil)))
  (pss_cons (ps_if (PW.pt (pw_or (pt_cmpR (kNe K rfl hr.u64) (pe_c C.format_moves hr (by decide) rfl (pa_cons (pv 5) pa_nil)) (pv 10) (nomark _)) (pw_or1 (pt_cmpR (kNeN K rfl hr.u64) (pe_c C.parse_moves hr (by decide) rfl (pa_cons (pv 10) pa_nil)) (pv 5) (nomark _))))) (pss_one (ps_ret pe_bl)) pss_nil)
  (pss_cons (ps_set (i := 10) nd rfl (by first | exact Or.inl rfl | exact Or.inr rfl) (pe_c C._law_lift_text hr (by decide) rfl (pa_cons (pv 7) pa_nil)))
  (pss_cons (ps_if (PW.pt (pw_or (pt_cmpR (kNe K rfl hr.u64) (pe_c C.format_lift hr (by decide) rfl (pa_cons (pv 7) pa_nil)) (pv 10) (nomark _)) (pw_or1 (pt_cmpR (op_ne_KI hr.u0) (pe_c C.parse_lift hr (by decide) rfl (pa_cons (pv 10) pa_nil)) (pv 7) (nomark _))))) (pss_one (ps_ret pe_bl)) pss_nil)
  (pss_cons (ps_if (PW.pt (pw_or (pt_cmpR (kNe K rfl hr.u64) (pe_c C.format_nodes hr (by decide) rfl (pa_cons (pv 9) pa_nil)) (pe_c C._law_join hr (by decide) rfl (pa_cons (pv 9) pa_nil)) (nomark _)) (pw_or1 (pt_cmpR (kNe K rfl hr.u64) (pe_c C.format_nodes hr (by decide) rfl (pa_cons (pe_callTy (kTuple K rfl) (by rfl) B.tuple bb_tuple (pa_cons (pv 9) pa_nil)) pa_nil)) (pe_c C._law_join hr (by decide) rfl (pa_cons (pv 9) pa_nil)) (nomark _))))) (pss_one (ps_ret pe_bl)) pss_nil)
  (pss_cons (ps_if (pt_cmpR (kNeN K rfl hr.u64) (pe_c C.parse_nodes hr (by decide) rfl (pa_cons (pe_c C._law_join hr (by decide) rfl (pa_cons (pv 9) pa_nil)) pa_nil)) (pv 9) (nomark _)) (pss_one (ps_ret pe_bl)) pss_nil)
  (pss_cons (ps_expr (pe_bm PySem.F.plainAttrs_list PySem.F.slot_list_append PySem.F.type_list_append mt_append (pe_c C.parse_moves hr (by decide) rfl (pa_cons (pe_c C._law_moves_text hr (by decide) rfl (pa_cons (pv 5) pa_nil)) pa_nil)) (pa_cons pe_non pa_nil)))
  (pss_one (ps_expr (pe_dclear (pe_c C.parse_state hr (by decide) rfl (pa_cons (pe_c C._law_moves_text hr (by decide) rfl (pa_cons (pe_callB (cr_sortedItK rfl hr.u64) (by rfl) B.sorted bb_sorted (pa_cons (pe_bm0 PySem.F.plainAttrs_dict PySem.F.slot_dict_items PySem.F.type_dict_items mt_itemsK (pv 4)) pa_nil)) pa_nil)) pa_nil)))))))))))))))))))))))
  (pss_one (ps_ret pe_bl)))), ?_⟩
    generalize [(T, qEdge)] = TT at *
    wtm_at "rd"
    refine ⟨rfl, tabs, fun H1 x1 tb1 => ?_⟩
    have hs1 := sqL_ext hs x1
    wtm_at "rd"
    refine rd_lenL hs1 ?_
    rw [List.length_map]
    wtm_at "rd"
    refine turnsR (fun i σ H' => (∃ us : List (Option V), us.length = 10 ∧ σ = some (.ref a) :: us) ∧ SqL K H' a (nums.map V.int) ∧ Tabs TT H') ⟨⟨_, rfl, rfl⟩, hs1, tb1⟩ ?_ ?_
    · rintro i σ H0 hi ⟨⟨us, lu, rfl⟩, hs, tabs⟩
      have hi : i < 64 := by omega
      obtain ⟨u1, u2, u3, u4, u5, u6, u7, u8, u9, u10, rfl⟩ : ∃ u1 u2 u3 u4 u5 u6 u7 u8 u9 u10, us = [u1, u2, u3, u4, u5, u6, u7, u8, u9, u10] := by
        match us, lu with
        | [u1, u2, u3, u4, u5, u6, u7, u8, u9, u10], _ => exact ⟨_, _, _, _, _, _, _, _, _, _, rfl⟩
      wtm_at "rd"
      refine ⟨a, nums, i, by rw [Int.zero_add], hs, by omega, fun p big seed np pok => ?_⟩
      have hp : PoolAt (upd H0 p (poolO big seed)) p := ⟨big, seed, upd_same, pok⟩
      have tb0 : Tabs TT (upd H0 p (poolO big seed)) := tabs.ext (Same.new np)
      have keep : ∀ {H' : Hp}, GoN TT p (upd H0 p (poolO big seed)) H' → SqL K H' a (nums.map V.int) := fun {H'} g => seqL_newN hs np g
      generalize upd H0 p (poolO big seed) = H1 at hp keep tb0
      clear hs tabs np pok
      wtm_at "rd"
      refine use_graphB hp (by decide) (by decide) fun t g nA e st ns ord es f H2 g2 ht gs n1 n10 _ _ _ => ?_
      refine rd_unp (SqT.of ht) rfl ?_
      have x2 := GoN.of_go tb0 hp g2
      have n10 : ns.length ≤ 10 := by omega
      clear g2 ht hp tb0
      wtm_at "rd"
      intro tp ftp
      have ktp := Same.new (o := .tup []) ftp
      have htp := @upd_same H2 tp (.tup [])
      have gs := gs.same ktp
      have x2 := x2.same ktp
      generalize upd H2 tp (.tup []) = H3 at htp gs x2
      clear ktp ftp
      wtm_at "rd"
      refine ⟨p, g, nA, e, st, tp, 8, ns, ord, [], es, f, rfl, x2.pool, gs, by decide, by decide, SqT.of htp, fun t l c ms f' H4 g4 _ nl _ ht hl tm _ _ ml pl => ?_⟩
      have gs := gs.go x2.pool g4
      have lp := x2.pool.ne nl
      have x4 := x2.go g4
      have mok : ∀ m ∈ ms.map (·.2), okM m := fun m hm => ⟨gs.ok.names.ok _ (plays_memE pl _ hm), plays_val pl _ hm⟩
      refine rd_unp (SqT.of ht) rfl ?_
      clear g4 x2 ht pl nl htp
      wtm_at "rd"
      intro ld fld
      have nst : st ≠ ld := ne_of_none gs.st fld
      have npl := x4.pool.offN fld
      have frl : ∀ o, H1 ld = some o → (∀ ps, o ≠ .tbl ps) → False := fun o ho z => by
        have := x4.but _ _ npl ho z
        rw [fld] at this
        cases this
      have kld := Same.new (o := .dK []) fld
      have hld := @upd_same H4 ld (.dK [])
      have hl := kld _ _ hl
      have gs := gs.same kld
      have x4 := x4.same kld
      have tm := tm.same kld
      generalize upd H4 ld (.dK []) = H5 at *
      clear kld fld
      wtm_at "rd"
      refine rd_ixT (SqT.of gs.gr.top) (v := .ref nA) rfl ?_
      refine rd_forT (SqT.of gs.gr.nodes) ?_
      have ndn := asc_nodup gs.ok.names.asc
      refine turnsT (K := K) (xs := ns.map V.str) (fun j σ H' => ∃ (w8 : Option V) (lf : Str → Int), σ = [some (.ref a), some (.int (0 + (i : Int))), some (.ref p), some (.ref g), some (.ref st), some (.ref l), some (.ref c), some (.ref ld), w8, u9, u10] ∧ GoN TT p H1 H' ∧ H' l = some (.lst (ms.map fun m => V.ref m.1)) ∧ TupsAt H' ms ∧ GSt H' g nA e st ns ord es f ∧ H' ld = some (.dK (kvF (ns.take j) lf)) ∧ ∀ x ∈ ns, (lf x).natAbs < 10 ^ 60) ⟨_, fun _ => 0, rfl, x4, hl, tm, gs, hld, fun x hx => by simp⟩ ?_ ?_ ?_
      · rintro j σ H' hj ⟨w8, lf, rfl, x, hl, tm, gs, hld, lb⟩
        exact SqT.of gs.gr.nodes
      · rintro j y σ H' hy ⟨w8, lf, rfl, x, hl, tm, gs, hld, lb⟩
        obtain ⟨hj, rfl⟩ := map_at hy
        wtm_at "rd"
        rw [show ((10 : Int) ^ Int.toNat 9) = 1000000000 from rfl]
        refine use_draw x.pool (by decide) (by decide) fun v H6 v0 v1 g6 => ?_
        have hl := g6.at hl (Ne.symm lp)
        have tm : TupsAt H6 ms := fun m hm => g6.at (tm m hm) (x.pool.offT (tm m hm))
        have gs := gs.go x.pool g6
        have hld := g6.at hld (x.pool.offD hld)
        have x := x.go g6
        clear g6
        wtm_at "rd"
        intro q6 fq6
        have nq6 : q6 ≠ p := x.pool.offN fq6
        have kq6 := Same.new (o := .lst [.int 0, .int 1, .int (-1), .int (10 ^ Int.toNat 60 - 1), .int (1 - 10 ^ Int.toNat 60), .int v]) fq6
        have hq6 := @upd_same H6 q6 (.lst [.int 0, .int 1, .int (-1), .int (10 ^ Int.toNat 60 - 1), .int (1 - 10 ^ Int.toNat 60), .int v])
        have hl := kq6 _ _ hl
        have hld := kq6 _ _ hld
        have gs := gs.same kq6
        have x := x.same kq6
        have tm := tm.same kq6
        generalize upd H6 q6 (.lst [.int 0, .int 1, .int (-1), .int (10 ^ Int.toNat 60 - 1), .int (1 - 10 ^ Int.toNat 60), .int v]) = H7 at hq6 hl hld gs x tm
        clear kq6 fq6
        have pick : ∀ k : Nat, k < 6 → ∃ y : Int, ([.int 0, .int 1, .int (-1), .int (10 ^ Int.toNat 60 - 1), .int (1 - 10 ^ Int.toNat 60), .int v] : List V)[k]? = some (.int y) ∧ y.natAbs < 10 ^ 60 := fun k hk => by
          rcases (by omega : k = 0 ∨ k = 1 ∨ k = 2 ∨ k = 3 ∨ k = 4 ∨ k = 5) with rfl | rfl | rfl | rfl | rfl | rfl
          · exact ⟨_, rfl, by decide⟩
          · exact ⟨_, rfl, by decide⟩
          · exact ⟨_, rfl, by decide⟩
          · exact ⟨_, rfl, by decide +kernel⟩
          · exact ⟨_, rfl, by decide +kernel⟩
          · exact ⟨_, rfl, by omega⟩
        generalize ([.int 0, .int 1, .int (-1), .int (10 ^ Int.toNat 60 - 1), .int (1 - 10 ^ Int.toNat 60), .int v] : List V) = L6 at *
        wtm_at "rd"
        refine use_draw x.pool (by decide) (by decide) fun k H8 k0 k1 g8 => ?_
        obtain ⟨k, rfl⟩ := Int.eq_ofNat_of_zero_le k0
        obtain ⟨y, hy6, yb⟩ := pick k (by omega)
        have hq6 := g8.at hq6 nq6
        have hl := g8.at hl (Ne.symm lp)
        have tm : TupsAt H8 ms := fun m hm => g8.at (tm m hm) (x.pool.offT (tm m hm))
        have gs := gs.go x.pool g8
        have hld := g8.at hld (x.pool.offD hld)
        have x := x.go g8
        clear g8 pick
        refine rd_ixL (SqL.of hq6) (atI_nat hy6) ?_
        wtm_at "rd"
        refine rd_dset hld (k := .inr ns[j]) rfl (by rw [List.length_map, List.length_take]; omega) ?_
        have nin : ns[j] ∉ ns.take j := take_nin ndn hj
        rw [kvF_new nin, ← tk_snocE hj]
        refine ⟨_, updf lf ns[j] y, rfl, x.wrE frl hld npl, at_upd (ne_of hl hld nofun) hl, (fun m hm => at_upd (ne_of (tm m hm) hld nofun) (tm m hm)), gs_upd gs hld nst, upd_same, fun z hz => ?_⟩
        unfold updf
        split
        · exact yb
        · exact lb z hz
      rintro σ H6 ⟨w8, lf, rfl, x, hl, tm, gs, hld, lb⟩
      rw [List.length_map, List.take_length] at hld
      have nok := gs.ok.names.ok
      have sok : ∀ z ∈ ns, PyData.strOk z = true := fun z hz => (nok z hz).sok
      wtm_at "rd"
      refine rd_ixT (SqT.of gs.gr.top) (v := .ref nA) rfl ?_
      refine rd_listT (SqT.of gs.gr.nodes) ?_
      intro q1 fq1
      have kq1 := Same.new (o := .lst (ns.map V.str)) fq1
      have hq1 := @upd_same H6 q1 (.lst (ns.map V.str))
      have hl := kq1 _ _ hl
      have hld := kq1 _ _ hld
      have gs := gs.same kq1
      have x := x.same kq1
      have tm := tm.same kq1
      generalize upd H6 q1 (.lst (ns.map V.str)) = H7 at hq1 hl hld gs x tm
      clear kq1 fq1
      wtm_at "rd"
      refine rd_ixT (SqT.of gs.gr.top) (v := .ref nA) rfl ?_
      refine rd_listT (SqT.of gs.gr.nodes) ?_
      intro q2 fq2
      have kq2 := Same.new (o := .lst (ns.map V.str)) fq2
      have hq2 := @upd_same H7 q2 (.lst (ns.map V.str))
      have hl := kq2 _ _ hl
      have hld := kq2 _ _ hld
      have hq1 := kq2 _ _ hq1
      have gs := gs.same kq2
      have x := x.same kq2
      have tm := tm.same kq2
      generalize upd H7 q2 (.lst (ns.map V.str)) = H8 at hq2 hl hld hq1 gs x tm
      clear kq2 fq2
      wtm_at "rd"
      refine rd_slL (SqL.of hq2) ?_
      have ec : cutV (ns.map V.str) none (some 2) = (ns.take 2).map V.str := by
        rw [List.map_take]
        exact cutV_toE (i := 2)
      rw [ec]
      intro q3 fq3
      have kq3 := Same.new (o := .lst ((ns.take 2).map V.str)) fq3
      have hq3 := @upd_same H8 q3 (.lst ((ns.take 2).map V.str))
      have hl := kq3 _ _ hl
      have hld := kq3 _ _ hld
      have hq1 := kq3 _ _ hq1
      have gs := gs.same kq3
      have x := x.same kq3
      have tm := tm.same kq3
      generalize upd H8 q3 (.lst ((ns.take 2).map V.str)) = H9 at hq3 hl hld hq1 gs x tm
      clear kq3 fq3
      wtm_at "rd"
      refine rd_catL hq1 hq3 (by rw [List.length_map, List.length_map, List.length_take]; omega) ?_
      rw [← List.map_append]
      intro q4 fq4
      have kq4 := Same.new (o := .lst ((ns ++ ns.take 2).map V.str)) fq4
      have hq4 := @upd_same H9 q4 (.lst ((ns ++ ns.take 2).map V.str))
      have hl := kq4 _ _ hl
      have hld := kq4 _ _ hld
      have gs := gs.same kq4
      have x := x.same kq4
      have tm := tm.same kq4
      generalize upd H9 q4 (.lst ((ns ++ ns.take 2).map V.str)) = HA at hq4 hl hld gs x tm
      clear kq4 fq4
      wtm_at "rd"
      have in4 : ∀ z ∈ ns ++ ns.take 2, z ∈ ns := fun z hz => (List.mem_append.mp hz).elim id List.mem_of_mem_take
      refine ⟨p, q4, ns ++ ns.take 2, rfl, x.pool, hq4, (fun z hz => sok z (in4 z hz)), by rw [List.length_append, List.length_take]; omega, fun sm ys HB gB _ hsm pm => ?_⟩
      have hl := gB.at hl (Ne.symm lp)
      have tm : TupsAt HB ms := fun m hm => gB.at (tm m hm) (x.pool.offT (tm m hm))
      have hld := gB.at hld (x.pool.offD hld)
      have gs := gs.go x.pool gB
      have x := x.go gB
      clear gB hq4 hq1 hq3
      have yl : ys.length ≤ 12 := by
        rw [pm.length_eq, List.length_append, List.length_take]
        omega
      have yok : ∀ z ∈ ys, IsName z := fun z hz => nok z (in4 z (pm.mem_iff.mp hz))
      clear pm in4
      wtm_at "rd"
      refine ⟨g, nA, e, ns, es, rfl, gs.grs, fun HC sC => ?_⟩
      have hl := sC _ _ hl
      have hld := sC _ _ hld
      have hsm := sC _ _ hsm
      have gs := gs.same sC
      have x := x.same sC
      have tm := tm.same sC
      clear sC
      wtm_at "rd"
      refine ⟨g, nA, e, ns, es, rfl, gs.grs, fun HD sD => ?_⟩
      have hl := sD _ _ hl
      have hld := sD _ _ hld
      have hsm := sD _ _ hsm
      have gs := gs.same sD
      have x := x.same sD
      have tm := tm.same sD
      clear sD
      wtm_at "rd"
      rw [decide_eq_true rfl]
      wtm_at "rd"
      refine ⟨ns, es.map (·.2), rfl, gs.ok, by omega, es_lim gs.grs n10, x.tabs, fun g5 n5 e5 es5 HE xE tE gs5 e5q => ?_⟩
      have hl := ExtN.li xE hl
      have hld := ExtN.dk xE hld
      have hsm := ExtN.li xE hsm
      have tm : TupsAt HE ms := fun m hm => ExtN.tu xE (tm m hm)
      have gs : GSt HE g nA e st ns ord es f := ⟨(GrS.extD gs.grs xE).gr, gs.ok, gs.pm, gs.l2, gs.l3, ExtN.dk xE gs.st, gs.tri, gs.pro⟩
      have x := x.ext xE tE
      clear xE tE
      wtm_at "rd"
      have d5 := gr_dpE (K := K) gs5.gr
      rw [e5q] at d5
      refine rd_neNd d5 (gr_dpE gs.gr) dep_gr ?_
      clear d5 gs5 e5q
      wtm_at "rd"
      have ol : ord.length ≤ 60 := by rw [gs.pm.length_eq]; omega
      have fok : ∀ z ∈ ord, IsName z ∧ (f z).natAbs < 10 ^ 60 := fun z hz => ⟨nok z (gs.pm.mem_iff.mp hz), by have := gs.tri z (gs.pm.mem_iff.mp hz); omega⟩
      refine rd_tyD gs.st ?_
      refine ⟨st, _, rfl, rfl, gs.st, fun t1 ft1 => ?_⟩
      have k1 := Same.new (o := L2.DX.itemsO t1 st) ft1
      wtm_at "rd"
      refine ⟨t1, st, ord, f, rfl, upd_same, k1 _ _ gs.st, fun H1 l1 b1 s1 fl1 hl1 tb1 py1 sy1 => ?_⟩
      have e1 := sorted_pairs gs.ok.names.asc gs.pm.symm py1 sy1
      have em1 : (b1.map fun b => (b.1, b.2, f b.2)).map (·.2) = ns.map fun z => (z, f z) := by
        rw [List.map_map, ← e1, List.map_map]
        rfl
      have s1 := k1.trans s1
      have hl := s1 _ _ hl
      have hld := s1 _ _ hld
      have hsm := s1 _ _ hsm
      have gs := gs.same s1
      have x := x.same s1
      have tm := tm.same s1
      clear s1 k1 ft1 fl1 py1 sy1
      wtm_at "rd"
      refine ⟨l1, b1.map fun b => (b.1, b.2, f b.2), rfl, SqL.of (by rw [List.map_map]; exact hl1), (fun m hm => by
        obtain ⟨b, hb, rfl⟩ := List.mem_map.mp hm
        exact tb1 b hb), by rw [em1]; exact nm_dict gs.pm.symm ol fok, fun K1 r1 => ?_⟩
      rw [em1]
      have hl := r1 _ _ hl
      have hld := r1 _ _ hld
      have hsm := r1 _ _ hsm
      have gs := gs.same r1
      have x := x.same r1
      have tm := tm.same r1
      clear r1 hl1 tb1 e1 em1
      wtm_at "rd"
      refine ⟨st, ord, ns, f, rfl, gs.st, ol, fok, gs.ok.names.asc, gs.pm.symm, fun L1 r1 => ?_⟩
      have hl := r1 _ _ hl
      have hld := r1 _ _ hld
      have hsm := r1 _ _ hsm
      have gs := gs.same r1
      have x := x.same r1
      have tm := tm.same r1
      clear r1
      wtm_at "rd"
      rw [decide_eq_true rfl]
      wtm_at "rd"
      have okm : ∀ z ∈ ns, okM (z, f z) := fun z hz => ⟨nok z hz, gs.tri z hz⟩
      refine ⟨ns, f, rfl, by omega, gs.ok.names.asc, okm, fun d1 M1 r1 _ hd1 => ?_⟩
      have hl := r1 _ _ hl
      have hld := r1 _ _ hld
      have hsm := r1 _ _ hsm
      have gs := gs.same r1
      have x := x.same r1
      have tm := tm.same r1
      clear r1
      wtm_at "rd"
      refine ⟨d1, st, ns, ord, f, f, rfl, rfl, hd1, gs.st, gs.pm.length_eq.symm, (fun z hz => gs.pm.mem_iff.mpr hz), ?_⟩
      rw [show (ns.all fun z => decide (f z = f z)) = true from List.all_eq_true.mpr fun z _ => decide_eq_true rfl, Bool.not_true]
      clear hd1
      wtm_at "rd"
      have nmm : NmOk (ms.map (·.2)) := ⟨by rw [List.length_map]; omega, fun m hm => (mok m hm).l⟩
      refine ⟨l, ms, rfl, SqL.of hl, tm, nmm, fun N1 r1 => ?_⟩
      have hl := r1 _ _ hl
      have hld := r1 _ _ hld
      have hsm := r1 _ _ hsm
      have gs := gs.same r1
      have x := x.same r1
      have tm := tm.same r1
      clear r1
      wtm_at "rd"
      refine ⟨l, ms, rfl, SqL.of hl, tm, nmm, fun N2 r1 => ?_⟩
      have hl := r1 _ _ hl
      have hld := r1 _ _ hld
      have hsm := r1 _ _ hsm
      have gs := gs.same r1
      have x := x.same r1
      have tm := tm.same r1
      clear r1
      wtm_at "rd"
      rw [decide_eq_true rfl]
      wtm_at "rd"
      refine ⟨ms.map (·.2), rfl, by rw [List.length_map]; omega, mok, fun l2 ts N3 r1 _ hl2 tw2 et => ?_⟩
      have hl := r1 _ _ hl
      have hld := r1 _ _ hld
      have hsm := r1 _ _ hsm
      have gs := gs.same r1
      have x := x.same r1
      have tm := tm.same r1
      clear r1
      wtm_at "rd"
      have dm := dpA_mo (K := K) tw2
      rw [et] at dm
      refine rd_neNd (.lst (SqL.of hl2) dm) (.lst (SqL.of hl) (dpA_mo tm)) (by have := dep_mo (ms.map (·.2)); simp only [PyData.depth]; omega) ?_
      clear dm hl2 tw2 et
      wtm_at "rd"
      have lok : ∀ z ∈ ns, IsName z ∧ (lf z).natAbs < 10 ^ 60 := fun z hz => ⟨nok z hz, lb z hz⟩
      refine ⟨ld, ns, ns, lf, rfl, hld, by omega, lok, gs.ok.names.asc, List.Perm.refl _, fun N4 r1 => ?_⟩
      have hl := r1 _ _ hl
      have hld := r1 _ _ hld
      have hsm := r1 _ _ hsm
      have gs := gs.same r1
      have x := x.same r1
      have tm := tm.same r1
      clear r1
      wtm_at "rd"
      refine ⟨ld, ns, ns, lf, rfl, hld, by omega, lok, gs.ok.names.asc, List.Perm.refl _, fun N5 r1 => ?_⟩
      have hl := r1 _ _ hl
      have hld := r1 _ _ hld
      have hsm := r1 _ _ hsm
      have gs := gs.same r1
      have x := x.same r1
      have tm := tm.same r1
      clear r1
      wtm_at "rd"
      rw [decide_eq_true rfl]
      wtm_at "rd"
      refine ⟨ns, lf, rfl, by omega, gs.ok.names.asc, lok, fun d1 N6 r1 _ hd1 => ?_⟩
      have hl := r1 _ _ hl
      have hld := r1 _ _ hld
      have hsm := r1 _ _ hsm
      have gs := gs.same r1
      have x := x.same r1
      have tm := tm.same r1
      clear r1
      wtm_at "rd"
      refine ⟨d1, ld, ns, ns, lf, lf, rfl, rfl, hd1, hld, rfl, (fun z hz => hz), ?_⟩
      rw [show (ns.all fun z => decide (lf z = lf z)) = true from List.all_eq_true.mpr fun z _ => decide_eq_true rfl, Bool.not_true]
      clear hd1
      wtm_at "rd"
      have wdy : WdsOk ys := ⟨by omega, fun z hz => wd_name (yok z hz)⟩
      refine ⟨sm, ys, rfl, .inl (SqL.of hsm), wdy, fun N7 r1 => ?_⟩
      have hl := r1 _ _ hl
      have hld := r1 _ _ hld
      have hsm := r1 _ _ hsm
      have gs := gs.same r1
      have x := x.same r1
      have tm := tm.same r1
      clear r1
      wtm_at "rd"
      refine ⟨sm, ys, rfl, SqL.of hsm, wdy, fun N8 r1 => ?_⟩
      have hl := r1 _ _ hl
      have hld := r1 _ _ hld
      have hsm := r1 _ _ hsm
      have gs := gs.same r1
      have x := x.same r1
      have tm := tm.same r1
      clear r1
      wtm_at "rd"
      rw [decide_eq_true rfl]
      wtm_at "rd"
      refine rd_tupleL (SqL.of hsm) ?_
      intro tt ftt
      have ktt := Same.new (o := .tup (ys.map V.str)) ftt
      have htt := @upd_same N8 tt (.tup (ys.map V.str))
      have hl := ktt _ _ hl
      have hld := ktt _ _ hld
      have hsm := ktt _ _ hsm
      have gs := gs.same ktt
      have x := x.same ktt
      have tm := tm.same ktt
      generalize upd N8 tt (.tup (ys.map V.str)) = N9 at htt hl hld hsm gs x tm
      clear ktt ftt
      refine ⟨tt, ys, rfl, .inr (SqT.of htt), wdy, fun O1 r1 => ?_⟩
      have hl := r1 _ _ hl
      have hld := r1 _ _ hld
      have hsm := r1 _ _ hsm
      have gs := gs.same r1
      have x := x.same r1
      have tm := tm.same r1
      clear r1 htt
      wtm_at "rd"
      refine ⟨sm, ys, rfl, SqL.of hsm, wdy, fun O2 r1 => ?_⟩
      have hl := r1 _ _ hl
      have hld := r1 _ _ hld
      have hsm := r1 _ _ hsm
      have gs := gs.same r1
      have x := x.same r1
      have tm := tm.same r1
      clear r1
      wtm_at "rd"
      rw [decide_eq_true rfl]
      wtm_at "rd"
      refine ⟨sm, ys, rfl, SqL.of hsm, wdy, fun O3 r1 => ?_⟩
      have hl := r1 _ _ hl
      have hld := r1 _ _ hld
      have hsm := r1 _ _ hsm
      have gs := gs.same r1
      have x := x.same r1
      have tm := tm.same r1
      clear r1
      wtm_at "rd"
      refine ⟨ys, rfl, by omega, yok, fun l3 O4 r1 _ hl3 => ?_⟩
      have hl := r1 _ _ hl
      have hld := r1 _ _ hld
      have hsm := r1 _ _ hsm
      have gs := gs.same r1
      have x := x.same r1
      have tm := tm.same r1
      clear r1
      wtm_at "rd"
      refine rd_neNd (.lst (SqL.of hl3) (dpA_sE ys)) (.lst (SqL.of hsm) (dpA_sE ys)) (by have := dep_s ys; simp only [PyData.depth]; omega) ?_
      clear hl3
      wtm_at "rd"
      refine ⟨l, ms, rfl, SqL.of hl, tm, nmm, fun O5 r1 => ?_⟩
      have hl := r1 _ _ hl
      have hld := r1 _ _ hld
      have hsm := r1 _ _ hsm
      have gs := gs.same r1
      have x := x.same r1
      have tm := tm.same r1
      clear r1
      wtm_at "rd"
      refine ⟨ms.map (·.2), rfl, by rw [List.length_map]; omega, mok, fun l2 ts O6 r1 nl2 hl2 tw2 et => ?_⟩
      wtm_at "rd"
      refine rd_tyL hl2 ?_
      wtm_at "rd"
      have tsl : ts.length ≤ 1000 := by
        have := congrArg List.length et
        rw [List.length_map, List.length_map] at this
        omega
      refine rd_append hl2 (by rw [List.length_map]; omega) ?_
      have r1 := same_put (o := .lst (ts.map (fun t => V.ref t.1) ++ [.non])) r1 nl2
      generalize upd O6 l2 (.lst (ts.map (fun t => V.ref t.1) ++ [.non])) = O7 at *
      have gs := gs.same r1
      have x := x.same r1
      clear r1 hl2 tw2 et
      wtm_at "rd"
      refine rd_tyD gs.st ?_
      refine ⟨st, _, rfl, rfl, gs.st, fun t2 ft2 => ?_⟩
      have k2 := Same.new (o := L2.DX.itemsO t2 st) ft2
      wtm_at "rd"
      refine ⟨t2, st, ord, f, rfl, upd_same, k2 _ _ gs.st, fun H2 l2 b2 s2 fl2 hl2 tb2 py2 sy2 => ?_⟩
      have e2 := sorted_pairs gs.ok.names.asc gs.pm.symm py2 sy2
      have em2 : (b2.map fun b => (b.1, b.2, f b.2)).map (·.2) = ns.map fun z => (z, f z) := by
        rw [List.map_map, ← e2, List.map_map]
        rfl
      have s2 := k2.trans s2
      have gs := gs.same s2
      have x := x.same s2
      clear s2 k2 ft2 fl2 py2 sy2
      wtm_at "rd"
      refine ⟨l2, b2.map fun b => (b.1, b.2, f b.2), rfl, SqL.of (by rw [List.map_map]; exact hl2), (fun m hm => by
        obtain ⟨b, hb, rfl⟩ := List.mem_map.mp hm
        exact tb2 b hb), by rw [em2]; exact nm_dict gs.pm.symm ol fok, fun K2 r2 => ?_⟩
      rw [em2]
      have gs := gs.same r2
      have x := x.same r2
      clear r2 hl2 tb2 e2 em2
      wtm_at "rd"
      refine ⟨ns, f, rfl, by omega, gs.ok.names.asc, okm, fun d1 M1 r1 nd1 hd1 => ?_⟩
      wtm_at "rd"
      refine rd_tyD hd1 ?_
      refine rd_clr hd1 ?_
      have r1 := same_put (o := .dK []) r1 nd1
      have x := x.same r1
      wtm_at "rd"
      exact ⟨⟨_, rfl, rfl⟩, keep x, x.tabs⟩
    · rintro σ H2 ⟨⟨us, lu, rfl⟩, x2, tb2⟩
      wtm_at "rd"
      exact q _
end
end Law

/-! the law's own head, one table of code objects tracked -/
namespace U
open PySem PySem.Spec PyProof.Rows L2 LamX
theorem law_GT {P : Program} {w : World} {K : PySem.W.Frag} {mg mb : Str → Option Value} {k : Nat} {fa a c T : Addr} {fd : FuncData} {x : Str} {sp : Sp} {s₁ : Shared} {vs : List Value} {ns : List Int}
    (KX : K.In s₁.heap) (hns : s₁.heap.Ns mainGlobals mg) (hb : s₁.heap.Ns builtinsNs mb) (hbb : ∀ x : Str, x ≠ "__name__" → mb x = bootBuiltins x) (hlim : s₁.heap.NoLimit) (hg : s₁.gens = #[])
    (hT : s₁.heap.get? T = some { cls := .none, data := .fields #[] }) (nT : K.lookup T = none) (CH : PySem.W.CodeHd s₁.heap c T)
    (hbm : ∃ (bm : Addr) (ob : Obj), mg "__builtins__" = some (.ref bm) ∧ bm ≠ builtinsNs ∧ s₁.heap.get? bm = some ob ∧ ob.cls = .type "module" ∧ ob.dict = some builtinsNs ∧ ob.data = .plain)
    (ha : s₁.heap.get? a = some { cls := .type "list", data := .seq vs.toArray }) (hi : IntsAre vs ns) (hl : ns.length ≤ sizeLine) (hr : Room k callerA)
    (F : ∀ base : Heap, K.In base → base.Ns mainGlobals mg → TabB base mg c T → FnG P w K mg base CX0 k fa fd [x] sp) (hbind : ∀ (s : Shared) (u : Value), BindsTo s fd ⟨[u], []⟩ [(x, u)])
    (hsp : ∀ H : Hp, H T = some (.tbl #[]) → SqL K H a (ns.map V.int) → sp [.ref a] H (fun v _ => v = .bl true) fun _ _ _ => False) :
    codeAny (model P w) callerA (.call (.ref fa) ⟨[.ref a], []⟩) (fun r s' => r = .ok (.ret (.bool true)) ∧ OldK s₁.heap s'.heap ∧ s'.os = s₁.os ∧ AllBare s'.gens) s₁ := by
  have rv := vals_ints hi
  have lenV := hi.length
  have aT : a ≠ T := fun z => by
    rw [z, hT] at ha
    have := congrArg Obj.data (Option.some.inj ha)
    cases this
  have main : ∀ H : Hp, H T = some (.tbl #[]) → (∀ b, H b = none ∨ b = T ∨ ∃ o xs, H b = some (.frz o (.lst xs))) → SqL K H a (ns.map V.int) → HOk P w H s₁.heap → (∀ b, H b ≠ none → b = a ∨ b = T) → (H a ≠ none → K.lookup a = none) →
      codeAny (model P w) callerA (.call (.ref fa) ⟨[.ref a], []⟩) (fun r s' => r = .ok (.ret (.bool true)) ∧ OldK s₁.heap s'.heap ∧ s'.os = s₁.os ∧ AllBare s'.gens) s₁ := by
    intro H hH only seq ok two own
    have unseen : ∀ {b : Addr} {o : Obj}, s₁.heap.get? b = some o → (∀ vs n, o.data ≠ .seq vs n) → o.data ≠ .fields #[] → H b = none := by
      intro b o e d1 d2
      cases q : H b with
      | none => rfl
      | some u =>
        rcases two b (by rw [q]; simp) with rfl | rfl
        · obtain rfl := Option.some.inj (ha.symm.trans e)
          exact (d1 _ _ rfl).elim
        · obtain rfl := Option.some.inj (hT.symm.trans e)
          exact (d2 rfl).elim
    have stays : ∀ {b : Addr} {m : Str → Option Value}, s₁.heap.Ns b m → (hidT s₁.heap H).Ns b m := by
      rintro b m ⟨o, es, ep, e, d, r⟩
      exact ⟨o, es, ep, hidT_get e (unseen e (fun _ _ z => by rw [d] at z; cases z) fun z => by rw [d] at z; cases z), d, r⟩
    have kin : K.In (hidT s₁.heap H) := by
      intro b o e
      refine hidT_get (KX b o e) ?_
      cases q : H b with
      | none => rfl
      | some u =>
        rcases two b (by rw [q]; simp) with rfl | rfl
        · rw [own (by rw [q]; simp)] at e
          cases e
        · rw [nT] at e
          cases e
    have md : Mod K mg (hidT s₁.heap H) := ⟨kin, stays hns, ⟨mb, stays hb, hbb⟩, by
      obtain ⟨mc, h1, h2⟩ := hlim
      exact ⟨mc, stays h1, h2⟩⟩
    have tab : TabB (hidT s₁.heap H) mg c T := by
      refine ⟨?_, ?_, fun z => ?_⟩
      · obtain ⟨o, us, file, tf, flags, tg, inF, text, tt, e1, r1, r2, r3, r4, r5, r6, r7, r8, r9⟩ := CH
        refine ⟨o, us, file, tf, flags, tg, inF, text, tt, hidT_get e1 (unseen e1 (fun _ _ z => by rw [r2] at z; cases z) fun z => ?_), r1, r2, r3, r4, r5, r6, r7, r8, r9⟩
        rw [r2] at z
        obtain rfl := Data.fields.inj z
        simp at r3
      · obtain ⟨bm, ob, b1, b2, b3, b4, b5, b6⟩ := hbm
        refine ⟨bm, ob, b1, b2, fun z => ?_, fun z => ?_, hidT_get b3 (unseen b3 (fun _ _ z => by rw [b6] at z; cases z) fun z => by rw [b6] at z; cases z), b4, b5, b6⟩
        · obtain ⟨o, es, ep, e, hd, _⟩ := hns
          rw [z, e] at b3
          obtain rfl := Option.some.inj b3
          rw [hd] at b6
          cases b6
        · rw [z, hT] at b3
          obtain rfl := Option.some.inj b3
          cases b6
      · obtain ⟨o, es, ep, e, hd, _⟩ := hns
        rw [z, hT] at e
        obtain rfl := Option.some.inj e
        cases hd
    have e0 : Env0 P w K mg (hidT s₁.heap H) callerA [] s₁ H := ⟨rfl, md, fun b o e => of_hidT e, Nat.le_of_eq (hidT_size _ _), trivial, fun b z => (List.not_mem_nil z).elim, ok, .of_eq hg⟩
    refine codeAny_mono ((F _ kin (stays hns) tab).go callerA [] s₁ H ⟨[.ref a], []⟩ [.ref a] [.ref a] _ _ ⟨hr, rfl⟩ e0 (hbind s₁ (.ref a)) (.cons rfl .nil) (hsp H hH seq)) ?_
    intro r s' h
    cases r with
    | error e => exact h.elim
    | ok fl =>
      cases fl with
      | next => exact h.elim
      | brk => exact h.elim
      | cont => exact h.elim
      | ret u =>
        obtain ⟨v, H', os, bare, un, ok', r', q⟩ := h
        have q' : v = .bl true := q
        subst q'
        obtain rfl : u = Value.bool true := r'
        have key : ∀ b o, b ≠ T → s₁.heap.get? b = some o → s'.heap.get? b = some o := by
          intro b o nb e
          cases q : H b with
          | none => exact un.keep b o e q (fun z => (List.not_mem_nil z).elim) (fun z => (List.not_mem_nil z).elim)
          | some u =>
            rcases only b with z | z | ⟨ob, xs, z⟩
            · rw [q] at z; cases z
            · exact (nb z).elim
            · obtain ⟨e1, _⟩ := ok b _ z
              obtain ⟨e2, _⟩ := ok' b _ (un.frzs b ob _ z)
              exact (Option.some.inj (e1.symm.trans e)) ▸ e2
        obtain ⟨more, z⟩ := un.tbls T #[] hH
        have grown := ok' T _ z
        refine ⟨rfl, ⟨fun b o e => ?_, fun b o e => ?_⟩, os, bare⟩
        · by_cases hb : b = T
          · subst hb
            obtain rfl := Option.some.inj (hT.symm.trans e)
            exact .inr (.inl ⟨(CH.tab hT).isCodeTable, rfl, #[], _, rfl, grown⟩)
          · exact .inl (key b o hb e)
        · by_cases hb : b = T
          · subst hb
            exact ⟨_, grown⟩
          · exact ⟨o, key b o hb e⟩
  cases hk : K.lookup a with
  | some o =>
    obtain rfl := Option.some.inj (ha.symm.trans (KX a o hk))
    refine main (fun b => if b = T then some (.tbl #[]) else none) (if_pos rfl) (fun b => ?_) (.inr ⟨_, vs.toArray, _, hk, rfl, rfl, rfl, ?_, by simpa using rv⟩) (fun b u z => ?_) (fun b z => ?_) fun z => (z (if_neg aT)).elim
    · by_cases e : b = T
      · exact .inr (.inl e)
      · exact .inl (if_neg e)
    · rw [List.size_toArray, lenV]
      exact hl
    · by_cases e : b = T
      · subst e
        obtain rfl := Option.some.inj ((if_pos rfl).symm.trans z)
        exact hT
      · exact nomatch (if_neg e).symm.trans z
    · by_cases e : b = T
      · exact .inr e
      · exact absurd (if_neg e) z
  | none =>
    refine main (fun b => if b = a then some (.frz { cls := .type "list", data := .seq vs.toArray } (.lst (ns.map V.int))) else if b = T then some (.tbl #[]) else none) ((if_neg aT.symm).trans (if_pos rfl)) (fun b => ?_) (.inl (.inr ⟨_, if_pos rfl⟩)) (fun b u z => ?_) (fun b z => ?_) fun _ => hk
    · by_cases hb : b = a
      · exact .inr (.inr ⟨_, _, if_pos hb⟩)
      · by_cases e : b = T
        · exact .inr (.inl e)
        · exact .inl ((if_neg hb).trans (if_neg e))
    · by_cases hb : b = a
      · subst hb
        obtain rfl := Option.some.inj ((if_pos rfl).symm.trans z)
        exact ⟨ha, by rw [List.length_map]; exact hl, vs, _, rv, ha⟩
      · by_cases e : b = T
        · subst e
          obtain rfl := Option.some.inj (((if_neg hb).trans (if_pos rfl)).symm.trans z)
          exact hT
        · exact nomatch ((if_neg hb).trans (if_neg e)).symm.trans z
    · by_cases hb : b = a
      · exact .inl hb
      · by_cases e : b = T
        · exact .inr e
        · exact absurd ((if_neg hb).trans (if_neg e)) z
/-- the same, the table told by the fragment -/
theorem walk_GY {l : PySem.W.OpenLaw} {n k : Nat} {q : Program} {loose : List Str} {XP : (Str → Option Value) → Heap → Prop} {YP : World → Heap → Prop} {d dy : DefRec} {K : Params → PySem.W.Frag} {sp : PySem.W.Frag → Addr → Sp} {x y : Str}
    (hn : l.most = some n) (hn2 : n ≤ sizeLine) (hdf : d.params.defaults = []) (hr : Room k callerA) (hrec : (recsOf q).find? (fun e => e.name == y) = some dy)
    (hY : ∀ (w : World) (h : Heap), YP w h → (K w.params).In h)
    (F : ∀ (w : World) (mg : Str → Option Value) (fa : Addr) (h : Heap), (K w.params).In h → h.Ns mainGlobals mg → mg d.name = some (.ref fa) →
      ∃ (fd : FuncData) (c T : Addr), PySem.W.tabIn (K w.params) y = some (c, T) ∧ (K w.params).lookup T = none ∧ (∀ (s : Shared) (u : Value), BindsTo s fd ⟨[u], []⟩ [(x, u)]) ∧
        ∀ base : Heap, (K w.params).In base → base.Ns mainGlobals mg → TabB base mg c T → FnG l.prog w (K w.params) mg base CX0 k fa fd [x] (sp (K w.params) T))
    (hsp : ∀ (K : PySem.W.Frag) (T : Addr) (H : Hp) (a : Addr) (ns : List Int), ns.length ≤ n → H T = some (.tbl #[]) → SqL K H a (ns.map V.int) → sp K T [.ref a] H (fun v _ => v = .bl true) fun _ _ _ => False) :
    PySem.W.WalkO q loose XP YP l.row.toRowW d [] (fun f vs => PySem.call f vs) := by
  refine Att.attach_callB hn hdf ?_
  intro w s₀ s₁ mg mb fa o pm cd doc a vs ns G Y ho hd hcd hmg hobj hints hlen bits hg
  obtain ⟨fd, c, T, hin, nT, hb, hF⟩ := F w mg fa _ (hY w _ Y) G.T.g hmg
  obtain ⟨CH, hT⟩ := PySem.W.tab_of G.T (hY w _ Y) hrec hin
  exact law_GT (hY w _ Y) G.T.g G.T.b G.T.builtins G.T.nolimit hg hT nT CH G.T.bmain hobj hints (Nat.le_trans hlen hn2) hr hF hb fun H h1 seq => hsp _ T H a ns hlen h1 seq
end U
namespace U
open PySem PySem.Spec PyProof.Rows L2
theorem tab_mk {K : PySem.W.Frag} {x : Str} {f c T : Addr} {oc oc2 : Value} {od od2 : Option Addr} {fd : FuncData} {sl sl2 : Array (Option Value)} {vs : Array Value} (h1 : PySem.W.nsIn K mainGlobals x = some (some (.ref f))) (h2 : K.lookup f = some ⟨oc, od, .func fd, sl⟩) (h3 : fd.code = .ref c)
    (h4 : K.lookup c = some ⟨oc2, od2, .fields vs, sl2⟩) (h5 : (vs[11]? : Option Value) = some (.ref T)) : PySem.W.tabIn K x = some (c, T) := by
  unfold PySem.W.tabIn
  rw [h1]
  simp only
  rw [h2]
  simp only
  rw [h3]
  simp only
  rw [h4]
  simp only
  rw [h5]
end U

end
namespace Law
open PySem PySem.Spec PyProof.Rows L2 U LamX
theorem all_mk {l : PySem.W.OpenLaw} {w : World} {K : PySem.W.Frag} {h : Heap} {mg : Str → Option Value} {fa : Addr} (X : K.In h) (G : h.Ns mainGlobals mg) (hfa : mg "law" = some (.ref fa))
    {od0 an0 : Option Addr} {sl0 : Array (Option Value)} {f0 : Addr} {oc0 kV0 dc0 pm0 cd0 ct0 : Value}
    {od1 an1 : Option Addr} {sl1 : Array (Option Value)} {f1 : Addr} {oc1 kV1 dc1 pm1 cd1 ct1 : Value}
    {od2 an2 : Option Addr} {sl2 : Array (Option Value)} {f2 : Addr} {oc2 kV2 dc2 pm2 cd2 ct2 : Value}
    {od3 an3 : Option Addr} {sl3 : Array (Option Value)} {f3 : Addr} {oc3 kV3 dc3 pm3 ct3 : Value} {C0 T0 : Addr} {ocC : Value} {odC : Option Addr} {vsC : Array Value} {slC : Array (Option Value)}
    {od4 an4 : Option Addr} {sl4 : Array (Option Value)} {f4 : Addr} {oc4 kV4 dc4 pm4 cd4 ct4 : Value}
    {od5 an5 : Option Addr} {sl5 : Array (Option Value)} {f5 : Addr} {oc5 kV5 dc5 pm5 cd5 ct5 : Value}
    {od6 an6 : Option Addr} {sl6 : Array (Option Value)} {f6 : Addr} {oc6 kV6 dc6 pm6 cd6 ct6 : Value}
    {od7 an7 : Option Addr} {sl7 : Array (Option Value)} {f7 : Addr} {oc7 kV7 dc7 pm7 cd7 ct7 : Value}
    {od8 an8 : Option Addr} {sl8 : Array (Option Value)} {f8 : Addr} {oc8 kV8 dc8 pm8 cd8 ct8 : Value}
    {od9 an9 : Option Addr} {sl9 : Array (Option Value)} {f9 : Addr} {oc9 kV9 dc9 pm9 cd9 ct9 : Value}
    {od10 an10 : Option Addr} {sl10 : Array (Option Value)} {f10 : Addr} {oc10 kV10 dc10 pm10 cd10 ct10 : Value}
    {od11 an11 : Option Addr} {sl11 : Array (Option Value)} {f11 : Addr} {oc11 kV11 dc11 pm11 cd11 ct11 : Value}
    {od12 an12 : Option Addr} {sl12 : Array (Option Value)} {f12 : Addr} {oc12 kV12 dc12 pm12 cd12 ct12 : Value}
    {od13 an13 : Option Addr} {sl13 : Array (Option Value)} {f13 : Addr} {oc13 kV13 dc13 pm13 cd13 ct13 : Value}
    {od14 an14 : Option Addr} {sl14 : Array (Option Value)} {f14 : Addr} {oc14 kV14 dc14 pm14 cd14 ct14 : Value}
    {od15 an15 : Option Addr} {sl15 : Array (Option Value)} {f15 : Addr} {oc15 kV15 dc15 pm15 cd15 ct15 : Value}
    {TP15 : Addr} {odP15 : Option Addr} {nP15 : Nat} {slP15 : Array (Option Value)} {tp15 : Tok}
    {od16 an16 : Option Addr} {sl16 : Array (Option Value)} {f16 : Addr} {oc16 kV16 dc16 pm16 cd16 ct16 : Value}
    {od17 an17 : Option Addr} {sl17 : Array (Option Value)} {f17 : Addr} {oc17 kV17 dc17 pm17 cd17 ct17 : Value}
    {od18 an18 : Option Addr} {sl18 : Array (Option Value)} {f18 : Addr} {oc18 kV18 dc18 pm18 cd18 ct18 : Value}
    {od19 an19 : Option Addr} {sl19 : Array (Option Value)} {f19 : Addr} {oc19 kV19 dc19 pm19 cd19 ct19 : Value}
    {od20 an20 : Option Addr} {sl20 : Array (Option Value)} {f20 : Addr} {oc20 kV20 dc20 pm20 cd20 ct20 : Value}
    {od21 an21 : Option Addr} {sl21 : Array (Option Value)} {f21 : Addr} {oc21 kV21 dc21 pm21 cd21 ct21 : Value}
    {od22 an22 : Option Addr} {sl22 : Array (Option Value)} {f22 : Addr} {oc22 kV22 dc22 pm22 cd22 ct22 : Value}
    {od23 an23 : Option Addr} {sl23 : Array (Option Value)} {f23 : Addr} {oc23 kV23 dc23 pm23 cd23 ct23 : Value}
    {od24 an24 : Option Addr} {sl24 : Array (Option Value)} {f24 : Addr} {oc24 kV24 dc24 pm24 cd24 ct24 : Value}
    {od25 an25 : Option Addr} {sl25 : Array (Option Value)} {f25 : Addr} {oc25 kV25 dc25 pm25 cd25 ct25 : Value}
    {od26 an26 : Option Addr} {sl26 : Array (Option Value)} {f26 : Addr} {oc26 kV26 dc26 pm26 cd26 ct26 : Value}
    {od27 an27 : Option Addr} {sl27 : Array (Option Value)} {f27 : Addr} {oc27 kV27 dc27 pm27 cd27 ct27 : Value}
    {od28 an28 : Option Addr} {sl28 : Array (Option Value)} {f28 : Addr} {oc28 kV28 dc28 pm28 cd28 ct28 : Value}
    {od29 an29 : Option Addr} {sl29 : Array (Option Value)} {f29 : Addr} {oc29 kV29 dc29 pm29 cd29 ct29 : Value}
    {od30 an30 : Option Addr} {sl30 : Array (Option Value)} {f30 : Addr} {oc30 kV30 dc30 pm30 cd30 ct30 : Value}
    {od31 an31 : Option Addr} {sl31 : Array (Option Value)} {f31 : Addr} {oc31 kV31 dc31 pm31 cd31 ct31 : Value}
    {od32 an32 : Option Addr} {sl32 : Array (Option Value)} {f32 : Addr} {oc32 kV32 dc32 pm32 cd32 ct32 : Value}
    {od33 an33 : Option Addr} {sl33 : Array (Option Value)} {f33 : Addr} {oc33 kV33 dc33 pm33 cd33 ct33 : Value}
    {od34 an34 : Option Addr} {sl34 : Array (Option Value)} {f34 : Addr} {oc34 kV34 dc34 pm34 cd34 ct34 : Value}
    {od35 an35 : Option Addr} {sl35 : Array (Option Value)} {f35 : Addr} {oc35 kV35 dc35 pm35 cd35 ct35 : Value}
    {od36 an36 : Option Addr} {sl36 : Array (Option Value)} {f36 : Addr} {oc36 kV36 dc36 pm36 cd36 ct36 : Value}
    {od37 an37 : Option Addr} {sl37 : Array (Option Value)} {f37 : Addr} {oc37 kV37 dc37 pm37 cd37 ct37 : Value}
    {tk0 : Tok}
    {tk1 : Tok}
    {tk2 : Tok}
    {tk3 : Tok}
    {tk4 : Tok}
    {tk5 : Tok}
    {tk6 : Tok}
    {va : Addr} {odV : Option Addr} {nV : Nat} {slV : Array (Option Value)} {q0 q1 q2 : Tok}
    {CB : Addr}
    {CE0 fE0 : Addr} {nmE0 qE0 : Str} {NE0 : Addr} {bsE0 : List Value} {snE0 : List Str} {subE0 : List Value} {abE0 : Bool} {colE0 : Option Bool} {ddE0 : Option Addr} {mA0 mB0 mC0 mD0 mE0 : Option Value} {odE0 anE0 : Option Addr} {slE0 : Array (Option Value)} {ocE0 kVE0 dcE0 pmE0 cdE0 ctE0 : Value}
    (a0 : PySem.W.nsIn K mainGlobals "is_node" = some (some (.ref f0))) (l0 : K.lookup f0 = some ⟨oc0, od0, .func (PySem.W.fnOf "is_node" "is_node" (defArgs s_is_node) (defBody s_is_node) (defScope s_is_node) .none kV0 dc0 pm0 an0 cd0 ct0), sl0⟩) (c0 : PySem.W.codeIn K cd0 "is_node" = true) (k0 : PySem.W.keepIn K (.ref f0) = true)
    (a1 : PySem.W.nsIn K mainGlobals "first_invalid" = some (some (.ref f1))) (l1 : K.lookup f1 = some ⟨oc1, od1, .func (PySem.W.fnOf "first_invalid" "first_invalid" (defArgs s_first_invalid) (defBody s_first_invalid) (defScope s_first_invalid) .none kV1 dc1 pm1 an1 cd1 ct1), sl1⟩) (c1 : PySem.W.codeIn K cd1 "first_invalid" = true) (k1 : PySem.W.keepIn K (.ref f1) = true)
    (a2 : PySem.W.nsIn K mainGlobals "check_part" = some (some (.ref f2))) (l2 : K.lookup f2 = some ⟨oc2, od2, .func (PySem.W.fnOf "check_part" "check_part" (defArgs s_check_part) (defBody s_check_part) (defScope s_check_part) .none kV2 dc2 pm2 an2 cd2 ct2), sl2⟩) (c2 : PySem.W.codeIn K cd2 "check_part" = true) (k2 : PySem.W.keepIn K (.ref f2) = true)
    (a3 : PySem.W.nsIn K mainGlobals "check_graph" = some (some (.ref f3))) (l3 : K.lookup f3 = some ⟨oc3, od3, .func (PySem.W.fnOf "check_graph" "check_graph" (defArgs s_check_graph) (defBody s_check_graph) (defScope s_check_graph) .none kV3 dc3 pm3 an3 (.ref C0) ct3), sl3⟩) (c3 : PySem.W.codeIn K (.ref C0) "check_graph" = true) (k3 : PySem.W.keepIn K (.ref f3) = true) (tl0 : K.lookup C0 = some ⟨ocC, odC, .fields vsC, slC⟩) (tl1 : (vsC[11]? : Option Value) = some (.ref T0)) (ty1 : K.lookup T0 = none)
    (a4 : PySem.W.nsIn K mainGlobals "join_words" = some (some (.ref f4))) (l4 : K.lookup f4 = some ⟨oc4, od4, .func (PySem.W.fnOf "join_words" "join_words" (defArgs s_join_words) (defBody s_join_words) (defScope s_join_words) .none kV4 dc4 pm4 an4 cd4 ct4), sl4⟩) (c4 : PySem.W.codeIn K cd4 "join_words" = true) (k4 : PySem.W.keepIn K (.ref f4) = true)
    (a5 : PySem.W.nsIn K mainGlobals "format_nodes" = some (some (.ref f5))) (l5 : K.lookup f5 = some ⟨oc5, od5, .func (PySem.W.fnOf "format_nodes" "format_nodes" (defArgs s_format_nodes) (defBody s_format_nodes) (defScope s_format_nodes) .none kV5 dc5 pm5 an5 cd5 ct5), sl5⟩) (c5 : PySem.W.codeIn K cd5 "format_nodes" = true) (k5 : PySem.W.keepIn K (.ref f5) = true)
    (a6 : PySem.W.nsIn K mainGlobals "format_graph" = some (some (.ref f6))) (l6 : K.lookup f6 = some ⟨oc6, od6, .func (PySem.W.fnOf "format_graph" "format_graph" (defArgs s_format_graph) (defBody s_format_graph) (defScope s_format_graph) .none kV6 dc6 pm6 an6 cd6 ct6), sl6⟩) (c6 : PySem.W.codeIn K cd6 "format_graph" = true) (k6 : PySem.W.keepIn K (.ref f6) = true)
    (a7 : PySem.W.nsIn K mainGlobals "format_moves" = some (some (.ref f7))) (l7 : K.lookup f7 = some ⟨oc7, od7, .func (PySem.W.fnOf "format_moves" "format_moves" (defArgs s_format_moves) (defBody s_format_moves) (defScope s_format_moves) .none kV7 dc7 pm7 an7 cd7 ct7), sl7⟩) (c7 : PySem.W.codeIn K cd7 "format_moves" = true) (k7 : PySem.W.keepIn K (.ref f7) = true)
    (a8 : PySem.W.nsIn K mainGlobals "format_state" = some (some (.ref f8))) (l8 : K.lookup f8 = some ⟨oc8, od8, .func (PySem.W.fnOf "format_state" "format_state" (defArgs s_format_state) (defBody s_format_state) (defScope s_format_state) .none kV8 dc8 pm8 an8 cd8 ct8), sl8⟩) (c8 : PySem.W.codeIn K cd8 "format_state" = true) (k8 : PySem.W.keepIn K (.ref f8) = true)
    (a9 : PySem.W.nsIn K mainGlobals "format_lift" = some (some (.ref f9))) (l9 : K.lookup f9 = some ⟨oc9, od9, .func (PySem.W.fnOf "format_lift" "format_lift" (defArgs s_format_lift) (defBody s_format_lift) (defScope s_format_lift) .none kV9 dc9 pm9 an9 cd9 ct9), sl9⟩) (c9 : PySem.W.codeIn K cd9 "format_lift" = true) (k9 : PySem.W.keepIn K (.ref f9) = true)
    (a10 : PySem.W.nsIn K mainGlobals "parse_node_word" = some (some (.ref f10))) (l10 : K.lookup f10 = some ⟨oc10, od10, .func (PySem.W.fnOf "parse_node_word" "parse_node_word" (defArgs s_parse_node_word) (defBody s_parse_node_word) (defScope s_parse_node_word) .none kV10 dc10 pm10 an10 cd10 ct10), sl10⟩) (c10 : PySem.W.codeIn K cd10 "parse_node_word" = true) (k10 : PySem.W.keepIn K (.ref f10) = true)
    (a11 : PySem.W.nsIn K mainGlobals "parse_edge_word" = some (some (.ref f11))) (l11 : K.lookup f11 = some ⟨oc11, od11, .func (PySem.W.fnOf "parse_edge_word" "parse_edge_word" (defArgs s_parse_edge_word) (defBody s_parse_edge_word) (defScope s_parse_edge_word) .none kV11 dc11 pm11 an11 cd11 ct11), sl11⟩) (c11 : PySem.W.codeIn K cd11 "parse_edge_word" = true) (k11 : PySem.W.keepIn K (.ref f11) = true)
    (a12 : PySem.W.nsIn K mainGlobals "parse_move_word" = some (some (.ref f12))) (l12 : K.lookup f12 = some ⟨oc12, od12, .func (PySem.W.fnOf "parse_move_word" "parse_move_word" (defArgs s_parse_move_word) (defBody s_parse_move_word) (defScope s_parse_move_word) .none kV12 dc12 pm12 an12 cd12 ct12), sl12⟩) (c12 : PySem.W.codeIn K cd12 "parse_move_word" = true) (k12 : PySem.W.keepIn K (.ref f12) = true)
    (a13 : PySem.W.nsIn K mainGlobals "is_digits" = some (some (.ref f13))) (l13 : K.lookup f13 = some ⟨oc13, od13, .func (PySem.W.fnOf "is_digits" "is_digits" (defArgs s_is_digits) (defBody s_is_digits) (defScope s_is_digits) .none kV13 dc13 pm13 an13 cd13 ct13), sl13⟩) (c13 : PySem.W.codeIn K cd13 "is_digits" = true) (k13 : PySem.W.keepIn K (.ref f13) = true)
    (a14 : PySem.W.nsIn K mainGlobals "parse_number_word" = some (some (.ref f14))) (l14 : K.lookup f14 = some ⟨oc14, od14, .func (PySem.W.fnOf "parse_number_word" "parse_number_word" (defArgs s_parse_number_word) (defBody s_parse_number_word) (defScope s_parse_number_word) .none kV14 dc14 pm14 an14 cd14 ct14), sl14⟩) (c14 : PySem.W.codeIn K cd14 "parse_number_word" = true) (k14 : PySem.W.keepIn K (.ref f14) = true)
    (a15 : PySem.W.nsIn K mainGlobals "parse_words" = some (some (.ref f15))) (l15 : K.lookup f15 = some ⟨oc15, od15, .func (PySem.W.fnOf "parse_words" "parse_words" (defArgs s_parse_words) (defBody s_parse_words) (defScope s_parse_words) (.ref TP15) kV15 dc15 pm15 an15 cd15 ct15), sl15⟩) (c15 : PySem.W.codeIn K cd15 "parse_words" = true) (k15 : PySem.W.keepIn K (.ref f15) = true)
    (dp15 : K.lookup TP15 = some ⟨.type "tuple", odP15, .seq #[.int 0 tp15] nP15, slP15⟩)
    (a16 : PySem.W.nsIn K mainGlobals "parse_nodes" = some (some (.ref f16))) (l16 : K.lookup f16 = some ⟨oc16, od16, .func (PySem.W.fnOf "parse_nodes" "parse_nodes" (defArgs s_parse_nodes) (defBody s_parse_nodes) (defScope s_parse_nodes) .none kV16 dc16 pm16 an16 cd16 ct16), sl16⟩) (c16 : PySem.W.codeIn K cd16 "parse_nodes" = true) (k16 : PySem.W.keepIn K (.ref f16) = true)
    (a17 : PySem.W.nsIn K mainGlobals "parse_moves" = some (some (.ref f17))) (l17 : K.lookup f17 = some ⟨oc17, od17, .func (PySem.W.fnOf "parse_moves" "parse_moves" (defArgs s_parse_moves) (defBody s_parse_moves) (defScope s_parse_moves) .none kV17 dc17 pm17 an17 cd17 ct17), sl17⟩) (c17 : PySem.W.codeIn K cd17 "parse_moves" = true) (k17 : PySem.W.keepIn K (.ref f17) = true)
    (a18 : PySem.W.nsIn K mainGlobals "ascending_dict" = some (some (.ref f18))) (l18 : K.lookup f18 = some ⟨oc18, od18, .func (PySem.W.fnOf "ascending_dict" "ascending_dict" (defArgs s_ascending_dict) (defBody s_ascending_dict) (defScope s_ascending_dict) .none kV18 dc18 pm18 an18 cd18 ct18), sl18⟩) (c18 : PySem.W.codeIn K cd18 "ascending_dict" = true) (k18 : PySem.W.keepIn K (.ref f18) = true)
    (a19 : PySem.W.nsIn K mainGlobals "parse_state" = some (some (.ref f19))) (l19 : K.lookup f19 = some ⟨oc19, od19, .func (PySem.W.fnOf "parse_state" "parse_state" (defArgs s_parse_state) (defBody s_parse_state) (defScope s_parse_state) .none kV19 dc19 pm19 an19 cd19 ct19), sl19⟩) (c19 : PySem.W.codeIn K cd19 "parse_state" = true) (k19 : PySem.W.keepIn K (.ref f19) = true)
    (a20 : PySem.W.nsIn K mainGlobals "parse_lift" = some (some (.ref f20))) (l20 : K.lookup f20 = some ⟨oc20, od20, .func (PySem.W.fnOf "parse_lift" "parse_lift" (defArgs s_parse_lift) (defBody s_parse_lift) (defScope s_parse_lift) .none kV20 dc20 pm20 an20 cd20 ct20), sl20⟩) (c20 : PySem.W.codeIn K cd20 "parse_lift" = true) (k20 : PySem.W.keepIn K (.ref f20) = true)
    (a21 : PySem.W.nsIn K mainGlobals "parse_graph" = some (some (.ref f21))) (l21 : K.lookup f21 = some ⟨oc21, od21, .func (PySem.W.fnOf "parse_graph" "parse_graph" (defArgs s_parse_graph) (defBody s_parse_graph) (defScope s_parse_graph) .none kV21 dc21 pm21 an21 cd21 ct21), sl21⟩) (c21 : PySem.W.codeIn K cd21 "parse_graph" = true) (k21 : PySem.W.keepIn K (.ref f21) = true)
    (a22 : PySem.W.nsIn K mainGlobals "_law_pool" = some (some (.ref f22))) (l22 : K.lookup f22 = some ⟨oc22, od22, .func (PySem.W.fnOf "_law_pool" "_law_pool" (defArgs s__law_pool) (defBody s__law_pool) (defScope s__law_pool) .none kV22 dc22 pm22 an22 cd22 ct22), sl22⟩) (c22 : PySem.W.codeIn K cd22 "_law_pool" = true) (k22 : PySem.W.keepIn K (.ref f22) = true)
    (a23 : PySem.W.nsIn K mainGlobals "_law_draw" = some (some (.ref f23))) (l23 : K.lookup f23 = some ⟨oc23, od23, .func (PySem.W.fnOf "_law_draw" "_law_draw" (defArgs s__law_draw) (defBody s__law_draw) (defScope s__law_draw) .none kV23 dc23 pm23 an23 cd23 ct23), sl23⟩) (c23 : PySem.W.codeIn K cd23 "_law_draw" = true) (k23 : PySem.W.keepIn K (.ref f23) = true)
    (a24 : PySem.W.nsIn K mainGlobals "_law_draw_names" = some (some (.ref f24))) (l24 : K.lookup f24 = some ⟨oc24, od24, .func (PySem.W.fnOf "_law_draw_names" "_law_draw_names" (defArgs s__law_draw_names) (defBody s__law_draw_names) (defScope s__law_draw_names) .none kV24 dc24 pm24 an24 cd24 ct24), sl24⟩) (c24 : PySem.W.codeIn K cd24 "_law_draw_names" = true) (k24 : PySem.W.keepIn K (.ref f24) = true)
    (a25 : PySem.W.nsIn K mainGlobals "_law_shuffle" = some (some (.ref f25))) (l25 : K.lookup f25 = some ⟨oc25, od25, .func (PySem.W.fnOf "_law_shuffle" "_law_shuffle" (defArgs s__law_shuffle) (defBody s__law_shuffle) (defScope s__law_shuffle) .none kV25 dc25 pm25 an25 cd25 ct25), sl25⟩) (c25 : PySem.W.codeIn K cd25 "_law_shuffle" = true) (k25 : PySem.W.keepIn K (.ref f25) = true)
    (a26 : PySem.W.nsIn K mainGlobals "_law_edge_of" = some (some (.ref f26))) (l26 : K.lookup f26 = some ⟨oc26, od26, .func (PySem.W.fnOf "_law_edge_of" "_law_edge_of" (defArgs s__law_edge_of) (defBody s__law_edge_of) (defScope s__law_edge_of) .none kV26 dc26 pm26 an26 cd26 ct26), sl26⟩) (c26 : PySem.W.codeIn K cd26 "_law_edge_of" = true) (k26 : PySem.W.keepIn K (.ref f26) = true)
    (a27 : PySem.W.nsIn K mainGlobals "_law_wants_edge" = some (some (.ref f27))) (l27 : K.lookup f27 = some ⟨oc27, od27, .func (PySem.W.fnOf "_law_wants_edge" "_law_wants_edge" (defArgs s__law_wants_edge) (defBody s__law_wants_edge) (defScope s__law_wants_edge) .none kV27 dc27 pm27 an27 cd27 ct27), sl27⟩) (c27 : PySem.W.codeIn K cd27 "_law_wants_edge" = true) (k27 : PySem.W.keepIn K (.ref f27) = true)
    (a28 : PySem.W.nsIn K mainGlobals "_law_draw_graph" = some (some (.ref f28))) (l28 : K.lookup f28 = some ⟨oc28, od28, .func (PySem.W.fnOf "_law_draw_graph" "_law_draw_graph" (defArgs s__law_draw_graph) (defBody s__law_draw_graph) (defScope s__law_draw_graph) .none kV28 dc28 pm28 an28 cd28 ct28), sl28⟩) (c28 : PySem.W.codeIn K cd28 "_law_draw_graph" = true) (k28 : PySem.W.keepIn K (.ref f28) = true)
    (a29 : PySem.W.nsIn K mainGlobals "_law_neighbors_of" = some (some (.ref f29))) (l29 : K.lookup f29 = some ⟨oc29, od29, .func (PySem.W.fnOf "_law_neighbors_of" "_law_neighbors_of" (defArgs s__law_neighbors_of) (defBody s__law_neighbors_of) (defScope s__law_neighbors_of) .none kV29 dc29 pm29 an29 cd29 ct29), sl29⟩) (c29 : PySem.W.codeIn K cd29 "_law_neighbors_of" = true) (k29 : PySem.W.keepIn K (.ref f29) = true)
    (a30 : PySem.W.nsIn K mainGlobals "_law_moves_of" = some (some (.ref f30))) (l30 : K.lookup f30 = some ⟨oc30, od30, .func (PySem.W.fnOf "_law_moves_of" "_law_moves_of" (defArgs s__law_moves_of) (defBody s__law_moves_of) (defScope s__law_moves_of) .none kV30 dc30 pm30 an30 cd30 ct30), sl30⟩) (c30 : PySem.W.codeIn K cd30 "_law_moves_of" = true) (k30 : PySem.W.keepIn K (.ref f30) = true)
    (a31 : PySem.W.nsIn K mainGlobals "_law_draw_moves" = some (some (.ref f31))) (l31 : K.lookup f31 = some ⟨oc31, od31, .func (PySem.W.fnOf "_law_draw_moves" "_law_draw_moves" (defArgs s__law_draw_moves) (defBody s__law_draw_moves) (defScope s__law_draw_moves) .none kV31 dc31 pm31 an31 cd31 ct31), sl31⟩) (c31 : PySem.W.codeIn K cd31 "_law_draw_moves" = true) (k31 : PySem.W.keepIn K (.ref f31) = true)
    (a32 : PySem.W.nsIn K mainGlobals "_law_join" = some (some (.ref f32))) (l32 : K.lookup f32 = some ⟨oc32, od32, .func (PySem.W.fnOf "_law_join" "_law_join" (defArgs s__law_join) (defBody s__law_join) (defScope s__law_join) .none kV32 dc32 pm32 an32 cd32 ct32), sl32⟩) (c32 : PySem.W.codeIn K cd32 "_law_join" = true) (k32 : PySem.W.keepIn K (.ref f32) = true)
    (a33 : PySem.W.nsIn K mainGlobals "_law_graph_text" = some (some (.ref f33))) (l33 : K.lookup f33 = some ⟨oc33, od33, .func (PySem.W.fnOf "_law_graph_text" "_law_graph_text" (defArgs s__law_graph_text) (defBody s__law_graph_text) (defScope s__law_graph_text) .none kV33 dc33 pm33 an33 cd33 ct33), sl33⟩) (c33 : PySem.W.codeIn K cd33 "_law_graph_text" = true) (k33 : PySem.W.keepIn K (.ref f33) = true)
    (a34 : PySem.W.nsIn K mainGlobals "_law_moves_text" = some (some (.ref f34))) (l34 : K.lookup f34 = some ⟨oc34, od34, .func (PySem.W.fnOf "_law_moves_text" "_law_moves_text" (defArgs s__law_moves_text) (defBody s__law_moves_text) (defScope s__law_moves_text) .none kV34 dc34 pm34 an34 cd34 ct34), sl34⟩) (c34 : PySem.W.codeIn K cd34 "_law_moves_text" = true) (k34 : PySem.W.keepIn K (.ref f34) = true)
    (a35 : PySem.W.nsIn K mainGlobals "_law_lift_text" = some (some (.ref f35))) (l35 : K.lookup f35 = some ⟨oc35, od35, .func (PySem.W.fnOf "_law_lift_text" "_law_lift_text" (defArgs s__law_lift_text) (defBody s__law_lift_text) (defScope s__law_lift_text) .none kV35 dc35 pm35 an35 cd35 ct35), sl35⟩) (c35 : PySem.W.codeIn K cd35 "_law_lift_text" = true) (k35 : PySem.W.keepIn K (.ref f35) = true)
    (a36 : PySem.W.nsIn K mainGlobals "_law_bound_holds" = some (some (.ref f36))) (l36 : K.lookup f36 = some ⟨oc36, od36, .func (PySem.W.fnOf "_law_bound_holds" "_law_bound_holds" (defArgs s__law_bound_holds) (defBody s__law_bound_holds) (defScope s__law_bound_holds) .none kV36 dc36 pm36 an36 cd36 ct36), sl36⟩) (c36 : PySem.W.codeIn K cd36 "_law_bound_holds" = true) (k36 : PySem.W.keepIn K (.ref f36) = true)
    (a37 : PySem.W.nsIn K mainGlobals "law" = some (some (.ref f37))) (l37 : K.lookup f37 = some ⟨oc37, od37, .func (PySem.W.fnOf "law" "law" (defArgs s_law) (defBody s_law) (defScope s_law) .none kV37 dc37 pm37 an37 cd37 ct37), sl37⟩) (c37 : PySem.W.codeIn K cd37 "law" = true) (k37 : PySem.W.keepIn K (.ref f37) = true)
    (z0 : PySem.W.nsIn K mainGlobals "len" = some none)
    (z1 : PySem.W.nsIn K mainGlobals "abs" = some none)
    (z2 : PySem.W.nsIn K mainGlobals "max" = some none)
    (z3 : PySem.W.nsIn K mainGlobals "min" = some none)
    (z4 : PySem.W.nsIn K mainGlobals "sorted" = some none)
    (z5 : PySem.W.nsIn K mainGlobals "isinstance" = some none)
    (z6 : PySem.W.nsIn K mainGlobals "int" = some none)
    (z7 : PySem.W.nsIn K mainGlobals "list" = some none)
    (z8 : PySem.W.nsIn K mainGlobals "tuple" = some none)
    (z9 : PySem.W.nsIn K mainGlobals "str" = some none)
    (z10 : PySem.W.nsIn K mainGlobals "range" = some none)
    (z11 : PySem.W.nsIn K mainGlobals "enumerate" = some none)
    (z12 : PySem.W.nsIn K mainGlobals "dict" = some none)
    (z13 : PySem.W.nsIn K mainGlobals "sum" = some none)
    (z14 : PySem.W.nsIn K mainGlobals "all" = some none)
    (z15 : PySem.W.nsIn K mainGlobals "any" = some none)
    (z16 : PySem.W.nsIn K mainGlobals "repr" = some none)
    (z17 : PySem.W.nsIn K mainGlobals "set" = some none)
    (z18 : PySem.W.nsIn K mainGlobals "zip" = some none)
    (z19 : PySem.W.nsIn K mainGlobals "reversed" = some none)
    (z20 : PySem.W.nsIn K mainGlobals "bool" = some none)
    (w0 : PySem.W.nsIn K mainGlobals "DIGITS" = some (some (.str "0123456789" tk0)))
    (w1 : PySem.W.nsIn K mainGlobals "EMPTY" = some (some (.str "." tk1)))
    (w2 : PySem.W.nsIn K mainGlobals "LETTERS" = some (some (.str "abcdefghijklmnopqrstuvwxyz" tk2)))
    (w3 : PySem.W.nsIn K mainGlobals "MAX_DIGITS" = some (some (.int 60 tk3)))
    (w4 : PySem.W.nsIn K mainGlobals "MAX_EDGES" = some (some (.int 120 tk4)))
    (w5 : PySem.W.nsIn K mainGlobals "MAX_NAME" = some (some (.int 8 tk5)))
    (w6 : PySem.W.nsIn K mainGlobals "MAX_NODES" = some (some (.int 40 tk6)))
    (v0 : PySem.W.nsIn K mainGlobals "VALUES" = some (some (.ref va))) (v1 : K.lookup va = some ⟨.type "tuple", odV, .seq #[.str "0" q0, .str "1" q1, .str "2" q2] nV, slV⟩)
    (y0 : PySem.W.nsIn K mainGlobals "InputError" = some (some (.ref CB))) (y1 : PySem.W.keepIn K (.ref CB) = true) (y2 : PySem.W.subIn K (.ref CB) (.type "BaseException") = some true) (y3 : PySem.W.typeIn K (.ref CB) = some (.type "type")) (y4 : PySem.W.isClsIn K CB = true)
    (y5 : PySem.W.specialIn K (.ref CB) "__getattribute__" = some (some (.builtin "type.__getattribute__"))) (y6 : PySem.W.readsIn K CB (.type "type") = true) (y7 : PySem.W.findCls K (.ref CB) (.type "type") "__init__" = some (.val (.builtin "ValueError.__init__")))
    (xa0 : PySem.W.nsIn K mainGlobals "InvalidGraph" = some (some (.ref CE0))) (xb0 : K.lookup CE0 = some (excClassObj nmE0 qE0 CE0 NE0 bsE0 [.ref CB, .type "ValueError", .type "Exception", .type "BaseException", .type "object"] true snE0 subE0 abE0 colE0 ddE0 mA0 mB0 mC0 mD0 mE0 "ValueError.__new__")) (xc0 : PySem.W.findIn K (.ref CE0) "__setattr__" = some (some (.builtin "object.__setattr__"))) (xd0 : PySem.W.findIn K (.ref CE0) "__getattribute__" = some (some (.builtin "BaseException.__getattribute__"))) (xe0 : PySem.W.findIn K (.ref CE0) "__getattr__" = some none) (xf0 : PySem.W.findIn K (.ref CE0) "part" = some none) (xg0 : PySem.W.findIn K (.ref CE0) "__init__" = some (some (.ref fE0))) (xh0 : PySem.W.typeIn K (.ref fE0) = some (.type "function")) (xi0 : K.lookup fE0 = some ⟨ocE0, odE0, .func (PySem.W.fnOf "__init__" "InvalidGraph.__init__" (defArgs s_InvalidGraph_init) (defBody s_InvalidGraph_init) (defScope s_InvalidGraph_init) .none kVE0 dcE0 pmE0 anE0 cdE0 ctE0), slE0⟩) (xj0 : PySem.W.codeIn K cdE0 "InvalidGraph.__init__" = true) (xk0 : PySem.W.keepIn K (.ref fE0) = true) (xl0 : PySem.W.keepIn K (.ref CE0) = true) (xm0 : PySem.W.subIn K (.ref CE0) (.type "BaseException") = some true) (xn0 : PySem.W.typeIn K (.ref CE0) = some (.type "type")) (xo0 : PySem.W.hasDictIn K CE0 = true) (xp0 : PySem.W.isClsIn K CE0 = true) (xq0 : PySem.W.subIn K (.ref CE0) (.ref CE0) = some true) (xr0 : PySem.W.subIn K (.ref CE0) (.ref CB) = some true)
    (xz0 : PySem.W.findIn K (.ref CE0) "position" = some none)
    (xu0 : PySem.W.findIn K (.ref CE0) "__class__" = some (some (.builtin "object.__class__"))) (xv0 : PySem.W.specialIn K (.builtin "object.__class__") "__get__" = some (some (.builtin "getset_descriptor.__get__"))) (xw0 : PySem.W.takesIn K (.builtin "object.__class__") = some true) (xx0 : PySem.W.mroIn K CE0 (.type "object") = some true) :
    ∃ (fd : FuncData) (c T : Addr), PySem.W.tabIn K "check_graph" = some (c, T) ∧ K.lookup T = none ∧ (∀ (s : Shared) (u : Value), BindsTo s fd ⟨[u], []⟩ [("_law_script", u)]) ∧ ∀ base : Heap, K.In base → base.Ns mainGlobals mg → TabB base mg c T → FnG l.prog w K mg base CX0 8 fa fd ["_law_script"] (spLaw K T) := by
  have e := hfa.symm.trans (PySem.W.mg_of X G a37)
  cases e
  have n_len := PySem.W.mg_none_of X G z0
  have n_abs := PySem.W.mg_none_of X G z1
  have n_max := PySem.W.mg_none_of X G z2
  have n_min := PySem.W.mg_none_of X G z3
  have n_sorted := PySem.W.mg_none_of X G z4
  have n_isinstance := PySem.W.mg_none_of X G z5
  have n_int := PySem.W.mg_none_of X G z6
  have n_list := PySem.W.mg_none_of X G z7
  have n_tuple := PySem.W.mg_none_of X G z8
  have n_str := PySem.W.mg_none_of X G z9
  have n_range := PySem.W.mg_none_of X G z10
  have n_enumerate := PySem.W.mg_none_of X G z11
  have n_dict := PySem.W.mg_none_of X G z12
  have n_sum := PySem.W.mg_none_of X G z13
  have n_all := PySem.W.mg_none_of X G z14
  have n_any := PySem.W.mg_none_of X G z15
  have n_repr := PySem.W.mg_none_of X G z16
  have n_set := PySem.W.mg_none_of X G z17
  have n_zip := PySem.W.mg_none_of X G z18
  have n_reversed := PySem.W.mg_none_of X G z19
  have n_bool := PySem.W.mg_none_of X G z20
  have B : Bt mg := { len := n_len, abs := n_abs, max := n_max, min := n_min, sorted := n_sorted, isinstance := n_isinstance, int := n_int, list := n_list, tuple := n_tuple, str := n_str, range := n_range, enumerate := n_enumerate, dict := n_dict, sum := n_sum, all := n_all, any := n_any, repr := n_repr, set := n_set, zip := n_zip, reversed := n_reversed }
  have g_DIGITS : ∃ u, mg "DIGITS" = some u ∧ RelV (.str "0123456789") u := ⟨_, PySem.W.mg_of X G w0, ⟨_, rfl⟩⟩
  have g_EMPTY : ∃ u, mg "EMPTY" = some u ∧ RelV (.str ".") u := ⟨_, PySem.W.mg_of X G w1, ⟨_, rfl⟩⟩
  have g_LETTERS : ∃ u, mg "LETTERS" = some u ∧ RelV (.str "abcdefghijklmnopqrstuvwxyz") u := ⟨_, PySem.W.mg_of X G w2, ⟨_, rfl⟩⟩
  have g_MAX_DIGITS : ∃ u, mg "MAX_DIGITS" = some u ∧ RelV (.int 60) u := ⟨_, PySem.W.mg_of X G w3, ⟨_, rfl⟩⟩
  have g_MAX_EDGES : ∃ u, mg "MAX_EDGES" = some u ∧ RelV (.int 120) u := ⟨_, PySem.W.mg_of X G w4, ⟨_, rfl⟩⟩
  have g_MAX_NAME : ∃ u, mg "MAX_NAME" = some u ∧ RelV (.int 8) u := ⟨_, PySem.W.mg_of X G w5, ⟨_, rfl⟩⟩
  have g_MAX_NODES : ∃ u, mg "MAX_NODES" = some u ∧ RelV (.int 40) u := ⟨_, PySem.W.mg_of X G w6, ⟨_, rfl⟩⟩
  have hV := PySem.W.mg_of X G v0
  have sV : ∀ H, SqT K H va [.str "0", .str "1", .str "2"] := fun H => .inr ⟨_, _, _, v1, rfl, rfl, (by show 3 ≤ sizeLine; decide), .cons ⟨_, rfl⟩ (.cons ⟨_, rfl⟩ (.cons ⟨_, rfl⟩ .nil))⟩
  have F0 := fun_mk (st := s_is_node) l0 c0 k0
  have b0 := F0.binds (ps := ["candidate"]) fun _ _ _ _ _ _ us hl => match us, hl with | [_], _ => rfl
  have F1 := fun_mk (st := s_first_invalid) l1 c1 k1
  have b1 := F1.binds (ps := ["items", "is_valid"]) fun _ _ _ _ _ _ us hl => match us, hl with | [_, _], _ => rfl
  have F2 := fun_mk (st := s_check_part) l2 c2 k2
  have b2 := F2.binds (ps := ["part", "items", "limit", "is_valid"]) fun _ _ _ _ _ _ us hl => match us, hl with | [_, _, _, _], _ => rfl
  have F3 := fun_mk (st := s_check_graph) l3 c3 k3
  have FC3 : FunC K "check_graph" "check_graph" s_check_graph f3 _ C0 := ⟨⟨_, _, _, _, _, _, _, _, rfl, l3, c3⟩⟩
  have b3 := F3.binds (ps := ["candidate"]) fun _ _ _ _ _ _ us hl => match us, hl with | [_], _ => rfl
  have F4 := fun_mk (st := s_join_words) l4 c4 k4
  have b4 := F4.binds (ps := ["words"]) fun _ _ _ _ _ _ us hl => match us, hl with | [_], _ => rfl
  have F5 := fun_mk (st := s_format_nodes) l5 c5 k5
  have b5 := F5.binds (ps := ["nodes"]) fun _ _ _ _ _ _ us hl => match us, hl with | [_], _ => rfl
  have F6 := fun_mk (st := s_format_graph) l6 c6 k6
  have b6 := F6.binds (ps := ["graph"]) fun _ _ _ _ _ _ us hl => match us, hl with | [_], _ => rfl
  have F7 := fun_mk (st := s_format_moves) l7 c7 k7
  have b7 := F7.binds (ps := ["moves"]) fun _ _ _ _ _ _ us hl => match us, hl with | [_], _ => rfl
  have F8 := fun_mk (st := s_format_state) l8 c8 k8
  have b8 := F8.binds (ps := ["state"]) fun _ _ _ _ _ _ us hl => match us, hl with | [_], _ => rfl
  have F9 := fun_mk (st := s_format_lift) l9 c9 k9
  have b9 := F9.binds (ps := ["lift"]) fun _ _ _ _ _ _ us hl => match us, hl with | [_], _ => rfl
  have F10 := fun_mk (st := s_parse_node_word) l10 c10 k10
  have b10 := F10.binds (ps := ["word"]) fun _ _ _ _ _ _ us hl => match us, hl with | [_], _ => rfl
  have F11 := fun_mk (st := s_parse_edge_word) l11 c11 k11
  have b11 := F11.binds (ps := ["word"]) fun _ _ _ _ _ _ us hl => match us, hl with | [_], _ => rfl
  have F12 := fun_mk (st := s_parse_move_word) l12 c12 k12
  have b12 := F12.binds (ps := ["word"]) fun _ _ _ _ _ _ us hl => match us, hl with | [_], _ => rfl
  have F13 := fun_mk (st := s_is_digits) l13 c13 k13
  have b13 := F13.binds (ps := ["text"]) fun _ _ _ _ _ _ us hl => match us, hl with | [_], _ => rfl
  have F14 := fun_mk (st := s_parse_number_word) l14 c14 k14
  have b14 := F14.binds (ps := ["word"]) fun _ _ _ _ _ _ us hl => match us, hl with | [_], _ => rfl
  have F15 : FunP K "parse_words" "parse_words" s_parse_words f15 _ := ⟨⟨_, _, _, _, _, _, _, _, _, _, rfl, l15, c15⟩⟩
  have FD15 : FunD K "parse_words" "parse_words" (defArgs s_parse_words) (defBody s_parse_words) (defScope s_parse_words) [.int 0] [] f15 _ := ⟨⟨_, _, _, _, _, _, _, _, _, _, rfl, l15, c15, .inr ⟨by simp, TP15, _, [.int 0 tp15], _, rfl, dp15, rfl, .cons ⟨_, rfl⟩ .nil⟩, .inl rfl⟩, k15⟩
  obtain ⟨ds15, vd15, bd15⟩ := FD15.binds1 (ps := ["text", "parse", "start"]) 2 0 (by simp) rfl fun T kV doc pm an cdv ct us its hu hi => match us, its, hu, hi with | [_, _], [_], _, _ => ⟨_, rfl, rfl⟩
  obtain ⟨dt15, vt15, bt15⟩ := FD15.binds1 (ps := ["text", "parse", "start"]) 3 1 (by simp) rfl fun T kV doc pm an cdv ct us its hu hi => match us, its, hu, hi with | [_, _, _], [_], _, _ => ⟨_, rfl, rfl⟩
  obtain rfl : dt15 = [] := by
    cases vt15
    rfl
  have F16 := fun_mk (st := s_parse_nodes) l16 c16 k16
  have b16 := F16.binds (ps := ["text"]) fun _ _ _ _ _ _ us hl => match us, hl with | [_], _ => rfl
  have F17 := fun_mk (st := s_parse_moves) l17 c17 k17
  have b17 := F17.binds (ps := ["text"]) fun _ _ _ _ _ _ us hl => match us, hl with | [_], _ => rfl
  have F18 := fun_mk (st := s_ascending_dict) l18 c18 k18
  have b18 := F18.binds (ps := ["items"]) fun _ _ _ _ _ _ us hl => match us, hl with | [_], _ => rfl
  have F19 := fun_mk (st := s_parse_state) l19 c19 k19
  have b19 := F19.binds (ps := ["text"]) fun _ _ _ _ _ _ us hl => match us, hl with | [_], _ => rfl
  have F20 := fun_mk (st := s_parse_lift) l20 c20 k20
  have b20 := F20.binds (ps := ["text"]) fun _ _ _ _ _ _ us hl => match us, hl with | [_], _ => rfl
  have F21 := fun_mk (st := s_parse_graph) l21 c21 k21
  have b21 := F21.binds (ps := ["text"]) fun _ _ _ _ _ _ us hl => match us, hl with | [_], _ => rfl
  have F22 := fun_mk (st := s__law_pool) l22 c22 k22
  have b22 := F22.binds (ps := ["_law_script", "_law_k"]) fun _ _ _ _ _ _ us hl => match us, hl with | [_, _], _ => rfl
  have F23 := fun_mk (st := s__law_draw) l23 c23 k23
  have b23 := F23.binds (ps := ["_law_pool_here", "_law_many"]) fun _ _ _ _ _ _ us hl => match us, hl with | [_, _], _ => rfl
  have F24 := fun_mk (st := s__law_draw_names) l24 c24 k24
  have b24 := F24.binds (ps := ["_law_pool_here", "_law_many"]) fun _ _ _ _ _ _ us hl => match us, hl with | [_, _], _ => rfl
  have F25 := fun_mk (st := s__law_shuffle) l25 c25 k25
  have b25 := F25.binds (ps := ["_law_pool_here", "_law_some"]) fun _ _ _ _ _ _ us hl => match us, hl with | [_, _], _ => rfl
  have F26 := fun_mk (st := s__law_edge_of) l26 c26 k26
  have b26 := F26.binds (ps := ["_law_one", "_law_other"]) fun _ _ _ _ _ _ us hl => match us, hl with | [_, _], _ => rfl
  have F27 := fun_mk (st := s__law_wants_edge) l27 c27 k27
  have b27 := F27.binds (ps := ["_law_pool_here", "_law_kind", "_law_at", "_law_position", "_law_many"]) fun _ _ _ _ _ _ us hl => match us, hl with | [_, _, _, _, _], _ => rfl
  have F28 := fun_mk (st := s__law_draw_graph) l28 c28 k28
  have b28 := F28.binds (ps := ["_law_pool_here", "_law_most"]) fun _ _ _ _ _ _ us hl => match us, hl with | [_, _], _ => rfl
  have F29 := fun_mk (st := s__law_neighbors_of) l29 c29 k29
  have b29 := F29.binds (ps := ["_law_graph", "_law_node"]) fun _ _ _ _ _ _ us hl => match us, hl with | [_, _], _ => rfl
  have F30 := fun_mk (st := s__law_moves_of) l30 c30 k30
  have b30 := F30.binds (ps := ["_law_graph", "_law_state", "_law_pins"]) fun _ _ _ _ _ _ us hl => match us, hl with | [_, _, _], _ => rfl
  have F31 := fun_mk (st := s__law_draw_moves) l31 c31 k31
  have b31 := F31.binds (ps := ["_law_pool_here", "_law_graph", "_law_state", "_law_pins", "_law_most"]) fun _ _ _ _ _ _ us hl => match us, hl with | [_, _, _, _, _], _ => rfl
  have F32 := fun_mk (st := s__law_join) l32 c32 k32
  have b32 := F32.binds (ps := ["_law_words"]) fun _ _ _ _ _ _ us hl => match us, hl with | [_], _ => rfl
  have F33 := fun_mk (st := s__law_graph_text) l33 c33 k33
  have b33 := F33.binds (ps := ["_law_graph"]) fun _ _ _ _ _ _ us hl => match us, hl with | [_], _ => rfl
  have F34 := fun_mk (st := s__law_moves_text) l34 c34 k34
  have b34 := F34.binds (ps := ["_law_moves"]) fun _ _ _ _ _ _ us hl => match us, hl with | [_], _ => rfl
  have F35 := fun_mk (st := s__law_lift_text) l35 c35 k35
  have b35 := F35.binds (ps := ["_law_lift"]) fun _ _ _ _ _ _ us hl => match us, hl with | [_], _ => rfl
  have F36 := fun_mk (st := s__law_bound_holds) l36 c36 k36
  have b36 := F36.binds (ps := []) fun _ _ _ _ _ _ us hl => match us, hl with | [], _ => rfl
  have F37 := fun_mk (st := s_law) l37 c37 k37
  have b37 := F37.binds (ps := ["_law_script"]) fun _ _ _ _ _ _ us hl => match us, hl with | [_], _ => rfl
  have own0 := own_mk (x := "InvalidGraph") (f := "part") (PySem.W.mg_of X G xa0) (PySem.W.mg_of X G y0) xb0 xc0 xd0 xe0 xf0 xg0 xh0 xl0 xm0 xn0 xo0 xp0 xq0 y1 y2 y3 y4 xr0 y5 y6 y7
  have FE0 := fun_mk (st := s_InvalidGraph_init) xi0 xj0 xk0
  have bE0 := FE0.binds (ps := ["self", "part", "position"]) fun _ _ _ _ _ _ us hl => match us, hl with | [_, _, _], _ => rfl
  refine ⟨PySem.W.fnOf "law" "law" (defArgs s_law) (defBody s_law) (defScope s_law) .none kV37 dc37 pm37 an37 cd37 ct37, C0, T0, tab_mk a3 l3 rfl tl0 tl1, ty1, fun s v => .of_eq rfl, fun base _ _ TB => ?_⟩
  have err0 : ErrX2 l.prog w K mg base "InvalidGraph" "part" "position" CE0 CB := ⟨⟨_, _, own0, ok_initIG FE0 own0 xz0, bE0⟩, xz0⟩
  have c_is_node : Cal l.prog w K mg base (CX0) 1 "is_node" (spIsNdA) := ⟨⟨_, _, _, ok_isNdA F0 B g_MAX_NAME g_LETTERS, PySem.W.mg_of X G a0, k0, b0⟩⟩
  have c_first_invalid : CalH l.prog w K mg base (CX0) 3 "first_invalid" (spInv l.prog w K mg base 2) := ⟨⟨_, _, _, ok_inv F1 (by decide) B, PySem.W.mg_of X G a1, k1, b1⟩⟩
  have c_check_part : CalH l.prog w K mg base (L2.CX l.prog w) 4 "check_part" (spPart l.prog w K mg base CE0) := ⟨⟨_, _, _, ok_part F2 B ⟨c_first_invalid⟩ err0, PySem.W.mg_of X G a2, k2, b2⟩⟩
  have c_check_graph : Cal l.prog w K mg base (L2.CX l.prog w) 5 "check_graph" (spCkGr [(T0, qEdge)] CE0) := ⟨⟨_, _, _, ok_ckGr FC3 B ⟨c_check_part, c_is_node, g_MAX_NODES, g_MAX_EDGES⟩ (PySem.W.mg_of X G a0) err0 TB (List.mem_singleton.mpr rfl) (fun y hy _ => by rw [List.mem_singleton.mp hy]), PySem.W.mg_of X G a3, k3, b3⟩⟩
  have c_join_words : Cal l.prog w K mg base (CX0) 1 "join_words" (spJw K) := ⟨⟨_, _, _, ok_jw F4 B g_EMPTY, PySem.W.mg_of X G a4, k4, b4⟩⟩
  have c_format_nodes : Cal l.prog w K mg base (CX0) 2 "format_nodes" (spFn K) := ⟨⟨_, _, _, ok_fnodes F5 B ⟨c_join_words⟩, PySem.W.mg_of X G a5, k5, b5⟩⟩
  have c_format_graph : Cal l.prog w K mg base (CX0) 3 "format_graph" (spFg) := ⟨⟨_, _, _, ok_fgraph F6 B ⟨c_join_words, c_format_nodes⟩, PySem.W.mg_of X G a6, k6, b6⟩⟩
  have c_format_moves : Cal l.prog w K mg base (CX0) 2 "format_moves" (spFm K) := ⟨⟨_, _, _, ok_fmoves F7 B ⟨c_join_words, c_format_nodes⟩, PySem.W.mg_of X G a7, k7, b7⟩⟩
  have c_format_state : Cal l.prog w K mg base (CX0) 3 "format_state" (spFd wdM) := ⟨⟨_, _, _, ok_fstate F8 B ⟨c_format_moves⟩, PySem.W.mg_of X G a8, k8, b8⟩⟩
  have c_format_lift : Cal l.prog w K mg base (CX0) 2 "format_lift" (spFd wdL) := ⟨⟨_, _, _, ok_flift F9 B ⟨c_join_words⟩, PySem.W.mg_of X G a9, k9, b9⟩⟩
  have c_parse_node_word : Cal l.prog w K mg base (CX0) 2 "parse_node_word" (spPnw) := ⟨⟨_, _, _, ok_pnw F10 B ⟨c_is_node⟩, PySem.W.mg_of X G a10, k10, b10⟩⟩
  have c_parse_edge_word : Cal l.prog w K mg base (CX0) 2 "parse_edge_word" (spPew) := ⟨⟨_, _, _, ok_pew F11 B ⟨c_is_node⟩, PySem.W.mg_of X G a11, k11, b11⟩⟩
  have c_parse_move_word : Cal l.prog w K mg base (CX0) 2 "parse_move_word" (spPmw) := ⟨⟨_, _, _, ok_pmw F12 B ⟨c_is_node⟩ hV sV, PySem.W.mg_of X G a12, k12, b12⟩⟩
  have c_is_digits : Cal l.prog w K mg base (CX0) 1 "is_digits" (spDig) := ⟨⟨_, _, _, ok_dig F13 B g_MAX_DIGITS g_DIGITS, PySem.W.mg_of X G a13, k13, b13⟩⟩
  have c_parse_number_word : Cal l.prog w K mg base (CX0) 2 "parse_number_word" (spPlw) := ⟨⟨_, _, _, ok_plw F14 B ⟨c_is_node⟩ c_is_digits, PySem.W.mg_of X G a14, k14, b14⟩⟩
  have e_parse_words : CalD l.prog w K mg base (CX0) 4 "parse_words" [.int 0] (spPw l.prog w K mg base) := ⟨⟨_, _, _, ds15, ok_pws F15 B g_EMPTY, PySem.W.mg_of X G a15, k15, vd15, bd15⟩⟩
  have c_parse_words : Cal l.prog w K mg base (CX0) 4 "parse_words" (spPw l.prog w K mg base) := ⟨⟨_, _, _, ok_pws F15 B g_EMPTY, PySem.W.mg_of X G a15, k15, bt15⟩⟩
  have c_parse_nodes : Cal l.prog w K mg base (CX0) 5 "parse_nodes" (spPns) := ⟨⟨_, _, _, ok_pns F16 B ⟨c_parse_node_word, e_parse_words⟩ (PySem.W.mg_of X G a10), PySem.W.mg_of X G a16, k16, b16⟩⟩
  have c_parse_moves : Cal l.prog w K mg base (CX0) 5 "parse_moves" (spPms wdM okM) := ⟨⟨_, _, _, ok_pms F17 B ⟨c_parse_move_word, e_parse_words⟩ (PySem.W.mg_of X G a12), PySem.W.mg_of X G a17, k17, b17⟩⟩
  have c_ascending_dict : Cal l.prog w K mg base (CX0) 1 "ascending_dict" (spAsc) := ⟨⟨_, _, _, ok_asc F18 B, PySem.W.mg_of X G a18, k18, b18⟩⟩
  have c_parse_state : Cal l.prog w K mg base (CX0) 5 "parse_state" (spPsd wdM okM) := ⟨⟨_, _, _, ok_pst F19 B ⟨c_parse_move_word, e_parse_words, c_ascending_dict⟩ (PySem.W.mg_of X G a12), PySem.W.mg_of X G a19, k19, b19⟩⟩
  have c_parse_lift : Cal l.prog w K mg base (CX0) 5 "parse_lift" (spPsd wdL okL) := ⟨⟨_, _, _, ok_plf F20 B ⟨c_parse_number_word, e_parse_words, c_ascending_dict⟩ (PySem.W.mg_of X G a14), PySem.W.mg_of X G a20, k20, b20⟩⟩
  have c_parse_graph : Cal l.prog w K mg base (CX0) 6 "parse_graph" (spPg [(T0, qEdge)]) := ⟨⟨_, _, _, ok_pgr F21 B ⟨c_parse_node_word, c_parse_edge_word, e_parse_words, c_parse_words, c_check_graph, (PySem.W.mg_of X G xa0)⟩ (PySem.W.mg_of X G a10) (PySem.W.mg_of X G a11), PySem.W.mg_of X G a21, k21, b21⟩⟩
  have c__law_pool : Cal l.prog w K mg base (CX0) 1 "_law_pool" (spPool K) := ⟨⟨_, _, _, ok_pool F22 B, PySem.W.mg_of X G a22, k22, b22⟩⟩
  have c__law_draw : Cal l.prog w K mg base (CX0) 1 "_law_draw" (spDraw) := ⟨⟨_, _, _, ok_draw F23 B, PySem.W.mg_of X G a23, k23, b23⟩⟩
  have c__law_draw_names : Cal l.prog w K mg base (CX0) 2 "_law_draw_names" (spNames) := ⟨⟨_, _, _, ok_names F24 B ⟨c__law_draw⟩, PySem.W.mg_of X G a24, k24, b24⟩⟩
  have c__law_shuffle : Cal l.prog w K mg base (CX0) 2 "_law_shuffle" (spShuf K) := ⟨⟨_, _, _, ok_shuffle F25 B ⟨c__law_draw⟩, PySem.W.mg_of X G a25, k25, b25⟩⟩
  have c__law_edge_of : Cal l.prog w K mg base (CX0) 1 "_law_edge_of" (spEdgeOf) := ⟨⟨_, _, _, ok_edge_of F26 B, PySem.W.mg_of X G a26, k26, b26⟩⟩
  have c__law_wants_edge : Cal l.prog w K mg base (CX0) 2 "_law_wants_edge" (spWants) := ⟨⟨_, _, _, ok_wants F27 B ⟨c__law_draw⟩, PySem.W.mg_of X G a27, k27, b27⟩⟩
  have c__law_draw_graph : Cal l.prog w K mg base (CX0) 3 "_law_draw_graph" (spGraph) := ⟨⟨_, _, _, ok_draw_graph F28 B ⟨c__law_draw, c__law_draw_names, c__law_shuffle, c__law_edge_of, c__law_wants_edge⟩, PySem.W.mg_of X G a28, k28, b28⟩⟩
  have c__law_neighbors_of : Cal l.prog w K mg base (CX0) 1 "_law_neighbors_of" (spNbr) := ⟨⟨_, _, _, ok_nbr F29 B, PySem.W.mg_of X G a29, k29, b29⟩⟩
  have c__law_moves_of : Cal l.prog w K mg base (CX0) 2 "_law_moves_of" (spMoves K) := ⟨⟨_, _, _, ok_moves F30 B ⟨c__law_neighbors_of⟩, PySem.W.mg_of X G a30, k30, b30⟩⟩
  have c__law_draw_moves : Cal l.prog w K mg base (CX0) 3 "_law_draw_moves" (spDrawMoves K) := ⟨⟨_, _, _, ok_draw_moves F31 B ⟨c__law_draw, c__law_moves_of⟩, PySem.W.mg_of X G a31, k31, b31⟩⟩
  have c__law_join : Cal l.prog w K mg base (CX0) 1 "_law_join" (spJw K) := ⟨⟨_, _, _, ok_lawj F32 B, PySem.W.mg_of X G a32, k32, b32⟩⟩
  have c__law_graph_text : Cal l.prog w K mg base (CX0) 2 "_law_graph_text" (spFg) := ⟨⟨_, _, _, ok_lgraph F33 B c__law_join, PySem.W.mg_of X G a33, k33, b33⟩⟩
  have c__law_moves_text : Cal l.prog w K mg base (CX0) 2 "_law_moves_text" (spFm K) := ⟨⟨_, _, _, ok_lmoves F34 B c__law_join, PySem.W.mg_of X G a34, k34, b34⟩⟩
  have c__law_lift_text : Cal l.prog w K mg base (CX0) 2 "_law_lift_text" (spFd wdL) := ⟨⟨_, _, _, ok_llift F35 B c__law_join, PySem.W.mg_of X G a35, k35, b35⟩⟩
  have c__law_bound_holds : Cal l.prog w K mg base (CX0) 7 "_law_bound_holds" (spBnd [(T0, qEdge)]) := ⟨⟨_, _, _, ok_bound F36 B ⟨c_format_graph, c_parse_graph, c_format_nodes, c_parse_nodes, c_format_state, c_parse_state, c_format_moves, c_parse_moves, c_format_lift, c_parse_lift⟩, PySem.W.mg_of X G a36, k36, b36⟩⟩
  exact ok_law F37 B ⟨c__law_bound_holds, c__law_pool, c__law_draw, c__law_draw_graph, c__law_draw_moves, c__law_shuffle, c__law_join, c__law_graph_text, c__law_moves_text, c__law_lift_text, c_format_graph, c_parse_graph, c_format_nodes, c_parse_nodes, c_format_state, c_parse_state, c_format_moves, c_parse_moves, c_format_lift, c_parse_lift⟩
theorem walk {l : PySem.W.OpenLaw} {q : Program} {loose : List Str} {XP : (Str → Option Value) → Heap → Prop} {YP : World → Heap → Prop} {d dy : DefRec} {K : Params → PySem.W.Frag} (hn : l.most = some 63) (hdf : d.params.defaults = []) (hrec : (recsOf q).find? (fun e => e.name == ("check_graph" : Str)) = some dy)
    (hY : ∀ (w : World) (h : Heap), YP w h → (K w.params).In h)
    (F : ∀ (w : World) (mg : Str → Option Value) (fa : Addr) (h : Heap), (K w.params).In h → h.Ns mainGlobals mg → mg d.name = some (.ref fa) →
      ∃ (fd : FuncData) (c T : Addr), PySem.W.tabIn (K w.params) "check_graph" = some (c, T) ∧ (K w.params).lookup T = none ∧ (∀ (s : Shared) (u : Value), BindsTo s fd ⟨[u], []⟩ [("_law_script", u)]) ∧ ∀ base : Heap, (K w.params).In base → base.Ns mainGlobals mg → TabB base mg c T → FnG l.prog w (K w.params) mg base CX0 8 fa fd ["_law_script"] (spLaw (K w.params) T)) :
    PySem.W.WalkO q loose XP YP l.row.toRowW d [] (fun f vs => PySem.call f vs) :=
  walk_GY (n := 63) (k := 8) (x := "_law_script") (y := "check_graph") (sp := spLaw) hn (by decide) hdf ⟨rfl, by decide, by decide⟩ hrec hY F fun K T H a ns hl hT hS => ⟨a, ns, rfl, hS, hl, (fun p hp => by
    rw [List.mem_singleton] at hp
    rw [hp]
    exact TabS.nil hT), fun _ => rfl⟩
end Law
open PySem PySem.W PyProof.Rows
set_option maxRecDepth 100000 in
set_option maxHeartbeats 0 in
theorem PySem.Challenge.cw_threeturned_k92_formatting_and_parsing_holds : PySem.Challenge.rw_threeturned_k92_formatting_and_parsing.Holds := by
  w_on; o_law; k_head; (case hw => w_witness2)
  k_fill
  refine Law.walk (l := PySem.Challenge.rw_threeturned_k92_formatting_and_parsing) rfl rfl rfl (fun w h Y => PySem.W.km_in_of Y) ?F
  case F =>
    intro w mg fa h KX G hmg
    refine' Law.all_mk KX G hmg ?a0 ?l0 ?c0 ?k0 ?a1 ?l1 ?c1 ?k1 ?a2 ?l2 ?c2 ?k2 ?a3 ?l3 ?c3 ?k3 ?tl0 ?tl1 ?ty1 ?a4 ?l4 ?c4 ?k4 ?a5 ?l5 ?c5 ?k5 ?a6 ?l6 ?c6 ?k6 ?a7 ?l7 ?c7 ?k7 ?a8 ?l8 ?c8 ?k8 ?a9 ?l9 ?c9 ?k9 ?a10 ?l10 ?c10 ?k10 ?a11 ?l11 ?c11 ?k11 ?a12 ?l12 ?c12 ?k12 ?a13 ?l13 ?c13 ?k13 ?a14 ?l14 ?c14 ?k14 ?a15 ?l15 ?c15 ?k15 ?dp15 ?a16 ?l16 ?c16 ?k16 ?a17 ?l17 ?c17 ?k17 ?a18 ?l18 ?c18 ?k18 ?a19 ?l19 ?c19 ?k19 ?a20 ?l20 ?c20 ?k20 ?a21 ?l21 ?c21 ?k21 ?a22 ?l22 ?c22 ?k22 ?a23 ?l23 ?c23 ?k23 ?a24 ?l24 ?c24 ?k24 ?a25 ?l25 ?c25 ?k25 ?a26 ?l26 ?c26 ?k26 ?a27 ?l27 ?c27 ?k27 ?a28 ?l28 ?c28 ?k28 ?a29 ?l29 ?c29 ?k29 ?a30 ?l30 ?c30 ?k30 ?a31 ?l31 ?c31 ?k31 ?a32 ?l32 ?c32 ?k32 ?a33 ?l33 ?c33 ?k33 ?a34 ?l34 ?c34 ?k34 ?a35 ?l35 ?c35 ?k35 ?a36 ?l36 ?c36 ?k36 ?a37 ?l37 ?c37 ?k37 ?z0 ?z1 ?z2 ?z3 ?z4 ?z5 ?z6 ?z7 ?z8 ?z9 ?z10 ?z11 ?z12 ?z13 ?z14 ?z15 ?z16 ?z17 ?z18 ?z19 ?z20 ?w0 ?w1 ?w2 ?w3 ?w4 ?w5 ?w6 ?v0 ?v1 ?y0 ?y1 ?y2 ?y3 ?y4 ?y5 ?y6 ?y7 ?xa0 ?xb0 ?xc0 ?xd0 ?xe0 ?xf0 ?xg0 ?xh0 ?xi0 ?xj0 ?xk0 ?xl0 ?xm0 ?xn0 ?xo0 ?xp0 ?xq0 ?xr0 ?xz0 ?xu0 ?xv0 ?xw0 ?xx0
    (case a0 => k_is); (case l0 => k_is); (case c0 => k_is); (case k0 => k_is)
    (case a1 => k_is); (case l1 => k_is); (case c1 => k_is); (case k1 => k_is)
    (case a2 => k_is); (case l2 => k_is); (case c2 => k_is); (case k2 => k_is)
    (case a3 => k_is); (case l3 => k_is); (case c3 => k_is); (case k3 => k_is)
    (case tl0 => k_is); (case tl1 => exact rfl); (case ty1 => kernel_rfl); (case a4 => k_is)
    (case l4 => k_is); (case c4 => k_is); (case k4 => k_is); (case a5 => k_is)
    (case l5 => k_is); (case c5 => k_is); (case k5 => k_is); (case a6 => k_is)
    (case l6 => k_is); (case c6 => k_is); (case k6 => k_is); (case a7 => k_is)
    (case l7 => k_is); (case c7 => k_is); (case k7 => k_is); (case a8 => k_is)
    (case l8 => k_is); (case c8 => k_is); (case k8 => k_is); (case a9 => k_is)
    (case l9 => k_is); (case c9 => k_is); (case k9 => k_is); (case a10 => k_is)
    (case l10 => k_is); (case c10 => k_is); (case k10 => k_is); (case a11 => k_is)
    (case l11 => k_is); (case c11 => k_is); (case k11 => k_is); (case a12 => k_is)
    (case l12 => k_is); (case c12 => k_is); (case k12 => k_is); (case a13 => k_is)
    (case l13 => k_is); (case c13 => k_is); (case k13 => k_is); (case a14 => k_is)
    (case l14 => k_is); (case c14 => k_is); (case k14 => k_is); (case a15 => k_is)
    (case l15 => k_is); (case c15 => k_is); (case k15 => k_is); (case dp15 => k_is)
    (case a16 => k_is); (case l16 => k_is); (case c16 => k_is); (case k16 => k_is)
    (case a17 => k_is); (case l17 => k_is); (case c17 => k_is); (case k17 => k_is)
    (case a18 => k_is); (case l18 => k_is); (case c18 => k_is); (case k18 => k_is)
    (case a19 => k_is); (case l19 => k_is); (case c19 => k_is); (case k19 => k_is)
    (case a20 => k_is); (case l20 => k_is); (case c20 => k_is); (case k20 => k_is)
    (case a21 => k_is); (case l21 => k_is); (case c21 => k_is); (case k21 => k_is)
    (case a22 => k_is); (case l22 => k_is); (case c22 => k_is); (case k22 => k_is)
    (case a23 => k_is); (case l23 => k_is); (case c23 => k_is); (case k23 => k_is)
    (case a24 => k_is); (case l24 => k_is); (case c24 => k_is); (case k24 => k_is)
    (case a25 => k_is); (case l25 => k_is); (case c25 => k_is); (case k25 => k_is)
    (case a26 => k_is); (case l26 => k_is); (case c26 => k_is); (case k26 => k_is)
    (case a27 => k_is); (case l27 => k_is); (case c27 => k_is); (case k27 => k_is)
    (case a28 => k_is); (case l28 => k_is); (case c28 => k_is); (case k28 => k_is)
    (case a29 => k_is); (case l29 => k_is); (case c29 => k_is); (case k29 => k_is)
    (case a30 => k_is); (case l30 => k_is); (case c30 => k_is); (case k30 => k_is)
    (case a31 => k_is); (case l31 => k_is); (case c31 => k_is); (case k31 => k_is)
    (case a32 => k_is); (case l32 => k_is); (case c32 => k_is); (case k32 => k_is)
    (case a33 => k_is); (case l33 => k_is); (case c33 => k_is); (case k33 => k_is)
    (case a34 => k_is); (case l34 => k_is); (case c34 => k_is); (case k34 => k_is)
    (case a35 => k_is); (case l35 => k_is); (case c35 => k_is); (case k35 => k_is)
    (case a36 => k_is); (case l36 => k_is); (case c36 => k_is); (case k36 => k_is)
    (case a37 => k_is); (case l37 => k_is); (case c37 => k_is); (case k37 => k_is)
    (case z0 => k_is); (case z1 => k_is); (case z2 => k_is); (case z3 => k_is)
    (case z4 => k_is); (case z5 => k_is); (case z6 => k_is); (case z7 => k_is)
    (case z8 => k_is); (case z9 => k_is); (case z10 => k_is); (case z11 => k_is)
    (case z12 => k_is); (case z13 => k_is); (case z14 => k_is); (case z15 => k_is)
    (case z16 => k_is); (case z17 => k_is); (case z18 => k_is); (case z19 => k_is)
    (case z20 => k_is); (case w0 => k_is); (case w1 => k_is); (case w2 => k_is)
    (case w3 => k_is); (case w4 => k_is); (case w5 => k_is); (case w6 => k_is)
    (case v0 => k_is); (case v1 => k_is); (case y0 => k_is); (case y1 => k_is)
    (case y2 => k_is); (case y3 => k_is); (case y4 => k_is); (case y5 => k_is)
    (case y6 => k_is); (case y7 => k_is); (case xa0 => k_is); (case xb0 => k_is)
    (case xc0 => k_is); (case xd0 => k_is); (case xe0 => k_is); (case xf0 => k_is)
    (case xg0 => k_is); (case xh0 => k_is); (case xi0 => k_is); (case xj0 => k_is)
    (case xk0 => k_is); (case xl0 => k_is); (case xm0 => k_is); (case xn0 => k_is)
    (case xo0 => k_is); (case xp0 => k_is); (case xq0 => k_is); (case xr0 => k_is)
    (case xz0 => k_is); (case xu0 => k_is); (case xv0 => k_is); (case xw0 => k_is)
    (case xx0 => k_is)

