import PyProof.Rows.All
import Wide.All
import OpenK.AllK
import Wide.FinOn
import HandS.ForMost
import HandS.Exc
import HandS.EndBits
import HandS.Wide
import HandS.Codes
import HandS.TupAny
import HandS.IsInst
import HandS.Walk
import HandS.Flow
import HandS.SetKeys
import HandS.SortKw
import HandS.Style
import KE.SortData
import HandS.More
import HandS.DictComp
import PySem.Challenge.RW_threeturned_k65_split_errors
import HandS.Defaults
import HandS.Deep
import PyProof.RowDictHeap
import PyProof.ReprRoads
import PyProof.ReprBulk
import HandS.ExcInit
import HandS.ExcIs
import HandS.ExcField
import HandS.Nested
import KE.GoesEnum
import KE.GoesMore
import HandS.Finally
import PyProof.DictUpdate
import HandS.Lambda
import KE.DataMinKey
import HandS.RaiseMore
import PyProof.P3In
import HandS.Conv
import KE.KDictSum
import HandS.DictTup
import KE.KDictCopyH
import PyProof.TupleOfSeq
import HandS.MakeKwOnly
import HandS.ListItems
import HandS.WordsExc
import KE.KExcInit
import KE.DataCmp
import KE.KSortTup
import KE.SortCalls
import HandS.EndTab
set_option Elab.async false
set_option linter.all false
set_option maxRecDepth 100000
set_option maxHeartbeats 4000000
/-! calls with room and with nothing being shown (guards known) -/
namespace U
open PySem PySem.Spec PyProof.Rows L2

/-- room for k calls, and no repr is under way -/
structure Rm (k : Nat) (A : Around) : Prop where
  r : Room k A
  g : A.guards = some []
theorem Rm.mono {j k : Nat} {A : Around} (h : Rm k A) (hj : j ≤ k) : Rm j A := ⟨h.r.mono hj, h.g⟩
theorem Rm.deeper {k : Nat} {A : Around} (h : Rm (k + 1) A) (env : Env) : Rm k (A.deeper env) := ⟨h.r.deeper env, h.g⟩
theorem Rm.u1 {k : Nat} {A : Around} (h : Rm k A) : A.units + 1 < cLine := by
  have z := h.r.un
  omega
theorem Rm.u64 {k : Nat} {A : Around} (h : Rm k A) : A.units + 64 < cLine := h.r.units
theorem Rm.u0 {k : Nat} {A : Around} (h : Rm k A) : A.units < cLine := by
  have z := h.r.un
  omega
theorem Rm.u100 {k : Nat} {A : Around} (h : Rm k A) : A.units + 150 < cLine := by
  have z := h.r.un
  omega

/-- the def at f keeps the promise sp -/
structure FnG (P : Program) (w : World) (K : PySem.W.Frag) (mg : Str → Option Value) (base : Heap) (CX : CXT) (k : Nat) (f : Addr) (fd : FuncData) (ps : List Str) (sp : Sp) : Prop where
  len : ∀ vs H Q E, sp vs H Q E → vs.length = ps.length
  go : ∀ (A : Around) (outer : List Env) (s : Shared) (H : Hp) (args : Args) (us : List Value) (vs : List V) (Q : VK) (E : XK), Rm k A →
    Env0 P w K mg base A outer s H → BindsTo s fd args (ps.zip us) → Vals vs us → sp vs H Q E → codeAny (model P w) A (.call (.ref f) args) (CR CX outer P w H s Q E) s
/-- room ran out of is no way: L2's own promise serves -/
theorem FnG.of {P : Program} {w : World} {K : PySem.W.Frag} {mg : Str → Option Value} {base : Heap} {CX : CXT} {k : Nat} {f : Addr} {fd : FuncData} {ps : List Str} {sp : Sp} (F : FnOk P w K mg base CX k f fd ps sp) : FnG P w K mg base CX k f fd ps sp :=
  ⟨F.len, fun A outer s H args us vs Q E hr => F.run A outer s H args us vs Q E hr.r⟩

section
variable {P : Program} {w : World} {K : PySem.W.Frag} {mg : Str → Option Value} {base : Heap} {CX : CXT}
/-- a def by its body -/
theorem fnG {x qual : Str} {st : Stmt} {f : Addr} {fd : FuncData} {N ps : List Str} {k : Nat} {sp : Sp} (F : Fun K x qual st f fd) (S : FnScope N ps (defScope st)) (len : ∀ vs H Q E, sp vs H Q E → vs.length = ps.length)
    (body : ∀ (cdv : Value) (A : Around) (outer : List Env) (s : Shared) (H : Hp) (vs : List V) (Q : VK) (E : XK), Rm k (A.deeper (envOfC qual (defScope st) s.heap.objs.size f cdv)) → sp vs H Q E →
      ∃ t, PSs (cxOf CX P w K mg base N qual (defScope st) f cdv A outer s H E) (defBody st) t ∧ t { nx := fun _ H' => Q .non H', rt := Q } (start N vs) H) :
    FnG P w K mg base CX (k + 1) f fd ps sp := by
  obtain ⟨oc, od, kV, doc, pm, an, cdv, ct, osl, rfl, lk, hcd⟩ := F.ex
  refine ⟨len, fun A outer s H args us vs Q E room e0 bd rel want => ?_⟩
  have count := len _ _ _ _ want
  have kin : K.In s.heap := e0.mod.kin.keeps fun b o e => (e0.bs b o e).1
  have kinds : ∀ y ∈ ps.zip us, (defScope st).names.lookup y.1 = some .local ∨ ((defScope st).names.lookup y.1 = some .cell ∧ ((cellsFrom (s.heap.objs.size + 1) (defScope st).names []).lookup y.1).isSome = true) := by
    rintro ⟨n, v⟩ hy
    cases S.par n (List.of_mem_zip hy).1 with
    | inl q => exact .inl q
    | inr q => exact .inr ⟨q, PySem.W.cellsFrom_some _ _ _ (.inl q)⟩
  apply codeAny_call_function room.r.depth (kin _ _ lk) rfl S.co S.gen rfl (PySem.W.codeRec_of kin hcd) (bd _ _ _ _ _)
  apply wpAny_newFunctionEnv_cells S.kind kinds
  intro env he s1 x
  subst he
  have lim : s.heap.NoLimit := e0.mod.nolimit.keeps fun b o e => (e0.bs b o e).1
  refine ⟨lim.keeps x.toInCall.keep, codeAny_func ?_⟩
  obtain ⟨t, ht, want'⟩ := body cdv A outer s H vs Q E (room.deeper _) want
  have I := inv_start (CX := CX) (P := P) (w := w) (K := K) (mg := mg) (base := base) (E := E) S room.r.hd e0 count rel x
  refine wpAny_mono (ht.run [] s1 (start N vs) H _ I want') ?_ fun e s' hs => hs
  intro fl s' hs
  cases fl with
  | ret u =>
    obtain ⟨v, σ', H', J, rv, q⟩ := hs
    exact ⟨v, H', J.os, J.bare, J.base, J.hok, rv, q⟩
  | next =>
    obtain ⟨σ', H', J, q⟩ := hs
    exact ⟨V.non, H', J.os, J.bare, J.base, J.hok, rfl, q⟩
  | brk => exact hs.elim fun _ z => z.elim fun _ z => z.2.elim
  | cont => exact hs.elim fun _ z => z.elim fun _ z => z.2.elim
/-- a def that no exception leaves -/
theorem fnG0 {x qual : Str} {st : Stmt} {f : Addr} {fd : FuncData} {N ps : List Str} {k : Nat} {sp : Sp} (F : Fun K x qual st f fd) (S : FnScope N ps (defScope st)) (len : ∀ vs H Q E, sp vs H Q E → vs.length = ps.length)
    (body : ∀ (cdv : Value) (A : Around) (outer : List Env) (s : Shared) (H : Hp) (vs : List V) (Q : VK) (E : XK), Rm k (A.deeper (envOfC qual (defScope st) s.heap.objs.size f cdv)) → sp vs H Q E →
      ∃ t, PSs (cxOf CX0 P w K mg base N qual (defScope st) f cdv A outer s H E).nox (defBody st) t ∧ t { nx := fun _ H' => Q .non H', rt := Q } (start N vs) H) :
    FnG P w K mg base CX0 (k + 1) f fd ps sp := fnG F S len fun cdv A outer s H vs Q E hr h => by
  obtain ⟨t, p, q⟩ := body cdv A outer s H vs Q E hr h
  exact ⟨t, p.nox, q⟩
/-- a def that may be called by its global name -/
structure Cal (P : Program) (w : World) (K : PySem.W.Frag) (mg : Str → Option Value) (base : Heap) (CX : CXT) (k : Nat) (x : Str) (sp : Sp) : Prop where
  ex : ∃ (f : Addr) (fd : FuncData) (ps : List Str), FnG P w K mg base CX k f fd ps sp ∧ mg x = some (.ref f) ∧ PySem.W.keepIn K (.ref f) = true ∧ Binds K fd ps []
end

section
variable {X : Cx} {CX : L2.CXT} {k j : Nat} {f : Addr} {fd : FuncData} {ps : List Str} {sp : Sp} {E : XK} {x : Str} {p pos : Pos} {e : Expr} {es : List Expr} {t : TA}
theorem callG {pins : List (Addr × Obj)} {σ : L2.St} {H : Hp} {s : Shared} {Q : VK} {us : List Value} {vs : List V} (F : FnG X.prog X.w X.K X.mg X.base CX k f fd ps sp) (hr : Rm k X.A) (hb : Binds X.K fd ps []) (hx : Passes CX X E)
    (I : Inv X pins σ H s) (r : Vals vs us) (h : sp vs H Q E) : wpAny (model X.prog X.w) X.A (call (.ref f) us) (EP X pins σ Q) X.xe s := by
  have count : us.length = ps.length := r.length ▸ F.len _ _ _ _ h
  have bd := hb s us I.kIn (by rw [List.append_nil]; exact count)
  rw [List.append_nil] at bd
  refine wpAny_call (codeAny_mono (F.go X.A X.stack s H ⟨us, []⟩ us vs Q E hr I.env0 bd r h) ?_)
  intro res s' hq
  cases res with
  | error er => exact hx pins σ H s er s' I hq
  | ok fl =>
    cases fl with
    | ret u => exact I.after hq
    | next => exact hq.elim
    | brk => exact hq.elim
    | cont => exact hq.elim
/-- f(..): the promise -/
def tC1 (sp : Sp) (E : XK) (t : TA) : TE := fun σ H Q => t σ H fun vs H1 => sp vs H1 Q E
theorem pe_cG (c : Cal X.prog X.w X.K X.mg X.base CX k x sp) (hr : Rm j X.A) (hk : k ≤ j) (hg : Gl X x) (hx : Passes CX X E) (ha : PA X (e :: es) t)
    (hdb : (x == ("__debug__" : Str)) = false := by decide) (he : starEach (e :: es) X.env = (false, eval e X.env) :: starEach es X.env := by rfl) (hpl : (backTo pos (starEach es X.env)).any (·.1) = false := by rfl) :
    PE X (.Call (.Name x p) (e :: es) [] pos) (tC1 sp E t) := by
  obtain ⟨f, fd, ps, F, hm, kp, b⟩ := c.ex
  refine ⟨fun pins s σ H Q I h => wpAny_Call_Name_kw (ld_glob I hg hm ?_ hdb)⟩
  refine PySem.W.callWith_K (h₀ := X.base) I.ok.mod.kin kp (thn (ha.run pos pins s σ H _ I h) ?_) he hpl
  rintro us s1 ⟨vs, H1, I1, r, q⟩
  exact ⟨I1.kIn, callG F (hr.mono hk) b hx I1 r q⟩
theorem pe_c (c : Cal X.prog X.w X.K X.mg X.base CX0 k x sp) (hr : Rm j X.A) (hk : k ≤ j) (hg : Gl X x) (ha : PA X (e :: es) t)
    (hdb : (x == ("__debug__" : Str)) = false := by decide) (he : starEach (e :: es) X.env = (false, eval e X.env) :: starEach es X.env := by rfl) (hpl : (backTo pos (starEach es X.env)).any (·.1) = false := by rfl) :
    PE X (.Call (.Name x p) (e :: es) [] pos) (tC1 sp E0 t) := pe_cG c hr hk hg pass0 ha hdb he hpl
/-- .. what is raised is wished for at the caller's slots -/
def tC2 (sp : Sp) (W : WX) (t : TA) : TE := fun σ H Q => t σ H fun vs H1 => sp vs H1 Q fun cls d H' => W cls d σ H'
theorem pe_cX {W : WX} (c : Cal X.prog X.w X.K X.mg X.base (L2.CX X.prog X.w) k x sp) (hr : Rm j X.A) (hk : k ≤ j) (hg : Gl X x) (tk : Takes X W) (ha : PA X (e :: es) t)
    (hdb : (x == ("__debug__" : Str)) = false := by decide) (he : starEach (e :: es) X.env = (false, eval e X.env) :: starEach es X.env := by rfl) (hpl : (backTo pos (starEach es X.env)).any (·.1) = false := by rfl) :
    PE X (.Call (.Name x p) (e :: es) [] pos) (tC2 sp W t) := by
  obtain ⟨f, fd, ps, F, hm, kp, b⟩ := c.ex
  refine ⟨fun pins s σ H Q I h => wpAny_Call_Name_kw (ld_glob I hg hm ?_ hdb)⟩
  refine PySem.W.callWith_K (h₀ := X.base) I.ok.mod.kin kp (thn (ha.run pos pins s σ H _ I h) ?_) he hpl
  rintro us s1 ⟨vs, H1, I1, r, q⟩
  refine ⟨I1.kIn, ?_⟩
  have count : us.length = ps.length := r.length ▸ F.len _ _ _ _ q
  have bd := b s1 us I1.kIn (by rw [List.append_nil]; exact count)
  rw [List.append_nil] at bd
  refine wpAny_call (codeAny_mono (F.go X.A X.stack s1 H1 ⟨us, []⟩ us vs _ _ (hr.mono hk) I1.env0 bd r q) ?_)
  intro res s' hq
  cases res with
  | error er => exact tk er s' (XE.of_call I1 (fun cls d H' z => z) hq)
  | ok fl =>
    cases fl with
    | ret u => exact I1.after hq
    | next => exact hq.elim
    | brk => exact hq.elim
    | cont => exact hq.elim
end

/-! ### the law's own head -/
end U

/-! operators by the values that come: one rule an operator -/
namespace U
open PySem PySem.Spec PyProof.Rows L2
section
variable {X : Cx}

/-! ### names of the world -/
theorem bb_len : bootBuiltins "len" = some (.builtin "len") := by decide +kernel
theorem bb_abs : bootBuiltins "abs" = some (.builtin "abs") := by decide +kernel
theorem bb_sorted : bootBuiltins "sorted" = some (.builtin "sorted") := by decide +kernel
theorem bb_sum : bootBuiltins "sum" = some (.builtin "sum") := by decide +kernel
theorem bb_all : bootBuiltins "all" = some (.builtin "all") := by decide +kernel
theorem bb_isinstance : bootBuiltins "isinstance" = some (.builtin "isinstance") := by decide +kernel
theorem bb_repr : bootBuiltins "repr" = some (.builtin "repr") := by decide +kernel
theorem bb_int : bootBuiltins "int" = some (.type "int") := by decide +kernel
theorem bb_tuple : bootBuiltins "tuple" = some (.type "tuple") := by decide +kernel
theorem bb_dict : bootBuiltins "dict" = some (.type "dict") := by decide +kernel
theorem bb_str : bootBuiltins "str" = some (.type "str") := by decide +kernel
theorem bb_bool : bootBuiltins "bool" = some (.type "bool") := by decide +kernel
theorem bb_set : bootBuiltins "set" = some (.type "set") := by decide +kernel
theorem pe_ty {x : Str} {T : String} {pos : Pos} (hg : Gl X x) (hm : X.mg x = none) (hv : bootBuiltins x = some (.type T)) (hn : x ≠ "__name__" := by decide) (hd : (x == ("__debug__" : Str)) = false := by decide) :
    PE X (.Name x pos) (tC (.ty T)) := pe_bltn hg hm hv rfl hn hd
theorem pe_gl {x : Str} {v : V} {pos : Pos} (hg : Gl X x) (h : ∃ u, X.mg x = some u ∧ RelV v u) (hd : (x == ("__debug__" : Str)) = false := by decide) : PE X (.Name x pos) (tC v) := by
  obtain ⟨u, hm, r⟩ := h
  exact pe_glob hg hm r hd

/-! ### + - * % // ** -/
/-- what is wanted where a new list, a new tuple comes -/
def nL (xs : List V) (H : Hp) (Q : VK) : Prop := ∀ p, H p = none → Q (.ref p) (upd H p (.lst xs))
def nT (xs : List V) (H : Hp) (Q : VK) : Prop := ∀ p, H p = none → Q (.ref p) (upd H p (.tup xs))
def rAddU (K : PySem.W.Frag) : R2 := fun x y H Q => match x, y with
  | .int i, .int j => Q (.int (i + j)) H
  | .str a, .str b => a.length + b.length ≤ sizeLine ∧ Q (.str (a ++ b)) H
  | .ref a, .ref b => (∃ xs ys, H a = some (.lst xs) ∧ H b = some (.lst ys) ∧ xs.length + ys.length ≤ sizeLine ∧ nL (xs ++ ys) H Q) ∨ rCatA K (.ref a) (.ref b) H Q
  | _, _ => False
theorem uAdd : OpR X (binaryOp .Add) (rAddU X.K) := by
  intro pins s σ H x y v u Q I rx ry h
  cases x <;> cases y <;> first | exact h.elim | skip
  · exact op_add pins s σ H _ _ v u Q I rx ry ⟨_, _, rfl, rfl, h⟩
  · exact op_add_str pins s σ H _ _ v u Q I rx ry ⟨_, _, rfl, rfl, h⟩
  · rcases h with ⟨xs, ys, h1, h2, h3, h4⟩ | h
    · exact op_cat pins s σ H _ _ v u Q I rx ry ⟨_, _, _, _, rfl, rfl, h1, h2, h3, h4⟩
    · exact op_catA pins s σ H _ _ v u Q I rx ry h
def rSubU : R2 := fun x y H Q => match x, y with
  | .int i, .int j => Q (.int (i - j)) H
  | _, _ => False
theorem uSub : OpR X (binaryOp .Sub) rSubU := by
  intro pins s σ H x y v u Q I rx ry h
  cases x <;> cases y <;> first | exact h.elim | exact op_sub pins s σ H _ _ v u Q I rx ry ⟨_, _, rfl, rfl, h⟩
/-- a text k times -/
def timesS (z : Str) (k : Int) : Str := ⟨((List.replicate k.toNat z.cps.toList).flatten).toArray⟩
theorem timesS_one (z : Str) : timesS z 1 = z := by
  unfold timesS
  simp
theorem timesS_neg {z : Str} {k : Int} (h : k < 1) : timesS z k = Str.empty := by
  unfold timesS
  have e : k.toNat = 0 := by omega
  rw [e]
  rfl
theorem fold_rep (a : Array Nat) : ∀ (n : Nat) (acc : Array Nat), (List.replicate n a).foldl (· ++ ·) acc = acc ++ ((List.replicate n a.toList).flatten).toArray
  | 0, acc => by simp
  | n + 1, acc => by
    rw [List.replicate_succ, List.foldl_cons, fold_rep a n, List.replicate_succ, List.flatten_cons]
    apply Array.ext'
    simp
theorem timesS_nil {z : Str} {k : Int} (h : z.length = 0) : timesS z k = z := by
  obtain ⟨a⟩ := z
  have e : a = #[] := Array.size_eq_zero_iff.mp h
  subst e
  unfold timesS
  have : (List.replicate k.toNat ([] : List Nat)).flatten = [] := by
    rw [List.flatten_eq_nil_iff]
    intro l hl
    exact List.eq_of_mem_replicate hl
  show (⟨((List.replicate k.toNat ([] : List Nat)).flatten).toArray⟩ : Str) = ⟨#[]⟩
  rw [this]
def rMulU : R2 := fun x y H Q => match x, y with
  | .int i, .int j => (CMul i j ∨ CMulW i j) ∧ Q (.int (i * j)) H
  | .str z, .int k => (0 ≤ k ∧ k ≤ 1000 ∧ z.length ≤ 1000) ∧ Q (.str (timesS z k)) H
  | .ref l, .int k => rRep (.ref l) (.int k) H Q
  | _, _ => False
theorem uMul : OpR X (binaryOp .Mult) rMulU := by
  intro pins s σ H x y v u Q I rx ry h
  cases x <;> cases y <;> first | exact h.elim | skip
  · obtain ⟨c | c, h⟩ := h
    · exact op_mul pins s σ H _ _ v u Q I rx ry ⟨_, _, rfl, rfl, c, h⟩
    · exact op_mulW pins s σ H _ _ v u Q I rx ry ⟨_, _, rfl, rfl, c, h⟩
  · rename_i z k
    obtain ⟨⟨h0, h1, hz⟩, q⟩ := h
    obtain ⟨t, rfl⟩ := rx
    obtain ⟨t', rfl⟩ := ry
    have hl : z.length * k.toNat ≤ 1000 * 1000 := Nat.mul_le_mul hz (by omega)
    refine P.mul_str ?_ ?_ ?_ ?_
    · have a : ¬ k < -(2 ^ 63) := by omega
      have b : ¬ k ≥ 2 ^ 63 := by omega
      rw [decide_eq_false a, decide_eq_false b]
      rfl
    · intro _ _ bad
      have : (z.length : Int) ≤ 1000 := by omega
      have e : (1000 : Int) ≤ (2 ^ 63 - 1) / k := by
        rw [Int.le_ediv_iff_mul_le (by omega)]
        have : (1000 : Int) * k ≤ 1000 * 1000 := Int.mul_le_mul_of_nonneg_left h1 (by decide)
        omega
      omega
    · intro _ _
      unfold Builtin.Str.tooLong
      have : z.length * k.toNat ≤ sizeLine := Nat.le_trans hl (by decide)
      simp
      exact this
    · split
      · rename_i hk
        rw [timesS_neg hk] at q
        exact ⟨by decide, ⟨.str Str.empty, H, I.tok _, ⟨_, rfl⟩, q⟩⟩
      · split
        · rename_i hk hc
          have e : timesS z k = z := by
            rcases (Bool.or_eq_true _ _).mp hc with c | c
            · have : k = 1 := by simpa using c
              rw [this, timesS_one]
            · exact timesS_nil (by simpa using c)
          rw [e] at q
          exact ⟨.str z, H, I.tok _, ⟨_, rfl⟩, q⟩
        · have e : (⟨(List.replicate k.toNat z.cps).foldl (· ++ ·) #[]⟩ : Str) = timesS z k := by
            rw [fold_rep]
            unfold timesS
            congr 1
            simp
          rw [e]
          refine ⟨?_, ⟨.str (timesS z k), H, I.tok _, ⟨_, rfl⟩, q⟩⟩
          have : (timesS z k).length = k.toNat * z.length := by
            unfold timesS Str.length
            simp
          rw [this, Nat.mul_comm]
          exact Nat.le_trans hl (by decide)
  · exact op_rep pins s σ H _ _ v u Q I rx ry h
def rModU : R2 := fun x y H Q => match x, y with
  | .int i, .int j => 0 < j ∧ Q (.int (i % j)) H
  | _, _ => False
theorem uMod : OpR X (binaryOp .Mod) rModU := by
  intro pins s σ H x y v u Q I rx ry h
  cases x <;> cases y <;> first | exact h.elim | exact op_mod pins s σ H _ _ v u Q I rx ry ⟨_, _, rfl, rfl, h.1, h.2⟩
def rDivU : R2 := fun x y H Q => match x, y with
  | .int i, .int j => (0 < j ∧ j < 1073741824) ∧ Q (.int (i / j)) H
  | _, _ => False
theorem uDiv : OpR X (binaryOp .FloorDiv) rDivU := by
  intro pins s σ H x y v u Q I rx ry h
  cases x <;> cases y <;> first | exact h.elim | exact op_fdiv pins s σ H _ _ v u Q I rx ry ⟨_, _, rfl, rfl, h.1, h.2⟩
def rPowU : R2 := fun x y H Q => match x, y with
  | .int i, .int j => CPow i j ∧ Q (.int (i ^ j.toNat)) H
  | _, _ => False
theorem uPow : OpR X (binaryOp .Pow) rPowU := by
  intro pins s σ H x y v u Q I rx ry h
  cases x <;> cases y <;> first | exact h.elim | exact op_pow pins s σ H _ _ v u Q I rx ry ⟨_, _, rfl, rfl, h.1, h.2⟩

/-! ### < <= > >= -/
def rLtU : R2 := fun x y H Q => match x, y with
  | .int i, .int j => Q (.bl (decide (i < j))) H
  | .str a, .str b => Q (.bl (decide (a.cps.toList < b.cps.toList))) H
  | _, _ => False
theorem uLt : OpR X (compareOp .Lt) rLtU := by
  intro pins s σ H x y v u Q I rx ry h
  cases x <;> cases y <;> first | exact h.elim | exact op_lt pins s σ H _ _ v u Q I rx ry ⟨_, _, rfl, rfl, h⟩ | exact op_lt_str pins s σ H _ _ v u Q I rx ry ⟨_, _, rfl, rfl, h⟩
def rLeU : R2 := fun x y H Q => match x, y with
  | .int i, .int j => Q (.bl (decide (i ≤ j))) H
  | _, _ => False
theorem uLe : OpR X (compareOp .LtE) rLeU := by
  intro pins s σ H x y v u Q I rx ry h
  cases x <;> cases y <;> first | exact h.elim | exact op_le pins s σ H _ _ v u Q I rx ry ⟨_, _, rfl, rfl, h⟩
def rGtU : R2 := fun x y H Q => match x, y with
  | .int i, .int j => Q (.bl (decide (j < i))) H
  | _, _ => False
theorem uGt : OpR X (compareOp .Gt) rGtU := by
  intro pins s σ H x y v u Q I rx ry h
  cases x <;> cases y <;> first | exact h.elim | exact op_gt pins s σ H _ _ v u Q I rx ry ⟨_, _, rfl, rfl, h⟩
def rGeU : R2 := fun x y H Q => match x, y with
  | .int i, .int j => Q (.bl (decide (j ≤ i))) H
  | _, _ => False
theorem uGe : OpR X (compareOp .GtE) rGeU := by
  intro pins s σ H x y v u Q I rx ry h
  cases x <;> cases y <;> first | exact h.elim | exact op_ge pins s σ H _ _ v u Q I rx ry ⟨_, _, rfl, rfl, h⟩

/-! ### == != is, is not -/
/-- == of any two: what is told of them is data -/
def eqB (x y : V) : Option Bool := match x, y with
  | .int i, .int j => some (decide (i = j))
  | .str a, .str b => some (decide (a = b))
  | .bl a, .bl b => some (decide (a = b))
  | .non, .non => some true
  | .int _, .str _ => some false
  | .str _, .int _ => some false
  | .non, .str _ => some false
  | .str _, .non => some false
  | .non, .int _ => some false
  | .int _, .non => some false
  | .bl _, .str _ => some false
  | .str _, .bl _ => some false
  | .bl _, .non => some false
  | .non, .bl _ => some false
  | _, _ => none
theorem eqB_scal {x y : V} {b : Bool} (h : eqB x y = some b) : scal x y = true ∧ decide (x = y) = b := by
  cases x <;> cases y <;> simp_all [eqB, scal]
def rEqU (K : PySem.W.Frag) : R2 := fun x y H Q => match eqB x y with
  | some b => Q (.bl b) H
  | none => rEqD K x y H Q
def rNeU (K : PySem.W.Frag) : R2 := fun x y H Q => match eqB x y with
  | some b => Q (.bl (!b)) H
  | none => rNeD K x y H Q
theorem uEq' (hu : X.A.units + 64 < cLine) : OpR X (compareOp .Eq) (rEqU X.K) := by
  intro pins s σ H x y v u Q I rx ry h
  unfold rEqU at h
  cases e : eqB x y with
  | some b =>
    rw [e] at h
    obtain ⟨z1, z2⟩ := eqB_scal e
    exact op_eq pins s σ H _ _ v u Q I rx ry ⟨z1, by rw [z2]; exact h⟩
  | none =>
    rw [e] at h
    exact op_eqD hu pins s σ H _ _ v u Q I rx ry h
theorem uNe' (hu : X.A.units + 64 < cLine) : OpR X (compareOp .NotEq) (rNeU X.K) := by
  intro pins s σ H x y v u Q I rx ry h
  unfold rNeU at h
  cases e : eqB x y with
  | some b =>
    rw [e] at h
    obtain ⟨z1, z2⟩ := eqB_scal e
    exact op_ne pins s σ H _ _ v u Q I rx ry ⟨z1, by rw [z2]; exact h⟩
  | none =>
    rw [e] at h
    exact op_neD hu pins s σ H _ _ v u Q I rx ry h
def rIsU : R2 := fun x y H Q => match y with
  | .non => Q (.bl (decide (x = .non))) H
  | .bl b => ∃ a, x = .bl a ∧ Q (.bl (decide (a = b))) H
  | _ => False
theorem uIs : OpR X (compareOp .Is) rIsU := by
  intro pins s σ H x y v u Q I rx ry h
  cases y <;> first | exact h.elim | exact op_isN pins s σ H _ _ v u Q I rx ry ⟨rfl, h⟩ | skip
  obtain ⟨a, rfl, h⟩ := h
  exact op_isBl pins s σ H _ _ v u Q I rx ry ⟨_, _, rfl, rfl, h⟩
def rIsNotU : R2 := fun x y H Q => match y with
  | .non => Q (.bl (!decide (x = .non))) H
  | .bl b => ∃ a, x = .bl a ∧ Q (.bl (!decide (a = b))) H
  | _ => False
theorem uIsNot : OpR X (compareOp .IsNot) rIsNotU := by
  intro pins s σ H x y v u Q I rx ry h
  cases y <;> first | exact h.elim | exact op_notN pins s σ H _ _ v u Q I rx ry ⟨rfl, h⟩ | skip
  obtain ⟨a, rfl, h⟩ := h
  exact op_notBl pins s σ H _ _ v u Q I rx ry ⟨_, _, rfl, rfl, h⟩

/-! ### in, not in: lists and tuples -/
def rInU (K : PySem.W.Frag) : R2 := fun x y H Q => match y with
  | .ref p => ∃ xs, (SqL K H p xs ∨ SqT K H p xs) ∧ ((flatV x = true ∧ xs.all flatV = true ∧ Q (.bl (inV x xs)) H))
  | _ => False
theorem uIn : OpR X (compareOp .In) (rInU X.K) := by
  intro pins s σ H x y v u Q I rx ry h
  cases y <;> first | exact h.elim | skip
  obtain ⟨xs, h1, h2, h3, h4⟩ := h
  exact op_in_seq pins s σ H _ _ v u Q I rx ry ⟨_, xs, rfl, h1, h2, h3, h4⟩
/-! ### o[i], o[a:b] -/
def rIxU (K : PySem.W.Frag) : R2 := fun x y H Q => match x, y with
  | .str z, .int i => z.length ≤ sizeLine ∧ ∃ c, atI z.cps.toList i = some c ∧ Q (.str ⟨#[c]⟩) H
  | .ref p, .int i => ∃ xs, (SqL K H p xs ∨ SqT K H p xs) ∧ ∃ v, atI xs i = some v ∧ Q v H
  | _, _ => False
theorem uIx : IxR X (rIxU X.K) := by
  intro a b pins s σ H x y v u Q I rx ry h hs
  cases x <;> cases y <;> first | exact h.elim | skip
  · obtain ⟨h1, c, h2, h3⟩ := h
    exact ix_str a b pins s σ H _ _ v u Q I rx ry ⟨_, _, c, rfl, rfl, h1, h2, h3⟩ hs
  · obtain ⟨xs, h1 | h1, w', h2, h3⟩ := h
    · exact ix_list a b pins s σ H _ _ v u Q I rx ry ⟨_, xs, _, w', rfl, rfl, h1, h2, h3⟩ hs
    · exact ix_tup a b pins s σ H _ _ v u Q I rx ry ⟨_, xs, _, w', rfl, rfl, h1, h2, h3⟩ hs
end
end U

/-! slices, built-in functions by the values that come -/
namespace U
open PySem PySem.Spec PyProof.Rows L2
section
variable {X : Cx}
/-! ### slices -/
def rSlU (K : PySem.W.Frag) : V → Option Int → Option Int → Hp → VK → Prop := fun x lo hi H Q => match x with
  | .str z => z.length ≤ sizeLine ∧ Q (.str (cutS z lo hi)) H
  | .ref a => (∃ xs, SqL K H a xs ∧ nL (cutV xs lo hi) H Q) ∨ rSlA K (.ref a) lo hi H Q
  | _ => False
theorem uSl : SlR X (rSlU X.K) := by
  intro pins s σ H x v vl vu lo hi sl Q I rx hs pl pu h
  cases x <;> first | exact h.elim | skip
  · exact sl_str pins s σ H _ v vl vu lo hi sl Q I rx hs pl pu ⟨_, rfl, h.1, h.2⟩
  · rcases h with ⟨xs, h1, h2⟩ | h
    · exact sl_list pins s σ H _ v vl vu lo hi sl Q I rx hs pl pu ⟨_, xs, rfl, h1, h2⟩
    · exact sl_tupA pins s σ H _ v vl vu lo hi sl Q I rx hs pl pu h

/-! ### len, abs, max, min, int, list, tuple -/
def rLenU (K : PySem.W.Frag) : List V → Hp → VK → Prop := fun xs H Q => match xs with
  | [.str z] => z.length ≤ sizeLine ∧ Q (.int z.length) H
  | [.ref p] => (∃ ys, (SqL K H p ys ∨ SqT K H p ys) ∧ Q (.int ys.length) H) ∨ ∃ kvs, H p = some (.dK kvs) ∧ Q (.int kvs.length) H
  | _ => False
theorem cLen : CallR X (.builtin "len") (rLenU X.K) := by
  intro pins s σ H xs us Q I r h
  match xs, h with
  | [.str z], h => exact call_len_str pins s σ H _ us Q I r ⟨z, rfl, h.1, h.2⟩
  | [.ref p], .inl ⟨ys, h1, h2⟩ => exact call_len_seq pins s σ H _ us Q I r ⟨p, ys, rfl, h1, h2⟩
  | [.ref p], .inr ⟨kvs, h1, h2⟩ => exact call_lenD pins s σ H _ us Q I r ⟨p, kvs, rfl, h1, h2⟩
def rAbsU : List V → Hp → VK → Prop := fun xs H Q => match xs with
  | [.int i] => Q (.int (i.natAbs : Int)) H
  | _ => False
theorem cAbs : CallR X (.builtin "abs") rAbsU := by
  intro pins s σ H xs us Q I r h
  match xs, h with
  | [.int i], h =>
    refine call_abs pins s σ H _ us Q I r ⟨i, rfl, ?_⟩
    have e : (if i < 0 then -i else i) = (i.natAbs : Int) := by split <;> omega
    rw [e]
    exact h
def rMaxU : List V → Hp → VK → Prop := fun xs H Q => match xs with
  | [.int i, .int j] => Q (.int (max i j)) H
  | _ => False
def rMinU : List V → Hp → VK → Prop := fun xs H Q => match xs with
  | [.int i, .int j] => Q (.int (min i j)) H
  | _ => False
def bToI (k : Bool) : Int := if k then 1 else 0
def rIntU : List V → Hp → VK → Prop := fun xs H Q => match xs with
  | [.int i] => Q (.int i) H
  | [.bl k] => Q (.int (bToI k)) H
  | _ => False
def rListU (K : PySem.W.Frag) : List V → Hp → VK → Prop := fun xs H Q => match xs with
  | [.ref p] => (∃ ys, (SqL K H p ys ∨ SqT K H p ys) ∧ nL ys H Q) ∨ ∃ kvs : List (Key × V), Rd H p (.dK kvs) ∧ nL (kvs.map fun kv => kV kv.1) H Q
  | _ => False
theorem cList (hc : X.calm = true) : CallR X (.type "list") (rListU X.K) := by
  intro pins s σ H xs us Q I r h
  match xs, h with
  | [.ref p], .inl ⟨ys, h1, h2⟩ => exact call_list_of pins s σ H _ us Q I r ⟨p, ys, rfl, h1, h2⟩
  | [.ref p], .inr ⟨kvs, h1, h2⟩ => exact call_listD hc pins s σ H _ us Q I r ⟨p, kvs, rfl, h1, h2⟩
def rTupleU (K : PySem.W.Frag) : List V → Hp → VK → Prop := fun xs H Q => match xs with
  | [.ref p] => (∃ ys, SqL K H p ys ∧ nT ys H Q) ∨ ((∃ ys, SqT K H p ys) ∧ Q (.ref p) H)
  | _ => False
theorem cTuple : CallR X (.type "tuple") (rTupleU X.K) := by
  intro pins s σ H xs us Q I r h
  match xs, h with
  | [.ref p], .inl ⟨ys, h1, h2⟩ => exact call_tuple_of pins s σ H _ us Q I r ⟨p, ys, rfl, .inl ⟨h1, h2⟩⟩
  | [.ref p], .inr ⟨⟨ys, h1⟩, h2⟩ => exact call_tuple_of pins s σ H _ us Q I r ⟨p, ys, rfl, .inr ⟨h1, h2⟩⟩
def rDictU : List V → Hp → VK → Prop := fun xs H Q => match xs with
  | [.ref p] => ∃ kvs : List (Key × V), Rd H p (.dK kvs) ∧ ∀ d, H d = none → Q (.ref d) (upd H d (.dK kvs))
  | _ => False
theorem cDict : CallR X (.type "dict") rDictU := by
  intro pins s σ H xs us Q I r h
  match xs, h with
  | [.ref p], ⟨kvs, h1, h2⟩ => exact call_dictD pins s σ H _ us Q I r ⟨p, kvs, rfl, h1, h2⟩

def rSumU (K : PySem.W.Frag) : List V → Hp → VK → Prop := fun xs H Q => match xs with
  | [.ref p] => ∃ ns : List Int, SqL K H p (ns.map V.int) ∧ Q (.int ns.sum) H
  | _ => False
theorem cSum (hc : X.calm = true) : CallR X (.builtin "sum") (rSumU X.K) := by
  intro pins s σ H xs us Q I r h
  match xs, h with
  | [.ref p], ⟨ns, h1, h2⟩ => exact cr_sum hc pins s σ H _ us Q I r ⟨p, ns, rfl, h1, h2⟩
def rAllU (K : PySem.W.Frag) : List V → Hp → VK → Prop := fun xs H Q => match xs with
  | [.ref p] => ∃ bs : List Bool, SqL K H p (bs.map V.bl) ∧ Q (.bl (bs.all id)) H
  | _ => False
theorem cAll (hc : X.calm = true) : CallR X (.builtin "all") (rAllU X.K) := by
  intro pins s σ H xs us Q I r h
  match xs, h with
  | [.ref p], ⟨bs, h1, h2⟩ => exact cr_all hc pins s σ H _ us Q I r ⟨p, bs, rfl, h1, h2⟩
/-! ### sorted -/
/-- a < b, of data -/
abbrev dLt (a b : PyData) : Bool := PySem.W.dataLt a b
/-- a list of what may be sorted -/
structure Sorts (K : PySem.W.Frag) (H : Hp) (bs : List (V × PyData)) : Prop where
  dat : ∀ b ∈ bs, Dp K H b.1 b.2
  alk : PySem.W.AllAlike (bs.map (·.2))
  srt : PySem.W.Sortable (bs.map (·.2))
  dep : ∀ b ∈ bs, b.2.depth ≤ 50
  len : bs.length ≤ 100000
def rSortU (K : PySem.W.Frag) : List V → Hp → VK → Prop := fun xs H Q => match xs with
  | [.ref p] => ∃ bs : List (V × PyData), SqL K H p (bs.map (·.1)) ∧ Sorts K H bs ∧
      ∀ cs : List (V × PyData), cs.Perm bs → cs.Pairwise (fun a b => dLt b.2 a.2 = false) → nL (cs.map (·.1)) H Q
  | _ => False
theorem each_vals : ∀ {bs : List (V × PyData)} {us : List Value}, Vals (bs.map (·.1)) us → PySem.W.EachIs (fun u b => RelV b.1 u) us bs
  | [], _, r => by
    cases r
    exact .nil
  | b :: bs, _, r => by
    cases r with
    | cons r1 r2 => exact .cons r1 (each_vals r2)
theorem vals_each : ∀ {bs : List (V × PyData)} {us : List Value}, PySem.W.EachIs (fun u b => RelV b.1 u) us bs → Vals (bs.map (·.1)) us
  | [], _, r => by
    cases r
    exact .nil
  | b :: bs, _, r => by
    cases r with
    | cons r1 r2 => exact .cons r1 (vals_each r2)
theorem each_reads {pins : List (Addr × Obj)} {σ : L2.St} {H : Hp} {s : Shared} (I : Inv X pins σ H s) : ∀ {bs : List (V × PyData)} {us : List Value}, (∀ b ∈ bs, Dp X.K H b.1 b.2) → Vals (bs.map (·.1)) us → PySem.W.EachIs (fun u b => ∃ as, Reads s.heap u b.2 as) us bs
  | [], _, _, r => by
    cases r
    exact .nil
  | b :: bs, _, h, r => by
    cases r with
    | cons r1 r2 => exact .cons (Dp.reads I _ _ _ (h b List.mem_cons_self) r1) (each_reads I (fun c hc => h c (List.mem_cons_of_mem _ hc)) r2)
theorem cSorted (hu : X.A.units + 64 < cLine) : CallR X (.builtin "sorted") (rSortU X.K) := by
  intro pins s σ H xs us Q I r h
  match xs, h with
  | [.ref p], ⟨bs, hs, S, q⟩ =>
    cases r with
    | cons r rr =>
      cases rr
      cases r
      obtain ⟨its, rv, pl, hz⟩ := I.list hs
      have e1 := each_vals rv
      have hb : ∀ b, b ∈ bs → X.A.units + 2 + b.2.depth < cLine := fun b hb => by
        have := S.dep b hb
        omega
      refine PySem.W.sorted_data (vs := its) (bs := bs) (enc := fun b : V × PyData => b.2) (R := fun u b => RelV b.1 u) pl.isList e1 (each_reads I S.dat rv) S.alk S.srt ?_ hb ?_
      · rw [List.length_map] at hz
        exact hz
      · intro out ol oe
        have perm : (bs.mergeSort (PySem.W.dataLe false fun b : V × PyData => b.2)).Perm bs := List.mergeSort_perm _ _
        have srt : (bs.mergeSort (PySem.W.dataLe false fun b : V × PyData => b.2)).Pairwise (fun a b => dLt b.2 a.2 = false) :=
          (PySem.W.sort_pairwise (PySem.W.sortLe_total _ _ _) bs).imp fun {a b} z => by
            have z' : (!dLt b.2 a.2) = true := z
            simpa using z'
        generalize bs.mergeSort (PySem.W.dataLe false fun b : V × PyData => b.2) = cs at perm srt oe
        have rv2 := vals_each oe
        have hfr : s.heap.objs.size ≤ s.heap.objs.size + 1 := Nat.le_succ _
        obtain ⟨e, he⟩ := sortedAll_at s.heap its out.toArray
        have new : ObjOk X.prog X.w (upd H (s.heap.objs.size + 1) (.lst (cs.map (·.1)))) (sortedAll s.heap its out.toArray) (s.heap.objs.size + 1) (.lst (cs.map (·.1))) :=
          ⟨by rw [List.length_map, perm.length_eq]; rw [List.length_map] at hz; exact hz, out, e, rv2, he⟩
        exact ⟨.ref (s.heap.objs.size + 1), _, I.laid (t' := s.toks) (fun b u z => sortedAll_old z) hfr new, rfl, q cs perm srt _ (I.hok.fresh hfr)⟩

/-! ### isinstance of built-in classes -/
inductive Ty where
  | non | bl | int | str | lst | tup | dct
  deriving DecidableEq
def Ty.nm : Ty → String
  | .non => "NoneType"
  | .bl => "bool"
  | .int => "int"
  | .str => "str"
  | .lst => "list"
  | .tup => "tuple"
  | .dct => "dict"
def isT (a b : Ty) : Bool := decide (a = b) || (decide (a = .bl) && decide (b = .int))
theorem isT_ok (a b : Ty) (hb : b ≠ .non) : kitB a.nm b.nm = some (isT a b) := by
  cases a <;> cases b <;> first | exact absurd rfl hb | decide +kernel
/-- a value's class -/
def TyIs (K : PySem.W.Frag) (H : Hp) (x : V) (a : Ty) : Prop := TyX K H x (.type a.nm)
def tyOf : String → Option Ty
  | "bool" => some .bl
  | "int" => some .int
  | "str" => some .str
  | "list" => some .lst
  | "tuple" => some .tup
  | "dict" => some .dct
  | _ => none
theorem tyOf_ok {n : String} {t : Ty} (h : tyOf n = some t) : n = t.nm ∧ t ≠ .non := by
  unfold tyOf at h
  split at h <;> first | (cases h; exact ⟨rfl, by decide⟩) | cases h
def rIsiU (K : PySem.W.Frag) : List V → Hp → VK → Prop := fun xs H Q => match xs with
  | [x, .ty n] => ∃ a t, TyIs K H x a ∧ tyOf n = some t ∧ Q (.bl (isT a t)) H
  | _ => False
theorem cIsi : CallR X (.builtin "isinstance") (rIsiU X.K) := by
  intro pins s σ H xs us Q I r h
  match xs, h with
  | [x, .ty n], ⟨a, t, h1, h2, h3⟩ =>
    obtain ⟨e, hn⟩ := tyOf_ok h2
    exact call_isi pins s σ H _ us Q I r ⟨x, _, _, _, _, rfl, .ty n, h1, kit_ty (by rw [e]; exact isT_ok a t hn), h3⟩
theorem ty_str {K : PySem.W.Frag} {H : Hp} {x : Str} : TyIs K H (.str x) .str := .base (.str x)
theorem ty_int {K : PySem.W.Frag} {H : Hp} {x : Int} : TyIs K H (.int x) .int := .base (.int x)
theorem ty_bl {K : PySem.W.Frag} {H : Hp} {x : Bool} : TyIs K H (.bl x) .bl := .base (.bl x)
theorem ty_non {K : PySem.W.Frag} {H : Hp} : TyIs K H .non .non := .base .non
theorem ty_lst {K : PySem.W.Frag} {H : Hp} {a : Addr} {xs : List V} (h : H a = some (.lst xs)) : TyIs K H (.ref a) .lst := .base (.lst h)
theorem ty_tup {K : PySem.W.Frag} {H : Hp} {a : Addr} {xs : List V} (h : H a = some (.tup xs)) : TyIs K H (.ref a) .tup := .base (.tup h)
theorem ty_dK {K : PySem.W.Frag} {H : Hp} {a : Addr} {kvs : List (Key × V)} (h : H a = some (.dK kvs)) : TyIs K H (.ref a) .dct := .base (.dK h)
end
end U
namespace U
open PySem PySem.Spec PyProof.Rows L2
/-! the rules with the fragment told: they serve within a comprehension's block -/
section
variable {X : Cx} (K : PySem.W.Frag) (hK : X.K = K)
include hK
theorem kAdd : OpR X (binaryOp .Add) (rAddU K) := hK ▸ uAdd
theorem kEq (hu : X.A.units + 64 < cLine) : OpR X (compareOp .Eq) (rEqU K) := hK ▸ uEq' hu
theorem kNe (hu : X.A.units + 64 < cLine) : OpR X (compareOp .NotEq) (rNeU K) := hK ▸ uNe' hu
theorem kIn : OpR X (compareOp .In) (rInU K) := hK ▸ uIn
theorem kIx : IxR X (rIxU K) := hK ▸ uIx
theorem kSl : SlR X (rSlU K) := hK ▸ uSl
theorem kLen : CallR X (.builtin "len") (rLenU K) := hK ▸ cLen
theorem kList (hc : X.calm = true) : CallR X (.type "list") (rListU K) := hK ▸ cList hc
theorem kTuple : CallR X (.type "tuple") (rTupleU K) := hK ▸ cTuple
theorem kSum (hc : X.calm = true) : CallR X (.builtin "sum") (rSumU K) := hK ▸ cSum hc
theorem kAll (hc : X.calm = true) : CallR X (.builtin "all") (rAllU K) := hK ▸ cAll hc
theorem kSorted (hu : X.A.units + 64 < cLine) : CallR X (.builtin "sorted") (rSortU K) := hK ▸ cSorted hu
theorem kIsi : CallR X (.builtin "isinstance") (rIsiU K) := hK ▸ cIsi
theorem ki_list {tg l : Expr} {tl : TE} (hl : PE X l tl) : PI X tg l (iList K tl) := hK ▸ pi_list hl
theorem ki_tup {tg l : Expr} {tl : TE} (hl : PE X l tl) : PI X tg l (iTup K tl) := hK ▸ pi_tup hl
theorem kg_tup {pos : Pos} {es : List Expr} {k : Nat} {t : TGs} {n : Nat} (hc : X.calm = true) (h : PGs X es t)
    (hn : (assignEach es X.env).length = n := by rfl) (hst : (assignEach es X.env).findIdx? (·.1) = none := by rfl) : PG X (.Tuple es k pos) (gTup K n t) := hK ▸ pg_tup hc h hn hst
end
end U

/-! the readings, step by step: one lemma a form, one word for all that need no thought -/
namespace U
open PySem PySem.Spec PyProof.Rows L2
section
variable {σ : L2.St} {H : Hp} {Q : VK} {D : Ends} {v x y : V} {i j : Int} {a b : Str} {ta tb tc te : TE} {t u : TS} {K : PySem.W.Frag}
theorem rd_seq (h : t { D with nx := u D } σ H) : tSeq t u D σ H := h
theorem rd_var {n : Nat} (e : σ[n]? = some (some v)) (h : Q v H) : tVar n σ H Q := ⟨v, e, h⟩
theorem rd_c (h : Q v H) : tC v σ H Q := h
theorem rd_asg {g : TG} (h : te σ H fun x H1 => g x σ H1 D.nx) : tAsg te g D σ H := h
theorem rd_name {n : Nat} {Q : L2.St → Hp → Prop} (h : Q (σ.set n (some v)) H) : gName n v σ H Q := h
theorem rd_ret (h : te σ H D.rt) : tRet te D σ H := h
theorem rd_retN (h : D.rt .non H) : tRetN D σ H := h
theorem rd_drop (h : te σ H fun _ H1 => D.nx σ H1) : tDrop te D σ H := h
theorem rd_next (h : D.nx σ H) : tNext D σ H := h
theorem rd_if {c : TT} (h : c σ H fun b H1 => if b = true then t D σ H1 else u D σ H1) : tIfS c t u D σ H := h
theorem rd_break (h : D.bk σ H) : tBreak D σ H := h
theorem rd_cont (h : D.ct σ H) : tCont D σ H := h
theorem rd_op {r : R2} (h : ta σ H fun x H1 => tb σ H1 fun y H2 => r x y H2 Q) : tOp r ta tb σ H Q := h
theorem rd_test {Q : Bool → Hp → Prop} (h : te σ H fun x H1 => ∃ k, x = .bl k ∧ Q k H1) : tTest te σ H Q := h
theorem rd_B {Q : Bool → Hp → Prop} (h : te σ H fun x H1 => ∃ k, x = .bl k ∧ Q k H1) : tB te σ H Q := h
theorem rd_bl {Q : Bool → Prop} {k : Bool} (h : Q k) : ∃ c, V.bl k = .bl c ∧ Q c := ⟨k, rfl, h⟩
theorem rd_chain {r r' : R2} (h : ta σ H fun x H1 => tb σ H1 fun y H2 => r x y H2 fun z H3 => ∃ k, z = .bl k ∧ (if k = true then tc σ H3 fun w' H4 => r' y w' H4 Q else Q (.bl false) H3)) : tChain r r' ta tb tc σ H Q := h
theorem rd_nil {Q : List V → Hp → Prop} (h : Q [] H) : tNil σ H Q := h
theorem rd_cons {tr : TA} {Q : List V → Hp → Prop} (h : ta σ H fun x H1 => tr σ H1 fun xs H2 => Q (x :: xs) H2) : tCons ta tr σ H Q := h
theorem rd_cb {r : List V → Hp → VK → Prop} {tr : TA} (h : tr σ H fun vs H1 => r vs H1 Q) : tCB r tr σ H Q := h
theorem rd_c1 {sp : Sp} {E : XK} {tr : TA} (h : tr σ H fun vs H1 => sp vs H1 Q E) : tC1 sp E tr σ H Q := h
theorem rd_c2 {sp : Sp} {W : WX} {tr : TA} (h : tr σ H fun vs H1 => sp vs H1 Q fun cls d H' => W cls d σ H') : tC2 sp W tr σ H Q := h
theorem rd_lst {tr : TA} (h : tr σ H fun xs H1 => xs.length ≤ sizeLine ∧ nL xs H1 Q) : tLst tr σ H Q := h
theorem rd_tup {tr : TA} (h : tr σ H fun xs H1 => xs.length ≤ sizeLine ∧ nT xs H1 Q) : tTup tr σ H Q := h
theorem rd_sz {xs : List V} {P : Prop} (h : Nat.ble xs.length 1000 = true) (q : P) : xs.length ≤ sizeLine ∧ P :=
  ⟨Nat.le_trans (Nat.le_of_ble_eq_true h) (by decide), q⟩
theorem rd_addI (h : Q (.int (i + j)) H) : rAddU K (.int i) (.int j) H Q := h
theorem rd_subI (h : Q (.int (i - j)) H) : rSubU (.int i) (.int j) H Q := h
theorem rd_mulI (c : CMul i j ∨ CMulW i j) (h : Q (.int (i * j)) H) : rMulU (.int i) (.int j) H Q := ⟨c, h⟩
theorem rd_modI (c : 0 < j) (h : Q (.int (i % j)) H) : rModU (.int i) (.int j) H Q := ⟨c, h⟩
theorem rd_divI (c : 0 < j ∧ j < 1073741824) (h : Q (.int (i / j)) H) : rDivU (.int i) (.int j) H Q := ⟨c, h⟩
theorem rd_addS (c : a.length + b.length ≤ sizeLine) (h : Q (.str (a ++ b)) H) : rAddU K (.str a) (.str b) H Q := ⟨c, h⟩
theorem rd_ltI (h : Q (.bl (decide (i < j))) H) : rLtU (.int i) (.int j) H Q := h
theorem rd_ltS (h : Q (.bl (decide (a.cps.toList < b.cps.toList))) H) : rLtU (.str a) (.str b) H Q := h
theorem rd_leI (h : Q (.bl (decide (i ≤ j))) H) : rLeU (.int i) (.int j) H Q := h
theorem rd_gtI (h : Q (.bl (decide (j < i))) H) : rGtU (.int i) (.int j) H Q := h
theorem rd_geI (h : Q (.bl (decide (j ≤ i))) H) : rGeU (.int i) (.int j) H Q := h
theorem rd_eqI (h : Q (.bl (decide (i = j))) H) : rEqU K (.int i) (.int j) H Q := h
theorem rd_eqS (h : Q (.bl (decide (a = b))) H) : rEqU K (.str a) (.str b) H Q := h
theorem rd_neI (h : Q (.bl (!decide (i = j))) H) : rNeU K (.int i) (.int j) H Q := h
theorem rd_neS (h : Q (.bl (!decide (a = b))) H) : rNeU K (.str a) (.str b) H Q := h
theorem rd_is (h : Q (.bl (decide (x = .non))) H) : rIsU x .non H Q := h
theorem rd_isNot (h : Q (.bl (!decide (x = .non))) H) : rIsNotU x .non H Q := h
theorem rd_absI (h : Q (.int (i.natAbs : Int)) H) : rAbsU [.int i] H Q := h
theorem rd_maxI (h : Q (.int (max i j)) H) : rMaxU [.int i, .int j] H Q := h
theorem rd_minI (h : Q (.int (min i j)) H) : rMinU [.int i, .int j] H Q := h
theorem rd_intI (h : Q (.int i) H) : rIntU [.int i] H Q := h
theorem rd_intB {k : Bool} (h : Q (.int (bToI k)) H) : rIntU [.bl k] H Q := h
theorem rd_neg {g : Int → Int} (h : Q (.int (g i)) H) : rU (fun i => .int (g i)) (.int i) H Q := ⟨i, rfl, h⟩
theorem rd_sub {to ti : TE} {t : TSet} {Q : L2.St → Hp → Prop} (h : to σ H fun o H1 => ti σ H1 fun i H2 => t o i v H2 fun H3 => Q σ H3) : gSub to ti t v σ H Q := h
theorem rd_and {t u : TT} {Q : Bool → Hp → Prop} (h : t σ H fun c H1 => if c = true then u σ H1 Q else Q false H1) : tAnd t u σ H Q := h
theorem rd_or {t u : TT} {Q : Bool → Hp → Prop} (h : t σ H fun c H1 => if c = true then Q true H1 else u σ H1 Q) : tOr t u σ H Q := h
theorem rd_not {t : TT} {Q : Bool → Hp → Prop} (h : t σ H fun c H1 => Q (!c) H1) : tNot t σ H Q := h
theorem rd_andV (h : ta σ H fun x H1 => ∃ c, x = .bl c ∧ if c = true then tb σ H1 Q else Q (.bl false) H1) : tAndV ta tb σ H Q := h
theorem rd_orV (h : ta σ H fun x H1 => ∃ c, x = .bl c ∧ if c = true then Q (.bl true) H1 else tb σ H1 Q) : tOrV ta tb σ H Q := h
theorem rd_notV (h : ta σ H fun x H1 => ∃ c, x = .bl c ∧ Q (.bl (!c)) H1) : tNotV ta σ H Q := h
theorem rd_ifE {t : TT} (h : t σ H fun c H1 => if c = true then ta σ H1 Q else tb σ H1 Q) : tIf t ta tb σ H Q := h
theorem rd_T {A B : Prop} (h : A) : if true = true then A else B := by
  rw [if_pos rfl]
  exact h
theorem rd_F {A B : Prop} (h : B) : if false = true then A else B := by
  rw [if_neg Bool.false_ne_true]
  exact h
/-- a test that is known -/
theorem rd_yes {c : Prop} {_ : Decidable c} {A B : Prop} (hc : c) (h : A) : if decide c = true then A else B := by
  rw [if_pos (decide_eq_true hc)]
  exact h
theorem rd_no {c : Prop} {_ : Decidable c} {A B : Prop} (hc : ¬ c) (h : B) : if decide c = true then A else B := by
  rw [if_neg (by rw [decide_eq_false hc]; exact Bool.false_ne_true)]
  exact h
theorem rd_nyes {c : Prop} {_ : Decidable c} {A B : Prop} (hc : ¬ c) (h : A) : if (!decide c) = true then A else B := by
  rw [if_pos (by rw [decide_eq_false hc]; rfl)]
  exact h
theorem rd_nno {c : Prop} {_ : Decidable c} {A B : Prop} (hc : c) (h : B) : if (!decide c) = true then A else B := by
  rw [if_neg (by rw [decide_eq_true hc]; exact Bool.false_ne_true)]
  exact h
theorem rd_split {c : Prop} {_ : Decidable c} {A B : Prop} (h1 : c → A) (h2 : ¬ c → B) : if decide c = true then A else B := by
  by_cases h : c
  · exact rd_yes h (h1 h)
  · exact rd_no h (h2 h)
theorem rd_nsplit {c : Prop} {_ : Decidable c} {A B : Prop} (h1 : ¬ c → A) (h2 : c → B) : if (!decide c) = true then A else B := by
  by_cases h : c
  · exact rd_nno h (h2 h)
  · exact rd_nyes h (h1 h)
theorem rd_b {c : Bool} {A B : Prop} (h1 : c = true → A) (h2 : c = false → B) : if c = true then A else B := by
  cases c with
  | true => exact rd_T (h1 rfl)
  | false => exact rd_F (h2 rfl)
/-- an item of a list, a tuple -/
theorem rd_ixL {p : Addr} {xs : List V} (hs : SqL K H p xs) (hv : atI xs i = some v) (h : Q v H) : rIxU K (.ref p) (.int i) H Q := ⟨xs, .inl hs, v, hv, h⟩
theorem rd_ixT {p : Addr} {xs : List V} (hs : SqT K H p xs) (hv : atI xs i = some v) (h : Q v H) : rIxU K (.ref p) (.int i) H Q := ⟨xs, .inr hs, v, hv, h⟩
theorem rd_ixS {c : Nat} (hz : a.length ≤ 100000) (hv : atI a.cps.toList i = some c) (h : Q (.str ⟨#[c]⟩) H) : rIxU K (.str a) (.int i) H Q := ⟨Nat.le_trans hz (by decide), c, hv, h⟩
theorem rd_lenL {p : Addr} {xs : List V} (hs : SqL K H p xs) (h : Q (.int xs.length) H) : rLenU K [.ref p] H Q := .inl ⟨xs, .inl hs, h⟩
theorem rd_lenT {p : Addr} {xs : List V} (hs : SqT K H p xs) (h : Q (.int xs.length) H) : rLenU K [.ref p] H Q := .inl ⟨xs, .inr hs, h⟩
theorem rd_lenD {p : Addr} {kvs : List (Key × V)} (hs : H p = some (.dK kvs)) (h : Q (.int kvs.length) H) : rLenU K [.ref p] H Q := .inr ⟨kvs, hs, h⟩
theorem rd_setL {p : Addr} {xs : List V} {n : Nat} {Q : Hp → Prop} (hs : H p = some (.lst xs)) (hi : ixN xs.length i = some n) (h : Q (upd H p (.lst (xs.set n v)))) : rSetL (.ref p) (.int i) v H Q := ⟨p, xs, i, n, rfl, rfl, hs, hi, h⟩
theorem rd_tupleL {p : Addr} {xs : List V} (hs : SqL K H p xs) (h : nT xs H Q) : rTupleU K [.ref p] H Q := .inl ⟨xs, hs, h⟩
theorem rd_slL {lo hi : Option Int} {p : Addr} {xs : List V} (hs : SqL K H p xs) (h : nL (cutV xs lo hi) H Q) : rSlU K (.ref p) lo hi H Q := .inl ⟨xs, hs, h⟩
theorem rd_sl {tl th : TO} {r : V → Option Int → Option Int → Hp → VK → Prop} (h : te σ H fun x H1 => tl σ H1 fun lo H2 => th σ H2 fun hi H3 => r x lo hi H3 Q) : tSl r te tl th σ H Q := h
theorem rd_noPart {Q : Option Int → Hp → Prop} (h : Q none H) : tNoPart σ H Q := h
theorem rd_part {Q : Option Int → Hp → Prop} (h : te σ H fun x H1 => ∃ i, x = .int i ∧ Q (some i) H1) : tPart te σ H Q := h
theorem rd_exI {Q : Int → Prop} (h : Q i) : ∃ k, V.int i = .int k ∧ Q k := ⟨i, rfl, h⟩
theorem rd_bm {T : String} {r : V → List V → Hp → VK → Prop} {tr : TA} (h : te σ H fun x H1 => tyV K T x H1 ∧ tr σ H1 fun xs H2 => r x xs H2 Q) : tBM K T r te tr σ H Q := h
theorem rd_bm0 {T : String} {r : V → List V → Hp → VK → Prop} (h : te σ H fun x H1 => tyV K T x H1 ∧ r x [] H1 Q) : tBM0 K T r te σ H Q := h
theorem rd_tyL {p : Addr} {xs : List V} {P : Prop} (hs : H p = some (.lst xs)) (h : P) : tyV K "list" (.ref p) H ∧ P := ⟨.inl ⟨rfl, xs, .inl (.inl hs)⟩, h⟩
theorem rd_append {p : Addr} {xs : List V} (hs : H p = some (.lst xs)) (hz : xs.length < 100000) (h : Q .non (upd H p (.lst (xs ++ [v])))) : rAppend (.ref p) [v] H Q :=
  ⟨p, xs, v, rfl, rfl, hs, Nat.lt_of_lt_of_le hz (by decide), h⟩
theorem mul_bI {i : Int} {b : Bool} : CMul i (bToI b) ∨ CMulW i (bToI b) := .inl (.inr (by cases b <;> decide))
theorem rd_powI (c : CPow i j) (h : Q (.int (i ^ j.toNat)) H) : rPowU (.int i) (.int j) H Q := ⟨c, h⟩
/-! heaps -/
theorem new_ne {p q : Addr} {o : HO} (h : upd H p o q = none) : q ≠ p := fun e => by
  rw [e, upd_same] at h
  cases h
theorem new_old {p q : Addr} {o : HO} (h : upd H p o q = none) : H q = none := by
  rw [upd_ne (new_ne h)] at h
  exact h
theorem at_upd {p q : Addr} {o u : HO} (n : q ≠ p) (h : H q = some u) : upd H p o q = some u := (upd_ne n).trans h
theorem no_upd {p q : Addr} {o : HO} (n : q ≠ p) (h : H q = none) : upd H p o q = none := (upd_ne n).trans h
/-- all that is tracked stays, but the object at p -/
def But (p : Addr) (H H' : Hp) : Prop := ∀ b o, b ≠ p → H b = some o → H' b = some o
theorem But.refl {p : Addr} : But p H H := fun _ _ _ h => h
theorem But.trans {p : Addr} {H1 H2 : Hp} (a : But p H H1) (b : But p H1 H2) : But p H H2 := fun c o n h => b c o n (a c o n h)
theorem But.of_same {p : Addr} {H1 : Hp} (a : Same H H1) : But p H H1 := fun c o _ h => a c o h
theorem But.upd {p : Addr} {o : HO} : But p H (upd H p o) := fun _ _ n h => at_upd n h
theorem But.new {p q : Addr} {o : HO} (h : H q = none) : But p H (L2.upd H q o) := fun _ _ _ e => at_upd (ne_of_none e h) e
theorem Same.new {q : Addr} {o : HO} (h : H q = none) : Same H (L2.upd H q o) := fun _ _ e => at_upd (ne_of_none e h) e
theorem But.free {p q : Addr} {H1 : Hp} (a : But p H H1) (n : q ≠ p) (h : H1 q = none) : H q = none := by
  cases e : H q with
  | none => rfl
  | some o =>
    rw [a q o n e] at h
    cases h
theorem new_of_same {q : Addr} {H1 : Hp} (a : Same H H1) (h : H1 q = none) : H q = none := a.free h
theorem Same.seqT {H' : Hp} {a : Addr} {xs : List V} (e : Same H H') (h : SqT K H a xs) : SqT K H' a xs := by
  rcases h with (h | ⟨o, h⟩) | h
  · exact .inl (.inl (e _ _ h))
  · exact .inl (.inr ⟨o, e _ _ h⟩)
  · exact .inr h
theorem But.seqT {p : Addr} {H' : Hp} {a : Addr} {xs : List V} (e : But p H H') (n : ∃ ys, H p = some (.lst ys)) (h : SqT K H a xs) : SqT K H' a xs := by
  obtain ⟨ys, hy⟩ := n
  rcases h with (h | ⟨o, h⟩) | h
  · exact .inl (.inl (e _ _ (ne_of h hy (by intro z; cases z)) h))
  · exact .inl (.inr ⟨o, e _ _ (ne_of h hy (by intro z; cases z)) h⟩)
  · exact .inr h
theorem rd_un {r : V → Hp → VK → Prop} (h : ta σ H fun x H1 => r x H1 Q) : tUn r ta σ H Q := h
end
local macro_rules | `(tactic| wtm_at "rd1") => `(tactic| first
  | with_reducible refine rd_seq ?_
  | ((with_reducible refine rd_var (v := ?vv) ?hv ?_); (case hv => exact rfl))
  | with_reducible refine rd_c ?_
  | with_reducible refine rd_cons ?_
  | with_reducible refine rd_nil ?_
  | with_reducible refine rd_op ?_
  | with_reducible refine rd_asg ?_
  | with_reducible refine rd_name ?_
  | with_reducible refine rd_c1 ?_
  | with_reducible refine rd_cb ?_
  | with_reducible refine rd_test ?_
  | with_reducible refine rd_B ?_
  | with_reducible refine rd_bl ?_
  | with_reducible refine rd_if ?_
  | with_reducible refine rd_ret ?_
  | with_reducible refine rd_drop ?_
  | with_reducible refine rd_next ?_
  | with_reducible refine rd_addI ?_
  | with_reducible refine rd_ltI ?_
  | with_reducible refine rd_eqI ?_
  | with_reducible refine rd_neI ?_
  | with_reducible refine rd_eqS ?_
  | with_reducible refine rd_neS ?_
  | with_reducible refine rd_gtI ?_
  | with_reducible refine rd_geI ?_
  | with_reducible refine rd_leI ?_
  | with_reducible refine rd_ltS ?_
  | with_reducible refine rd_subI ?_
  | ((with_reducible refine rd_modI ?hc ?_); (case hc => first | decide | omega))
  | ((with_reducible refine rd_mulI ?hc ?_); (case hc => first | exact mul_bI | exact .inl (.inr (by decide)) | exact .inl (.inl (by decide)) | exact .inl (.inr (by omega)) | exact .inl (.inl (by omega))))
  | ((with_reducible refine rd_divI ?hc ?_); (case hc => first | decide | omega))
  | ((with_reducible refine rd_powI ?hc ?_); (case hc => exact ⟨by decide, by decide, by decide⟩))
  | with_reducible refine rd_lst ?_
  | with_reducible refine rd_tup ?_
  | ((with_reducible refine rd_sz ?hv ?_); (case hv => exact rfl))
  | with_reducible refine rd_and ?_
  | with_reducible refine rd_or ?_
  | with_reducible refine rd_not ?_
  | with_reducible refine rd_andV ?_
  | with_reducible refine rd_orV ?_
  | with_reducible refine rd_notV ?_
  | with_reducible refine rd_ifE ?_
  | with_reducible refine rd_T ?_
  | with_reducible refine rd_F ?_
  | with_reducible refine rd_chain ?_
  | with_reducible refine rd_is ?_
  | with_reducible refine rd_isNot ?_
  | with_reducible refine rd_absI ?_
  | with_reducible refine rd_maxI ?_
  | with_reducible refine rd_minI ?_
  | with_reducible refine rd_intI ?_
  | with_reducible refine rd_intB ?_
  | with_reducible refine rd_sub ?_
  | with_reducible refine rd_sl ?_
  | with_reducible refine rd_noPart ?_
  | with_reducible refine rd_part ?_
  | with_reducible refine rd_exI ?_
  | with_reducible refine rd_bm ?_
  | with_reducible refine rd_bm0 ?_
  | with_reducible refine rd_un ?_
  | with_reducible refine rd_neg ?_
  | with_reducible refine rd_c2 ?_
  | with_reducible refine rd_retN ?_
  | with_reducible refine rd_break ?_
  | with_reducible refine rd_cont ?_)
local macro_rules | `(tactic| wtm_at "rd") => `(tactic| repeat wtm_at "rd1")
end U

/-! texts in order, names -/
namespace U
open PySem PySem.Spec PyProof.Rows L2
/-- the order of texts -/
def sLt (a b : Str) : Prop := a.cps.toList < b.cps.toList
instance (a b : Str) : Decidable (sLt a b) := inferInstanceAs (Decidable (a.cps.toList < b.cps.toList))
theorem str_ext {a b : Str} (h : a.cps.toList = b.cps.toList) : a = b := by
  obtain ⟨x⟩ := a
  obtain ⟨y⟩ := b
  have e : x = y := Array.toList_inj.mp h
  rw [e]
theorem sLt_irrefl (a : Str) : ¬ sLt a a := List.lt_irrefl _
theorem sLt_trans {a b c : Str} (h : sLt a b) (h' : sLt b c) : sLt a c := List.lt_trans h h'
theorem sLt_asymm {a b : Str} (h : sLt a b) : ¬ sLt b a := fun h' => sLt_irrefl a (sLt_trans h h')
theorem sLt_total {a b : Str} (h : ¬ sLt b a) (n : a ≠ b) : sLt a b := by
  have h1 : a.cps.toList ≤ b.cps.toList := List.not_lt.mp h
  rcases List.le_iff_lt_or_eq.mp h1 with z | z
  · exact z
  · exact absurd (str_ext z) n
theorem sLt_tri (a b : Str) : sLt a b ∨ a = b ∨ sLt b a := by
  by_cases h : sLt b a
  · exact .inr (.inr h)
  · by_cases e : a = b
    · exact .inr (.inl e)
    · exact .inl (sLt_total h e)
/-- strictly upwards -/
abbrev Asc (xs : List Str) : Prop := xs.Pairwise sLt
theorem asc_nodup {xs : List Str} (h : Asc xs) : xs.Nodup := by
  refine List.Pairwise.imp ?_ h
  intro a b z e
  subst e
  exact sLt_irrefl _ z
/-- two lists upwards with the same members are one -/
theorem asc_unique : ∀ {xs ys : List Str}, Asc xs → Asc ys → (∀ z, z ∈ xs ↔ z ∈ ys) → xs = ys
  | [], [], _, _, _ => rfl
  | [], y :: ys, _, _, h => absurd ((h y).mpr List.mem_cons_self) List.not_mem_nil
  | x :: xs, [], _, _, h => absurd ((h x).mp List.mem_cons_self) List.not_mem_nil
  | x :: xs, y :: ys, hx, hy, h => by
    rw [Asc, List.pairwise_cons] at hx hy
    have e : x = y := by
      rcases List.mem_cons.mp ((h x).mp List.mem_cons_self) with z | z
      · exact z
      · rcases List.mem_cons.mp ((h y).mpr List.mem_cons_self) with z2 | z2
        · exact z2.symm
        · exact absurd (hx.1 _ z2) (sLt_asymm (hy.1 _ z))
    subst e
    have t : xs = ys := asc_unique hx.2 hy.2 fun z => by
      constructor
      · intro hz
        rcases List.mem_cons.mp ((h z).mp (List.mem_cons_of_mem _ hz)) with e | e
        · subst e
          exact absurd (hx.1 _ hz) (sLt_irrefl _)
        · exact e
      · intro hz
        rcases List.mem_cons.mp ((h z).mpr (List.mem_cons_of_mem _ hz)) with e | e
        · subst e
          exact absurd (hy.1 _ hz) (sLt_irrefl _)
        · exact e
    rw [t]
theorem asc_of_sorted {xs : List Str} (h : xs.Pairwise fun a b => ¬ sLt b a) (n : xs.Nodup) : Asc xs := by
  have z : xs.Pairwise fun a b => ¬ sLt b a ∧ a ≠ b := List.Pairwise.and h n
  exact z.imp fun {a b} q => sLt_total q.1 q.2
/-- an edge's order -/
def eLt (a b : Str × Str) : Prop := sLt a.1 b.1 ∨ (a.1 = b.1 ∧ sLt a.2 b.2)
instance (a b : Str × Str) : Decidable (eLt a b) := inferInstanceAs (Decidable (_ ∨ _))
theorem eLt_irrefl (a : Str × Str) : ¬ eLt a a := fun h => h.elim (sLt_irrefl _) fun z => sLt_irrefl _ z.2
theorem eLt_trans {a b c : Str × Str} (h : eLt a b) (h' : eLt b c) : eLt a c := by
  rcases h with h | ⟨e, h⟩
  · rcases h' with h' | ⟨e', h'⟩
    · exact .inl (sLt_trans h h')
    · exact .inl (e' ▸ h)
  · rcases h' with h' | ⟨e', h'⟩
    · exact .inl (e ▸ h')
    · exact .inr ⟨e.trans e', sLt_trans h h'⟩
theorem eLt_total {a b : Str × Str} (h : ¬ eLt b a) (n : a ≠ b) : eLt a b := by
  rcases sLt_tri a.1 b.1 with z | z | z
  · exact .inl z
  · rcases sLt_tri a.2 b.2 with y | y | y
    · exact .inr ⟨z, y⟩
    · exact absurd (Prod.ext z y) n
    · exact absurd (.inr ⟨z.symm, y⟩) h
  · exact absurd (.inl z) h
abbrev AscE (xs : List (Str × Str)) : Prop := xs.Pairwise eLt
theorem ascE_nodup {xs : List (Str × Str)} (h : AscE xs) : xs.Nodup := by
  refine List.Pairwise.imp ?_ h
  intro a b z e
  subst e
  exact eLt_irrefl _ z
theorem ascE_of_sorted {xs : List (Str × Str)} (h : xs.Pairwise fun a b => ¬ eLt b a) (n : xs.Nodup) : AscE xs := by
  have z : xs.Pairwise fun a b => ¬ eLt b a ∧ a ≠ b := List.Pairwise.and h n
  exact z.imp fun {a b} q => eLt_total q.1 q.2

section
variable {K : PySem.W.Frag} {H : Hp} {Q : VK} {p : Addr}
theorem perm_of_map {α β : Type} {f : α → β} : ∀ {l : List β} {xs : List α}, l.Perm (xs.map f) → ∃ ys : List α, ys.Perm xs ∧ l = ys.map f := by
  intro l xs h
  generalize hm : xs.map f = m at h
  induction h generalizing xs with
  | nil =>
    cases xs with
    | nil => exact ⟨[], .nil, rfl⟩
    | cons _ _ => cases hm
  | cons x hp ih =>
    cases xs with
    | nil => cases hm
    | cons a as =>
      injection hm with h1 h2
      obtain ⟨ys, py, e⟩ := ih h2
      exact ⟨a :: ys, py.cons a, by rw [e, List.map_cons, h1]⟩
  | swap x y l =>
    cases xs with
    | nil => cases hm
    | cons a as =>
      cases as with
      | nil => cases hm
      | cons b bs =>
        injection hm with h1 h2
        injection h2 with h2 h3
        exact ⟨b :: a :: bs, .swap a b bs, by rw [List.map_cons, List.map_cons, h1, h2, h3]⟩
  | trans _ _ ih1 ih2 =>
    obtain ⟨ys, py, e⟩ := ih2 hm
    obtain ⟨zs, pz, e'⟩ := ih1 e.symm
    exact ⟨zs, pz.trans py, e'⟩
/-- sorted(a list of texts) -/
theorem rd_sortS {xs : List Str} (hs : SqL K H p (xs.map V.str)) (hl : xs.length ≤ 100000) (k : ∀ ys : List Str, ys.Perm xs → ys.Pairwise (fun a b => ¬ sLt b a) → nL (ys.map V.str) H Q) : rSortU K [.ref p] H Q := by
  refine ⟨xs.map fun x => (V.str x, PyData.str x), ?_, ⟨?_, ?_, ?_, ?_, ?_⟩, ?_⟩
  · rw [List.map_map]
    exact hs
  · intro b hb
    obtain ⟨x, _, rfl⟩ := List.mem_map.mp hb
    exact .str x
  · rw [List.map_map]
    exact PySem.W.AllAlike.of (enc := PyData.str) fun a b => by simp [PySem.W.alike]
  · rw [List.map_map]
    exact PySem.W.Sortable.others (enc := PyData.str) fun b => ⟨by simp, by simp⟩
  · intro b hb
    obtain ⟨x, _, rfl⟩ := List.mem_map.mp hb
    simp [PyData.depth]
  · rw [List.length_map]
    omega
  · intro cs pc sc
    obtain ⟨ys, py, rfl⟩ := perm_of_map pc
    rw [List.map_map]
    refine k ys py ?_
    rw [List.pairwise_map] at sc
    refine sc.imp fun {a b} z h => ?_
    have z' : PySem.W.dataLt (PyData.str b) (PyData.str a) = false := z
    rw [PySem.W.dataLt_str] at z'
    exact of_decide_eq_false z' h
/-- sorted(a list of pairs of texts): e is the pair's place, then the two -/
theorem rd_sortE {xs : List (Addr × Str × Str)} (hs : SqL K H p (xs.map fun e => V.ref e.1)) (ht : ∀ e ∈ xs, SqT K H e.1 [.str e.2.1, .str e.2.2]) (hl : xs.length ≤ 100000)
    (k : ∀ ys : List (Addr × Str × Str), ys.Perm xs → ys.Pairwise (fun a b => ¬ eLt b.2 a.2) → nL (ys.map fun e => V.ref e.1) H Q) : rSortU K [.ref p] H Q := by
  refine ⟨xs.map fun e => (V.ref e.1, PyData.tuple [.str e.2.1, .str e.2.2]), ?_, ⟨?_, ?_, ?_, ?_, ?_⟩, ?_⟩
  · rw [List.map_map]
    exact hs
  · intro b hb
    obtain ⟨x, hx, rfl⟩ := List.mem_map.mp hb
    exact .tup (ht x hx) (.cons (.str _) (.cons (.str _) .nil))
  · rw [List.map_map]
    exact PySem.W.AllAlike.of (enc := fun e : Addr × Str × Str => PyData.tuple [.str e.2.1, .str e.2.2]) fun a b => by simp [PySem.W.alike, PySem.W.alikeAll]
  · rw [List.map_map]
    exact PySem.W.Sortable.tuples (enc := fun e : Addr × Str × Str => PyData.tuple [.str e.2.1, .str e.2.2]) fun b => ⟨_, _, rfl⟩
  · intro b hb
    obtain ⟨x, _, rfl⟩ := List.mem_map.mp hb
    simp [PyData.depth, PyData.depthAll]
  · rw [List.length_map]
    omega
  · intro cs pc sc
    obtain ⟨ys, py, rfl⟩ := perm_of_map pc
    rw [List.map_map]
    refine k ys py ?_
    rw [List.pairwise_map] at sc
    refine sc.imp fun {a b} z h => ?_
    have z' : PySem.W.dataLt (PyData.tuple [.str b.2.1, .str b.2.2]) (PyData.tuple [.str a.2.1, .str a.2.2]) = false := z
    rw [PySem.W.dataLt_pair (by simp [PySem.W.alike]) (by simp [PySem.W.alike]), PySem.W.dataLt_str, PySem.W.dataLt_str] at z'
    simp only [PyData.eqv, beq_iff_eq] at z'
    rcases h with h | ⟨e, h⟩
    · have n : ¬ b.2.1 = a.2.1 := fun e => sLt_irrefl _ (by rw [e] at h; exact h)
      rw [if_neg n] at z'
      exact of_decide_eq_false z' h
    · rw [if_pos e] at z'
      have n : ¬ b.2.2 = a.2.2 := fun e => sLt_irrefl _ (by rw [e] at h; exact h)
      rw [if_neg n] at z'
      exact of_decide_eq_false z' h
end
end U

/-! names as the laws draw them -/
namespace U
open PySem PySem.Spec PyProof.Rows L2
/-- 1 to 8 small letters -/
structure IsName (z : Str) : Prop where
  lo : 1 ≤ z.length
  hi : z.length ≤ 8
  ch : ∀ c ∈ z.cps.toList, 97 ≤ c ∧ c ≤ 122
theorem letters_at {i : Int} (h0 : 0 ≤ i) (h1 : i < 26) : atI (Str.ofString "abcdefghijklmnopqrstuvwxyz").cps.toList i = some (97 + i.toNat) := by
  obtain ⟨n, rfl⟩ : ∃ n : Nat, i = (n : Int) := ⟨i.toNat, by omega⟩
  have all : ∀ n : Fin 26, (Str.ofString "abcdefghijklmnopqrstuvwxyz").cps.toList[(n : Nat)]? = some (97 + (n : Nat)) := by decide +kernel
  have hn : n < 26 := by omega
  rw [Int.toNat_natCast]
  exact atI_nat (all ⟨n, hn⟩)
theorem letters_len : (Str.ofString "abcdefghijklmnopqrstuvwxyz").length ≤ 100000 := by decide +kernel
theorem pick4 {a b c d r : Int} (h0 : 0 ≤ r) (h1 : r < 4) : ∃ v, atI [V.int a, .int b, .int c, .int d] r = some (.int v) ∧ (v = a ∨ v = b ∨ v = c ∨ v = d) := by
  have : r = 0 ∨ r = 1 ∨ r = 2 ∨ r = 3 := by omega
  rcases this with rfl | rfl | rfl | rfl
  · exact ⟨a, rfl, .inl rfl⟩
  · exact ⟨b, rfl, .inr (.inl rfl)⟩
  · exact ⟨c, rfl, .inr (.inr (.inl rfl))⟩
  · exact ⟨d, rfl, .inr (.inr (.inr rfl))⟩
/-- names, strictly upwards -/
structure Names (ys : List Str) : Prop where
  asc : Asc ys
  ok : ∀ y ∈ ys, IsName y
/-- names, each once, in any order -/
structure NamesU (ys : List Str) : Prop where
  nd : ys.Nodup
  ok : ∀ y ∈ ys, IsName y
theorem Names.u {ys : List Str} (h : Names ys) : NamesU ys := ⟨asc_nodup h.asc, h.ok⟩
theorem NamesU.perm {xs ys : List Str} (h : NamesU xs) (p : ys.Perm xs) : NamesU ys := ⟨p.nodup_iff.mpr h.nd, fun y hy => h.ok y (p.mem_iff.mp hy)⟩
/-! slices of a text -/
end U

/-! loops, dictionaries, unpacking: their readings by steps -/
namespace U
open PySem PySem.Spec PyProof.Rows L2
/-- what a loop over J asks -/
def ForB (J : It) (g : TG) (tb : TS) (D : Ends) (σ : L2.St) (H : Hp) : Prop := ∃ W : Nat → Nat → L2.St → Hp → Prop, (∃ m, W 0 m σ H) ∧ ∀ i m σ H, W i m σ H →
  (J.stop i H ∧ D.nx σ H) ∨ (J.go i H ∧ ∃ N : L2.St → Hp → Prop, (∀ σ' H', N σ' H' → ∃ m', m' < m ∧ W (i + 1) m' σ' H') ∧ ∀ x H', J.yld i H x H' → g x σ H' fun σ2 H2 => tb { D with nx := N, ct := N, bk := D.nx } σ2 H2)
def LcB (J : It) (g : TG) (tt : TT) (te : TE) (vs : List Nat) (σ : L2.St) (H1 : Hp) (D : Addr) (Qd : Hp → Prop) : Prop := ∃ W : Nat → Nat → Hp → Prop, (∃ m, W 0 m (upd H1 D (.lst []))) ∧ ∀ i m H, W i m H →
  (J.stop i H ∧ Qd H) ∨ (J.go i H ∧ ∃ Nx : Hp → Prop, (∀ H', Nx H' → ∃ m', m' < m ∧ W (i + 1) m' H') ∧ ∀ x H', J.yld i H x H' → g x (wipe σ vs) H' fun σ2 H2 => wipe σ2 vs = wipe σ vs ∧ tt σ2 H2 fun b H3 =>
    if b = true then te σ2 H3 fun y H4 => ∃ acc, H4 D = some (.lst acc) ∧ acc.length < sizeLine ∧ Nx (upd H4 D (.lst (acc ++ [y]))) else Nx H3)
section
variable {σ : L2.St} {H : Hp} {Q : VK} {D : Ends} {v x y : V} {i j : Int} {ta tb tc te td ty tv : TE} {t u : TS} {K : PySem.W.Frag} {g : TG} {wi : TI} {R : It → Hp → Prop} {tr : TA}
theorem rd_for (h : wi σ H fun J H1 => ForB J g t D σ H1) : tFor wi g t D σ H := h
theorem rd_rng1 (h : tr σ H fun vs H1 => ∃ j : Int, vs = [.int j] ∧ -(2 ^ 62) ≤ j ∧ j < 2 ^ 62 ∧ R (Itr 0 j.toNat) H1) : iRng1 tr σ H R := h
theorem rd_rng2 (h : tr σ H fun vs H1 => ∃ i j : Int, vs = [.int i, .int j] ∧ (-(2 ^ 62) ≤ i ∧ i < 2 ^ 62 ∧ -(2 ^ 62) ≤ j ∧ j < 2 ^ 62) ∧ R (Itr i (j - i).toNat) H1) : iRng2 tr σ H R := h
theorem rd_iList (h : te σ H fun x H1 => ∃ a, x = .ref a ∧ (∃ xs, SqL K H1 a xs) ∧ R (Itl K a) H1) : iList K te σ H R := h
theorem rd_iTup (h : te σ H fun x H1 => ∃ a, x = .ref a ∧ (∃ xs, SqT K H1 a xs) ∧ R (Itt K a) H1) : iTup K te σ H R := h
theorem rd_iEnum (h : tr σ H fun vs H1 => ∃ a xs, vs = [.ref a] ∧ SqL K H1 a xs ∧ R (Ite K a) H1) : iEnum K tr σ H R := h
theorem rd_forL {p : Addr} {xs : List V} {R : Addr → Prop} (hs : SqL K H p xs) (h : R p) : ∃ a, V.ref p = .ref a ∧ (∃ xs, SqL K H a xs) ∧ R a := ⟨p, rfl, ⟨xs, hs⟩, h⟩
theorem rd_forT {p : Addr} {xs : List V} {R : Addr → Prop} (hs : SqT K H p xs) (h : R p) : ∃ a, V.ref p = .ref a ∧ (∃ xs, SqT K H a xs) ∧ R a := ⟨p, rfl, ⟨xs, hs⟩, h⟩
theorem rd_forR {R : Int → Prop} (h0 : -(2 ^ 62) ≤ j) (h1 : j < 2 ^ 62) (h : R j) : ∃ k : Int, [V.int j] = [.int k] ∧ -(2 ^ 62) ≤ k ∧ k < 2 ^ 62 ∧ R k := ⟨j, rfl, h0, h1, h⟩
theorem rd_forE {p : Addr} {xs : List V} {R : Addr → Prop} (hs : SqL K H p xs) (h : R p) : ∃ a xs, [V.ref p] = [.ref a] ∧ SqL K H a xs ∧ R a := ⟨p, xs, rfl, hs, h⟩
theorem turnsR {lo : Int} {n : Nat} (Pv : Nat → L2.St → Hp → Prop) (h0 : Pv 0 σ H) (hs : ∀ i σ H, i < n → Pv i σ H → g (.int (lo + i)) σ H fun σ2 H2 => t { D with nx := Pv (i + 1), ct := Pv (i + 1), bk := D.nx } σ2 H2)
    (hd : ∀ σ H, Pv n σ H → D.nx σ H) : ForB (Itr lo n) g t D σ H := for_range Pv h0 hs hd
theorem turnsL {a : Addr} {xs : List V} (Pv : Nat → L2.St → Hp → Prop) (h0 : Pv 0 σ H) (hl : ∀ i σ H, i ≤ xs.length → Pv i σ H → SqL K H a xs)
    (hs : ∀ i x σ H, xs[i]? = some x → Pv i σ H → g x σ H fun σ2 H2 => t { D with nx := Pv (i + 1), ct := Pv (i + 1), bk := D.nx } σ2 H2) (hd : ∀ σ H, Pv xs.length σ H → D.nx σ H) : ForB (Itl K a) g t D σ H := for_list Pv h0 hl hs hd
theorem turnsT {a : Addr} {xs : List V} (Pv : Nat → L2.St → Hp → Prop) (h0 : Pv 0 σ H) (hl : ∀ i σ H, i ≤ xs.length → Pv i σ H → SqT K H a xs)
    (hs : ∀ i x σ H, xs[i]? = some x → Pv i σ H → g x σ H fun σ2 H2 => t { D with nx := Pv (i + 1), ct := Pv (i + 1), bk := D.nx } σ2 H2) (hd : ∀ σ H, Pv xs.length σ H → D.nx σ H) : ForB (Itt K a) g t D σ H := for_tup Pv h0 hl hs hd
theorem turnsW {J : It} {n : Nat} {G : Hp → Prop} {Y : Nat → Hp → V → Hp → Prop} (w : Walk J n G Y) (Pv : Nat → L2.St → Hp → Prop) (h0 : Pv 0 σ H) (hG : ∀ i σ H, i ≤ n → Pv i σ H → G H)
    (hs : ∀ i x σ H H', i < n → Pv i σ H → Y i H x H' → g x σ H' fun σ2 H2 => t { D with nx := Pv (i + 1), ct := Pv (i + 1), bk := D.nx } σ2 H2) (hd : ∀ σ H, Pv n σ H → D.nx σ H) : ForB J g t D σ H := for_it w Pv h0 hG hs hd
theorem rd_lc {tt : TT} {vs : List Nat} (h : wi σ H fun J H1 => ∀ D, H1 D = none → LcB J g tt te vs σ H1 D fun H2 => Q (.ref D) H2) : tLc wi g tt te vs σ H Q := h
theorem lcT {a : Addr} {xs : List V} {tt : TT} {vs : List Nat} {D : Addr} {Qd : Hp → Prop} (Pv : Nat → Hp → Prop) (h0 : Pv 0 (upd H D (.lst []))) (hl : ∀ i H, i ≤ xs.length → Pv i H → SqT K H a xs)
    (hs : ∀ i x H, xs[i]? = some x → Pv i H → g x (wipe σ vs) H fun σ2 H2 => wipe σ2 vs = wipe σ vs ∧ tt σ2 H2 fun b H3 =>
      if b = true then te σ2 H3 fun y H4 => ∃ acc, H4 D = some (.lst acc) ∧ acc.length < sizeLine ∧ Pv (i + 1) (upd H4 D (.lst (acc ++ [y]))) else Pv (i + 1) H3) (hd : ∀ H, Pv xs.length H → Qd H) : LcB (Itt K a) g tt te vs σ H D Qd := lc_tup Pv h0 hl hs hd
theorem lcL {a : Addr} {xs : List V} {tt : TT} {vs : List Nat} {D : Addr} {Qd : Hp → Prop} (Pv : Nat → Hp → Prop) (h0 : Pv 0 (upd H D (.lst []))) (hl : ∀ i H, i ≤ xs.length → Pv i H → SqL K H a xs)
    (hs : ∀ i x H, xs[i]? = some x → Pv i H → g x (wipe σ vs) H fun σ2 H2 => wipe σ2 vs = wipe σ vs ∧ tt σ2 H2 fun b H3 =>
      if b = true then te σ2 H3 fun y H4 => ∃ acc, H4 D = some (.lst acc) ∧ acc.length < sizeLine ∧ Pv (i + 1) (upd H4 D (.lst (acc ++ [y]))) else Pv (i + 1) H3) (hd : ∀ H, Pv xs.length H → Qd H) : LcB (Itl K a) g tt te vs σ H D Qd := lc_list Pv h0 hl hs hd
theorem lcR {lo : Int} {n : Nat} {tt : TT} {vs : List Nat} {D : Addr} {Qd : Hp → Prop} (Pv : Nat → Hp → Prop) (h0 : Pv 0 (upd H D (.lst [])))
    (hs : ∀ i H, i < n → Pv i H → g (.int (lo + i)) (wipe σ vs) H fun σ2 H2 => wipe σ2 vs = wipe σ vs ∧ tt σ2 H2 fun b H3 =>
      if b = true then te σ2 H3 fun y H4 => ∃ acc, H4 D = some (.lst acc) ∧ acc.length < sizeLine ∧ Pv (i + 1) (upd H4 D (.lst (acc ++ [y]))) else Pv (i + 1) H3) (hd : ∀ H, Pv n H → Qd H) : LcB (Itr lo n) g tt te vs σ H D Qd := lc_range Pv h0 hs hd
/-- unpacking -/
theorem rd_unp {n : Nat} {ts : TGs} {p : Addr} {xs : List V} {Q : L2.St → Hp → Prop} (hs : SqT K H p xs) (hl : xs.length = n) (h : ts xs σ H Q) : gTup K n ts (.ref p) σ H Q := ⟨p, xs, rfl, hs, hl, h⟩
theorem rd_gcons {tg : TG} {u : TGs} {vr : List V} {Q : L2.St → Hp → Prop} (h : tg v σ H fun σ1 H1 => u vr σ1 H1 Q) : gCons tg u (v :: vr) σ H Q := ⟨v, vr, rfl, h⟩
theorem rd_gnil {Q : L2.St → Hp → Prop} (h : Q σ H) : gNil [] σ H Q := ⟨rfl, h⟩
/-- dictionaries -/
theorem rd_dget (h : td σ H fun x H1 => ty σ H1 fun y H2 => ∃ a v, x = .ref a ∧ DGet H2 a y (some v) ∧ Q v H2) : tDGet td ty σ H Q := h
theorem rd_dat {p : Addr} {kvs : List (Key × V)} {k : Key} (hs : Rd H p (.dK kvs)) (hv : valV kvs k = some v) {R : V → Prop} (hy : y = kV k) (h : R v) : ∃ a v, V.ref p = .ref a ∧ DGet H a y (some v) ∧ R v := ⟨p, v, rfl, .inl ⟨kvs, k, hs, hy, hv.symm⟩, h⟩
theorem rd_dput (h : tv σ H fun v H1 => td σ H1 fun x H2 => ty σ H2 fun y H3 => ∃ a H4, x = .ref a ∧ DPut H3 a y v H4 ∧ D.nx σ H4) : sDPut td ty tv D σ H := h
end
end U

/-! lists of texts as data -/
namespace U
open PySem PySem.Spec PyProof.Rows L2
theorem IsName.sok {z : Str} (h : IsName z) : PyData.strOk z = true := by
  unfold PyData.strOk
  rw [Array.all_eq_true_iff_forall_mem]
  intro x hx
  have := h.ch x (by simpa using hx)
  rw [decide_eq_true_eq]
  omega
section
variable {K : PySem.W.Frag} {H : Hp} {Q : VK} {p q : Addr}
theorem dp_strs : ∀ (xs : List Str), DpAll K H (xs.map V.str) (xs.map PyData.str)
  | [] => .nil
  | x :: xs => .cons (.str x) (dp_strs xs)
theorem can_strs : ∀ {xs : List Str}, (∀ x ∈ xs, PyData.strOk x = true) → PyData.canLayAll0 (xs.map PyData.str) = true
  | [], _ => by simp [PyData.canLayAll0]
  | x :: xs, h => by
    rw [List.map_cons, PyData.canLayAll0, PyData.canLay0, h x List.mem_cons_self, can_strs fun y hy => h y (List.mem_cons_of_mem _ hy)]
    rfl
theorem dep_strs : ∀ {xs : List Str}, PyData.depthAll (xs.map PyData.str) = 0
  | [] => by simp [PyData.depthAll]
  | x :: xs => by
    rw [List.map_cons, PyData.depthAll, dep_strs, PyData.depth]
    rfl
theorem shp_strs {xs : List Str} (h : ∀ x ∈ xs, PyData.strOk x = true) : SeqAt.shaped (.list (xs.map PyData.str)) = true := by
  unfold SeqAt.shaped
  rw [PyData.canLay0, can_strs h, PyData.depth, dep_strs]
  rfl
theorem eqv_nil {xs : List Str} : PyData.eqv (.list (xs.map PyData.str)) (.list []) = xs.isEmpty := by
  cases xs with
  | nil => simp [PyData.eqv, PyData.eqvAll]
  | cons _ _ => simp [PyData.eqv, PyData.eqvAll]
/-- xs != [] -/
theorem rd_neNil {xs : List Str} (hp : SqL K H p (xs.map V.str)) (hq : SqL K H q []) (ok : ∀ x ∈ xs, PyData.strOk x = true) (h : Q (.bl (!xs.isEmpty)) H) : rNeU K (.ref p) (.ref q) H Q := by
  refine ⟨_, _, .lst hp (dp_strs xs), .lst hq .nil, shp_strs ok, by decide, ?_⟩
  rw [eqv_nil]
  exact h
end
end U

/-! graphs and states as the laws draw them -/
namespace U
open PySem PySem.Spec PyProof.Rows L2
/-- the two names, the lower first -/
def eOf (a b : Str) : Str × Str := if sLt a b then (a, b) else (b, a)
theorem eOf_cases (a b : Str) : eOf a b = (a, b) ∨ eOf a b = (b, a) := by
  unfold eOf
  split
  · exact .inl rfl
  · exact .inr rfl
theorem eOf_lt {a b : Str} (n : a ≠ b) : sLt (eOf a b).1 (eOf a b).2 := by
  unfold eOf
  split
  · assumption
  · rename_i h
    exact sLt_total h (Ne.symm n)
theorem eOf_inj {a b c d : Str} (h : eOf a b = eOf c d) : (a = c ∧ b = d) ∨ (a = d ∧ b = c) := by
  rcases eOf_cases a b with e | e <;> rcases eOf_cases c d with e' | e' <;> rw [e, e'] at h <;> injection h with h1 h2
  · exact .inl ⟨h1, h2⟩
  · exact .inr ⟨h1, h2⟩
  · exact .inr ⟨h2, h1⟩
  · exact .inl ⟨h2, h1⟩
/-- the state's pairs -/
abbrev kvsOf (ws : List (Str × Int)) : List (Key × V) := ws.map fun p => (Sum.inr p.1, V.int p.2)
/-- the number of the node n -/
def numOf (ws : List (Str × Int)) (n : Str) : Int := (ws.lookup n).getD 0
theorem val_kvs : ∀ {ws : List (Str × Int)} {n : Str}, n ∈ ws.map (·.1) → valV (kvsOf ws) (.inr n) = some (.int (numOf ws n))
  | p :: ws, n, h => by
    by_cases e : n = p.1
    · subst e
      rw [kvsOf, List.map_cons, valV_pos rfl]
      unfold numOf
      rw [List.lookup_cons_self]
      rfl
    · have e' : ¬ (Sum.inr p.1 : Key) = Sum.inr n := fun z => e (Sum.inr.inj z).symm
      rw [kvsOf, List.map_cons, valV_neg e']
      have : n ∈ ws.map (·.1) := by
        rcases List.mem_cons.mp h with z | z
        · exact absurd z e
        · exact z
      have r := val_kvs this
      rw [kvsOf] at r
      rw [r]
      unfold numOf
      rw [List.lookup_cons, show (n == p.1) = false from beq_eq_false_iff_ne.mpr e]
theorem num_mem : ∀ {ws : List (Str × Int)} {n : Str}, n ∈ ws.map (·.1) → (n, numOf ws n) ∈ ws
  | p :: ws, n, h => by
    unfold numOf
    rw [List.lookup_cons]
    by_cases e : n = p.1
    · rw [show (n == p.1) = true from beq_iff_eq.mpr e]
      subst e
      exact List.mem_cons_self
    · rw [show (n == p.1) = false from beq_eq_false_iff_ne.mpr e]
      have : n ∈ ws.map (·.1) := by
        rcases List.mem_cons.mp h with z | z
        · exact absurd z e
        · exact z
      exact List.mem_cons_of_mem _ (num_mem this)
/-- a state: each name once, in the order ord, a number of 0, 1, 2 -/
structure StOk (ord : List Str) (ws : List (Str × Int)) : Prop where
  key : ws.map (·.1) = ord
  num : ∀ p ∈ ws, 0 ≤ p.2 ∧ p.2 < 3
theorem StOk.at {ord : List Str} {ws : List (Str × Int)} (h : StOk ord ws) {n : Str} (hn : n ∈ ord) : 0 ≤ numOf ws n ∧ numOf ws n < 3 := h.num _ (num_mem (by rw [h.key]; exact hn))
theorem StOk.val {ord : List Str} {ws : List (Str × Int)} (h : StOk ord ws) {n : Str} (hn : n ∈ ord) : valV (kvsOf ws) (.inr n) = some (.int (numOf ws n)) := val_kvs (by rw [h.key]; exact hn)
/-- the edges as they are found: at turn i, j -/
structure EdgesIn (ord : List Str) (f : Str → Int) (i j : Nat) (es : List (Addr × Str × Str)) : Prop where
  nd : (es.map (·.2)).Nodup
  of : ∀ e ∈ es, ∃ i' j', ∃ (hi : i' < ord.length) (hj : j' < ord.length), j' < i' ∧ (i' < i ∨ (i' = i ∧ j' < j)) ∧ e.2 = eOf ord[i'] ord[j'] ∧ f ord[i'] ≠ f ord[j']
theorem EdgesIn.step {ord : List Str} {f : Str → Int} {i j i2 j2 : Nat} {es : List (Addr × Str × Str)} (h : EdgesIn ord f i j es) (c : i < i2 ∨ (i = i2 ∧ j ≤ j2)) : EdgesIn ord f i2 j2 es :=
  ⟨h.nd, fun e he => by
    obtain ⟨i', j', hi, hj, h1, h2, h3⟩ := h.of e he
    exact ⟨i', j', hi, hj, h1, by omega, h3⟩⟩
theorem EdgesIn.add {ord : List Str} {f : Str → Int} {i j : Nat} {es : List (Addr × Str × Str)} {t : Addr} (h : EdgesIn ord f i j es) (nd : ord.Nodup) (hij : j < i) (hi : i < ord.length) (hj : j < ord.length) (hf : f ord[i] ≠ f ord[j]) :
    EdgesIn ord f i (j + 1) (es ++ [(t, eOf ord[i] ord[j])]) := by
  have inj : ∀ {a b : Nat} (ha : a < ord.length) (hb : b < ord.length), ord[a] = ord[b] → a = b := by
    intro a b ha hb e
    have z := List.pairwise_iff_getElem.mp (List.nodup_iff_pairwise_ne.mp nd)
    rcases Nat.lt_trichotomy a b with h | h | h
    · exact absurd e (z a b ha hb h)
    · exact h
    · exact absurd e.symm (z b a hb ha h)
  refine ⟨?_, ?_⟩
  · rw [List.map_append, List.nodup_append]
    refine ⟨h.nd, by simp, ?_⟩
    intro x hx y hy e
    obtain ⟨z, hz, rfl⟩ := List.mem_map.mp hx
    have : y = eOf ord[i] ord[j] := by simpa using hy
    subst this
    obtain ⟨i', j', hi', hj', h1, h2, h3, _⟩ := h.of z hz
    rw [h3] at e
    rcases eOf_inj e with ⟨e1, e2⟩ | ⟨e1, e2⟩
    · have := inj _ _ e1
      have := inj _ _ e2
      omega
    · have := inj _ _ e1
      have := inj _ _ e2
      omega
  · intro e he
    rcases List.mem_append.mp he with he | he
    · obtain ⟨i', j', hi', hj', h1, h2, h3⟩ := h.of e he
      exact ⟨i', j', hi', hj', h1, by omega, h3⟩
    · have : e = (t, eOf ord[i] ord[j]) := by simpa using he
      subst this
      exact ⟨i, j, hi, hj, hij, by omega, rfl, hf⟩
/-- a graph: names upwards, edges upwards, each with its lower name first -/
structure GrOk (ns : List Str) (es : List (Str × Str)) : Prop where
  names : Names ns
  asc : AscE es
  lt : ∀ e ∈ es, sLt e.1 e.2
  mem : ∀ e ∈ es, e.1 ∈ ns ∧ e.2 ∈ ns
/-- the graph stands at g -/
structure GrAt (H : Hp) (g n e : Addr) (ns : List Str) (es : List (Addr × Str × Str)) : Prop where
  top : H g = some (.tup [.ref n, .ref e])
  nodes : H n = some (.tup (ns.map V.str))
  edges : H e = some (.tup (es.map fun x => V.ref x.1))
  pairs : ∀ x ∈ es, H x.1 = some (.tup [.str x.2.1, .str x.2.2])
theorem map_at {α : Type} {f : α → V} {xs : List α} {i : Nat} {x : V} (h : (xs.map f)[i]? = some x) : ∃ hi : i < xs.length, x = f xs[i] := by
  rw [List.getElem?_map] at h
  by_cases hi : i < xs.length
  · rw [List.getElem?_eq_getElem hi] at h
    exact ⟨hi, (Option.some.inj h).symm⟩
  · rw [List.getElem?_eq_none (by omega)] at h
    cases h
theorem StOk.nil : StOk [] [] := ⟨rfl, fun _ h => nomatch h⟩
theorem StOk.add {ord : List Str} {ws : List (Str × Int)} {i : Nat} {v : Int} (h : StOk (ord.take i) ws) (hi : i < ord.length) (h0 : 0 ≤ v) (h1 : v < 3) : StOk (ord.take (i + 1)) (ws ++ [(ord[i], v)]) := by
  refine ⟨?_, ?_⟩
  · rw [List.map_append, h.key, List.take_succ, List.getElem?_eq_getElem hi]
    rfl
  · intro p hp
    rcases List.mem_append.mp hp with hp | hp
    · exact h.num p hp
    · have : p = (ord[i], v) := by simpa using hp
      subst this
      exact ⟨h0, h1⟩
theorem StOk.not {ord : List Str} {ws : List (Str × Int)} {i : Nat} (h : StOk (ord.take i) ws) (nd : ord.Nodup) (hi : i < ord.length) : ord[i] ∉ ws.map (·.1) := by
  rw [h.key]
  intro hm
  obtain ⟨j, hj, e⟩ := List.mem_iff_getElem.mp hm
  rw [List.length_take] at hj
  have e' : ord[j] = ord[i] := by rw [← e, List.getElem_take]
  have z := List.pairwise_iff_getElem.mp (List.nodup_iff_pairwise_ne.mp nd)
  exact z j i (by omega) hi (by omega) e'
section
variable {K : PySem.W.Frag} {H : Hp} {Q : VK} {p q : Addr} {σ : L2.St}
theorem rd_dnew (h : ∀ d, H d = none → Q (.ref d) (upd H d (.dK []))) : tDNewK σ H Q := h
theorem rd_dset {kvs : List (Key × V)} {k : Key} {y v : V} {R : Hp → Prop} (hs : H p = some (.dK kvs)) (hy : y = kV k) (hl : kvs.length < 100000) (h : R (upd H p (.dK (putK kvs k v)))) :
    ∃ a H4, V.ref p = .ref a ∧ DPut H a y v H4 ∧ R H4 := ⟨p, _, rfl, .inl ⟨kvs, k, hs, hy, Nat.lt_of_lt_of_le hl (by decide), rfl⟩, h⟩
end
end U

/-! comprehensions, locks, statements that are never reached: their readings -/
namespace U
open PySem PySem.Spec PyProof.Rows L2
/-- f(e, .., k = v, ..): the keywords in the parameters' order, behind the rest -/
structure CalK (P : Program) (w : World) (K : PySem.W.Frag) (mg : Str → Option Value) (base : Heap) (CX : CXT) (k : Nat) (x : Str) (np : Nat) (ks : List Str) (sp : Sp) : Prop where
  ex : ∃ (f : Addr) (fd : FuncData) (ps : List Str), FnG P w K mg base CX k f fd ps sp ∧ mg x = some (.ref f) ∧ PySem.W.keepIn K (.ref f) = true ∧
    ∀ us ws : List Value, us.length = np → ws.length = ks.length → bindArgs fd ⟨us, ks.zip ws⟩ = pure (ps.zip (us ++ ws))
def tCK (sp : Sp) (np nk : Nat) (E : XK) (t tk : TA) : TE := fun σ H Q => t σ H fun vs H1 => vs.length = np ∧ tk σ H1 fun zs H2 => zs.length = nk ∧ sp (vs ++ zs) H2 Q E
theorem vals_app {vs zs : List V} {us ws : List Value} (a : Vals vs us) (b : Vals zs ws) : Vals (vs ++ zs) (us ++ ws) := a.append b
theorem pe_cK {X : Cx} {CX : L2.CXT} {k j : Nat} {x : Str} {np : Nat} {ks : List Str} {sp : Sp} {E : XK} {e : Expr} {es : List Expr} {kws : List Keyword} {t tk : TA} {p pos : Pos} (c : CalK X.prog X.w X.K X.mg X.base CX k x np ks sp) (hr : Rm j X.A) (hk : k ≤ j) (hg : Gl X x) (hx : Passes CX X E)
    (ha : PA X (e :: es) t) (hkw : PK X kws tk) (hall : (backToKw pos (keywordEach kws X.env)).all (·.1.isSome) = true := by rfl) (hks : (backToKw pos (keywordEach kws X.env)).filterMap (·.1) = ks := by rfl)
    (hdb : (x == ("__debug__" : Str)) = false := by decide) (he : starEach (e :: es) X.env = (false, eval e X.env) :: starEach es X.env := by rfl)
    (hpl : ((backTo pos (starEach (e :: es) X.env)).any (·.1) || (backToKw pos (keywordEach kws X.env)).any (·.1.isNone)) = false := by rfl) :
    PE X (.Call (.Name x p) (e :: es) kws pos) (tCK sp np ks.length E t tk) := by
  obtain ⟨f, fd, ps, F, hm, kp, b⟩ := c.ex
  refine ⟨fun pins s σ H Q I h => wpAny_Call_Name_kw (ld_glob I hg hm ?_ hdb)⟩
  refine PySem.W.callWith_KW (h₀ := X.base) I.ok.mod.kin kp hall (thn (ha.run pos pins s σ H _ I h) fun us s1 ⟨vs, H1, I1, r, hn, q⟩ => ?_) hpl he
  refine thn (hkw.run pos pins s1 σ H1 _ I1 q) fun ws s2 ⟨zs, H2, I2, rz, hz, q2⟩ => ⟨I2.kIn, ?_⟩
  rw [hks]
  have bd : BindsTo s2 fd ⟨us, ks.zip ws⟩ (ps.zip (us ++ ws)) := .of_eq (b us ws (by rw [← r.length]; exact hn) (by rw [← rz.length]; exact hz))
  refine wpAny_call (codeAny_mono (F.go X.A X.stack s2 H2 ⟨us, ks.zip ws⟩ (us ++ ws) (vs ++ zs) Q E (hr.mono hk) I2.env0 bd (vals_app r rz) q2) ?_)
  intro res s' hq
  cases res with
  | error er => exact hx pins σ H2 s2 er s' I2 hq
  | ok fl =>
    cases fl with
    | ret u => exact I2.after hq
    | next => exact hq.elim
    | brk => exact hq.elim
    | cont => exact hq.elim
theorem ps_dead {X : Cx} {st : Stmt} : PS X st (fun _ _ _ => False) := ⟨fun _ _ _ _ _ _ h => h.elim⟩
def DcB (J : It) (g : TG) (tt : TT) (tk tv : TE) (vs : List Nat) (σ : L2.St) (H1 : Hp) (D : Addr) (Qd : Hp → Prop) : Prop := ∃ W : Nat → Nat → Hp → Prop, (∃ m, W 0 m (upd H1 D (.dK []))) ∧ ∀ i m H, W i m H →
  (J.stop i H ∧ Qd H) ∨ (J.go i H ∧ ∃ Nx : Hp → Prop, (∀ H', Nx H' → ∃ m', m' < m ∧ W (i + 1) m' H') ∧ ∀ x H', J.yld i H x H' → g x (wipe σ vs) H' fun σ2 H2 => wipe σ2 vs = wipe σ vs ∧ tt σ2 H2 fun b H3 =>
    if b = true then tk σ2 H3 fun y H4 => tv σ2 H4 fun z H5 => ∃ kvs k, y = kV k ∧ H5 D = some (.dK kvs) ∧ kvs.length < sizeLine ∧ Nx (upd H5 D (.dK (putK kvs k z))) else Nx H3)
section
variable {σ : L2.St} {H : Hp} {Q : VK} {D : Ends} {te td ty tv : TE} {t : TS} {g : TG} {wi : TI} {R : It → Hp → Prop} {tt : TT} {vs : List Nat} {L : Addr} {Qd : Hp → Prop} {J : It} {n : Nat} {G : Hp → Prop} {Y : Nat → Hp → V → Hp → Prop} {K : PySem.W.Frag}
theorem dcW {tk : TE} (w : Walk J n G Y) (Pv : Nat → Hp → Prop) (h0 : Pv 0 (upd H L (.dK []))) (hG : ∀ i H, i ≤ n → Pv i H → G H)
    (hs : ∀ i x H H', i < n → Pv i H → Y i H x H' → g x (wipe σ vs) H' fun σ2 H2 => wipe σ2 vs = wipe σ vs ∧ tt σ2 H2 fun b H3 =>
      if b = true then tk σ2 H3 fun y H4 => tv σ2 H4 fun z H5 => ∃ kvs k, y = kV k ∧ H5 L = some (.dK kvs) ∧ kvs.length < sizeLine ∧ Pv (i + 1) (upd H5 L (.dK (putK kvs k z))) else Pv (i + 1) H3) (hd : ∀ H, Pv n H → Qd H) : DcB J g tt tk tv vs σ H L Qd := by
  refine ⟨fun i m H => m = n - i ∧ i ≤ n ∧ Pv i H, ⟨n, by simp, Nat.zero_le _, h0⟩, ?_⟩
  rintro i m H ⟨rfl, hi, p⟩
  have q := hG i H hi p
  by_cases hlt : i < n
  · refine .inr ⟨w.goes i H hlt q, Pv (i + 1), fun H' p' => ⟨n - (i + 1), by omega, rfl, hlt, p'⟩, fun x H' y => hs i x H H' hlt p (w.yields i H x H' hlt q y)⟩
  · have e : i = n := by omega
    subst e
    exact .inl ⟨w.stops H q, hd H p⟩
theorem rd_dc {tk : TE} (h : wi σ H fun J H1 => ∀ D, H1 D = none → DcB J g tt tk tv vs σ H1 D fun H2 => Q (.ref D) H2) : tDc wi g tt tk tv vs σ H Q := h
/-- under a lock: what the block leaves at the lock's place is the locked thing -/
theorem rd_lockE {d : Addr} {kvs : List (Key × V)} (hd : H d = some (.dK kvs)) (h : ∀ od, te σ (upd H d (.frz od (.dK kvs))) fun v H' => H' d = some (.frz od (.dK kvs)) ∧ Q v (upd H' d (.dK kvs))) : tLockE te σ H Q := ⟨d, _, hd, trivial, h⟩
theorem rd_iItems (h : td σ H fun x H1 => ∃ d o kvs, x = .ref d ∧ H1 d = some (.frz o (.dK kvs)) ∧ R (Iti d o kvs) H1) : iItems td σ H R := h
theorem rd_iKeys (h : td σ H fun x H1 => ∃ d o, x = .ref d ∧ ((∃ kvs, H1 d = some (.frz o (.dK kvs)) ∧ R (Itk d o kvs) H1) ∨ ∃ kvs, H1 d = some (.frz o (.dT kvs)) ∧ R (Itkt d o kvs) H1)) : iKeys td σ H R := h
theorem rd_forI {d : Addr} {o : Obj} {kvs : List (Key × V)} {R : Addr → Obj → List (Key × V) → Prop} (hd : H d = some (.frz o (.dK kvs))) (h : R d o kvs) : ∃ d' o kvs, V.ref d = .ref d' ∧ H d' = some (.frz o (.dK kvs)) ∧ R d' o kvs := ⟨d, o, kvs, rfl, hd, h⟩
theorem rd_wp {vs : List Nat} {σ1 σ2 : L2.St} {P : Prop} (e : wipe σ1 vs = wipe σ2 vs) (h : P) : wipe σ1 vs = wipe σ2 vs ∧ P := ⟨e, h⟩
theorem rd_yesT {Q : Bool → Hp → Prop} (h : Q true H) : tYes σ H Q := h
theorem rd_acc {L : Addr} {acc : List V} {R : List V → Prop} (hL : H L = some (.lst acc)) (hz : acc.length < 100000) (h : R acc) : ∃ acc, H L = some (.lst acc) ∧ acc.length < sizeLine ∧ R acc := ⟨acc, hL, Nat.lt_of_lt_of_le hz (by decide), h⟩
theorem rd_accD {L : Addr} {y : V} {kvs : List (Key × V)} {k : Key} {R : List (Key × V) → Key → Prop} (hy : y = kV k) (hL : H L = some (.dK kvs)) (hz : kvs.length < 100000) (h : R kvs k) : ∃ kvs k, y = kV k ∧ H L = some (.dK kvs) ∧ kvs.length < sizeLine ∧ R kvs k := ⟨kvs, k, hy, hL, Nat.lt_of_lt_of_le hz (by decide), h⟩
theorem inV_str {v : Str} {xs : List Str} : inV (.str v) (xs.map V.str) = decide (v ∈ xs) := by
  induction xs with
  | nil => rfl
  | cons x xs ih =>
    unfold inV at ih ⊢
    rw [List.map_cons, List.any_cons, ih]
    simp only [eqV, List.mem_cons, Bool.decide_or]
    congr 1
    exact decide_eq_decide.mpr ⟨Eq.symm, Eq.symm⟩
theorem flat_str {xs : List Str} : (xs.map V.str).all flatV = true := by
  rw [List.all_eq_true]
  intro x hx
  obtain ⟨i, _, rfl⟩ := List.mem_map.mp hx
  rfl
theorem rd_inSL {p : Addr} {v : Str} {xs : List Str} (hs : SqL K H p (xs.map V.str)) (h : Q (.bl (decide (v ∈ xs))) H) : rInU K (.str v) (.ref p) H Q := ⟨_, .inl hs, rfl, flat_str, by rw [inV_str]; exact h⟩
theorem rd_inST {p : Addr} {v : Str} {xs : List Str} (hs : SqT K H p (xs.map V.str)) (h : Q (.bl (decide (v ∈ xs))) H) : rInU K (.str v) (.ref p) H Q := ⟨_, .inr hs, rfl, flat_str, by rw [inV_str]; exact h⟩
theorem rd_catL {p q : Addr} {xs ys : List V} (h1 : H p = some (.lst xs)) (h2 : H q = some (.lst ys)) (hz : xs.length + ys.length ≤ 100000) (h : nL (xs ++ ys) H Q) : rAddU K (.ref p) (.ref q) H Q := .inl ⟨xs, ys, h1, h2, Nat.le_trans hz (by decide), h⟩
theorem GrAt.same {H' : Hp} {g n e : Addr} {ns : List Str} {es : List (Addr × Str × Str)} (h : GrAt H g n e ns es) (s : Same H H') : GrAt H' g n e ns es :=
  ⟨s _ _ h.top, s _ _ h.nodes, s _ _ h.edges, fun x hx => s _ _ (h.pairs x hx)⟩
theorem GrAt.but {H' : Hp} {p g n e : Addr} {ys : List V} {ns : List Str} {es : List (Addr × Str × Str)} (h : GrAt H g n e ns es) (hp : H p = some (.lst ys)) (b : But p H H') : GrAt H' g n e ns es := by
  have k : ∀ {a : Addr} {xs : List V}, H a = some (.tup xs) → H' a = some (.tup xs) := fun {a xs} ha => b _ _ (ne_of ha hp (by intro z; cases z)) ha
  exact ⟨k h.top, k h.nodes, k h.edges, fun x hx => k (h.pairs x hx)⟩
theorem But.dK {H' : Hp} {p d : Addr} {ys : List V} {kvs : List (Key × V)} (b : But p H H') (hp : H p = some (.lst ys)) (h : H d = some (.dK kvs)) : H' d = some (.dK kvs) := b _ _ (ne_of h hp (by intro z; cases z)) h
theorem But.tup {H' : Hp} {p d : Addr} {ys xs : List V} (b : But p H H') (hp : H p = some (.lst ys)) (h : H d = some (.tup xs)) : H' d = some (.tup xs) := b _ _ (ne_of h hp (by intro z; cases z)) h
theorem same_put {H1 : Hp} {a : Addr} {o : HO} (s : Same H H1) (n : H a = none) : Same H (upd H1 a o) := fun c u h => at_upd (ne_of_none h n) (s c u h)
theorem same_add {H1 : Hp} {a : Addr} {o : HO} (s : Same H H1) (n : H1 a = none) : Same H (upd H1 a o) := fun c u h => at_upd (ne_of_none (s c u h) n) (s c u h)
theorem rd_isi {x : V} {n : String} {a t : Ty} (h1 : TyIs K H x a) (h2 : tyOf n = some t) (h : Q (.bl (isT a t)) H) : rIsiU K [x, .ty n] H Q := ⟨a, t, h1, h2, h⟩
theorem rd_din (h : ty σ H fun y H1 => td σ H1 fun x H2 => ∃ a o, x = .ref a ∧ DGet H2 a y o ∧ Q (.bl o.isSome) H2) : tDIn ty td σ H Q := h
theorem rd_dnin (h : ty σ H fun y H1 => td σ H1 fun x H2 => ∃ a o, x = .ref a ∧ DGet H2 a y o ∧ Q (.bl (!o.isSome)) H2) : tDNotIn ty td σ H Q := h
theorem rd_din1 {p : Addr} {kvs : List (Key × V)} {k : Key} {y : V} {R : Option V → Prop} (hs : Rd H p (.dK kvs)) (hy : y = kV k) (h : R (valV kvs k)) : ∃ a o, V.ref p = .ref a ∧ DGet H a y o ∧ R o := ⟨p, _, rfl, .inl ⟨kvs, k, hs, hy, rfl⟩, h⟩
theorem rd_nT {A B : Prop} (h : B) : if (!true) = true then A else B := h
theorem rd_nF {A B : Prop} (h : A) : if (!false) = true then A else B := h
/-- repr of a truth value -/
def shB (b : Bool) : Str := if b then "True" else "False"
def rReprU : List V → Hp → VK → Prop := fun xs H Q => match xs with
  | [.bl b] => Q (.str (shB b)) H
  | _ => False
theorem rd_reprB {b : Bool} (h : Q (.str (shB b)) H) : rReprU [.bl b] H Q := h
theorem rd_ck {sp : Sp} {E : XK} {np nk : Nat} {t tk : TA} (h : t σ H fun vs H1 => vs.length = np ∧ tk σ H1 fun zs H2 => zs.length = nk ∧ sp (vs ++ zs) H2 Q E) : tCK sp np nk E t tk σ H Q := h
theorem rd_len {vs : List V} {k : Nat} {P : Prop} (e : vs.length = k) (h : P) : vs.length = k ∧ P := ⟨e, h⟩
theorem rd_par {i j : Nat} {ta : TA} (h : ta σ H fun vs H1 => ∃ v w, vs = [v, w] ∧ D.nx ((σ.set i (some v)).set j (some w)) H1) : tPar i j ta D σ H := h
theorem rd_two {v w' : V} {R : V → V → Prop} (h : R v w') : ∃ x y, [v, w'] = [x, y] ∧ R x y := ⟨v, w', rfl, h⟩
theorem rd_sumL {p : Addr} {ns : List Int} (hs : SqL K H p (ns.map V.int)) (h : Q (.int ns.sum) H) : rSumU K [.ref p] H Q := ⟨ns, hs, h⟩
theorem rd_allL {p : Addr} {bs : List Bool} (hs : SqL K H p (bs.map V.bl)) (h : Q (.bl (bs.all id)) H) : rAllU K [.ref p] H Q := ⟨bs, hs, h⟩
theorem rd_isB {a b : Bool} (h : Q (.bl (decide (a = b))) H) : rIsU (.bl a) (.bl b) H Q := ⟨a, rfl, h⟩
theorem rd_isNotB {a b : Bool} (h : Q (.bl (!decide (a = b))) H) : rIsNotU (.bl a) (.bl b) H Q := ⟨a, rfl, h⟩
theorem rd_daug {rd : V → V → Hp → VK → Prop} (h : td σ H fun x H1 => ty σ H1 fun y H2 => ∃ a v, x = .ref a ∧ DGet H2 a y (some v) ∧
  tv σ H2 fun y2 H3 => rd v y2 H3 fun z H4 => ∃ H5, DPut H4 a y z H5 ∧ D.nx σ H5) : sDAug td ty tv rd D σ H := h
end
end U

namespace Law
open PySem PySem.Spec PyProof.Rows L2 U
def top (i : Nat) : Stmt := PySem.Challenge.pw_threeturned_k65_split_errors.main.body.getD i (.Pass ⟨0, 0, 0, 0⟩)
abbrev s_InvalidState_init : Stmt := inClass (top 2) 0
theorem sc_InvalidState_init : FnScope ["self", "part", "position"] ["self", "part", "position"] (defScope s_InvalidState_init) := ⟨rfl, rfl, rfl, by decide +kernel, rfl, by decide +kernel, by decide +kernel⟩
abbrev s_InvalidPin_init : Stmt := inClass (top 3) 0
theorem sc_InvalidPin_init : FnScope ["self", "node"] ["self", "node"] (defScope s_InvalidPin_init) := ⟨rfl, rfl, rfl, by decide +kernel, rfl, by decide +kernel, by decide +kernel⟩
abbrev s_InvalidEdge_init : Stmt := inClass (top 4) 0
theorem sc_InvalidEdge_init : FnScope ["self", "edge"] ["self", "edge"] (defScope s_InvalidEdge_init) := ⟨rfl, rfl, rfl, by decide +kernel, rfl, by decide +kernel, by decide +kernel⟩
abbrev s_NotReachable_init : Stmt := inClass (top 5) 0
theorem sc_NotReachable_init : FnScope ["self", "position"] ["self", "position"] (defScope s_NotReachable_init) := ⟨rfl, rfl, rfl, by decide +kernel, rfl, by decide +kernel, by decide +kernel⟩
abbrev s_TooLarge_init : Stmt := inClass (top 7) 0
theorem sc_TooLarge_init : FnScope ["self", "total"] ["self", "total"] (defScope s_TooLarge_init) := ⟨rfl, rfl, rfl, by decide +kernel, rfl, by decide +kernel, by decide +kernel⟩
abbrev s_has_node : Stmt := top 9
theorem sc_has_node : FnScope ["graph", "candidate"] ["graph", "candidate"] (defScope s_has_node) := ⟨rfl, rfl, rfl, by decide +kernel, rfl, by decide +kernel, by decide +kernel⟩
abbrev s_check_node : Stmt := top 10
theorem sc_check_node : FnScope ["graph", "candidate"] ["graph", "candidate"] (defScope s_check_node) := ⟨rfl, rfl, rfl, by decide +kernel, rfl, by decide +kernel, by decide +kernel⟩
abbrev s_edge_of : Stmt := top 11
theorem sc_edge_of : FnScope ["first", "second"] ["first", "second"] (defScope s_edge_of) := ⟨rfl, rfl, rfl, by decide +kernel, rfl, by decide +kernel, by decide +kernel⟩
abbrev s_adjacency : Stmt := top 12
abbrev nN_adjacency : List Str := ["graph", "nodes", "edges", "found", "node", "one", "other", "some"]
theorem sc_adjacency : FnScope ["graph", "nodes", "edges", "found", "node", "one", "other", "some"] ["graph"] (defScope s_adjacency) := ⟨rfl, rfl, rfl, by decide +kernel, rfl, by decide +kernel, by decide +kernel⟩
abbrev s_paths_from : Stmt := top 13
theorem sc_paths_from : FnScope ["graph", "node", "adjacent", "found", "queue", "position", "current", "other"] ["graph", "node"] (defScope s_paths_from) := ⟨rfl, rfl, rfl, by decide +kernel, rfl, by decide +kernel, by decide +kernel⟩
abbrev s_components : Stmt := top 14
theorem sc_components : FnScope ["graph", "found", "known", "node", "component", "one"] ["graph"] (defScope s_components) := ⟨rfl, rfl, rfl, by decide +kernel, rfl, by decide +kernel, by decide +kernel⟩
abbrev s_shortest_path : Stmt := top 15
theorem sc_shortest_path : FnScope ["graph", "start", "end"] ["graph", "start", "end"] (defScope s_shortest_path) := ⟨rfl, rfl, rfl, by decide +kernel, rfl, by decide +kernel, by decide +kernel⟩
abbrev s_root_paths : Stmt := top 16
theorem sc_root_paths : FnScope ["graph", "found", "component"] ["graph"] (defScope s_root_paths) := ⟨rfl, rfl, rfl, by decide +kernel, rfl, by decide +kernel, by decide +kernel⟩
abbrev s_basis_cycles : Stmt := top 17
theorem sc_basis_cycles : FnScope ["graph", "paths", "found", "one", "other"] ["graph"] (defScope s_basis_cycles) := ⟨rfl, rfl, rfl, by decide +kernel, rfl, by decide +kernel, by decide +kernel⟩
abbrev s_slope : Stmt := top 21
theorem sc_slope : FnScope ["state", "node", "neighbor"] ["state", "node", "neighbor"] (defScope s_slope) := ⟨rfl, rfl, rfl, by decide +kernel, rfl, by decide +kernel, by decide +kernel⟩
abbrev s_path_sum : Stmt := top 22
abbrev nN_path_sum : List Str := ["state", "path", "at"]
theorem sc_path_sum : FnScope ["state", "path", "at"] ["state", "path"] (defScope s_path_sum) := ⟨rfl, rfl, rfl, by decide +kernel, rfl, by decide +kernel, by decide +kernel⟩
abbrev s_windings : Stmt := top 23
abbrev nN_windings : List Str := ["graph", "state", "cycle"]
theorem sc_windings : FnScope ["graph", "state", "cycle"] ["graph", "state"] (defScope s_windings) := ⟨rfl, rfl, rfl, by decide +kernel, rfl, by decide +kernel, by decide +kernel⟩
abbrev s_sloped_paths : Stmt := top 24
theorem sc_sloped_paths : FnScope ["graph", "state", "node", "direction", "adjacent", "found", "queue", "position", "current", "other"] ["graph", "state", "node", "direction"] (defScope s_sloped_paths) := ⟨rfl, rfl, rfl, by decide +kernel, rfl, by decide +kernel, by decide +kernel⟩
abbrev s_smallest_path : Stmt := top 25
theorem sc_smallest_path : FnScope ["paths"] ["paths"] (defScope s_smallest_path) := ⟨rfl, rfl, rfl, by decide +kernel, rfl, by decide +kernel, by decide +kernel⟩
abbrev s_cycle_at : Stmt := top 26
abbrev nN_cycle_at : List Str := ["graph", "state", "node", "paths", "ends", "one"]
theorem sc_cycle_at : FnScope ["graph", "state", "node", "paths", "ends", "one"] ["graph", "state", "node"] (defScope s_cycle_at) := ⟨rfl, rfl, rfl, by decide +kernel, rfl, by decide +kernel, by decide +kernel⟩
abbrev s_cycle_nodes : Stmt := top 27
abbrev nN_cycle_nodes : List Str := ["graph", "state", "node"]
theorem sc_cycle_nodes : FnScope ["graph", "state", "node"] ["graph", "state"] (defScope s_cycle_nodes) := ⟨rfl, rfl, rfl, by decide +kernel, rfl, by decide +kernel, by decide +kernel⟩
abbrev s_find_anchors : Stmt := top 29
abbrev nN_find_anchors : List Str := ["graph", "state", "pinned", "on_cycles", "node"]
theorem sc_find_anchors : FnScope ["graph", "state", "pinned", "on_cycles", "node"] ["graph", "state", "pinned"] (defScope s_find_anchors) := ⟨rfl, rfl, rfl, by decide +kernel, rfl, by decide +kernel, by decide +kernel⟩
abbrev s_is_integer : Stmt := top 31
theorem sc_is_integer : FnScope ["candidate"] ["candidate"] (defScope s_is_integer) := ⟨rfl, rfl, rfl, by decide +kernel, rfl, by decide +kernel, by decide +kernel⟩
abbrev s_is_value : Stmt := top 32
theorem sc_is_value : FnScope ["candidate"] ["candidate"] (defScope s_is_value) := ⟨rfl, rfl, rfl, by decide +kernel, rfl, by decide +kernel, by decide +kernel⟩
abbrev s_check_state : Stmt := top 33
abbrev nN_check_state : List Str := ["graph", "candidate", "nodes", "edges", "node", "first", "second"]
theorem sc_check_state : FnScope ["graph", "candidate", "nodes", "edges", "node", "first", "second"] ["graph", "candidate"] (defScope s_check_state) := ⟨rfl, rfl, rfl, by decide +kernel, rfl, by decide +kernel, by decide +kernel⟩
abbrev s_signature : Stmt := top 36
abbrev nN_signature : List Str := ["graph", "state", "pinned", "numbers", "anchors", "component", "own_anchors", "node"]
theorem sc_signature : FnScope ["graph", "state", "pinned", "numbers", "anchors", "component", "own_anchors", "node"] ["graph", "state", "pinned"] (defScope s_signature) := ⟨rfl, rfl, rfl, by decide +kernel, rfl, by decide +kernel, by decide +kernel⟩
abbrev s_check_class : Stmt := top 37
abbrev nN_check_class : List Str := ["graph", "states", "pinned", "state", "signatures", "position", "own"]
theorem sc_check_class : FnScope ["graph", "states", "pinned", "state", "signatures", "position", "own"] ["graph", "states", "pinned"] (defScope s_check_class) := ⟨rfl, rfl, rfl, by decide +kernel, rfl, by decide +kernel, by decide +kernel⟩
abbrev s_check_extras : Stmt := top 38
theorem sc_check_extras : FnScope ["graph", "pinned", "extra_pin", "extra_edge", "first", "second"] ["graph", "pinned", "extra_pin", "extra_edge"] (defScope s_check_extras) := ⟨rfl, rfl, rfl, by decide +kernel, rfl, by decide +kernel, by decide +kernel⟩
abbrev s_split_classes : Stmt := top 39
theorem sc_split_classes : FnScope ["graph", "states", "pinned", "extra_pin", "extra_edge", "groups", "position", "state"] ["graph", "states", "pinned", "extra_pin", "extra_edge"] (defScope s_split_classes) := ⟨rfl, rfl, rfl, by decide +kernel, rfl, by decide +kernel, by decide +kernel⟩
abbrev s__law_box : Stmt := top 41
abbrev nN__law_box : List Str := ["_law_script", "_law_cell"]
theorem sc__law_box : FnScope ["_law_script", "_law_cell"] ["_law_script"] (defScope s__law_box) := ⟨rfl, rfl, rfl, by decide +kernel, rfl, by decide +kernel, by decide +kernel⟩
abbrev s__law_draw : Stmt := top 42
theorem sc__law_draw : FnScope ["_law_source", "_law_count", "_law_cell", "_law_found"] ["_law_source", "_law_count"] (defScope s__law_draw) := ⟨rfl, rfl, rfl, by decide +kernel, rfl, by decide +kernel, by decide +kernel⟩
abbrev s__law_stem : Stmt := top 43
abbrev nN__law_stem : List Str := ["_law_source", "_law_k"]
theorem sc__law_stem : FnScope ["_law_source", "_law_k"] ["_law_source"] (defScope s__law_stem) := ⟨rfl, rfl, rfl, by decide +kernel, rfl, by decide +kernel, by decide +kernel⟩
abbrev s__law_random_names : Stmt := top 44
theorem sc__law_random_names : FnScope ["_law_source", "_law_count", "_law_front", "_law_alike", "_law_shift", "_law_step", "_law_stem_here", "_law_words", "_law_k", "_law_letter"] ["_law_source", "_law_count"] (defScope s__law_random_names) := ⟨rfl, rfl, rfl, by decide +kernel, rfl, by decide +kernel, by decide +kernel⟩
abbrev s__law_random_problem : Stmt := top 45
abbrev nN__law_random_problem : List Str := ["_law_source", "_law_most", "_law_values", "_law_pairs", "_law_k", "_law_value", "_law_direction", "_law_near", "_law_density", "_law_words", "_law_edges", "_law_one", "_law_other", "_law_state", "_law_share", "_law_pins", "_law_word"]
theorem sc__law_random_problem : FnScope ["_law_source", "_law_most", "_law_values", "_law_pairs", "_law_k", "_law_value", "_law_direction", "_law_near", "_law_density", "_law_words", "_law_edges", "_law_one", "_law_other", "_law_state", "_law_share", "_law_pins", "_law_word"] ["_law_source", "_law_most"] (defScope s__law_random_problem) := ⟨rfl, rfl, rfl, by decide +kernel, rfl, by decide +kernel, by decide +kernel⟩
abbrev s__law_call : Stmt := top 46
theorem sc__law_call : FnScope ["_law_graph", "_law_some", "_law_pins", "_law_new_pin", "_law_edge", "_law_found", "e"] ["_law_graph", "_law_some", "_law_pins", "_law_new_pin", "_law_edge"] (defScope s__law_call) := ⟨rfl, rfl, rfl, by decide +kernel, rfl, by decide +kernel, by decide +kernel⟩
abbrev s__law_changed : Stmt := top 47
abbrev nN__law_changed : List Str := ["_law_source", "_law_graph", "_law_state", "_law_node", "_law_changed_here", "_law_direction", "_law_edge", "_law_alike", "_law_one"]
theorem sc__law_changed : FnScope ["_law_source", "_law_graph", "_law_state", "_law_node", "_law_changed_here", "_law_direction", "_law_edge", "_law_alike", "_law_one"] ["_law_source", "_law_graph", "_law_state", "_law_node"] (defScope s__law_changed) := ⟨rfl, rfl, rfl, by decide +kernel, rfl, by decide +kernel, by decide +kernel⟩
abbrev s_law : Stmt := top 48
abbrev nN_law : List Str := ["_law_script", "_law_source", "_law_graph", "_law_state", "_law_pins", "_law_node", "_law_invalid", "_law_edge", "_law_new_pin", "_law_changed_here", "_law_expected", "_law_earlier", "_law_k", "_law_saved", "_law_count", "_law_alone", "_law_one", "_law_pair", "_law_other", "_law_fixed", "_law_calls", "_law_last", "_law_found"]
theorem sc_law : FnScope ["_law_script", "_law_source", "_law_graph", "_law_state", "_law_pins", "_law_node", "_law_invalid", "_law_edge", "_law_new_pin", "_law_changed_here", "_law_expected", "_law_earlier", "_law_k", "_law_saved", "_law_count", "_law_alone", "_law_one", "_law_pair", "_law_other", "_law_fixed", "_law_calls", "_law_last", "_law_found"] ["_law_script"] (defScope s_law) := ⟨rfl, rfl, rfl, by decide +kernel, rfl, by decide +kernel, by decide +kernel⟩
end Law

namespace Law
open PySem PySem.Spec PyProof.Rows L2 U
local macro_rules | `(tactic| wtm_at "rd1") => `(tactic| first
  | with_reducible refine rd_seq ?_
  | ((with_reducible refine rd_var (v := ?vv) ?hv ?_); (case hv => exact rfl))
  | with_reducible refine rd_c ?_
  | with_reducible refine rd_cons ?_
  | with_reducible refine rd_nil ?_
  | with_reducible refine rd_op ?_
  | with_reducible refine rd_asg ?_
  | with_reducible refine rd_name ?_
  | with_reducible refine rd_c1 ?_
  | with_reducible refine rd_cb ?_
  | with_reducible refine rd_test ?_
  | with_reducible refine rd_B ?_
  | with_reducible refine rd_bl ?_
  | with_reducible refine rd_if ?_
  | with_reducible refine rd_ret ?_
  | with_reducible refine rd_drop ?_
  | with_reducible refine rd_next ?_
  | with_reducible refine rd_addI ?_
  | with_reducible refine rd_ltI ?_
  | with_reducible refine rd_eqI ?_
  | with_reducible refine rd_neI ?_
  | with_reducible refine rd_eqS ?_
  | with_reducible refine rd_neS ?_
  | with_reducible refine rd_gtI ?_
  | with_reducible refine rd_geI ?_
  | with_reducible refine rd_leI ?_
  | with_reducible refine rd_ltS ?_
  | with_reducible refine rd_subI ?_
  | ((with_reducible refine rd_modI ?hc ?_); (case hc => first | decide | omega))
  | ((with_reducible refine rd_mulI ?hc ?_); (case hc => first | exact mul_bI | exact .inl (.inr (by decide)) | exact .inl (.inl (by decide)) | exact .inl (.inr (by omega)) | exact .inl (.inl (by omega))))
  | ((with_reducible refine rd_divI ?hc ?_); (case hc => first | decide | omega))
  | ((with_reducible refine rd_powI ?hc ?_); (case hc => exact ⟨by decide, by decide, by decide⟩))
  | with_reducible refine rd_lst ?_
  | with_reducible refine rd_tup ?_
  | ((with_reducible refine rd_sz ?hv ?_); (case hv => exact rfl))
  | with_reducible refine rd_and ?_
  | with_reducible refine rd_or ?_
  | with_reducible refine rd_not ?_
  | with_reducible refine rd_andV ?_
  | with_reducible refine rd_orV ?_
  | with_reducible refine rd_notV ?_
  | with_reducible refine rd_ifE ?_
  | with_reducible refine rd_T ?_
  | with_reducible refine rd_F ?_
  | with_reducible refine rd_chain ?_
  | with_reducible refine rd_is ?_
  | with_reducible refine rd_isNot ?_
  | with_reducible refine rd_absI ?_
  | with_reducible refine rd_maxI ?_
  | with_reducible refine rd_minI ?_
  | with_reducible refine rd_intI ?_
  | with_reducible refine rd_intB ?_
  | with_reducible refine rd_sub ?_
  | with_reducible refine rd_sl ?_
  | with_reducible refine rd_noPart ?_
  | with_reducible refine rd_part ?_
  | with_reducible refine rd_exI ?_
  | with_reducible refine rd_bm ?_
  | with_reducible refine rd_bm0 ?_
  | with_reducible refine rd_un ?_
  | with_reducible refine rd_neg ?_
  | with_reducible refine rd_c2 ?_
  | with_reducible refine rd_retN ?_
  | with_reducible refine rd_break ?_
  | with_reducible refine rd_cont ?_
  | with_reducible refine rd_for ?_
  | with_reducible refine rd_rng1 ?_
  | with_reducible refine rd_rng2 ?_
  | with_reducible refine rd_iList ?_
  | with_reducible refine rd_iTup ?_
  | with_reducible refine rd_iEnum ?_
  | ((with_reducible refine rd_forR ?h0 ?h1 ?_); (case h0 => omega); (case h1 => omega))
  | with_reducible refine rd_lc ?_
  | with_reducible refine rd_gcons ?_
  | with_reducible refine rd_gnil ?_
  | with_reducible refine rd_dget ?_
  | with_reducible refine rd_dput ?_
  | with_reducible refine rd_dnew ?_
  | with_reducible refine rd_dc ?_
  | with_reducible refine rd_iItems ?_
  | with_reducible refine rd_iKeys ?_
  | with_reducible refine rd_din ?_
  | with_reducible refine rd_lc2 ?_
  | with_reducible refine rd_cd ?_
  | with_reducible refine rd_par ?_
  | with_reducible refine rd_two ?_
  | with_reducible refine rd_reprB ?_
  | with_reducible refine rd_ck ?_
  | ((with_reducible refine rd_len ?hl ?_); (case hl => exact rfl))
  | with_reducible refine rd_nT ?_
  | with_reducible refine rd_nF ?_
  | with_reducible refine rd_dnin ?_
  | with_reducible refine rd_isB ?_
  | with_reducible refine rd_isNotB ?_
  | with_reducible refine rd_daug ?_
  | with_reducible refine rd_yesT ?_
  | ((with_reducible refine rd_wp ?hw ?_); (case hw => exact rfl)))
local macro_rules | `(tactic| wtm_at "rd") => `(tactic| repeat wtm_at "rd1")
/-- the names of the world are the world's -/
structure Bt (mg : Str → Option Value) : Prop where
  len : mg "len" = none
  abs : mg "abs" = none
  max : mg "max" = none
  min : mg "min" = none
  sorted : mg "sorted" = none
  isinstance : mg "isinstance" = none
  int : mg "int" = none
  list : mg "list" = none
  tuple : mg "tuple" = none
  str : mg "str" = none
  range : mg "range" = none
  enumerate : mg "enumerate" = none
  dict : mg "dict" = none
  sum : mg "sum" = none
  all : mg "all" = none
  any : mg "any" = none
  repr : mg "repr" = none
  set : mg "set" = none
  zip : mg "zip" = none
  reversed : mg "reversed" = none
/-- a source of draws: the cells, how many are used, what is left of a great one, the seed -/
abbrev srcO (c : Addr) (pos big seed : Int) : HO := .lst [.ref c, .int pos, .int big, .int seed]
structure SrcOk (xs : List Int) (pos big seed : Int) : Prop where
  xs : ∀ x ∈ xs, 0 ≤ x
  pos : 0 ≤ pos
  big : 0 ≤ big
  s0 : 0 ≤ seed
  s1 : seed < 2147483647
def SrcAt (H : Hp) (p c : Addr) (xs : List Int) : Prop := ∃ pos big seed, H p = some (srcO c pos big seed) ∧ H c = some (.lst (xs.map V.int)) ∧ SrcOk xs pos big seed
def PoolAt (H : Hp) (p : Addr) : Prop := ∃ c xs, SrcAt H p c xs
theorem src_ne {xs : List Int} {c : Addr} {pos big seed : Int} : srcO c pos big seed ≠ .lst (xs.map V.int) := fun z => by
  match xs, HO.lst.inj z with
  | _ :: _, e => cases e
theorem PoolAt.ne {H : Hp} {p q : Addr} (h : PoolAt H p) (n : H q = none) : p ≠ q := by
  obtain ⟨c, xs, b, g, s, h, _⟩ := h
  exact ne_of_none h n
theorem PoolAt.isL {H : Hp} {p : Addr} (h : PoolAt H p) : ∃ ys, H p = some (.lst ys) := by
  obtain ⟨c, xs, b, g, s, h, _⟩ := h
  exact ⟨_, h⟩
theorem PoolAt.off {H : Hp} {p q : Addr} {xs : List Str} (h : PoolAt H p) (hq : H q = some (.lst (xs.map V.str))) : q ≠ p := by
  rintro rfl
  obtain ⟨c, ys, b, g, s, h, _⟩ := h
  rw [hq] at h
  have e := HO.lst.inj (Option.some.inj h)
  match xs, e with
  | _ :: _, e => cases e
/-- from H to H' all stays but the draws' source at p, which is one still; new things may have come -/
structure Go (p : Addr) (H H' : Hp) : Prop where
  but : But p H H'
  free : ∀ b, H' b = none → H b = none
  pool : PoolAt H' p
  cell : ∀ c pos big seed, H' p = some (srcO c pos big seed) → H c ≠ none ∧ ∃ pos big seed, H p = some (srcO c pos big seed)
theorem Go.refl {p : Addr} {H : Hp} (h : PoolAt H p) : Go p H H := ⟨But.refl, fun _ n => n, h, fun c pos big seed e => by
  obtain ⟨c', xs, b, g, s, h1, h2, _⟩ := h
  have e2 := Option.some.inj (e.symm.trans h1)
  have e3 := (List.cons.inj (HO.lst.inj e2)).1
  have e4 : c = c' := V.ref.inj e3
  subst e4
  exact ⟨(fun z => by rw [z] at h2; cases h2), _, _, _, e⟩⟩
theorem Go.trans {p : Addr} {H H1 H2 : Hp} (a : Go p H H1) (b : Go p H1 H2) : Go p H H2 := ⟨a.but.trans b.but, fun c n => a.free c (b.free c n), b.pool, fun c _ _ _ e => by
  obtain ⟨_, _, _, _, e2⟩ := b.cell c _ _ _ e
  exact a.cell c _ _ _ e2⟩
/-- an object that was not there at H is written -/
theorem Go.put {p q : Addr} {H H1 : Hp} {o : HO} (a : Go p H H1) (n : H q = none) (ne : p ≠ q) : Go p H (L2.upd H1 q o) := by
  obtain ⟨c, xs, b, g, s, h1, h2, ok⟩ := a.pool
  have nc : c ≠ q := fun z => (a.cell _ _ _ _ h1).1 (z ▸ n)
  exact ⟨fun b u h e => at_upd (ne_of_none e n) (a.but b u h e), fun c z => a.free c (new_old z), ⟨c, xs, b, g, s, at_upd ne h1, at_upd nc h2, ok⟩, fun c' _ _ _ e => a.cell c' _ _ _ ((upd_ne ne).symm.trans e)⟩
theorem Go.new {p q : Addr} {H H1 : Hp} {o : HO} (a : Go p H H1) (n : H1 q = none) : Go p H (L2.upd H1 q o) := a.put (a.free _ n) (a.pool.ne n)
theorem Go.at {p q : Addr} {H H1 : Hp} {o : HO} (a : Go p H H1) (h : H q = some o) (n : q ≠ p) : H1 q = some o := a.but q o n h
theorem Go.seqT {p a : Addr} {H H1 : Hp} {xs : List V} {K : PySem.W.Frag} (g : Go p H H1) (hp : PoolAt H p) (h : SqT K H a xs) : SqT K H1 a xs := g.but.seqT hp.isL h
theorem Go.of_same {p : Addr} {H H' : Hp} (hp : PoolAt H p) (s : Same H H') : Go p H H' := by
  obtain ⟨c, xs, b, g, sd, h1, h2, ok⟩ := hp
  refine ⟨But.of_same s, fun b n => new_of_same s n, ⟨c, xs, b, g, sd, s _ _ h1, s _ _ h2, ok⟩, fun c' _ _ _ e => ?_⟩
  have e2 := Option.some.inj (e.symm.trans (s _ _ h1))
  have e4 : c' = c := V.ref.inj (List.cons.inj (HO.lst.inj e2)).1
  subst e4
  exact ⟨(fun z => by rw [z] at h2; cases h2), _, _, _, h1⟩
theorem PoolAt.keep {p : Addr} {H H' : Hp} (h : PoolAt H p) (k : ∀ a xs, H a = some (.lst xs) → H' a = some (.lst xs)) : PoolAt H' p := by
  obtain ⟨c, xs, b, g, sd, h1, h2, ok⟩ := h
  exact ⟨c, xs, b, g, sd, k _ _ h1, k _ _ h2, ok⟩
def spBox (K : PySem.W.Frag) : Sp := fun vs H Q _ => ∃ (a : Addr) (ns : List Int), vs = [.ref a] ∧ SqL K H a (ns.map V.int) ∧ ns.length ≤ 63 ∧
  ∀ (p : Addr) (H' : Hp), Same H H' → H p = none → PoolAt H' p → Q (.ref p) H'
def spDraw : Sp := fun vs H Q _ => ∃ (p : Addr) (many : Int), vs = [.ref p, .int many] ∧ 0 < many ∧ many < 1000000 ∧ PoolAt H p ∧
  ∀ (r : Int) (H' : Hp), 0 ≤ r → r < many → Go p H H' → Q (.int r) H'
/-- _law_draw, as it is used -/
theorem use_draw {H : Hp} {p : Addr} {many : Int} {Q : VK} {E : XK} (h : PoolAt H p) (m0 : 0 < many) (m1 : many < 1000000)
    (k : ∀ (r : Int) (H' : Hp), 0 ≤ r → r < many → Go p H H' → Q (.int r) H') : spDraw [.ref p, .int many] H Q E := ⟨p, many, rfl, m0, m1, h, k⟩
section
variable {P : Program} {w : World} {K : PySem.W.Frag} {mg : Str → Option Value} {base : Heap}
theorem ok_box {f : Addr} {fd : FuncData} (F : Fun K "_law_box" "_law_box" s__law_box f fd) (B : Bt mg) : FnG P w K mg base CX0 1 f fd ["_law_script"] (spBox K) := by
  refine fnG0 F sc__law_box (fun vs H Q E h => ?_) (fun cdv A outer s H vs Q E hr h => ?_)
  · obtain ⟨a, ns, rfl, _⟩ := h
    rfl
  · obtain ⟨a, ns, rfl, hs, hl, q⟩ := h
    have nd := sc__law_box.nd
    refine ⟨_, (pss_one (ps_ret (pe_lst (pa_cons (pe_lc (own := [("_law_cell", 1)]) rfl nd (ki_list K rfl (pe_slice (kSl K rfl) (pv 0) po_none (po_some pe_int))) (blkOk_by (own := [("_law_cell", 1)]) (N := nN__law_box) (sc := defScope s__law_box) (by decide +kernel)) (fun _ _ _ _ _ => (pg_name (i := 1) nd rfl (by first | exact Or.inl rfl | exact Or.inr rfl))) (fun _ _ _ _ _ => pts_nil) (fun _ _ _ _ _ => (pe_callB cAbs (by rfl) B.abs bb_abs (pa_cons (pv 1) pa_nil)))) (pa_cons pe_int (pa_cons pe_int (pa_cons pe_int pa_nil))))))), ?_⟩
    wtm_at "rd"
    refine rd_slL hs ?_
    intro t ft
    have ht := @upd_same H t (.lst (cutV (ns.map V.int) none (some 63)))
    have s1 := Same.new (o := .lst (cutV (ns.map V.int) none (some 63))) ft
    have e63 : cutV (ns.map V.int) none (some 63) = ns.map V.int := by
      unfold cutV HT.sIx
      simp only [Nat.sub_zero, List.drop_zero]
      rw [if_neg (by decide)]
      have : (ns.map V.int).length = ns.length := List.length_map _
      rw [List.take_of_length_le]
      rw [Nat.min_def]
      split <;> omega
    rw [e63] at ht s1 ⊢
    generalize upd H t (.lst (ns.map V.int)) = H1 at ht s1
    wtm_at "rd"
    refine rd_forL (SqL.of ht) ?_
    intro D fD
    refine lcL (K := K) (xs := ns.map V.int) (fun i H' => Same H1 H' ∧ H' D = some (.lst (((ns.take i).map fun z => (z.natAbs : Int)).map V.int))) ⟨Same.new fD, upd_same⟩ ?_ ?_ ?_
    · rintro i H' hi ⟨s, _⟩
      exact SqL.of (s _ _ ht)
    · rintro i y H' hy ⟨s, hD⟩
      obtain ⟨hi, rfl⟩ := map_at hy
      wtm_at "rd"
      refine rd_acc hD (by rw [List.length_map, List.length_map, List.length_take]; omega) ?_
      refine ⟨same_put s fD, ?_⟩
      rw [upd_same, show ns.take (i + 1) = ns.take i ++ [ns[i]] from by rw [List.take_succ, List.getElem?_eq_getElem hi]; rfl, List.map_append, List.map_append]
      rfl
    · rintro H2 ⟨s2, hD⟩
      rw [List.length_map, List.take_length] at hD
      wtm_at "rd"
      intro p fp
      have k := Same.new (o := srcO D 0 0 7) fp
      refine q p _ ((s1.trans s2).trans k) (new_of_same (s1.trans s2) fp) ⟨D, _, 0, 0, 7, upd_same, k _ _ hD, ⟨fun x hx => ?_, by decide, by decide, by decide, by decide⟩⟩
      obtain ⟨z, _, rfl⟩ := List.mem_map.mp hx
      omega
theorem ok_draw {f : Addr} {fd : FuncData} (F : Fun K "_law_draw" "_law_draw" s__law_draw f fd) (B : Bt mg) : FnG P w K mg base CX0 1 f fd ["_law_source", "_law_count"] spDraw := by
  refine fnG0 F sc__law_draw (fun vs H Q E h => ?_) (fun cdv A outer s H vs Q E hr h => ?_)
  · obtain ⟨p, many, rfl, _⟩ := h
    rfl
  · obtain ⟨p, many, rfl, m0, m1, hp, q⟩ := h
    have nd := sc__law_draw.nd
    have g0 := Go.refl hp
    obtain ⟨c, xs, pos, big, seed, h1, h2, ok⟩ := hp
    have ncp : c ≠ p := fun z => by
      subst z
      exact src_ne (Option.some.inj (h1.symm.trans h2))
    have set : ∀ {H1 : Hp} {pos' big' seed' pos2 big2 seed2 : Int}, Go p H H1 → H1 p = some (srcO c pos' big' seed') → H1 c = some (.lst (xs.map V.int)) → SrcOk xs pos2 big2 seed2 → Go p H (upd H1 p (srcO c pos2 big2 seed2)) ∧ upd H1 p (srcO c pos2 big2 seed2) p = some (srcO c pos2 big2 seed2) ∧ upd H1 p (srcO c pos2 big2 seed2) c = some (.lst (xs.map V.int)) := by
      intro H1 pos' big' seed' pos2 big2 seed2 g e1 e2 ok2
      refine ⟨⟨g.but.trans But.upd, fun b z => g.free b (new_old z), ⟨c, xs, _, _, _, upd_same, at_upd ncp e2, ok2⟩, fun c' _ _ _ e => ?_⟩, upd_same, at_upd ncp e2⟩
      rw [upd_same] at e
      have e4 : c = c' := V.ref.inj (List.cons.inj (HO.lst.inj (Option.some.inj e))).1
      subst e4
      exact g.cell c _ _ _ e1
    refine ⟨_, (C8.pss_cut (ps_if (PW.pt (pw_and (pt_cmpR (kEq K rfl hr.u64) (pe_ix (kIx K rfl) (pv 0) pe_int (fun _ _ => rfl)) pe_int (nomark _)) (pw_and1 (pt_cmpR uLt (pe_ix (kIx K rfl) (pv 0) pe_int (fun _ _ => rfl)) (pe_callB (kLen K rfl) (by rfl) B.len bb_len (pa_cons (pe_ix (kIx K rfl) (pv 0) pe_int (fun _ _ => rfl)) pa_nil)) (nomark _))))) (pss_cons (ps_set (i := 2) nd rfl (by first | exact Or.inl rfl | exact Or.inr rfl) (pe_ix (kIx K rfl) (pe_ix (kIx K rfl) (pv 0) pe_int (fun _ _ => rfl)) (pe_ix (kIx K rfl) (pv 0) pe_int (fun _ _ => rfl)) (fun _ _ => rfl)))
  (pss_cons (ps_asg (pe_op (kAdd K rfl) (pe_ix (kIx K rfl) (pv 0) pe_int (fun _ _ => rfl)) pe_int) (pg_sub (pv 0) pe_int set_list))
  (pss_one (ps_if (pt_cmpR uGe (pv 2) (pe_op uPow pe_int pe_int) (nomark _)) (pss_one (ps_asg (pv 2) (pg_sub (pv 0) pe_int set_list))) (pss_one (ps_asg (pe_op uMod (pe_op (kAdd K rfl) (pe_op uMul (pe_ix (kIx K rfl) (pv 0) pe_int (fun _ _ => rfl)) pe_int) (pv 2)) pe_int) (pg_sub (pv 0) pe_int set_list))))))) pss_nil)
  (pss_cons (ps_if (pt_cmpR uGt (pe_ix (kIx K rfl) (pv 0) pe_int (fun _ _ => rfl)) pe_int (nomark _)) (pss_cons (ps_set (i := 3) nd rfl (by first | exact Or.inl rfl | exact Or.inr rfl) (pe_op uMod (pe_ix (kIx K rfl) (pv 0) pe_int (fun _ _ => rfl)) (pv 1)))
  (pss_cons (ps_asg (pe_op uDiv (pe_ix (kIx K rfl) (pv 0) pe_int (fun _ _ => rfl)) (pv 1)) (pg_sub (pv 0) pe_int set_list))
  (pss_one (ps_ret (pv 3))))) pss_nil)
  (pss_cons (ps_asg (pe_op uMod (pe_op (kAdd K rfl) (pe_op uMul (pe_ix (kIx K rfl) (pv 0) pe_int (fun _ _ => rfl)) pe_int) pe_int) pe_int) (pg_sub (pv 0) pe_int set_list))
  (pss_one (ps_ret (pe_op uMod (pe_op uMod (pe_op uMul (pe_ix (kIx K rfl) (pv 0) pe_int (fun _ _ => rfl)) pe_int) pe_int) (pv 1))))))), ?_⟩
    refine ⟨fun σ' H' => ∃ (u2 u3 : Option V) (pos big seed : Int), σ' = [some (.ref p), some (.int many), u2, u3] ∧ Go p H H' ∧ H' p = some (srcO c pos big seed) ∧ H' c = some (.lst (xs.map V.int)) ∧ SrcOk xs pos big seed, ?_, ?_⟩
    · wtm_at "rd"
      refine rd_ixL (SqL.of h1) rfl ?_
      wtm_at "rd"
      refine rd_split (fun c1 => ?_) (fun c1 => ?_)
      · wtm_at "rd"
        refine rd_ixL (SqL.of h1) rfl ?_
        wtm_at "rd"
        refine rd_ixL (SqL.of h1) rfl ?_
        wtm_at "rd"
        refine rd_lenL (SqL.of h2) ?_
        rw [List.length_map]
        wtm_at "rd"
        refine rd_split (fun c2 => ?_) (fun c2 => ?_)
        · obtain ⟨k, rfl⟩ : ∃ k : Nat, pos = (k : Int) := ⟨pos.toNat, by have := ok.pos; omega⟩
          have hk : k < xs.length := by omega
          wtm_at "rd"
          refine rd_ixL (SqL.of h1) rfl ?_
          wtm_at "rd"
          refine rd_ixL (SqL.of h1) rfl ?_
          refine rd_ixL (SqL.of h2) (v := .int xs[k]) (atI_nat (by rw [List.getElem?_map, List.getElem?_eq_getElem hk]; rfl)) ?_
          have x0 := ok.xs _ (List.getElem_mem hk)
          generalize xs[k] = x at *
          wtm_at "rd"
          refine rd_ixL (SqL.of h1) rfl ?_
          wtm_at "rd"
          refine rd_setL h1 rfl ?_
          obtain ⟨g1, e1, e2⟩ := set (pos2 := (k : Int) + 1) (big2 := big) (seed2 := seed) g0 h1 h2 ⟨ok.xs, by omega, ok.big, ok.s0, ok.s1⟩
          wtm_at "rd"
          refine rd_split (fun c3 => ?_) (fun c3 => ?_)
          · wtm_at "rd"
            refine rd_setL e1 rfl ?_
            obtain ⟨g3, e3, e4⟩ := set (pos2 := (k : Int) + 1) (big2 := x) (seed2 := seed) g1 e1 e2 ⟨ok.xs, by omega, x0, ok.s0, ok.s1⟩
            exact ⟨_, _, _, _, _, rfl, g3, e3, e4, ⟨ok.xs, by omega, x0, ok.s0, ok.s1⟩⟩
          · wtm_at "rd"
            refine rd_ixL (SqL.of e1) rfl ?_
            wtm_at "rd"
            refine rd_setL e1 rfl ?_
            obtain ⟨g3, e3, e4⟩ := set (pos2 := (k : Int) + 1) (big2 := big) (seed2 := (seed * 48271 + x) % 2147483647) g1 e1 e2 ⟨ok.xs, by omega, ok.big, by omega, by omega⟩
            exact ⟨_, _, _, _, _, rfl, g3, e3, e4, ⟨ok.xs, by omega, ok.big, by omega, by omega⟩⟩
        · wtm_at "rd"
          exact ⟨_, _, _, _, _, rfl, g0, h1, h2, ok⟩
      · wtm_at "rd"
        exact ⟨_, _, _, _, _, rfl, g0, h1, h2, ok⟩
    · rintro σ' H1 ⟨u2, u3, pos, big, seed, rfl, g1, e1, e2, ok⟩
      wtm_at "rd"
      refine rd_ixL (SqL.of e1) rfl ?_
      wtm_at "rd"
      refine rd_split (fun c1 => ?_) (fun c1 => ?_)
      · wtm_at "rd"
        refine rd_ixL (SqL.of e1) rfl ?_
        wtm_at "rd"
        refine rd_ixL (SqL.of e1) rfl ?_
        wtm_at "rd"
        refine rd_setL e1 rfl ?_
        wtm_at "rd"
        exact q _ _ (Int.emod_nonneg _ (by omega)) (Int.emod_lt_of_pos _ m0) (set g1 e1 e2 ⟨ok.xs, ok.pos, Int.ediv_nonneg ok.big (by omega), ok.s0, ok.s1⟩).1
      · wtm_at "rd"
        refine rd_ixL (SqL.of e1) rfl ?_
        wtm_at "rd"
        refine rd_setL e1 rfl ?_
        obtain ⟨g3, e3, e4⟩ := set (pos2 := pos) (big2 := big) (seed2 := (seed * 48271 + 11) % 2147483647) g1 e1 e2 ⟨ok.xs, ok.pos, ok.big, by omega, by omega⟩
        wtm_at "rd"
        refine rd_ixL (SqL.of e3) rfl ?_
        wtm_at "rd"
        exact q _ _ (Int.emod_nonneg _ (by omega)) (Int.emod_lt_of_pos _ m0) g3
end
end Law

/-! the names of a random problem -/
namespace U
open PySem PySem.Spec PyProof.Rows L2
def IsTail (s : Str) : Prop := s.length ≤ 7 ∧ ∀ c ∈ s.cps.toList, 97 ≤ c ∧ c ≤ 122
open SX in theorem tail_join {cs : List Nat} (hl : cs.length ≤ 7) (h : ∀ c ∈ cs, 97 ≤ c ∧ c ≤ 122) : IsTail (Txt.join ("" : Str) (cs.map fun c => ⟨#[c]⟩)) := by
  have e1 : (cs.map fun c => (⟨#[c]⟩ : Str)) = (cs.map fun c => [c]).map S := by
    rw [List.map_map]
    rfl
  have e2 : ∀ cs : List Nat, TL.joinL [] (cs.map fun c => [c]) = cs := by
    intro cs
    induction cs with
    | nil => rfl
    | cons a r ih =>
      cases r with
      | nil => rfl
      | cons b r => 
        show [a] ++ ([] ++ TL.joinL [] ((b :: r).map fun c => [c])) = _
        rw [ih]
        rfl
  have e3 : Txt.join ("" : Str) (cs.map fun c => ⟨#[c]⟩) = S cs := by
    rw [e1, show ("" : Str) = S [] from rfl, join_S, e2]
  rw [e3]
  exact ⟨by rw [S_len]; exact hl, by simpa [S] using h⟩
/-- a name of a random problem: the letter that tells it, in front or behind -/
def WdAt (front : Bool) (shift step : Int) (j : Nat) (w : Str) : Prop := ∃ t : Str, IsTail t ∧ w = if front = true then ⟨#[97 + (((j : Int) * step + shift) % 26).toNat]⟩ ++ t else t ++ ⟨#[97 + (((j : Int) * step + shift) % 26).toNat]⟩
theorem app_list {a b : Str} : (a ++ b).cps.toList = a.cps.toList ++ b.cps.toList := TL.tl_append a b
theorem WdAt.name {front : Bool} {shift step : Int} {j : Nat} {w : Str} (h : WdAt front shift step j w) : IsName w := by
  obtain ⟨t, ⟨tl, tc⟩, rfl⟩ := h
  have hc : 97 ≤ 97 + (((j : Int) * step + shift) % 26).toNat ∧ 97 + (((j : Int) * step + shift) % 26).toNat ≤ 122 := by omega
  generalize 97 + (((j : Int) * step + shift) % 26).toNat = c at hc
  have tl' : t.cps.toList.length ≤ 7 := by simpa [Str.length] using tl
  have len : ∀ z : Str, z.length = z.cps.toList.length := fun z => by simp [Str.length]
  split
  · refine ⟨?_, ?_, fun x hx => ?_⟩
    · rw [len, app_list, List.length_append]; show 1 ≤ 1 + _; omega
    · rw [len, app_list, List.length_append]; show 1 + _ ≤ 8; omega
    · rw [app_list] at hx
      rcases List.mem_append.mp hx with z | z
      · have : x = c := by simpa using z
        rw [this]; exact hc
      · exact tc x z
  · refine ⟨?_, ?_, fun x hx => ?_⟩
    · rw [len, app_list, List.length_append]; show 1 ≤ _ + 1; omega
    · rw [len, app_list, List.length_append]; show _ + 1 ≤ 8; omega
    · rw [app_list] at hx
      rcases List.mem_append.mp hx with z | z
      · exact tc x z
      · have : x = c := by simpa using z
        rw [this]; exact hc
theorem WdAt.inj {front : Bool} {shift step : Int} {j k : Nat} {w : Str} (hs : step = 7 ∨ step = 1 ∨ step = 3 ∨ step = 11) (hj : j < 26) (hk : k < 26) (a : WdAt front shift step j w) (b : WdAt front shift step k w) : j = k := by
  have core : 97 + (((j : Int) * step + shift) % 26).toNat = 97 + (((k : Int) * step + shift) % 26).toNat → j = k := by
    rcases hs with rfl | rfl | rfl | rfl <;> omega
  obtain ⟨t, _, e1⟩ := a
  obtain ⟨u, _, e2⟩ := b
  have e := e1.symm.trans e2
  apply core
  generalize 97 + (((j : Int) * step + shift) % 26).toNat = c at *
  generalize 97 + (((k : Int) * step + shift) % 26).toNat = d at *
  cases front with
  | true =>
    rw [if_pos rfl, if_pos rfl] at e
    have e3 := congrArg (fun z : Str => z.cps.toList) e
    simp only [app_list] at e3
    have : [c] ++ t.cps.toList = [d] ++ u.cps.toList := e3
    injection this
  | false =>
    rw [if_neg Bool.false_ne_true, if_neg Bool.false_ne_true] at e
    have e3 := congrArg (fun z : Str => z.cps.toList) e
    simp only [app_list] at e3
    have e4 : t.cps.toList ++ [c] = u.cps.toList ++ [d] := e3
    have e5 := congrArg List.getLast? e4
    simp only [List.getLast?_append, List.getLast?_singleton, Option.some_or] at e5
    exact Option.some.inj e5
/-- the words so far -/
structure Wds (front : Bool) (shift step : Int) (ws : List Str) : Prop where
  at_ : ∀ j (h : j < ws.length), WdAt front shift step j ws[j]
theorem Wds.nil {front : Bool} {shift step : Int} : Wds front shift step [] := ⟨fun j h => absurd h (Nat.not_lt_zero _)⟩
theorem Wds.snoc {front : Bool} {shift step : Int} {ws : List Str} {w : Str} (h : Wds front shift step ws) (k : WdAt front shift step ws.length w) : Wds front shift step (ws ++ [w]) := ⟨fun j hj => by
  rw [List.length_append, List.length_singleton] at hj
  by_cases z : j < ws.length
  · rw [List.getElem_append_left z]; exact h.at_ j z
  · obtain rfl : j = ws.length := by omega
    rw [List.getElem_append_right (Nat.le_refl _)]
    simpa using k⟩
theorem Wds.names {front : Bool} {shift step : Int} {ws : List Str} (h : Wds front shift step ws) (hs : step = 7 ∨ step = 1 ∨ step = 3 ∨ step = 11) (l : ws.length ≤ 26) : NamesU ws := by
  refine ⟨?_, fun y hy => ?_⟩
  · rw [List.nodup_iff_pairwise_ne, List.pairwise_iff_getElem]
    intro i j hi hj hij e
    have a := h.at_ i hi
    rw [e] at a
    have := WdAt.inj hs (by omega) (by omega) a (h.at_ j hj)
    omega
  · obtain ⟨j, hj, rfl⟩ := List.mem_iff_getElem.mp hy
    exact (h.at_ j hj).name
end U
namespace Law
open PySem PySem.Spec PyProof.Rows L2 U
local macro_rules | `(tactic| wtm_at "rd1") => `(tactic| first
  | with_reducible refine rd_seq ?_
  | ((with_reducible refine rd_var (v := ?vv) ?hv ?_); (case hv => exact rfl))
  | with_reducible refine rd_c ?_
  | with_reducible refine rd_cons ?_
  | with_reducible refine rd_nil ?_
  | with_reducible refine rd_op ?_
  | with_reducible refine rd_asg ?_
  | with_reducible refine rd_name ?_
  | with_reducible refine rd_c1 ?_
  | with_reducible refine rd_cb ?_
  | with_reducible refine rd_test ?_
  | with_reducible refine rd_B ?_
  | with_reducible refine rd_bl ?_
  | with_reducible refine rd_if ?_
  | with_reducible refine rd_ret ?_
  | with_reducible refine rd_drop ?_
  | with_reducible refine rd_next ?_
  | with_reducible refine rd_addI ?_
  | with_reducible refine rd_ltI ?_
  | with_reducible refine rd_eqI ?_
  | with_reducible refine rd_neI ?_
  | with_reducible refine rd_eqS ?_
  | with_reducible refine rd_neS ?_
  | with_reducible refine rd_gtI ?_
  | with_reducible refine rd_geI ?_
  | with_reducible refine rd_leI ?_
  | with_reducible refine rd_ltS ?_
  | with_reducible refine rd_subI ?_
  | ((with_reducible refine rd_modI ?hc ?_); (case hc => first | decide | omega))
  | ((with_reducible refine rd_mulI ?hc ?_); (case hc => first | exact mul_bI | exact .inl (.inr (by decide)) | exact .inl (.inl (by decide)) | exact .inl (.inr (by omega)) | exact .inl (.inl (by omega))))
  | ((with_reducible refine rd_divI ?hc ?_); (case hc => first | decide | omega))
  | ((with_reducible refine rd_powI ?hc ?_); (case hc => exact ⟨by decide, by decide, by decide⟩))
  | with_reducible refine rd_lst ?_
  | with_reducible refine rd_tup ?_
  | ((with_reducible refine rd_sz ?hv ?_); (case hv => exact rfl))
  | with_reducible refine rd_and ?_
  | with_reducible refine rd_or ?_
  | with_reducible refine rd_not ?_
  | with_reducible refine rd_andV ?_
  | with_reducible refine rd_orV ?_
  | with_reducible refine rd_notV ?_
  | with_reducible refine rd_ifE ?_
  | with_reducible refine rd_T ?_
  | with_reducible refine rd_F ?_
  | with_reducible refine rd_chain ?_
  | with_reducible refine rd_is ?_
  | with_reducible refine rd_isNot ?_
  | with_reducible refine rd_absI ?_
  | with_reducible refine rd_maxI ?_
  | with_reducible refine rd_minI ?_
  | with_reducible refine rd_intI ?_
  | with_reducible refine rd_intB ?_
  | with_reducible refine rd_sub ?_
  | with_reducible refine rd_sl ?_
  | with_reducible refine rd_noPart ?_
  | with_reducible refine rd_part ?_
  | with_reducible refine rd_exI ?_
  | with_reducible refine rd_bm ?_
  | with_reducible refine rd_bm0 ?_
  | with_reducible refine rd_un ?_
  | with_reducible refine rd_neg ?_
  | with_reducible refine rd_c2 ?_
  | with_reducible refine rd_retN ?_
  | with_reducible refine rd_break ?_
  | with_reducible refine rd_cont ?_
  | with_reducible refine rd_for ?_
  | with_reducible refine rd_rng1 ?_
  | with_reducible refine rd_rng2 ?_
  | with_reducible refine rd_iList ?_
  | with_reducible refine rd_iTup ?_
  | with_reducible refine rd_iEnum ?_
  | ((with_reducible refine rd_forR ?h0 ?h1 ?_); (case h0 => omega); (case h1 => omega))
  | with_reducible refine rd_lc ?_
  | with_reducible refine rd_gcons ?_
  | with_reducible refine rd_gnil ?_
  | with_reducible refine rd_dget ?_
  | with_reducible refine rd_dput ?_
  | with_reducible refine rd_dnew ?_
  | with_reducible refine rd_dc ?_
  | with_reducible refine rd_iItems ?_
  | with_reducible refine rd_iKeys ?_
  | with_reducible refine rd_din ?_
  | with_reducible refine rd_lc2 ?_
  | with_reducible refine rd_cd ?_
  | with_reducible refine rd_par ?_
  | with_reducible refine rd_two ?_
  | with_reducible refine rd_reprB ?_
  | with_reducible refine rd_ck ?_
  | ((with_reducible refine rd_len ?hl ?_); (case hl => exact rfl))
  | with_reducible refine rd_nT ?_
  | with_reducible refine rd_nF ?_
  | with_reducible refine rd_dnin ?_
  | with_reducible refine rd_isB ?_
  | with_reducible refine rd_isNotB ?_
  | with_reducible refine rd_daug ?_
  | with_reducible refine rd_yesT ?_
  | ((with_reducible refine rd_wp ?hw ?_); (case hw => exact rfl)))
local macro_rules | `(tactic| wtm_at "rd") => `(tactic| repeat wtm_at "rd1")

def spStem : Sp := fun vs H Q _ => ∃ p : Addr, vs = [.ref p] ∧ PoolAt H p ∧ ∀ (t : Str) (H' : Hp), Go p H H' → IsTail t → Q (.str t) H'
def spNamesB : Sp := fun vs H Q _ => ∃ (p : Addr) (many : Int), vs = [.ref p, .int many] ∧ 0 ≤ many ∧ many ≤ 26 ∧ PoolAt H p ∧
  ∀ (l : Addr) (ws : List Str) (H' : Hp), Go p H H' → H l = none → H' l = some (.lst (ws.map V.str)) → NamesU ws → ws.length = many.toNat → Q (.ref l) H'
theorem rd_join {K : PySem.W.Frag} {H : Hp} {Q : VK} {p : Addr} {cs : List Nat} (hp : SqL K H p ((cs.map fun c => (⟨#[c]⟩ : Str)).map V.str)) (hl : cs.length ≤ 100) (h : Q (.str (Txt.join ("" : Str) (cs.map fun c => ⟨#[c]⟩))) H) :
    ∃ a p', ∃ ys : List Str, V.str ("" : Str) = .str a ∧ [V.ref p] = [.ref p'] ∧ (SqL K H p' (ys.map V.str) ∨ SqT K H p' (ys.map V.str)) ∧ (ys.map (·.length)).sum + ys.length * a.length ≤ 16777216 ∧ Q (.str (Txt.join a ys)) H := by
  refine ⟨_, p, _, rfl, rfl, .inl hp, ?_, h⟩
  have e : ((cs.map fun c => (⟨#[c]⟩ : Str)).map (·.length)).sum = cs.length := by
    clear hp h hl
    induction cs with
    | nil => rfl
    | cons c r ih =>
      rw [List.map_cons, List.map_cons, List.sum_cons, ih, List.length_cons]
      show 1 + r.length = r.length + 1
      omega
  rw [e]
  show cs.length + (cs.map _).length * 0 ≤ 16777216
  omega
theorem rd_m1 {r : V → List V → Hp → VK → Prop} {to te : TE} {σ : L2.St} {H : Hp} {Q : VK} (h : to σ H fun x H1 => (∃ a, x = .str a) ∧ te σ H1 fun y H2 => r x [y] H2 Q) : tM1 r to te σ H Q := h
section
variable {P : Program} {w : World} {K : PySem.W.Frag} {mg : Str → Option Value} {base : Heap}
structure B2a (P : Program) (w : World) (K : PySem.W.Frag) (mg : Str → Option Value) (base : Heap) : Prop where
  _law_draw : Cal P w K mg base CX0 1 "_law_draw" spDraw
theorem ok_stem {f : Addr} {fd : FuncData} (F : Fun K "_law_stem" "_law_stem" s__law_stem f fd) (B : Bt mg) (C : B2a P w K mg base) : FnG P w K mg base CX0 2 f fd ["_law_source"] spStem := by
  refine fnG0 F sc__law_stem (fun vs H Q E h => ?_) (fun cdv A outer s H vs Q E hr h => ?_)
  · obtain ⟨p, rfl, _⟩ := h
    rfl
  · obtain ⟨p, rfl, hp, q⟩ := h
    have nd := sc__law_stem.nd
    refine ⟨_, (pss_one (ps_ret (pe_join pe_str (pe_lc (own := [("_law_k", 1)]) rfl nd (pi_range1 rfl B.range (pa_cons (pe_c C._law_draw hr (by decide) rfl (pa_cons (pv 0) (pa_cons pe_int pa_nil))) pa_nil)) (blkOk_by (own := [("_law_k", 1)]) (N := nN__law_stem) (sc := defScope s__law_stem) (by decide +kernel)) (fun _ _ _ _ _ => (pg_name (i := 1) nd rfl (by first | exact Or.inl rfl | exact Or.inr rfl))) (fun _ _ _ _ _ => pts_nil) (fun _ _ _ _ _ => (pe_ix (kIx K rfl) pe_str (pe_c C._law_draw hr (by decide) rfl (pa_cons (pv 0) (pa_cons pe_int pa_nil))) (fun _ _ => rfl))))))), ?_⟩
    wtm_at "rd"
    refine rd_m1 ?_
    wtm_at "rd"
    refine ⟨⟨_, rfl⟩, ?_⟩
    wtm_at "rd"
    refine use_draw hp (by decide) (by decide) fun r H1 r0 r1 g1 => ?_
    wtm_at "rd"
    intro D fD
    have npD := g1.pool.ne fD
    have fD0 := g1.free _ fD
    refine lcR (fun i H' => ∃ cs : List Nat, cs.length = i ∧ (∀ c ∈ cs, 97 ≤ c ∧ c ≤ 122) ∧ Go p H H' ∧ H' D = some (.lst ((cs.map fun c => (⟨#[c]⟩ : Str)).map V.str))) ⟨[], rfl, (fun c h => nomatch h), g1.new fD, upd_same⟩ ?_ ?_
    · rintro i H' hi ⟨cs, rfl, hc, g, hD⟩
      wtm_at "rd"
      refine use_draw g.pool (by decide) (by decide) fun d H2 d0 d1 g2 => ?_
      refine rd_ixS letters_len (letters_at d0 d1) ?_
      have hD2 := g2.at hD (Ne.symm npD)
      refine rd_acc hD2 (by rw [List.length_map, List.length_map]; omega) ?_
      refine ⟨cs ++ [97 + d.toNat], by rw [List.length_append]; rfl, fun c h => ?_, (g.trans g2).put fD0 npD, ?_⟩
      · rcases List.mem_append.mp h with h | h
        · exact hc c h
        · rw [List.mem_singleton] at h
          omega
      · rw [upd_same, List.map_append, List.map_append]
        rfl
    · rintro H' ⟨cs, hl, hc, g, hD⟩
      refine rd_join (SqL.of hD) (by omega) ?_
      wtm_at "rd"
      exact q _ _ g (tail_join (by omega) hc)
structure B2b (P : Program) (w : World) (K : PySem.W.Frag) (mg : Str → Option Value) (base : Heap) : Prop where
  _law_draw : Cal P w K mg base CX0 1 "_law_draw" spDraw
  _law_stem : Cal P w K mg base CX0 2 "_law_stem" spStem
theorem ok_namesB {f : Addr} {fd : FuncData} (F : Fun K "_law_random_names" "_law_random_names" s__law_random_names f fd) (B : Bt mg) (C : B2b P w K mg base) : FnG P w K mg base CX0 3 f fd ["_law_source", "_law_count"] spNamesB := by
  refine fnG0 F sc__law_random_names (fun vs H Q E h => ?_) (fun cdv A outer s H vs Q E hr h => ?_)
  · obtain ⟨p, many, rfl, _⟩ := h
    rfl
  · obtain ⟨p, many, rfl, m0, m1, hp, q⟩ := h
    have nd := sc__law_random_names.nd
    refine ⟨_, (pss_cons (ps_set (i := 2) nd rfl (by first | exact Or.inl rfl | exact Or.inr rfl) (pe_c C._law_draw hr (by decide) rfl (pa_cons (pv 0) (pa_cons pe_int pa_nil))))
  (pss_cons (ps_set (i := 3) nd rfl (by first | exact Or.inl rfl | exact Or.inr rfl) (pe_c C._law_draw hr (by decide) rfl (pa_cons (pv 0) (pa_cons pe_int pa_nil))))
  (pss_cons (ps_set (i := 4) nd rfl (by first | exact Or.inl rfl | exact Or.inr rfl) (pe_c C._law_draw hr (by decide) rfl (pa_cons (pv 0) (pa_cons pe_int pa_nil))))
  (pss_cons (ps_set (i := 5) nd rfl (by first | exact Or.inl rfl | exact Or.inr rfl) (pe_ix (kIx K rfl) (pe_lst (pa_cons pe_int (pa_cons pe_int (pa_cons pe_int (pa_cons pe_int pa_nil))))) (pe_c C._law_draw hr (by decide) rfl (pa_cons (pv 0) (pa_cons pe_int pa_nil))) (fun _ _ => rfl)))
  (pss_cons (ps_set (i := 6) nd rfl (by first | exact Or.inl rfl | exact Or.inr rfl) (pe_c C._law_stem hr (by decide) rfl (pa_cons (pv 0) pa_nil)))
  (pss_cons (ps_set (i := 7) nd rfl (by first | exact Or.inl rfl | exact Or.inr rfl) (pe_lst pa_nil))
  (pss_cons (ps_for PassesOwn.never rfl (pi_range1 rfl B.range (pa_cons (pv 1) pa_nil)) (pg_name (i := 8) nd rfl (by first | exact Or.inl rfl | exact Or.inr rfl)) (C8.pss_cut (ps_if (pt_cmpR uGt (pv 3) pe_int (nomark _)) (pss_one (ps_set (i := 6) nd rfl (by first | exact Or.inl rfl | exact Or.inr rfl) (pe_c C._law_stem hr (by decide) rfl (pa_cons (pv 0) pa_nil)))) pss_nil)
  (pss_cons (ps_set (i := 9) nd rfl (by first | exact Or.inl rfl | exact Or.inr rfl) (pe_ix (kIx K rfl) pe_str (pe_op uMod (pe_op (kAdd K rfl) (pe_op uMul (pv 8) (pv 5)) (pv 4)) pe_int) (fun _ _ => rfl)))
  (pss_one (ps_expr (pe_bm PySem.F.plainAttrs_list PySem.F.slot_list_append PySem.F.type_list_append mt_append (pv 7) (pa_cons (pe_ifExp (pt_cmpR (kEq K rfl hr.u64) (pv 2) pe_int (nomark _)) (pe_op (kAdd K rfl) (pv 9) (pv 6)) (pe_op (kAdd K rfl) (pv 6) (pv 9))) pa_nil)))))))
  (pss_one (ps_ret (pv 7)))))))))), ?_⟩
    wtm_at "rd"
    refine use_draw hp (by decide) (by decide) fun b H1 b0 b1 g1 => ?_
    wtm_at "rd"
    refine use_draw g1.pool (by decide) (by decide) fun alike H2 a0 a1 g => ?_
    have g2 := g1.trans g
    clear g g1
    wtm_at "rd"
    refine use_draw g2.pool (by decide) (by decide) fun shift H3 s0 s1 g => ?_
    have g3 := g2.trans g
    clear g g2
    wtm_at "rd"
    intro t ft
    have g4 := g3.new (o := .lst [.int 7, .int 1, .int 3, .int 11]) ft
    wtm_at "rd"
    refine use_draw g4.pool (by decide) (by decide) fun r H5 r0 r1 g => ?_
    have ht := g.at upd_same (g3.pool.ne ft).symm
    have g5 := g4.trans g
    clear g g4
    obtain ⟨step, hst, ist⟩ := pick4 (a := 7) (b := 1) (c := 3) (d := 11) r0 r1
    refine rd_ixL (SqL.of ht) hst ?_
    wtm_at "rd"
    refine ⟨p, rfl, g5.pool, fun t0 H6 g it0 => ?_⟩
    have g6 := g5.trans g
    clear g g5 g3 ht
    wtm_at "rd"
    intro l fl
    have npl := g6.pool.ne fl
    have fl0 := g6.free _ fl
    have g7 := g6.new (o := .lst []) fl
    wtm_at "rd"
    refine turnsR (fun i σ H' => ∃ (t : Str) (u8 u9 : Option V) (ws : List Str), σ = [some (.ref p), some (.int many), some (.int b), some (.int alike), some (.int shift), some (.int step), some (.str t), some (.ref l), u8, u9] ∧ IsTail t ∧ ws.length = i ∧ Wds (decide (b = 0)) shift step ws ∧ Go p H H' ∧ H' l = some (.lst (ws.map V.str))) ⟨t0, _, _, [], rfl, it0, rfl, Wds.nil, g7, upd_same⟩ ?_ ?_
    · rintro i σ H' hi ⟨t, u8, u9, ws, rfl, it, hwl, wd, g, hl⟩
      wtm_at "rd"
      refine ⟨fun σ' H2 => ∃ (t : Str) (u9 : Option V), σ' = [some (.ref p), some (.int many), some (.int b), some (.int alike), some (.int shift), some (.int step), some (.str t), some (.ref l), some (.int (0 + (i : Int))), u9] ∧ IsTail t ∧ Go p H H2 ∧ H2 l = some (.lst (ws.map V.str)), ?_, ?_⟩
      · wtm_at "rd"
        refine rd_split (fun c => ?_) (fun c => ?_)
        · wtm_at "rd"
          refine ⟨p, rfl, g.pool, fun t2 H2 g2 it2 => ?_⟩
          wtm_at "rd"
          exact ⟨t2, _, rfl, it2, g.trans g2, g2.at hl (Ne.symm npl)⟩
        · wtm_at "rd"
          exact ⟨t, _, rfl, it, g, hl⟩
      rintro σ' H2 ⟨t, u9, rfl, it, g, hl⟩
      have ir : 0 ≤ ((0 + (i : Int)) * step + shift) % 26 ∧ ((0 + (i : Int)) * step + shift) % 26 < 26 := by omega
      have e0 : 97 + (((0 + (i : Int)) * step + shift) % 26).toNat = 97 + (((ws.length : Int) * step + shift) % 26).toNat := by rw [hwl, Int.zero_add]
      wtm_at "rd"
      refine rd_ixS letters_len (letters_at ir.1 ir.2) ?_
      rw [e0]
      have tl := it.1
      have fin : ∀ z : Str, WdAt (decide (b = 0)) shift step ws.length z → Go p H (upd H2 l (.lst (ws.map V.str ++ [.str z]))) ∧ upd H2 l (.lst (ws.map V.str ++ [.str z])) l = some (.lst ((ws ++ [z]).map V.str)) ∧ Wds (decide (b = 0)) shift step (ws ++ [z]) := fun z hz =>
        ⟨g.put fl0 npl, by rw [upd_same, List.map_append]; rfl, wd.snoc hz⟩
      wtm_at "rd"
      refine rd_tyL hl ?_
      wtm_at "rd"
      generalize hch : (⟨#[97 + (((ws.length : Int) * step + shift) % 26).toNat]⟩ : Str) = ch
      have chl : ch.length = 1 := by rw [← hch]; rfl
      refine rd_split (fun c => ?_) (fun c => ?_)
      · wtm_at "rd"
        refine rd_addS (Nat.le_trans (Nat.add_le_add (Nat.le_of_eq chl) tl) (by decide)) ?_
        wtm_at "rd"
        refine rd_append hl (by rw [List.length_map]; omega) ?_
        obtain ⟨f1, f2, f3⟩ := fin (ch ++ t) ⟨t, it, by rw [decide_eq_true c, if_pos rfl, hch]⟩
        exact ⟨t, _, _, _, rfl, it, by rw [List.length_append, hwl]; rfl, f3, f1, f2⟩
      · wtm_at "rd"
        refine rd_addS (Nat.le_trans (Nat.add_le_add tl (Nat.le_of_eq chl)) (by decide)) ?_
        wtm_at "rd"
        refine rd_append hl (by rw [List.length_map]; omega) ?_
        obtain ⟨f1, f2, f3⟩ := fin (t ++ ch) ⟨t, it, by rw [decide_eq_false c, if_neg Bool.false_ne_true, hch]⟩
        exact ⟨t, _, _, _, rfl, it, by rw [List.length_append, hwl]; rfl, f3, f1, f2⟩
    · rintro σ H' ⟨t, u8, u9, ws, rfl, it, hwl, wd, g, hl⟩
      wtm_at "rd"
      exact q l ws H' g fl0 hl (wd.names ist (by omega)) hwl
end
end Law

namespace Law
open PySem PySem.Spec PyProof.Rows L2 U
local macro_rules | `(tactic| wtm_at "rd1") => `(tactic| first
  | with_reducible refine rd_seq ?_
  | ((with_reducible refine rd_var (v := ?vv) ?hv ?_); (case hv => exact rfl))
  | with_reducible refine rd_c ?_
  | with_reducible refine rd_cons ?_
  | with_reducible refine rd_nil ?_
  | with_reducible refine rd_op ?_
  | with_reducible refine rd_asg ?_
  | with_reducible refine rd_name ?_
  | with_reducible refine rd_c1 ?_
  | with_reducible refine rd_cb ?_
  | with_reducible refine rd_test ?_
  | with_reducible refine rd_B ?_
  | with_reducible refine rd_bl ?_
  | with_reducible refine rd_if ?_
  | with_reducible refine rd_ret ?_
  | with_reducible refine rd_drop ?_
  | with_reducible refine rd_next ?_
  | with_reducible refine rd_addI ?_
  | with_reducible refine rd_ltI ?_
  | with_reducible refine rd_eqI ?_
  | with_reducible refine rd_neI ?_
  | with_reducible refine rd_eqS ?_
  | with_reducible refine rd_neS ?_
  | with_reducible refine rd_gtI ?_
  | with_reducible refine rd_geI ?_
  | with_reducible refine rd_leI ?_
  | with_reducible refine rd_ltS ?_
  | with_reducible refine rd_subI ?_
  | ((with_reducible refine rd_modI ?hc ?_); (case hc => first | decide | omega))
  | ((with_reducible refine rd_mulI ?hc ?_); (case hc => first | exact mul_bI | exact .inl (.inr (by decide)) | exact .inl (.inl (by decide)) | exact .inl (.inr (by omega)) | exact .inl (.inl (by omega))))
  | ((with_reducible refine rd_divI ?hc ?_); (case hc => first | decide | omega))
  | ((with_reducible refine rd_powI ?hc ?_); (case hc => exact ⟨by decide, by decide, by decide⟩))
  | with_reducible refine rd_lst ?_
  | with_reducible refine rd_tup ?_
  | ((with_reducible refine rd_sz ?hv ?_); (case hv => exact rfl))
  | with_reducible refine rd_and ?_
  | with_reducible refine rd_or ?_
  | with_reducible refine rd_not ?_
  | with_reducible refine rd_andV ?_
  | with_reducible refine rd_orV ?_
  | with_reducible refine rd_notV ?_
  | with_reducible refine rd_ifE ?_
  | with_reducible refine rd_T ?_
  | with_reducible refine rd_F ?_
  | with_reducible refine rd_chain ?_
  | with_reducible refine rd_is ?_
  | with_reducible refine rd_isNot ?_
  | with_reducible refine rd_absI ?_
  | with_reducible refine rd_maxI ?_
  | with_reducible refine rd_minI ?_
  | with_reducible refine rd_intI ?_
  | with_reducible refine rd_intB ?_
  | with_reducible refine rd_sub ?_
  | with_reducible refine rd_sl ?_
  | with_reducible refine rd_noPart ?_
  | with_reducible refine rd_part ?_
  | with_reducible refine rd_exI ?_
  | with_reducible refine rd_bm ?_
  | with_reducible refine rd_bm0 ?_
  | with_reducible refine rd_un ?_
  | with_reducible refine rd_neg ?_
  | with_reducible refine rd_c2 ?_
  | with_reducible refine rd_retN ?_
  | with_reducible refine rd_break ?_
  | with_reducible refine rd_cont ?_
  | with_reducible refine rd_for ?_
  | with_reducible refine rd_rng1 ?_
  | with_reducible refine rd_rng2 ?_
  | with_reducible refine rd_iList ?_
  | with_reducible refine rd_iTup ?_
  | with_reducible refine rd_iEnum ?_
  | ((with_reducible refine rd_forR ?h0 ?h1 ?_); (case h0 => omega); (case h1 => omega))
  | with_reducible refine rd_lc ?_
  | with_reducible refine rd_gcons ?_
  | with_reducible refine rd_gnil ?_
  | with_reducible refine rd_dget ?_
  | with_reducible refine rd_dput ?_
  | with_reducible refine rd_dnew ?_
  | with_reducible refine rd_dc ?_
  | with_reducible refine rd_iItems ?_
  | with_reducible refine rd_iKeys ?_
  | with_reducible refine rd_din ?_
  | with_reducible refine rd_par ?_
  | with_reducible refine rd_two ?_
  | with_reducible refine rd_reprB ?_
  | with_reducible refine rd_ck ?_
  | ((with_reducible refine rd_len ?hl ?_); (case hl => exact rfl))
  | with_reducible refine rd_nT ?_
  | with_reducible refine rd_nF ?_
  | with_reducible refine rd_dnin ?_
  | with_reducible refine rd_isB ?_
  | with_reducible refine rd_isNotB ?_
  | with_reducible refine rd_daug ?_
  | with_reducible refine rd_yesT ?_
  | ((with_reducible refine rd_wp ?hw ?_); (case hw => exact rfl)))
local macro_rules | `(tactic| wtm_at "rd") => `(tactic| repeat wtm_at "rd1")

def spEdgeOf : Sp := fun vs H Q _ => ∃ x y : Str, vs = [.str x, .str y] ∧ ∀ t, H t = none → Q (.ref t) (upd H t (.tup (if sLt x y then [.str x, .str y] else [.str y, .str x])))
section
variable {P : Program} {w : World} {K : PySem.W.Frag} {mg : Str → Option Value} {base : Heap}
end
end Law

namespace Law
open PySem PySem.Spec PyProof.Rows L2 U
local macro_rules | `(tactic| wtm_at "rd1") => `(tactic| first
  | with_reducible refine rd_seq ?_
  | ((with_reducible refine rd_var (v := ?vv) ?hv ?_); (case hv => exact rfl))
  | with_reducible refine rd_c ?_
  | with_reducible refine rd_cons ?_
  | with_reducible refine rd_nil ?_
  | with_reducible refine rd_op ?_
  | with_reducible refine rd_asg ?_
  | with_reducible refine rd_name ?_
  | with_reducible refine rd_c1 ?_
  | with_reducible refine rd_cb ?_
  | with_reducible refine rd_test ?_
  | with_reducible refine rd_B ?_
  | with_reducible refine rd_bl ?_
  | with_reducible refine rd_if ?_
  | with_reducible refine rd_ret ?_
  | with_reducible refine rd_drop ?_
  | with_reducible refine rd_next ?_
  | with_reducible refine rd_addI ?_
  | with_reducible refine rd_ltI ?_
  | with_reducible refine rd_eqI ?_
  | with_reducible refine rd_neI ?_
  | with_reducible refine rd_eqS ?_
  | with_reducible refine rd_neS ?_
  | with_reducible refine rd_gtI ?_
  | with_reducible refine rd_geI ?_
  | with_reducible refine rd_leI ?_
  | with_reducible refine rd_ltS ?_
  | with_reducible refine rd_subI ?_
  | ((with_reducible refine rd_modI ?hc ?_); (case hc => first | decide | omega))
  | ((with_reducible refine rd_mulI ?hc ?_); (case hc => first | exact mul_bI | exact .inl (.inr (by decide)) | exact .inl (.inl (by decide)) | exact .inl (.inr (by omega)) | exact .inl (.inl (by omega))))
  | ((with_reducible refine rd_divI ?hc ?_); (case hc => first | decide | omega))
  | ((with_reducible refine rd_powI ?hc ?_); (case hc => exact ⟨by decide, by decide, by decide⟩))
  | with_reducible refine rd_lst ?_
  | with_reducible refine rd_tup ?_
  | ((with_reducible refine rd_sz ?hv ?_); (case hv => exact rfl))
  | with_reducible refine rd_and ?_
  | with_reducible refine rd_or ?_
  | with_reducible refine rd_not ?_
  | with_reducible refine rd_andV ?_
  | with_reducible refine rd_orV ?_
  | with_reducible refine rd_notV ?_
  | with_reducible refine rd_ifE ?_
  | with_reducible refine rd_T ?_
  | with_reducible refine rd_F ?_
  | with_reducible refine rd_chain ?_
  | with_reducible refine rd_is ?_
  | with_reducible refine rd_isNot ?_
  | with_reducible refine rd_absI ?_
  | with_reducible refine rd_maxI ?_
  | with_reducible refine rd_minI ?_
  | with_reducible refine rd_intI ?_
  | with_reducible refine rd_intB ?_
  | with_reducible refine rd_sub ?_
  | with_reducible refine rd_sl ?_
  | with_reducible refine rd_noPart ?_
  | with_reducible refine rd_part ?_
  | with_reducible refine rd_exI ?_
  | with_reducible refine rd_bm ?_
  | with_reducible refine rd_bm0 ?_
  | with_reducible refine rd_un ?_
  | with_reducible refine rd_neg ?_
  | with_reducible refine rd_c2 ?_
  | with_reducible refine rd_retN ?_
  | with_reducible refine rd_break ?_
  | with_reducible refine rd_cont ?_
  | with_reducible refine rd_for ?_
  | with_reducible refine rd_rng1 ?_
  | with_reducible refine rd_rng2 ?_
  | with_reducible refine rd_iList ?_
  | with_reducible refine rd_iTup ?_
  | with_reducible refine rd_iEnum ?_
  | ((with_reducible refine rd_forR ?h0 ?h1 ?_); (case h0 => omega); (case h1 => omega))
  | with_reducible refine rd_lc ?_
  | with_reducible refine rd_gcons ?_
  | with_reducible refine rd_gnil ?_
  | with_reducible refine rd_dget ?_
  | with_reducible refine rd_dput ?_
  | with_reducible refine rd_dnew ?_
  | with_reducible refine rd_dc ?_
  | with_reducible refine rd_iItems ?_
  | with_reducible refine rd_iKeys ?_
  | with_reducible refine rd_din ?_
  | with_reducible refine rd_par ?_
  | with_reducible refine rd_two ?_
  | with_reducible refine rd_reprB ?_
  | with_reducible refine rd_ck ?_
  | ((with_reducible refine rd_len ?hl ?_); (case hl => exact rfl))
  | with_reducible refine rd_nT ?_
  | with_reducible refine rd_nF ?_
  | with_reducible refine rd_dnin ?_
  | with_reducible refine rd_isB ?_
  | with_reducible refine rd_isNotB ?_
  | with_reducible refine rd_daug ?_
  | with_reducible refine rd_yesT ?_
  | ((with_reducible refine rd_wp ?hw ?_); (case hw => exact rfl)))
local macro_rules | `(tactic| wtm_at "rd") => `(tactic| repeat wtm_at "rd1")

theorem PoolAt.offT {H : Hp} {p q : Addr} {xs : List V} (h : PoolAt H p) (hq : H q = some (.tup xs)) : q ≠ p := by
  rintro rfl
  obtain ⟨ys, h⟩ := h.isL
  rw [hq] at h
  cases h
theorem PoolAt.offD {H : Hp} {p q : Addr} {xs : List (Key × V)} (h : PoolAt H p) (hq : H q = some (.dK xs)) : q ≠ p := by
  rintro rfl
  obtain ⟨ys, h⟩ := h.isL
  rw [hq] at h
  cases h
/-- what stays while edges are found -/
structure GK (H : Hp) (p or st ed : Addr) (ord : List Str) (ws : List (Str × Int)) (es : List (Addr × Str × Str)) (H' : Hp) : Prop where
  go : Go p H H'
  ho : H' or = some (.lst (ord.map V.str))
  hs : H' st = some (.dK (kvsOf ws))
  he : H' ed = some (.lst (es.map fun x => V.ref x.1))
  pr : ∀ x ∈ es, H' x.1 = some (.tup [.str x.2.1, .str x.2.2])
theorem GK.new {H H' : Hp} {p or st ed t : Addr} {ord : List Str} {ws : List (Str × Int)} {es : List (Addr × Str × Str)} {o : HO} (h : GK H p or st ed ord ws es H') (n : H' t = none) : GK H p or st ed ord ws es (upd H' t o) :=
  ⟨h.go.new n, at_upd (ne_of_none h.ho n) h.ho, at_upd (ne_of_none h.hs n) h.hs, at_upd (ne_of_none h.he n) h.he, fun x hx => at_upd (ne_of_none (h.pr x hx) n) (h.pr x hx)⟩
theorem GK.step {H H' H2 : Hp} {p or st ed : Addr} {ord : List Str} {ws : List (Str × Int)} {es : List (Addr × Str × Str)} (h : GK H p or st ed ord ws es H') (no : or ≠ p) (ne : ed ≠ p) (g : Go p H' H2) : GK H p or st ed ord ws es H2 :=
  ⟨h.go.trans g, g.at h.ho no, g.at h.hs (h.go.pool.offD h.hs), g.at h.he ne, fun x hx => g.at (h.pr x hx) (h.go.pool.offT (h.pr x hx))⟩
theorem GK.add {H H' : Hp} {p or st ed t : Addr} {ord : List Str} {ws : List (Str × Int)} {es : List (Addr × Str × Str)} {e : Str × Str} (h : GK H p or st ed ord ws es H') (hf : H ed = none) (ne : ed ≠ p) (noe : or ≠ ed)
    (ht : H' t = some (.tup [.str e.1, .str e.2])) : GK H p or st ed ord ws (es ++ [(t, e)]) (upd H' ed (.lst ((es.map fun x => V.ref x.1) ++ [.ref t]))) := by
  have nt : ∀ {b : Addr} {xs : List V}, H' b = some (.tup xs) → b ≠ ed := fun {b xs} hb => ne_of hb h.he (by intro z; cases z)
  refine ⟨h.go.put hf (Ne.symm ne), at_upd noe h.ho, at_upd (ne_of h.hs h.he (by intro z; cases z)) h.hs, ?_, ?_⟩
  · rw [upd_same, List.map_append]
    rfl
  · intro x hx
    rcases List.mem_append.mp hx with hx | hx
    · exact at_upd (nt (h.pr x hx)) (h.pr x hx)
    · have : x = (t, e) := by simpa using hx
      subst this
      exact at_upd (nt ht) ht
section
variable {P : Program} {w : World} {K : PySem.W.Frag} {mg : Str → Option Value} {base : Heap}
end
end Law

/-! lifts: the plain laws -/
namespace U
open PySem PySem.Spec PyProof.Rows L2
/-- the dict of numbers over ns, in that order -/
abbrev kvF (ns : List Str) (f : Str → Int) : List (Key × V) := ns.map fun n => (Sum.inr n, V.int (f n))
def updf (f : Str → Int) (n : Str) (v : Int) : Str → Int := fun m => if m = n then v else f m
theorem kvF_congr {ns : List Str} {f g : Str → Int} (h : ∀ n ∈ ns, f n = g n) : kvF ns f = kvF ns g := List.map_congr_left fun n hn => by rw [h n hn]
theorem kvF_val : ∀ {ns : List Str} {f : Str → Int} {n : Str}, n ∈ ns → valV (kvF ns f) (.inr n) = some (.int (f n))
  | m :: ns, f, n, h => by
    by_cases e : n = m
    · subst e
      rw [kvF, List.map_cons, valV_pos rfl]
    · have e' : ¬ (Sum.inr m : Key) = Sum.inr n := fun z => e (Sum.inr.inj z).symm
      rw [kvF, List.map_cons, valV_neg e']
      refine kvF_val ?_
      rcases List.mem_cons.mp h with z | z
      · exact absurd z e
      · exact z
theorem kvF_none : ∀ {ns : List Str} {f : Str → Int} {n : Str}, n ∉ ns → valV (kvF ns f) (.inr n) = none
  | [], _, _, _ => rfl
  | m :: ns, f, n, h => by
    have e' : ¬ (Sum.inr m : Key) = Sum.inr n := fun z => h (by rw [← Sum.inr.inj z]; exact List.mem_cons_self)
    rw [kvF, List.map_cons, valV_neg e']
    exact kvF_none fun z => h (List.mem_cons_of_mem _ z)
theorem kvF_put {ns : List Str} {f : Str → Int} {n : Str} {v : Int} (h : n ∈ ns) : putK (kvF ns f) (.inr n) (.int v) = kvF ns (updf f n v) := by
  unfold putK
  rw [if_pos]
  · rw [kvF, kvF, List.map_map]
    refine List.map_congr_left fun m _ => ?_
    show (if (Sum.inr m : Key) = Sum.inr n then ((Sum.inr m : Key), V.int v) else (Sum.inr m, V.int (f m))) = (Sum.inr m, V.int (updf f n v m))
    unfold updf
    by_cases e : m = n
    · rw [if_pos (by rw [e]), if_pos e]
    · rw [if_neg (fun z => e (Sum.inr.inj z)), if_neg e]
  · rw [valV_any, kvF_val h]
    rfl
theorem kvF_new {ns : List Str} {f : Str → Int} {n : Str} {v : Int} (h : n ∉ ns) : putK (kvF ns f) (.inr n) (.int v) = kvF (ns ++ [n]) (updf f n v) := by
  rw [putK_new _ (kvF_none h), kvF, kvF, List.map_append]
  congr 1
  · refine List.map_congr_left fun m hm => ?_
    unfold updf
    rw [if_neg (fun e => h (by rw [← e]; exact hm))]
  · show [((Sum.inr n : Key), V.int v)] = [(Sum.inr n, V.int (updf f n v n))]
    unfold updf
    rw [if_pos rfl]
/-! ### neighbours, moves -/
def nbrF (es : List (Str × Str)) (x : Str) : List Str := es.flatMap fun e => (if e.1 = x then [e.2] else []) ++ (if e.2 = x then [e.1] else [])
theorem mem_nbrF {es : List (Str × Str)} {x z : Str} : z ∈ nbrF es x ↔ (x, z) ∈ es ∨ (z, x) ∈ es := by
  unfold nbrF
  rw [List.mem_flatMap]
  constructor
  · rintro ⟨e, he, h⟩
    rcases List.mem_append.mp h with h | h
    · split at h
      · rename_i c
        have : z = e.2 := by simpa using h
        subst this
        subst c
        exact .inl he
      · cases h
    · split at h
      · rename_i c
        have : z = e.1 := by simpa using h
        subst this
        subst c
        exact .inr he
      · cases h
  · rintro (h | h)
    · exact ⟨_, h, by simp⟩
    · exact ⟨_, h, by simp⟩
def freeB (es : List (Str × Str)) (f : Str → Int) (n : Str) (v : Int) : Bool := !decide (v ∈ (nbrF es n).map f ++ [f n])
def movesOf (es : List (Str × Str)) (f : Str → Int) (n : Str) : List (Str × Int) := (([0, 1, 2] : List Int).filter (freeB es f n)).map fun v => (n, v)
def movesF (ns : List Str) (es : List (Str × Str)) (f : Str → Int) (ps : List Str) : List (Str × Int) := ns.flatMap fun n => if n ∈ ps then [] else movesOf es f n
structure Legal (ns : List Str) (es : List (Str × Str)) (f : Str → Int) (ps : List Str) (m : Str × Int) : Prop where
  mem : m.1 ∈ ns
  pin : m.1 ∉ ps
  val : 0 ≤ m.2 ∧ m.2 < 3
  own : m.2 ≠ f m.1
  nbr : ∀ z, (m.1, z) ∈ es ∨ (z, m.1) ∈ es → m.2 ≠ f z
theorem legal_of {ns : List Str} {es : List (Str × Str)} {f : Str → Int} {ps : List Str} {m : Str × Int} (h : m ∈ movesF ns es f ps) : Legal ns es f ps m := by
  unfold movesF at h
  obtain ⟨n, hn, h⟩ := List.mem_flatMap.mp h
  split at h
  · cases h
  · rename_i hp
    unfold movesOf at h
    obtain ⟨v, hv, rfl⟩ := List.mem_map.mp h
    obtain ⟨h1, h2⟩ := List.mem_filter.mp hv
    unfold freeB at h2
    have h2 : v ∉ (nbrF es n).map f ++ [f n] := by simpa using h2
    have h3 : v = 0 ∨ v = 1 ∨ v = 2 := by simpa using h1
    refine ⟨hn, hp, by show 0 ≤ v ∧ v < 3; omega, fun e => h2 (List.mem_append_right _ (by rw [show v = f n from e]; exact List.mem_singleton_self _)), fun z hz e => h2 (List.mem_append_left _ ?_)⟩
    rw [show v = f z from e]
    exact List.mem_map_of_mem (mem_nbrF.mpr hz)
/-- one move after another -/
inductive Plays (ns : List Str) (es : List (Str × Str)) (ps : List Str) (f : Str → Int) : List (Str × Int) → (Str → Int) → Prop
  | nil : Plays ns es ps f [] f
  | snoc {ms : List (Str × Int)} {f' : Str → Int} {m : Str × Int} : Plays ns es ps f ms f' → Legal ns es f' ps m → Plays ns es ps f (ms ++ [m]) (updf f' m.1 m.2)
/-! ### counting -/
def dlt (d : Int) : Int := if d % 3 = 0 then 0 else if d % 3 = 1 then 1 else -1
def slp (f : Str → Int) (a b : Str) : Int := if (f b - f a) % 3 = 1 then 1 else -1
/-- the state and the numbers behind the moves -/
def countF (f h : Str → Int) : List (Str × Int) → (Str → Int) × (Str → Int)
  | [] => (f, h)
  | (n, v) :: r => countF (updf f n v) (updf h n (h n + dlt (f n - v))) r
theorem countF_snoc {n : Str} {v : Int} : ∀ {ms : List (Str × Int)} {f h : Str → Int}, countF f h (ms ++ [(n, v)]) = (updf (countF f h ms).1 n v, updf (countF f h ms).2 n ((countF f h ms).2 n + dlt ((countF f h ms).1 n - v)))
  | [], _, _ => rfl
  | (m, w) :: ms, _, _ => by
    rw [List.cons_append, countF, countF_snoc, countF]
structure EsOk (ns : List Str) (es : List (Str × Str)) (f : Str → Int) : Prop where
  ne : ∀ e ∈ es, e.1 ≠ e.2
  mem : ∀ e ∈ es, e.1 ∈ ns ∧ e.2 ∈ ns
  tri : ∀ n ∈ ns, 0 ≤ f n ∧ f n < 3
  pro : ∀ e ∈ es, f e.1 ≠ f e.2
theorem slp_pm (f : Str → Int) (a b : Str) : slp f a b = 1 ∨ slp f a b = -1 := by
  unfold slp
  split
  · exact .inl rfl
  · exact .inr rfl
theorem move_keeps {ns : List Str} {es : List (Str × Str)} {ps : List Str} {f0 f h : Str → Int} {m : Str × Int} (ok : EsOk ns es f) (l : Legal ns es f ps m) (t : ∀ e ∈ es, slp f0 e.1 e.2 - slp f e.1 e.2 = 2 * (h e.1 - h e.2)) :
    EsOk ns es (updf f m.1 m.2) ∧ ∀ e ∈ es, slp f0 e.1 e.2 - slp (updf f m.1 m.2) e.1 e.2 = 2 * (updf h m.1 (h m.1 + dlt (f m.1 - m.2)) e.1 - updf h m.1 (h m.1 + dlt (f m.1 - m.2)) e.2) := by
  obtain ⟨n, v⟩ := m
  have hv := l.val
  have ho := l.own
  have hm := l.mem
  simp only at hv ho hm
  refine ⟨⟨ok.ne, ok.mem, fun x hx => ?_, fun e he => ?_⟩, fun e he => ?_⟩
  · show 0 ≤ updf f n v x ∧ updf f n v x < 3
    unfold updf
    split
    · exact hv
    · exact ok.tri x hx
  · show updf f n v e.1 ≠ updf f n v e.2
    have hne := ok.ne e he
    have hp := ok.pro e he
    unfold updf
    by_cases h1 : e.1 = n
    · rw [if_pos h1, if_neg (fun z => hne (h1.trans z.symm))]
      exact l.nbr e.2 (.inl (by show (n, e.2) ∈ es; rw [← h1]; exact he))
    · by_cases h2 : e.2 = n
      · rw [if_neg h1, if_pos h2]
        exact Ne.symm (l.nbr e.1 (.inr (by show (e.1, n) ∈ es; rw [← h2]; exact he)))
      · rw [if_neg h1, if_neg h2]
        exact hp
  · show slp f0 e.1 e.2 - slp (updf f n v) e.1 e.2 = 2 * (updf h n (h n + dlt (f n - v)) e.1 - updf h n (h n + dlt (f n - v)) e.2)
    have hne := ok.ne e he
    have hp := ok.pro e he
    have t1 := ok.tri e.1 (ok.mem e he).1
    have t2 := ok.tri e.2 (ok.mem e he).2
    have te := t e he
    by_cases h1 : e.1 = n
    · have h2 : ¬ e.2 = n := fun z => hne (h1.trans z.symm)
      have nb := l.nbr e.2 (.inl (by show (n, e.2) ∈ es; rw [← h1]; exact he))
      simp only at nb
      have e1 : updf f n v e.1 = v := if_pos h1
      have e2 : updf f n v e.2 = f e.2 := if_neg h2
      have e3 : updf h n (h n + dlt (f n - v)) e.1 = h e.1 + dlt (f e.1 - v) := by rw [h1]; exact if_pos rfl
      have e4 : updf h n (h n + dlt (f n - v)) e.2 = h e.2 := if_neg h2
      rw [e3, e4]
      rw [← h1] at ho
      unfold slp dlt at *
      rw [e1, e2]
      generalize f e.1 = x at *
      generalize f e.2 = y at *
      generalize h e.1 = hx at *
      generalize h e.2 = hy at *
      generalize (if (f0 e.2 - f0 e.1) % 3 = 1 then (1 : Int) else -1) = s0 at *
      have : hx - hy + hx - hy = 2 * (hx - hy) := by omega
      split at te <;> split <;> split <;> try split
      all_goals omega
    · by_cases h2 : e.2 = n
      · have nb := l.nbr e.1 (.inr (by show (e.1, n) ∈ es; rw [← h2]; exact he))
        simp only at nb
        have e1 : updf f n v e.1 = f e.1 := if_neg h1
        have e2 : updf f n v e.2 = v := if_pos h2
        have e3 : updf h n (h n + dlt (f n - v)) e.1 = h e.1 := if_neg h1
        have e4 : updf h n (h n + dlt (f n - v)) e.2 = h e.2 + dlt (f e.2 - v) := by rw [h2]; exact if_pos rfl
        rw [e3, e4]
        rw [← h2] at ho
        unfold slp dlt at *
        rw [e1, e2]
        generalize f e.1 = x at *
        generalize f e.2 = y at *
        generalize h e.1 = hx at *
        generalize h e.2 = hy at *
        generalize (if (f0 e.2 - f0 e.1) % 3 = 1 then (1 : Int) else -1) = s0 at *
        split at te <;> split <;> split <;> try split
        all_goals omega
      · have e1 : updf f n v e.1 = f e.1 := if_neg h1
        have e2 : updf f n v e.2 = f e.2 := if_neg h2
        have e3 : updf h n (h n + dlt (f n - v)) e.1 = h e.1 := if_neg h1
        have e4 : updf h n (h n + dlt (f n - v)) e.2 = h e.2 := if_neg h2
        rw [e3, e4, ← te]
        unfold slp
        rw [e1, e2]
/-! ### fitting -/
def fitB (f h : Str → Int) (a b : Str) : Bool := if slp f a b = 1 then decide (0 ≤ h a - h b) && decide (h a - h b ≤ 1) else decide (0 ≤ h b - h a) && decide (h b - h a ≤ 1)
def Fits (es : List (Str × Str)) (f h : Str → Int) : Prop := ∀ e ∈ es, fitB f h e.1 e.2 = true
theorem fit_iff {f h : Str → Int} {a b : Str} : fitB f h a b = true ↔ (if slp f a b = 1 then 0 ≤ h a - h b ∧ h a - h b ≤ 1 else 0 ≤ h b - h a ∧ h b - h a ≤ 1) := by
  unfold fitB
  split <;> simp
end U

/-! medians, distances -/
namespace U
open PySem PySem.Spec PyProof.Rows L2
/-! ### distances -/
def ab (x y : Int) : Int := ((x - y).natAbs : Int)
/-- the distance of two over ns -/
def dist (ns : List Str) (f g : Str → Int) : Int := (ns.map fun n => ab (f n) (g n)).sum
def total (ns : List Str) (f : Str → Int) (hs : List (Str → Int)) : Int := (hs.map fun h => dist ns f h).sum
end U

namespace Law
open PySem PySem.Spec PyProof.Rows L2 U
/-- a graph and a state of it stand -/
structure GSt (H : Hp) (g n e st : Addr) (ns ord : List Str) (es : List (Addr × Str × Str)) (f : Str → Int) : Prop where
  gr : GrAt H g n e ns es
  ok : GrOk ns (es.map (·.2))
  pm : ord.Perm ns
  l2 : ns.length ≤ 100
  l3 : es.length ≤ 1000
  st : H st = some (.dK (kvF ord f))
  tri : ∀ x ∈ ns, 0 ≤ f x ∧ f x < 3
  pro : ∀ x ∈ es, f x.2.1 ≠ f x.2.2
section
variable {H H' : Hp} {g n e st p : Addr} {ns ord : List Str} {es : List (Addr × Str × Str)} {f : Str → Int}
theorem GSt.same (h : GSt H g n e st ns ord es f) (s : Same H H') : GSt H' g n e st ns ord es f := ⟨h.gr.same s, h.ok, h.pm, h.l2, h.l3, s _ _ h.st, h.tri, h.pro⟩
theorem GSt.go (h : GSt H g n e st ns ord es f) (hp : PoolAt H p) (b : Go p H H') : GSt H' g n e st ns ord es f := by
  obtain ⟨ys, hy⟩ := hp.isL
  exact ⟨h.gr.but hy b.but, h.ok, h.pm, h.l2, h.l3, b.but.dK hy h.st, h.tri, h.pro⟩
theorem GSt.nd (h : GSt H g n e st ns ord es f) : ns.Nodup := asc_nodup h.ok.names.asc
theorem GSt.inO (h : GSt H g n e st ns ord es f) : ∀ x ∈ ns, x ∈ ord := fun x hx => h.pm.mem_iff.mpr hx
theorem GSt.inE (h : GSt H g n e st ns ord es f) : ∀ x ∈ es, x.2.1 ∈ ns ∧ x.2.2 ∈ ns := fun x hx => h.ok.mem _ (List.mem_map_of_mem hx)
theorem GSt.sok (h : GSt H g n e st ns ord es f) : ∀ x ∈ ns, PyData.strOk x = true := fun x hx => (h.ok.names.ok x hx).sok
theorem GSt.eok (h : GSt H g n e st ns ord es f) : EsOk ns (es.map (·.2)) f := by
  refine ⟨fun x hx z => ?_, h.ok.mem, h.tri, fun x hx => ?_⟩
  · have := h.ok.lt x hx
    rw [z] at this
    exact sLt_irrefl _ this
  · obtain ⟨y, hy, rfl⟩ := List.mem_map.mp hx
    exact h.pro y hy
end
end Law

namespace Law
open PySem PySem.Spec PyProof.Rows L2 U
local macro_rules | `(tactic| wtm_at "rd1") => `(tactic| first
  | with_reducible refine rd_seq ?_
  | ((with_reducible refine rd_var (v := ?vv) ?hv ?_); (case hv => exact rfl))
  | with_reducible refine rd_c ?_
  | with_reducible refine rd_cons ?_
  | with_reducible refine rd_nil ?_
  | with_reducible refine rd_op ?_
  | with_reducible refine rd_asg ?_
  | with_reducible refine rd_name ?_
  | with_reducible refine rd_c1 ?_
  | with_reducible refine rd_cb ?_
  | with_reducible refine rd_test ?_
  | with_reducible refine rd_B ?_
  | with_reducible refine rd_bl ?_
  | with_reducible refine rd_if ?_
  | with_reducible refine rd_ret ?_
  | with_reducible refine rd_drop ?_
  | with_reducible refine rd_next ?_
  | with_reducible refine rd_addI ?_
  | with_reducible refine rd_ltI ?_
  | with_reducible refine rd_eqI ?_
  | with_reducible refine rd_neI ?_
  | with_reducible refine rd_eqS ?_
  | with_reducible refine rd_neS ?_
  | with_reducible refine rd_gtI ?_
  | with_reducible refine rd_geI ?_
  | with_reducible refine rd_leI ?_
  | with_reducible refine rd_ltS ?_
  | with_reducible refine rd_subI ?_
  | ((with_reducible refine rd_modI ?hc ?_); (case hc => first | decide | omega))
  | ((with_reducible refine rd_mulI ?hc ?_); (case hc => first | exact mul_bI | exact .inl (.inr (by decide)) | exact .inl (.inl (by decide)) | exact .inl (.inr (by omega)) | exact .inl (.inl (by omega))))
  | ((with_reducible refine rd_divI ?hc ?_); (case hc => first | decide | omega))
  | ((with_reducible refine rd_powI ?hc ?_); (case hc => exact ⟨by decide, by decide, by decide⟩))
  | with_reducible refine rd_lst ?_
  | with_reducible refine rd_tup ?_
  | ((with_reducible refine rd_sz ?hv ?_); (case hv => exact rfl))
  | with_reducible refine rd_and ?_
  | with_reducible refine rd_or ?_
  | with_reducible refine rd_not ?_
  | with_reducible refine rd_andV ?_
  | with_reducible refine rd_orV ?_
  | with_reducible refine rd_notV ?_
  | with_reducible refine rd_ifE ?_
  | with_reducible refine rd_T ?_
  | with_reducible refine rd_F ?_
  | with_reducible refine rd_chain ?_
  | with_reducible refine rd_is ?_
  | with_reducible refine rd_isNot ?_
  | with_reducible refine rd_absI ?_
  | with_reducible refine rd_maxI ?_
  | with_reducible refine rd_minI ?_
  | with_reducible refine rd_intI ?_
  | with_reducible refine rd_intB ?_
  | with_reducible refine rd_sub ?_
  | with_reducible refine rd_sl ?_
  | with_reducible refine rd_noPart ?_
  | with_reducible refine rd_part ?_
  | with_reducible refine rd_exI ?_
  | with_reducible refine rd_bm ?_
  | with_reducible refine rd_bm0 ?_
  | with_reducible refine rd_un ?_
  | with_reducible refine rd_neg ?_
  | with_reducible refine rd_c2 ?_
  | with_reducible refine rd_retN ?_
  | with_reducible refine rd_break ?_
  | with_reducible refine rd_cont ?_
  | with_reducible refine rd_for ?_
  | with_reducible refine rd_rng1 ?_
  | with_reducible refine rd_rng2 ?_
  | with_reducible refine rd_iList ?_
  | with_reducible refine rd_iTup ?_
  | with_reducible refine rd_iEnum ?_
  | ((with_reducible refine rd_forR ?h0 ?h1 ?_); (case h0 => omega); (case h1 => omega))
  | with_reducible refine rd_lc ?_
  | with_reducible refine rd_gcons ?_
  | with_reducible refine rd_gnil ?_
  | with_reducible refine rd_dget ?_
  | with_reducible refine rd_dput ?_
  | with_reducible refine rd_dnew ?_
  | with_reducible refine rd_dc ?_
  | with_reducible refine rd_iItems ?_
  | with_reducible refine rd_iKeys ?_
  | with_reducible refine rd_din ?_
  | with_reducible refine rd_par ?_
  | with_reducible refine rd_two ?_
  | with_reducible refine rd_reprB ?_
  | with_reducible refine rd_ck ?_
  | ((with_reducible refine rd_len ?hl ?_); (case hl => exact rfl))
  | with_reducible refine rd_nT ?_
  | with_reducible refine rd_nF ?_
  | with_reducible refine rd_dnin ?_
  | with_reducible refine rd_isB ?_
  | with_reducible refine rd_isNotB ?_
  | with_reducible refine rd_daug ?_
  | with_reducible refine rd_yesT ?_
  | ((with_reducible refine rd_wp ?hw ?_); (case hw => exact rfl)))
local macro_rules | `(tactic| wtm_at "rd") => `(tactic| repeat wtm_at "rd1")

section
variable {P : Program} {w : World} {K : PySem.W.Frag} {mg : Str → Option Value} {base : Heap}
theorem nbrF_take {es : List (Str × Str)} {x : Str} {i : Nat} (h : i < es.length) : nbrF (es.take (i + 1)) x = nbrF (es.take i) x ++ ((if es[i].1 = x then [es[i].2] else []) ++ (if es[i].2 = x then [es[i].1] else [])) := by
  unfold nbrF
  rw [List.take_succ, List.getElem?_eq_getElem h, List.flatMap_append]
  simp
theorem nbrF_len {x : Str} : ∀ {es : List (Str × Str)}, (nbrF es x).length ≤ 2 * es.length
  | [] => by simp [nbrF]
  | e :: es => by
    have := nbrF_len (x := x) (es := es)
    unfold nbrF at *
    rw [List.flatMap_cons, List.length_append, List.length_append, List.length_cons]
    split <;> split <;> simp only [List.length_cons, List.length_nil] <;> omega
end
end Law

namespace Law
open PySem PySem.Spec PyProof.Rows L2 U
local macro_rules | `(tactic| wtm_at "rd1") => `(tactic| first
  | with_reducible refine rd_seq ?_
  | ((with_reducible refine rd_var (v := ?vv) ?hv ?_); (case hv => exact rfl))
  | with_reducible refine rd_c ?_
  | with_reducible refine rd_cons ?_
  | with_reducible refine rd_nil ?_
  | with_reducible refine rd_op ?_
  | with_reducible refine rd_asg ?_
  | with_reducible refine rd_name ?_
  | with_reducible refine rd_c1 ?_
  | with_reducible refine rd_cb ?_
  | with_reducible refine rd_test ?_
  | with_reducible refine rd_B ?_
  | with_reducible refine rd_bl ?_
  | with_reducible refine rd_if ?_
  | with_reducible refine rd_ret ?_
  | with_reducible refine rd_drop ?_
  | with_reducible refine rd_next ?_
  | with_reducible refine rd_addI ?_
  | with_reducible refine rd_ltI ?_
  | with_reducible refine rd_eqI ?_
  | with_reducible refine rd_neI ?_
  | with_reducible refine rd_eqS ?_
  | with_reducible refine rd_neS ?_
  | with_reducible refine rd_gtI ?_
  | with_reducible refine rd_geI ?_
  | with_reducible refine rd_leI ?_
  | with_reducible refine rd_ltS ?_
  | with_reducible refine rd_subI ?_
  | ((with_reducible refine rd_modI ?hc ?_); (case hc => first | decide | omega))
  | ((with_reducible refine rd_mulI ?hc ?_); (case hc => first | exact mul_bI | exact .inl (.inr (by decide)) | exact .inl (.inl (by decide)) | exact .inl (.inr (by omega)) | exact .inl (.inl (by omega))))
  | ((with_reducible refine rd_divI ?hc ?_); (case hc => first | decide | omega))
  | ((with_reducible refine rd_powI ?hc ?_); (case hc => exact ⟨by decide, by decide, by decide⟩))
  | with_reducible refine rd_lst ?_
  | with_reducible refine rd_tup ?_
  | ((with_reducible refine rd_sz ?hv ?_); (case hv => exact rfl))
  | with_reducible refine rd_and ?_
  | with_reducible refine rd_or ?_
  | with_reducible refine rd_not ?_
  | with_reducible refine rd_andV ?_
  | with_reducible refine rd_orV ?_
  | with_reducible refine rd_notV ?_
  | with_reducible refine rd_ifE ?_
  | with_reducible refine rd_T ?_
  | with_reducible refine rd_F ?_
  | with_reducible refine rd_chain ?_
  | with_reducible refine rd_is ?_
  | with_reducible refine rd_isNot ?_
  | with_reducible refine rd_absI ?_
  | with_reducible refine rd_maxI ?_
  | with_reducible refine rd_minI ?_
  | with_reducible refine rd_intI ?_
  | with_reducible refine rd_intB ?_
  | with_reducible refine rd_sub ?_
  | with_reducible refine rd_sl ?_
  | with_reducible refine rd_noPart ?_
  | with_reducible refine rd_part ?_
  | with_reducible refine rd_exI ?_
  | with_reducible refine rd_bm ?_
  | with_reducible refine rd_bm0 ?_
  | with_reducible refine rd_un ?_
  | with_reducible refine rd_neg ?_
  | with_reducible refine rd_c2 ?_
  | with_reducible refine rd_retN ?_
  | with_reducible refine rd_break ?_
  | with_reducible refine rd_cont ?_
  | with_reducible refine rd_for ?_
  | with_reducible refine rd_rng1 ?_
  | with_reducible refine rd_rng2 ?_
  | with_reducible refine rd_iList ?_
  | with_reducible refine rd_iTup ?_
  | with_reducible refine rd_iEnum ?_
  | ((with_reducible refine rd_forR ?h0 ?h1 ?_); (case h0 => omega); (case h1 => omega))
  | with_reducible refine rd_lc ?_
  | with_reducible refine rd_gcons ?_
  | with_reducible refine rd_gnil ?_
  | with_reducible refine rd_dget ?_
  | with_reducible refine rd_dput ?_
  | with_reducible refine rd_dnew ?_
  | with_reducible refine rd_dc ?_
  | with_reducible refine rd_iItems ?_
  | with_reducible refine rd_iKeys ?_
  | with_reducible refine rd_din ?_
  | with_reducible refine rd_par ?_
  | with_reducible refine rd_two ?_
  | with_reducible refine rd_reprB ?_
  | with_reducible refine rd_ck ?_
  | ((with_reducible refine rd_len ?hl ?_); (case hl => exact rfl))
  | with_reducible refine rd_nT ?_
  | with_reducible refine rd_nF ?_
  | with_reducible refine rd_dnin ?_
  | with_reducible refine rd_isB ?_
  | with_reducible refine rd_isNotB ?_
  | with_reducible refine rd_daug ?_
  | with_reducible refine rd_yesT ?_
  | ((with_reducible refine rd_wp ?hw ?_); (case hw => exact rfl)))
local macro_rules | `(tactic| wtm_at "rd") => `(tactic| repeat wtm_at "rd1")

/-- the moves' pairs stand -/
def TupsAt (H : Hp) (ms : List (Addr × Str × Int)) : Prop := ∀ m ∈ ms, H m.1 = some (.tup [.str m.2.1, .int m.2.2])
theorem TupsAt.nil {H : Hp} : TupsAt H [] := fun m hm => nomatch hm
theorem TupsAt.same {H H' : Hp} {ms : List (Addr × Str × Int)} (h : TupsAt H ms) (s : Same H H') : TupsAt H' ms := fun m hm => s _ _ (h m hm)
theorem TupsAt.put {H : Hp} {ms : List (Addr × Str × Int)} {a : Addr} {xs ys : List V} (h : TupsAt H ms) (ha : H a = some (.lst xs)) : TupsAt (upd H a (.lst ys)) ms := fun m hm => at_upd (ne_of (h m hm) ha (by intro z; cases z)) (h m hm)
theorem TupsAt.new {H : Hp} {ms : List (Addr × Str × Int)} {a : Addr} {o : HO} (h : TupsAt H ms) (ha : H a = none) : TupsAt (upd H a o) ms := fun m hm => at_upd (ne_of_none (h m hm) ha) (h m hm)
section
variable {P : Program} {w : World} {K : PySem.W.Frag} {mg : Str → Option Value} {base : Heap}
end
end Law

namespace Law
open PySem PySem.Spec PyProof.Rows L2 U
local macro_rules | `(tactic| wtm_at "rd1") => `(tactic| first
  | with_reducible refine rd_seq ?_
  | ((with_reducible refine rd_var (v := ?vv) ?hv ?_); (case hv => exact rfl))
  | with_reducible refine rd_c ?_
  | with_reducible refine rd_cons ?_
  | with_reducible refine rd_nil ?_
  | with_reducible refine rd_op ?_
  | with_reducible refine rd_asg ?_
  | with_reducible refine rd_name ?_
  | with_reducible refine rd_c1 ?_
  | with_reducible refine rd_cb ?_
  | with_reducible refine rd_test ?_
  | with_reducible refine rd_B ?_
  | with_reducible refine rd_bl ?_
  | with_reducible refine rd_if ?_
  | with_reducible refine rd_ret ?_
  | with_reducible refine rd_drop ?_
  | with_reducible refine rd_next ?_
  | with_reducible refine rd_addI ?_
  | with_reducible refine rd_ltI ?_
  | with_reducible refine rd_eqI ?_
  | with_reducible refine rd_neI ?_
  | with_reducible refine rd_eqS ?_
  | with_reducible refine rd_neS ?_
  | with_reducible refine rd_gtI ?_
  | with_reducible refine rd_geI ?_
  | with_reducible refine rd_leI ?_
  | with_reducible refine rd_ltS ?_
  | with_reducible refine rd_subI ?_
  | ((with_reducible refine rd_modI ?hc ?_); (case hc => first | decide | omega))
  | ((with_reducible refine rd_mulI ?hc ?_); (case hc => first | exact mul_bI | exact .inl (.inr (by decide)) | exact .inl (.inl (by decide)) | exact .inl (.inr (by omega)) | exact .inl (.inl (by omega))))
  | ((with_reducible refine rd_divI ?hc ?_); (case hc => first | decide | omega))
  | ((with_reducible refine rd_powI ?hc ?_); (case hc => exact ⟨by decide, by decide, by decide⟩))
  | with_reducible refine rd_lst ?_
  | with_reducible refine rd_tup ?_
  | ((with_reducible refine rd_sz ?hv ?_); (case hv => exact rfl))
  | with_reducible refine rd_and ?_
  | with_reducible refine rd_or ?_
  | with_reducible refine rd_not ?_
  | with_reducible refine rd_andV ?_
  | with_reducible refine rd_orV ?_
  | with_reducible refine rd_notV ?_
  | with_reducible refine rd_ifE ?_
  | with_reducible refine rd_T ?_
  | with_reducible refine rd_F ?_
  | with_reducible refine rd_chain ?_
  | with_reducible refine rd_is ?_
  | with_reducible refine rd_isNot ?_
  | with_reducible refine rd_absI ?_
  | with_reducible refine rd_maxI ?_
  | with_reducible refine rd_minI ?_
  | with_reducible refine rd_intI ?_
  | with_reducible refine rd_intB ?_
  | with_reducible refine rd_sub ?_
  | with_reducible refine rd_sl ?_
  | with_reducible refine rd_noPart ?_
  | with_reducible refine rd_part ?_
  | with_reducible refine rd_exI ?_
  | with_reducible refine rd_bm ?_
  | with_reducible refine rd_bm0 ?_
  | with_reducible refine rd_un ?_
  | with_reducible refine rd_neg ?_
  | with_reducible refine rd_c2 ?_
  | with_reducible refine rd_retN ?_
  | with_reducible refine rd_break ?_
  | with_reducible refine rd_cont ?_
  | with_reducible refine rd_for ?_
  | with_reducible refine rd_rng1 ?_
  | with_reducible refine rd_rng2 ?_
  | with_reducible refine rd_iList ?_
  | with_reducible refine rd_iTup ?_
  | with_reducible refine rd_iEnum ?_
  | ((with_reducible refine rd_forR ?h0 ?h1 ?_); (case h0 => omega); (case h1 => omega))
  | with_reducible refine rd_lc ?_
  | with_reducible refine rd_gcons ?_
  | with_reducible refine rd_gnil ?_
  | with_reducible refine rd_dget ?_
  | with_reducible refine rd_dput ?_
  | with_reducible refine rd_dnew ?_
  | with_reducible refine rd_dc ?_
  | with_reducible refine rd_iItems ?_
  | with_reducible refine rd_iKeys ?_
  | with_reducible refine rd_din ?_
  | with_reducible refine rd_par ?_
  | with_reducible refine rd_two ?_
  | with_reducible refine rd_reprB ?_
  | with_reducible refine rd_ck ?_
  | ((with_reducible refine rd_len ?hl ?_); (case hl => exact rfl))
  | with_reducible refine rd_nT ?_
  | with_reducible refine rd_nF ?_
  | with_reducible refine rd_dnin ?_
  | with_reducible refine rd_isB ?_
  | with_reducible refine rd_isNotB ?_
  | with_reducible refine rd_daug ?_
  | with_reducible refine rd_yesT ?_
  | ((with_reducible refine rd_wp ?hw ?_); (case hw => exact rfl)))
local macro_rules | `(tactic| wtm_at "rd") => `(tactic| repeat wtm_at "rd1")

theorem TupsAt.go {p : Addr} {H H' : Hp} {ms : List (Addr × Str × Int)} (h : TupsAt H ms) (hp : PoolAt H p) (g : Go p H H') : TupsAt H' ms := fun m hm => by
  obtain ⟨ys, hy⟩ := hp.isL
  exact g.but.tup hy (h m hm)
theorem Go.dK {p d : Addr} {H H' : Hp} {kvs : List (Key × V)} (g : Go p H H') (hp : PoolAt H p) (h : H d = some (.dK kvs)) : H' d = some (.dK kvs) := by
  obtain ⟨ys, hy⟩ := hp.isL
  exact g.but.dK hy h
theorem Go.tup {p d : Addr} {H H' : Hp} {xs : List V} (g : Go p H H') (hp : PoolAt H p) (h : H d = some (.tup xs)) : H' d = some (.tup xs) := by
  obtain ⟨ys, hy⟩ := hp.isL
  exact g.but.tup hy h
section
variable {P : Program} {w : World} {K : PySem.W.Frag} {mg : Str → Option Value} {base : Heap}
end
end Law

/-! dicts of references, double comprehensions, defaults, repr -/
namespace U
open PySem PySem.Spec PyProof.Rows L2
abbrev kvG (ns : List Str) (F : Str → V) : List (Key × V) := ns.map fun n => (Sum.inr n, F n)
def updV {α : Type} (f : Str → α) (n : Str) (v : α) : Str → α := fun m => if m = n then v else f m
theorem kvG_val : ∀ {ns : List Str} {F : Str → V} {n : Str}, n ∈ ns → valV (kvG ns F) (.inr n) = some (F n)
  | m :: ns, F, n, h => by
    by_cases e : n = m
    · subst e
      rw [kvG, List.map_cons, valV_pos rfl]
    · have e' : ¬ (Sum.inr m : Key) = Sum.inr n := fun z => e (Sum.inr.inj z).symm
      rw [kvG, List.map_cons, valV_neg e']
      refine kvG_val ?_
      rcases List.mem_cons.mp h with z | z
      · exact absurd z e
      · exact z
theorem kvG_none : ∀ {ns : List Str} {F : Str → V} {n : Str}, n ∉ ns → valV (kvG ns F) (.inr n) = none
  | [], _, _, _ => rfl
  | m :: ns, F, n, h => by
    have e' : ¬ (Sum.inr m : Key) = Sum.inr n := fun z => h (by rw [← Sum.inr.inj z]; exact List.mem_cons_self)
    rw [kvG, List.map_cons, valV_neg e']
    exact kvG_none fun z => h (List.mem_cons_of_mem _ z)
theorem kvG_new {ns : List Str} {F : Str → V} {n : Str} {v : V} (h : n ∉ ns) : putK (kvG ns F) (.inr n) v = kvG (ns ++ [n]) (updV F n v) := by
  rw [putK_new _ (kvG_none h), kvG, kvG, List.map_append]
  congr 1
  · refine List.map_congr_left fun m hm => ?_
    unfold updV
    rw [if_neg (fun e => h (by rw [← e]; exact hm))]
  · show [((Sum.inr n : Key), v)] = [(Sum.inr n, updV F n v n)]
    unfold updV
    rw [if_pos rfl]
theorem kvG_at {ns : List Str} {F : Str → V} {i : Nat} {x y : V} (hx : ((kvG ns F)[i]?.map fun kv => kV kv.1) = some x) (hy : (kvG ns F)[i]?.map Prod.snd = some y) : ∃ hi : i < ns.length, x = .str ns[i] ∧ y = F ns[i] := by
  rw [kvG, List.getElem?_map] at hx hy
  by_cases hi : i < ns.length
  · rw [List.getElem?_eq_getElem hi] at hx hy
    exact ⟨hi, (Option.some.inj hx).symm, (Option.some.inj hy).symm⟩
  · rw [List.getElem?_eq_none (by omega)] at hx
    cases hx
/-! f(e, ..) where defaults fill the rest -/
structure CalD (P : Program) (w : World) (K : PySem.W.Frag) (mg : Str → Option Value) (base : Heap) (CX : CXT) (k : Nat) (x : Str) (dvs : List V) (sp : Sp) : Prop where
  ex : ∃ (f : Addr) (fd : FuncData) (ps : List Str) (ds : List Value), FnG P w K mg base CX k f fd ps sp ∧ mg x = some (.ref f) ∧ PySem.W.keepIn K (.ref f) = true ∧ Vals dvs ds ∧ Binds K fd ps ds
def tCD (sp : Sp) (dvs : List V) (E : XK) (t : TA) : TE := fun σ H Q => t σ H fun vs H1 => sp (vs ++ dvs) H1 Q E
/-! two fors in a comprehension -/
def In1 (J1 : It) (g1 : TG) (tt1 : TT) (te : TE) (vs1 : List Nat) (σ2 : L2.St) (D : Addr) (H4 : Hp) (R : Hp → Prop) : Prop := ∃ W1 : Nat → Nat → Hp → Prop, (∃ m, W1 0 m H4) ∧ ∀ j k H, W1 j k H →
  (J1.stop j H ∧ R H) ∨ (J1.go j H ∧ ∃ Nx1 : Hp → Prop, (∀ H', Nx1 H' → ∃ k', k' < k ∧ W1 (j + 1) k' H') ∧ ∀ x H', J1.yld j H x H' → g1 x (wipe σ2 vs1) H' fun σ3 H5 => wipe σ3 vs1 = wipe σ2 vs1 ∧ tt1 σ3 H5 fun b H6 =>
    if b = true then te σ3 H6 fun y H7 => ∃ acc, H7 D = some (.lst acc) ∧ acc.length < sizeLine ∧ Nx1 (upd H7 D (.lst (acc ++ [y]))) else Nx1 H6)
def Lc2B (J : It) (g : TG) (tt : TT) (wi1 : TI) (g1 : TG) (tt1 : TT) (te : TE) (vs vs1 : List Nat) (σ : L2.St) (H1 : Hp) (D : Addr) (Qd : Hp → Prop) : Prop := ∃ W : Nat → Nat → Hp → Prop, (∃ m, W 0 m (upd H1 D (.lst []))) ∧ ∀ i m H, W i m H →
  (J.stop i H ∧ Qd H) ∨ (J.go i H ∧ ∃ Nx : Hp → Prop, (∀ H', Nx H' → ∃ m', m' < m ∧ W (i + 1) m' H') ∧ ∀ x H', J.yld i H x H' → g x (wipe σ vs) H' fun σ2 H2 => wipe σ2 vs = wipe σ vs ∧ tt σ2 H2 fun b H3 =>
    if b = true then wi1 σ2 H3 fun J1 H4 => In1 J1 g1 tt1 te vs1 σ2 D H4 Nx else Nx H3)
section
variable {σ : L2.St} {H : Hp} {Q : VK} {te : TE} {g g1 : TG} {wi wi1 : TI} {tt tt1 : TT} {vs vs1 : List Nat} {L : Addr} {Qd R : Hp → Prop} {J J1 : It} {n : Nat} {G : Hp → Prop} {Y : Nat → Hp → V → Hp → Prop} {K : PySem.W.Frag}
theorem rd_lc2 (h : wi σ H fun J H1 => ∀ D, H1 D = none → Lc2B J g tt wi1 g1 tt1 te vs vs1 σ H1 D fun H2 => Q (.ref D) H2) : tLc2 wi g tt wi1 g1 tt1 te vs vs1 σ H Q := h
theorem rd_cd {sp : Sp} {dvs : List V} {E : XK} {t : TA} (h : t σ H fun vs H1 => sp (vs ++ dvs) H1 Q E) : tCD sp dvs E t σ H Q := h
end
/-! repr -/
section
variable {X : Cx} {pins : List (Addr × Obj)} {σ : L2.St} {H : Hp} {s : Shared}
def encK : Key → PyData
  | .inl i => .int i
  | .inr x => .str x
theorem kv_pairs {h : Heap} {f : Str → Int} : ∀ {ns : List Str} {vs : List (Key × Value)}, KV (kvF ns f) vs → PyProof.V.PairsRead h encK vs (ns.map fun n => (.str n, .int (f n))) []
  | [], vs, r => by
    cases r
    exact .nil
  | n :: ns, vs, r => by
    cases r with
    | @cons p q ps qs hpq t =>
      obtain ⟨h1, h2⟩ := hpq
      obtain ⟨k, v⟩ := q
      have h1' : (Sum.inr n : Key) = k := h1
      subst h1'
      obtain ⟨tk, rfl⟩ : ∃ t, v = Value.int (f n) t := h2
      exact .cons (k := .inr n) (as := []) (bs := []) (Reads.int _ _) (kv_pairs t)
theorem key_reads {h : Heap} {P : Program} {w : World} : ∀ (k : Key) (key : Value), (mixKind P w).is k key = true → Reads h key (encK k) [] := by
  intro k key hk
  rcases keyIs_shape hk with ⟨i, t, rfl, rfl⟩ | ⟨x, t, rfl, rfl⟩
  · exact Reads.int _ _
  · exact Reads.str _ _
end
end U
namespace U
open PySem PySem.Spec PyProof.Rows L2
/-! name = {k: v for ..}, the name a local -/
abbrev InBlk (X : Cx) (scope : Scope) (Φ : Cx → Prop) : Prop :=
  ∀ (s : Shared) (H : Hp) (C : Addr) (cl : List (Str × Addr)) (fp : List Addr), Φ (X.blk s H scope (compEnvC scope cl C X.env) fp)
section
variable {X : Cx}
theorem sw_dict {kx vx : Expr} {gs : List Comprehension} {scope : Scope} {pos py : Pos} {y : Str} {l : Nat} {env : Env}
    (hk : env.scope.kind = .function) (hy : env.scope.names.lookup y = some .local) (hl : (py.line == pos.line) = true)
    (ha : (scope.names.any fun (n, k) => n == y && (k == .local || k == .cell)) = false) :
    swapsWith (.DictComp kx vx gs scope pos) (some (.Name y py)) l env = pure true := by
  have q1 : env.kindOf y = some .local := hy
  have q2 : env.blockKind = .function := by
    unfold Env.blockKind
    rw [hk]
    rfl
  unfold swapsWith
  simp only [q1, q2, ha, hl, Expr.pos]
  rfl
theorem ps_setDc {i : Nat} {y : Str} {py : Pos} {kx vx tg iter : Expr} {ifs : List Expr} {scope : Scope} {own : List (Str × Nat)} {pos spos : Pos} {wi : TI} {g : TG} {tt : TT} {tk tv : TE}
    (hc : X.calm = true) (hN : X.N.Nodup) (hy : X.N[i]? = some y) (hyl : X.env.scope.names.lookup y = some .local)
    (hsw : swapsWith (.DictComp kx vx [⟨tg, iter, ifs, 0⟩] scope pos) (some (.Name y py)) spos.line X.env = pure true) (hi : PI X tg iter wi) (ok : BlkOk X.N X.env.scope scope own)
    (hg : InBlk X scope fun Y => PG Y tg g) (ht : InBlk X scope fun Y => PTs Y ifs tt) (hk : InBlk X scope fun Y => PE Y kx tk) (he : InBlk X scope fun Y => PE Y vx tv)
    (hs : ∀ x, foldedSetIterable iter X.env x = pure x := by intro _; rfl) :
    PS X (.Assign [.Name y py] (.DictComp kx vx [⟨tg, iter, ifs, 0⟩] scope pos) spos) (tAsg (tDc wi g tt tk tv (own.map (·.2))) (gName i)) := by
  refine ⟨fun pins s σ H D I want => ?_⟩
  rw [exec_Assign_Name_used _ _ _ _ hsw]
  refine wpAny_bind (wpAny_standAt (wpAny_bind ?_))
  have want : tDc wi g tt tk tv (own.map (·.2)) σ H fun x H1 => gName i x σ H1 D.nx := want
  show wpAny _ X.A (do
    let _ ← comprehension (.DictComp kx vx [⟨tg, iter, ifs, 0⟩] scope pos) scope X.env (firstIterPos [⟨tg, iter, ifs, 0⟩] pos) newDict false (eval iter X.env) (some (assign (.Name y py) X.env))) _ _ s
  refine wpAny_bind (thn (dc_core (Qf := fun _ s' => SP X pins D .next s') hc hN I hi ok hg ht hk he hs want fun L C s' m H' J q hn fpo => ?_) fun _ s' done => wpAny_pure (wpAny_pure done))
  show wpAny _ _ (assign (.Name y py) X.env (.ref L)) _ _ _
  refine wpAny_assign_Name (store_ok2 (v := V.ref L) J hN hy (.inl hyl) rfl (fun s2 J2 ⟨a, sb, ha⟩ => ?_) (.inr hyl))
  obtain ⟨p0, p1, p2, p3, p4, p5⟩ := fpo
  have apart : C ≠ a := by
    cases ha with
    | inl z => rw [z]; exact p1
    | inr z => exact fun e => p4 y a z e.symm
  refine ⟨m, hn.sameBut sb apart, fun h3 sb3 => ⟨_, H', J2.turned (t' := s2.toks) (fun b o hb e => (sb3.2 b hb).trans e) p0 p1 p3 p4 p5, q⟩⟩
end
end U

/-! repr of a list of data, dicts among it -/
namespace U
open PySem PySem.Spec PyProof.Rows L2
mutual
def tupOnly : PyData → Bool
  | .none | .bool _ | .int _ | .str _ => true
  | .tuple xs => tupOnlyAll xs
  | .list _ | .dict _ => false
def tupOnlyAll : List PyData → Bool
  | [] => true
  | x :: xs => tupOnly x && tupOnlyAll xs
end
mutual
theorem reads_nil {h : Heap} : ∀ (d : PyData) (v : Value) (as : List Addr), Reads h v d as → tupOnly d = true → as = []
  | .none, _, _, r, _ => by cases r; rfl
  | .bool _, _, _, r, _ => by cases r; rfl
  | .int _, _, _, r, _ => by cases r; rfl
  | .str _, _, _, r, _ => by cases r; rfl
  | .tuple xs, _, _, r, t => by
    cases r with
    | tuple h1 h2 h3 h4 => exact readsAll_nil xs _ _ h4 (by simpa [tupOnly] using t)
  | .list _, _, _, _, t => by simp [tupOnly] at t
  | .dict _, _, _, _, t => by simp [tupOnly] at t
theorem readsAll_nil {h : Heap} : ∀ (ds : List PyData) (vs : List Value) (as : List Addr), ReadsAll h vs ds as → tupOnlyAll ds = true → as = []
  | [], _, _, r, _ => by cases r; rfl
  | d :: ds, _, _, r, t => by
    rw [tupOnlyAll, Bool.and_eq_true] at t
    cases r with
    | cons r1 r2 => rw [reads_nil d _ _ r1 t.1, readsAll_nil ds _ _ r2 t.2]; rfl
end
/-- an item of the list: data of tuples, or a dict of numbers -/
inductive Di (K : PySem.W.Frag) (H : Hp) : V → PyData → Prop
  | of {v : V} {d : PyData} : Dp K H v d → tupOnly d = true → Di K H v d
  | dct {a : Addr} {ns : List Str} {f : Str → Int} : H a = some (.dK (kvF ns f)) → Di K H (.ref a) (.dict (ns.map fun n => (.str n, .int (f n))))
inductive DiAll (K : PySem.W.Frag) (H : Hp) : List V → List PyData → Prop
  | nil : DiAll K H [] []
  | cons {v : V} {vs : List V} {d : PyData} {ds : List PyData} : Di K H v d → DiAll K H vs ds → DiAll K H (v :: vs) (d :: ds)
structure Shows (d : PyData) : Prop where
  sh : d.showable = true
  lv : d.leavesShort 13 = true
  bk : d.bulk ≤ 2 ^ 20
  dp : d.depth ≤ 50
section
variable {X : Cx} {pins : List (Addr × Obj)} {σ : L2.St} {H : Hp} {s : Shared}
theorem Di.reads (I : Inv X pins σ H s) {v : V} {d : PyData} {u : Value} (h : Di X.K H v d) (r : RelV v u) : ∃ as, Reads s.heap u d as ∧ sysModules ∉ as := by
  cases h with
  | of h t =>
    obtain ⟨as, q⟩ := Dp.reads I _ _ _ h r
    have := reads_nil _ _ _ q t
    subst this
    exact ⟨_, q, List.not_mem_nil⟩
  | dct h =>
    cases r
    obtain ⟨_, hd, vs, rel, dd⟩ := dk_of I.hok h
    refine ⟨_, PyProof.V.reads_dictOf key_reads dd (kv_pairs rel), ?_⟩
    intro z
    rw [List.mem_singleton] at z
    rw [z] at hd
    simp at hd
theorem DiAll.reads (I : Inv X pins σ H s) : ∀ {vs : List V} {ds : List PyData} {us : List Value}, DiAll X.K H vs ds → Vals vs us → ∃ as, ReadsAll s.heap us ds as ∧ sysModules ∉ as
  | [], _, _, h, r => by
    cases h
    cases r
    exact ⟨_, .nil, List.not_mem_nil⟩
  | v :: vs, _, _, h, r => by
    cases h with
    | cons h1 h2 =>
      cases r with
      | cons r1 r2 =>
        obtain ⟨as, q1, n1⟩ := h1.reads I r1
        obtain ⟨bs, q2, n2⟩ := DiAll.reads I h2 r2
        exact ⟨_, .cons q1 q2, fun z => (List.mem_append.mp z).elim n1 n2⟩
end
/-! the shapes -/
theorem IsName.lv {z : Str} (h : IsName z) : (PyData.str z).leavesShort 13 = true := by
  rw [PyData.leavesShort, List.all_eq_true]
  intro x hx
  have := h.ch x hx
  rw [decide_eq_true_eq]
  omega
theorem IsName.bk {z : Str} (h : IsName z) : (PyData.str z).bulk ≤ 8 := by
  rw [PyData.bulk]
  exact h.hi
end U

section
open PySem PySem.Spec PyProof.Rows L2 U
local macro_rules | `(tactic| wtm_at "rd1") => `(tactic| first
  | with_reducible refine rd_seq ?_
  | ((with_reducible refine rd_var (v := ?vv) ?hv ?_); (case hv => exact rfl))
  | with_reducible refine rd_c ?_
  | with_reducible refine rd_cons ?_
  | with_reducible refine rd_nil ?_
  | with_reducible refine rd_op ?_
  | with_reducible refine rd_asg ?_
  | with_reducible refine rd_name ?_
  | with_reducible refine rd_c1 ?_
  | with_reducible refine rd_cb ?_
  | with_reducible refine rd_test ?_
  | with_reducible refine rd_B ?_
  | with_reducible refine rd_bl ?_
  | with_reducible refine rd_if ?_
  | with_reducible refine rd_ret ?_
  | with_reducible refine rd_drop ?_
  | with_reducible refine rd_next ?_
  | with_reducible refine rd_addI ?_
  | with_reducible refine rd_ltI ?_
  | with_reducible refine rd_eqI ?_
  | with_reducible refine rd_neI ?_
  | with_reducible refine rd_eqS ?_
  | with_reducible refine rd_neS ?_
  | with_reducible refine rd_gtI ?_
  | with_reducible refine rd_geI ?_
  | with_reducible refine rd_leI ?_
  | with_reducible refine rd_ltS ?_
  | with_reducible refine rd_subI ?_
  | ((with_reducible refine rd_modI ?hc ?_); (case hc => first | decide | omega))
  | ((with_reducible refine rd_mulI ?hc ?_); (case hc => first | exact mul_bI | exact .inl (.inr (by decide)) | exact .inl (.inl (by decide)) | exact .inl (.inr (by omega)) | exact .inl (.inl (by omega))))
  | ((with_reducible refine rd_divI ?hc ?_); (case hc => first | decide | omega))
  | ((with_reducible refine rd_powI ?hc ?_); (case hc => exact ⟨by decide, by decide, by decide⟩))
  | with_reducible refine rd_lst ?_
  | with_reducible refine rd_tup ?_
  | ((with_reducible refine rd_sz ?hv ?_); (case hv => exact rfl))
  | with_reducible refine rd_and ?_
  | with_reducible refine rd_or ?_
  | with_reducible refine rd_not ?_
  | with_reducible refine rd_andV ?_
  | with_reducible refine rd_orV ?_
  | with_reducible refine rd_notV ?_
  | with_reducible refine rd_ifE ?_
  | with_reducible refine rd_T ?_
  | with_reducible refine rd_F ?_
  | with_reducible refine rd_chain ?_
  | with_reducible refine rd_is ?_
  | with_reducible refine rd_isNot ?_
  | with_reducible refine rd_absI ?_
  | with_reducible refine rd_maxI ?_
  | with_reducible refine rd_minI ?_
  | with_reducible refine rd_intI ?_
  | with_reducible refine rd_intB ?_
  | with_reducible refine rd_sub ?_
  | with_reducible refine rd_sl ?_
  | with_reducible refine rd_noPart ?_
  | with_reducible refine rd_part ?_
  | with_reducible refine rd_exI ?_
  | with_reducible refine rd_bm ?_
  | with_reducible refine rd_bm0 ?_
  | with_reducible refine rd_un ?_
  | with_reducible refine rd_neg ?_
  | with_reducible refine rd_c2 ?_
  | with_reducible refine rd_retN ?_
  | with_reducible refine rd_break ?_
  | with_reducible refine rd_cont ?_
  | with_reducible refine rd_for ?_
  | with_reducible refine rd_rng1 ?_
  | with_reducible refine rd_rng2 ?_
  | with_reducible refine rd_iList ?_
  | with_reducible refine rd_iTup ?_
  | with_reducible refine rd_iEnum ?_
  | ((with_reducible refine rd_forR ?h0 ?h1 ?_); (case h0 => omega); (case h1 => omega))
  | with_reducible refine rd_lc ?_
  | with_reducible refine rd_gcons ?_
  | with_reducible refine rd_gnil ?_
  | with_reducible refine rd_dget ?_
  | with_reducible refine rd_dput ?_
  | with_reducible refine rd_dnew ?_
  | with_reducible refine rd_dc ?_
  | with_reducible refine rd_iItems ?_
  | with_reducible refine rd_iKeys ?_
  | with_reducible refine rd_din ?_
  | with_reducible refine rd_lc2 ?_
  | with_reducible refine rd_cd ?_
  | with_reducible refine rd_par ?_
  | with_reducible refine rd_two ?_
  | with_reducible refine rd_reprB ?_
  | with_reducible refine rd_ck ?_
  | ((with_reducible refine rd_len ?hl ?_); (case hl => exact rfl))
  | with_reducible refine rd_nT ?_
  | with_reducible refine rd_nF ?_
  | with_reducible refine rd_dnin ?_
  | with_reducible refine rd_isB ?_
  | with_reducible refine rd_isNotB ?_
  | with_reducible refine rd_daug ?_
  | with_reducible refine rd_yesT ?_
  | ((with_reducible refine rd_wp ?hw ?_); (case hw => exact rfl)))
local macro_rules | `(tactic| wtm_at "rd") => `(tactic| repeat wtm_at "rd1")
namespace Law
open PySem PySem.Spec PyProof.Rows L2 U


theorem take_snoc {α : Type} {xs : List α} {i : Nat} (hi : i < xs.length) : xs.take (i + 1) = xs.take i ++ [xs[i]] := by
  rw [List.take_succ, List.getElem?_eq_getElem hi]
  rfl
theorem not_take {α : Type} {xs : List α} {i : Nat} (nd : xs.Nodup) (hi : i < xs.length) : xs[i] ∉ xs.take i := by
  intro hm
  obtain ⟨j, hj, e⟩ := List.mem_iff_getElem.mp hm
  rw [List.length_take] at hj
  have e' : xs[j] = xs[i] := by rw [← e, List.getElem_take]
  have z := List.pairwise_iff_getElem.mp (List.nodup_iff_pairwise_ne.mp nd)
  exact z j i (by omega) hi (by omega) e'
theorem lk_same {H H' : Hp} {a : Addr} {kvs : List (Key × V)} (ha : H a = some (.dK kvs)) (but : But a H H') : Same H (upd H' a (.dK kvs)) := fun b o hb => by
  by_cases e : b = a
  · subst e
    rw [ha] at hb
    rw [upd_same]
    exact hb
  · exact at_upd e (but b o e hb)
/-- the lists of the nodes' neighbours -/
structure AdjAt (H : Hp) (d : Addr) (ns : List Str) (es : List (Str × Str)) (A : Str → Addr) : Prop where
  di : H d = some (.dK (kvG ns fun n => .ref (A n)))
  li : ∀ n ∈ ns, ∃ ys : List Str, H (A n) = some (.lst (ys.map V.str)) ∧ ys.Perm (nbrF es n) ∧ ys.Pairwise fun a b => ¬ sLt b a
theorem AdjAt.same {H H' : Hp} {d : Addr} {ns : List Str} {es : List (Str × Str)} {A : Str → Addr} (h : AdjAt H d ns es A) (s : Same H H') : AdjAt H' d ns es A :=
  ⟨s _ _ h.di, fun n hn => by
    obtain ⟨ys, h1, h2⟩ := h.li n hn
    exact ⟨ys, s _ _ h1, h2⟩⟩
/-- a graph stands -/
structure GrS (H : Hp) (g n e : Addr) (ns : List Str) (es : List (Addr × Str × Str)) : Prop where
  gr : GrAt H g n e ns es
  ok : GrOk ns (es.map (·.2))
  l2 : ns.length ≤ 100
  l3 : es.length ≤ 1000
theorem GSt.grs {H : Hp} {g n e st : Addr} {ns ord : List Str} {es : List (Addr × Str × Str)} {f : Str → Int} (h : GSt H g n e st ns ord es f) : GrS H g n e ns es := ⟨h.gr, h.ok, h.l2, h.l3⟩
theorem GrS.same {H H' : Hp} {g n e : Addr} {ns : List Str} {es : List (Addr × Str × Str)} (h : GrS H g n e ns es) (s : Same H H') : GrS H' g n e ns es := ⟨h.gr.same s, h.ok, h.l2, h.l3⟩
theorem GrS.nd {H : Hp} {g n e : Addr} {ns : List Str} {es : List (Addr × Str × Str)} (h : GrS H g n e ns es) : ns.Nodup := asc_nodup h.ok.names.asc
theorem GrS.inE {H : Hp} {g n e : Addr} {ns : List Str} {es : List (Addr × Str × Str)} (h : GrS H g n e ns es) : ∀ x ∈ es, x.2.1 ∈ ns ∧ x.2.2 ∈ ns := fun x hx => h.ok.mem _ (List.mem_map_of_mem hx)
theorem GrS.ne {H : Hp} {g n e : Addr} {ns : List Str} {es : List (Addr × Str × Str)} (h : GrS H g n e ns es) : ∀ x ∈ es.map (·.2), x.1 ≠ x.2 := fun x hx z => by
  have := h.ok.lt x hx
  rw [z] at this
  exact sLt_irrefl _ this
def spAdj : Sp := fun vs H Q _ => ∃ (g n e : Addr) (ns : List Str) (es : List (Addr × Str × Str)), vs = [.ref g] ∧ GrS H g n e ns es ∧
  ∀ (d : Addr) (A : Str → Addr) (H' : Hp), Same H H' → H d = none → AdjAt H' d ns (es.map (·.2)) A → Q (.ref d) H'
def spAdjF : Sp := fun vs H Q _ => ∃ (g n e : Addr) (ns : List Str) (es : List (Addr × Str × Str)), vs = [.ref g] ∧ GrS H g n e ns es ∧
  ∀ (d : Addr) (A : Str → Addr) (H' : Hp), Same H H' → H d = none → AdjAt H' d ns (es.map (·.2)) A → (∀ m ∈ ns, H (A m) = none) → Q (.ref d) H'
theorem adj_weak {vs : List V} {H : Hp} {Q : VK} {E : XK} (h : spAdj vs H Q E) : spAdjF vs H Q E := by
  obtain ⟨g, n, e, ns, es, e1, gs, q⟩ := h
  exact ⟨g, n, e, ns, es, e1, gs, fun d A H' s n a _ => q d A H' s n a⟩
theorem FnG.weak {P : Program} {w : World} {K : PySem.W.Frag} {mg : Str → Option Value} {base : Heap} {CX : CXT} {k : Nat} {f : Addr} {fd : FuncData} {ps : List Str} {sp sp' : Sp} (F : FnG P w K mg base CX k f fd ps sp) (h : ∀ vs H Q E, sp' vs H Q E → sp vs H Q E) : FnG P w K mg base CX k f fd ps sp' :=
  ⟨fun vs H Q E z => F.len vs H Q E (h vs H Q E z), fun A outer s H args us vs Q E r e b v z => F.go A outer s H args us vs Q E r e b v (h vs H Q E z)⟩
theorem Cal.weak {P : Program} {w : World} {K : PySem.W.Frag} {mg : Str → Option Value} {base : Heap} {CX : CXT} {k : Nat} {x : Str} {sp sp' : Sp} (C : Cal P w K mg base CX k x sp) (h : ∀ vs H Q E, sp' vs H Q E → sp vs H Q E) : Cal P w K mg base CX k x sp' := by
  obtain ⟨f, fd, ps, F, r⟩ := C.ex
  exact ⟨⟨f, fd, ps, FnG.weak F h, r⟩⟩
/-- what grows at d: lists, one a name, apart -/
structure Grow (H H' : Hp) (d : Addr) (ns : List Str) (A : Str → Addr) (L : Str → List Str) : Prop where
  sm : Same H H'
  di : H' d = some (.dK (kvG ns fun n => .ref (A n)))
  li : ∀ n ∈ ns, H' (A n) = some (.lst ((L n).map V.str)) ∧ H (A n) = none
  ap : ∀ n ∈ ns, ∀ m ∈ ns, A n = A m → n = m
theorem Grow.put {H H' : Hp} {d : Addr} {ns : List Str} {A : Str → Addr} {L : Str → List Str} {n : Str} {ys : List Str} (h : Grow H H' d ns A L) (hn : n ∈ ns) : Grow H (upd H' (A n) (.lst (ys.map V.str))) d ns A (updV L n ys) := by
  refine ⟨same_put h.sm (h.li n hn).2, at_upd (ne_of h.di (h.li n hn).1 (by intro z; cases z)) h.di, fun m hm => ⟨?_, (h.li m hm).2⟩, h.ap⟩
  unfold updV
  by_cases e : m = n
  · subst e
    rw [if_pos rfl, upd_same]
  · rw [if_neg e]
    exact at_upd (fun z => e (h.ap m hm n hn z)) (h.li m hm).1
section
variable {P : Program} {w : World} {K : PySem.W.Frag} {mg : Str → Option Value} {base : Heap}
theorem ok_adjF {f : Addr} {fd : FuncData} (F : Fun K "adjacency" "adjacency" s_adjacency f fd) (B : Bt mg) : FnG P w K mg base CX0 1 f fd ["graph"] spAdjF := by
  refine fnG0 F sc_adjacency (fun vs H Q E h => ?_) (fun cdv A outer s H vs Q E hr h => ?_)
  · obtain ⟨g, n, e, ns, es, rfl, _⟩ := h
    rfl
  · obtain ⟨g, n, e, ns, es, rfl, gs, q⟩ := h
    have nd := sc_adjacency.nd
    have hu := hr.u1
    refine ⟨_, (pss_cons (ps_asg (pv 0) (kg_tup (n := 2) K rfl rfl (pgs_cons (pg_name (i := 1) nd rfl (by first | exact Or.inl rfl | exact Or.inr rfl)) (pgs_cons (pg_name (i := 2) nd rfl (by first | exact Or.inl rfl | exact Or.inr rfl)) pgs_nil))))
  (pss_cons (ps_setDc (i := 3) (own := [("node", 4)]) rfl nd rfl rfl (sw_dict rfl rfl rfl (by decide +kernel)) (ki_tup K rfl (pv 1)) (blkOk_by (own := [("node", 4)]) (N := nN_adjacency) (sc := defScope s_adjacency) (by decide +kernel)) (fun _ _ _ _ _ => (pg_name (i := 4) nd rfl (by first | exact Or.inl rfl | exact Or.inr rfl))) (fun _ _ _ _ _ => pts_nil) (fun _ _ _ _ _ => (pv 4)) (fun _ _ _ _ _ => (pe_lst pa_nil)))
  (pss_cons (ps_for PassesOwn.never rfl (ki_tup K rfl (pv 2)) (kg_tup (n := 2) K rfl rfl (pgs_cons (pg_name (i := 5) nd rfl (by first | exact Or.inl rfl | exact Or.inr rfl)) (pgs_cons (pg_name (i := 6) nd rfl (by first | exact Or.inl rfl | exact Or.inr rfl)) pgs_nil))) (pss_cons (ps_expr (pe_bm PySem.F.plainAttrs_list PySem.F.slot_list_append PySem.F.type_list_append mt_append (pe_dget hu (pv 3) (pv 5) (fun _ _ => rfl)) (pa_cons (pv 6) pa_nil)))
  (pss_one (ps_expr (pe_bm PySem.F.plainAttrs_list PySem.F.slot_list_append PySem.F.type_list_append mt_append (pe_dget hu (pv 3) (pv 6) (fun _ _ => rfl)) (pa_cons (pv 5) pa_nil))))))
  (pss_one (ps_ret (pe_lock (pe_dc (own := [("node", 4), ("some", 7)]) rfl nd (pi_items (pv 3)) (blkOk_by (own := [("node", 4), ("some", 7)]) (N := nN_adjacency) (sc := defScope s_adjacency) (by decide +kernel)) (fun _ _ _ _ _ => (kg_tup (n := 2) K rfl rfl (pgs_cons (pg_name (i := 4) nd rfl (by first | exact Or.inl rfl | exact Or.inr rfl)) (pgs_cons (pg_name (i := 7) nd rfl (by first | exact Or.inl rfl | exact Or.inr rfl)) pgs_nil)))) (fun _ _ _ _ _ => pts_nil) (fun _ _ _ _ _ => (pv 4)) (fun _ _ _ _ _ => (pe_callB (kSorted K rfl hr.u64) (by rfl) B.sorted bb_sorted (pa_cons (pv 7) pa_nil)))))))))), ?_⟩
    wtm_at "rd"
    refine rd_unp (SqT.of gs.gr.top) rfl ?_
    wtm_at "rd"
    refine rd_forT (SqT.of gs.gr.nodes) ?_
    intro D fD
    refine dcW (walk_tup (K := K) (a := n) (xs := ns.map V.str)) (fun i H' => ∃ A : Str → Addr, Grow H H' D (ns.take i) A (fun _ => [])) ⟨fun _ => 0, Same.new fD, upd_same, (fun n hn => nomatch hn), fun n hn => nomatch hn⟩ ?_ ?_ ?_
    · rintro i H' hi ⟨A, gw⟩
      exact SqT.of (gw.sm _ _ gs.gr.nodes)
    · rintro i x H' H2 hi ⟨A, gw⟩ ⟨rfl, hx⟩
      obtain ⟨hin, rfl⟩ := map_at hx
      wtm_at "rd"
      intro t ft
      refine rd_accD (k := .inr ns[i]) rfl (at_upd (ne_of_none gw.di ft) gw.di) (by rw [List.length_map, List.length_take]; have := gs.l2; omega) ?_
      have ntD : t ≠ D := Ne.symm (ne_of_none gw.di ft)
      have nin := not_take gs.nd hin
      have nt : ∀ m ∈ ns.take i, A m ≠ t := fun m hm => ne_of_none (gw.li m hm).1 ft
      refine ⟨updV A ns[i] t, same_put (same_add gw.sm ft) fD, ?_, ?_, ?_⟩
      · rw [upd_same, kvG_new nin, take_snoc hin]
        congr 2
        refine List.map_congr_left fun m _ => ?_
        show ((Sum.inr m : Key), updV (fun n => V.ref (A n)) ns[i] (.ref t) m) = (Sum.inr m, V.ref (updV A ns[i] t m))
        unfold updV
        by_cases z : m = ns[i]
        · rw [if_pos z, if_pos z]
        · rw [if_neg z, if_neg z]
      · intro m hm
        rw [take_snoc hin] at hm
        unfold updV
        rcases List.mem_append.mp hm with hm | hm
        · rw [if_neg (fun z => nin (by rw [← z]; exact hm))]
          exact ⟨at_upd (ne_of (gw.li m hm).1 gw.di (by intro z; cases z)) (at_upd (nt m hm) (gw.li m hm).1), (gw.li m hm).2⟩
        · rw [List.mem_singleton] at hm
          rw [if_pos hm]
          exact ⟨at_upd ntD upd_same, new_of_same gw.sm ft⟩
      · intro m hm m2 hm2 z
        rw [take_snoc hin] at hm hm2
        unfold updV at z
        rcases List.mem_append.mp hm with hm | hm <;> rcases List.mem_append.mp hm2 with hm2 | hm2
        · rw [if_neg (fun y => nin (by rw [← y]; exact hm)), if_neg (fun y => nin (by rw [← y]; exact hm2))] at z
          exact gw.ap m hm m2 hm2 z
        · rw [List.mem_singleton] at hm2
          rw [if_neg (fun y => nin (by rw [← y]; exact hm)), if_pos hm2] at z
          exact absurd z (nt m hm)
        · rw [List.mem_singleton] at hm
          rw [if_pos hm, if_neg (fun y => nin (by rw [← y]; exact hm2))] at z
          exact absurd z.symm (nt m2 hm2)
        · rw [List.mem_singleton] at hm hm2
          rw [hm, hm2]
    rintro H1 ⟨A, gw⟩
    rw [List.length_map, List.take_length] at gw
    wtm_at "rd"
    refine rd_forT (SqT.of (gw.sm _ _ gs.gr.edges)) ?_
    refine turnsT (K := K) (xs := es.map fun x => V.ref x.1) (fun i σ H' => ∃ u4 u5 u6 u7 : Option V, σ = [some (.ref g), some (.ref n), some (.ref e), some (.ref D), u4, u5, u6, u7] ∧ Grow H H' D ns A (fun m => nbrF ((es.map (·.2)).take i) m)) ⟨_, _, _, _, rfl, gw⟩ ?_ ?_ ?_
    · rintro i σ H' hi ⟨u4, u5, u6, u7, rfl, gw⟩
      exact SqT.of (gw.sm _ _ gs.gr.edges)
    · rintro i y σ H' hy ⟨u4, u5, u6, u7, rfl, gw⟩
      obtain ⟨hi, rfl⟩ := map_at hy
      have hm := List.getElem_mem hi
      obtain ⟨m1, m2⟩ := gs.inE _ hm
      have hne : es[i].2.1 ≠ es[i].2.2 := gs.ne es[i].2 (List.mem_map_of_mem hm)
      have hi2 : i < (es.map (·.2)).length := by rw [List.length_map]; exact hi
      have len : ∀ m, (nbrF ((es.map (·.2)).take i) m).length ≤ 2000 := fun m => by
        have := nbrF_len (x := m) (es := (es.map (·.2)).take i)
        rw [List.length_take, List.length_map] at this
        have := gs.l3
        omega
      have tk : ∀ m, nbrF ((es.map (·.2)).take (i + 1)) m = nbrF ((es.map (·.2)).take i) m ++ ((if es[i].2.1 = m then [es[i].2.2] else []) ++ (if es[i].2.2 = m then [es[i].2.1] else [])) := fun m => by
        have := nbrF_take (x := m) hi2
        rw [List.getElem_map] at this
        exact this
      refine rd_unp (SqT.of (gw.sm _ _ (gs.gr.pairs _ hm))) rfl ?_
      wtm_at "rd"
      refine rd_dat (.inl gw.di) (kvG_val m1) rfl ?_
      refine rd_tyL (gw.li _ m1).1 ?_
      wtm_at "rd"
      refine rd_append (gw.li _ m1).1 (by rw [List.length_map]; have := len es[i].2.1; omega) ?_
      have gw2 := gw.put (ys := nbrF ((es.map (·.2)).take i) es[i].2.1 ++ [es[i].2.2]) m1
      rw [List.map_append] at gw2
      wtm_at "rd"
      refine rd_dat (.inl gw2.di) (kvG_val m2) rfl ?_
      have l2 := (gw2.li _ m2).1
      have e2 : updV (fun m => nbrF ((es.map (·.2)).take i) m) es[i].2.1 (nbrF ((es.map (·.2)).take i) es[i].2.1 ++ [es[i].2.2]) es[i].2.2 = nbrF ((es.map (·.2)).take i) es[i].2.2 := if_neg (Ne.symm hne)
      rw [e2] at l2
      refine rd_tyL l2 ?_
      wtm_at "rd"
      refine rd_append l2 (by rw [List.length_map]; have := len es[i].2.2; omega) ?_
      have gw3 := gw2.put (ys := nbrF ((es.map (·.2)).take i) es[i].2.2 ++ [es[i].2.1]) m2
      rw [List.map_append] at gw3
      refine ⟨_, _, _, _, rfl, gw3.sm, gw3.di, fun m hm => ⟨?_, (gw3.li m hm).2⟩, gw3.ap⟩
      refine (gw3.li m hm).1.trans ?_
      congr 3
      rw [tk]
      unfold updV
      by_cases c2 : m = es[i].2.2
      · subst c2
        rw [if_pos rfl, if_neg hne, if_pos rfl, List.nil_append]
      · rw [if_neg c2]
        by_cases c1 : m = es[i].2.1
        · subst c1
          rw [if_pos rfl, if_pos rfl, if_neg (Ne.symm hne), List.append_nil]
        · rw [if_neg c1, if_neg (Ne.symm c1), if_neg (Ne.symm c2), List.append_nil, List.append_nil]
    rintro σ H2 ⟨u4, u5, u6, u7, rfl, gw2⟩
    rw [List.length_map, List.take_of_length_le (by rw [List.length_map]; exact Nat.le_refl _)] at gw2
    wtm_at "rd"
    refine rd_lockE gw2.di fun od => ?_
    wtm_at "rd"
    refine rd_forI upd_same ?_
    intro D2 fD2
    have nDa := new_ne fD2
    have fD20 := new_old fD2
    refine dcW walk_items (fun i H' => ∃ A2 : Str → Addr, But D H2 H' ∧ H' D = some (.frz od (.dK (kvG ns fun n => .ref (A n)))) ∧ H' D2 = some (.dK (kvG (ns.take i) fun n => .ref (A2 n))) ∧ (∀ m ∈ ns.take i, ∃ ys : List Str, H' (A2 m) = some (.lst (ys.map V.str)) ∧ (ys.Perm (nbrF (es.map (·.2)) m) ∧ ys.Pairwise fun a b => ¬ sLt b a)) ∧ ∀ m ∈ ns.take i, H (A2 m) = none)
      ⟨fun _ => 0, But.upd.trans (But.new fD2), at_upd (Ne.symm nDa) upd_same, upd_same, (fun m hm => nomatch hm), fun m hm => nomatch hm⟩ ?_ ?_ ?_
    · rintro i H' hi ⟨A2, _, hf, _⟩
      exact hf
    · rintro i x H' H3 hi ⟨A2, but, hf, hD, hl, fre⟩ ⟨T, x1, y1, rfl, fT, rfl, e1, e2⟩
      obtain ⟨hin, rfl, rfl⟩ := kvG_at e1 e2
      have hmem := List.getElem_mem hin
      have nin := not_take gs.nd hin
      have but2 : But D H2 (upd H' T (.tup [.str ns[i], .ref (A ns[i])])) := but.trans (But.new fT)
      have hf2 := at_upd (o := .tup [.str ns[i], .ref (A ns[i])]) (ne_of_none hf fT) hf
      have hD3 := at_upd (o := .tup [.str ns[i], .ref (A ns[i])]) (ne_of_none hD fT) hD
      have hl2 : ∀ m ∈ ns.take i, ∃ ys : List Str, upd H' T (.tup [.str ns[i], .ref (A ns[i])]) (A2 m) = some (.lst (ys.map V.str)) ∧ (ys.Perm (nbrF (es.map (·.2)) m) ∧ ys.Pairwise fun a b => ¬ sLt b a) := fun m hm => by
        obtain ⟨ys, z1, z2⟩ := hl m hm
        exact ⟨ys, at_upd (ne_of_none z1 fT) z1, z2⟩
      refine rd_unp (SqT.of upd_same) rfl ?_
      have ha := but2 _ _ (ne_of (gw2.li _ hmem).1 gw2.di (by intro z; cases z)) (gw2.li _ hmem).1
      generalize upd H' T (.tup [.str ns[i], .ref (A ns[i])]) = H4 at but2 hf2 hD3 hl2 ha
      wtm_at "rd"
      refine rd_sortS (SqL.of ha) (by have := nbrF_len (x := ns[i]) (es := es.map (·.2)); rw [List.length_map] at this; have := gs.l3; omega) ?_
      intro ys py sy l2 fl2
      refine rd_accD (k := .inr ns[i]) rfl (at_upd (ne_of_none hD3 fl2) hD3) (by rw [List.length_map, List.length_take]; have := gs.l2; omega) ?_
      have nl2D : l2 ≠ D2 := Ne.symm (ne_of_none hD3 fl2)
      have nH : H l2 = none := new_of_same gw2.sm (but2.free (Ne.symm (ne_of_none hf2 fl2)) fl2)
      refine ⟨updV A2 ns[i] l2, fun b' o' nb hb' => at_upd (ne_of_none hb' fD20) ((but2.trans (But.new fl2)) b' o' nb hb'), at_upd (Ne.symm nDa) (at_upd (ne_of_none hf2 fl2) hf2), ?_, ?_, ?_⟩
      · rw [upd_same, kvG_new nin, take_snoc hin]
        congr 2
        refine List.map_congr_left fun m _ => ?_
        show ((Sum.inr m : Key), updV (fun n => V.ref (A2 n)) ns[i] (.ref l2) m) = (Sum.inr m, V.ref (updV A2 ns[i] l2 m))
        unfold updV
        by_cases z : m = ns[i]
        · rw [if_pos z, if_pos z]
        · rw [if_neg z, if_neg z]
      · intro m hm
        rw [take_snoc hin] at hm
        unfold updV
        rcases List.mem_append.mp hm with hm | hm
        · rw [if_neg (fun z => nin (by rw [← z]; exact hm))]
          obtain ⟨zs, z1, z2⟩ := hl2 m hm
          exact ⟨zs, at_upd (ne_of z1 hD3 (by intro z; cases z)) (at_upd (ne_of_none z1 fl2) z1), z2⟩
        · rw [List.mem_singleton] at hm
          subst hm
          rw [if_pos rfl]
          exact ⟨ys, at_upd nl2D upd_same, py, sy⟩
      · intro m hm
        rw [take_snoc hin] at hm
        unfold updV
        rcases List.mem_append.mp hm with hm | hm
        · rw [if_neg (fun z => nin (by rw [← z]; exact hm))]
          exact fre m hm
        · rw [List.mem_singleton] at hm
          subst hm
          rw [if_pos rfl]
          exact nH
    rintro H' ⟨A2, but, hf, hD, hl, fre⟩
    rw [List.length_map, List.take_length] at hD hl fre
    refine ⟨hf, q D2 A2 _ (gw2.sm.trans (lk_same gw2.di but)) (new_of_same gw2.sm fD20) ⟨at_upd nDa hD, fun m hm => ?_⟩ fre⟩
    obtain ⟨ys, z1, z2⟩ := hl m hm
    exact ⟨ys, at_upd (ne_of z1 hf (by intro z; cases z)) z1, z2⟩
theorem ok_adj {f : Addr} {fd : FuncData} (F : Fun K "adjacency" "adjacency" s_adjacency f fd) (B : Bt mg) : FnG P w K mg base CX0 1 f fd ["graph"] spAdj := FnG.weak (ok_adjF F B) fun _ _ _ _ h => adj_weak h
end
end Law

namespace Law
open PySem PySem.Spec PyProof.Rows L2 U


section
variable {P : Program} {w : World} {K : PySem.W.Frag} {mg : Str → Option Value} {base : Heap}
end
end Law

namespace Law
open PySem PySem.Spec PyProof.Rows L2 U


def spIsInt (K : PySem.W.Frag) : Sp := fun vs H Q _ => ∃ (x : V) (a : Ty), vs = [x] ∧ TyIs K H x a ∧ Q (.bl (decide (a = .int))) H
def spHas : Sp := fun vs H Q _ => ∃ (g n e : Addr) (x : Str) (ns : List Str) (es : List (Addr × Str × Str)), vs = [.ref g, .str x] ∧ GrAt H g n e ns es ∧ Q (.bl (decide (x ∈ ns))) H
def spIsMove (K : PySem.W.Frag) : Sp := fun vs H Q _ => ∃ (g n e st ad c ps : Addr) (x : Str) (v : Int) (ns ord pn : List Str) (es : List (Addr × Str × Str)) (f : Str → Int) (Ad : Str → Addr), vs = [.ref g, .ref st, .ref ad, .ref c, .ref ps] ∧ GSt H g n e st ns ord es f ∧
  AdjAt H ad ns (es.map (·.2)) Ad ∧ H c = some (.tup [.str x, .int v]) ∧ Legal ns (es.map (·.2)) f pn (x, v) ∧ SqT K H ps (pn.map V.str) ∧ ∀ H' : Hp, Same H H' → Q (.bl true) H'
section
variable {P : Program} {w : World} {K : PySem.W.Frag} {mg : Str → Option Value} {base : Heap}
theorem ok_is_integer {f : Addr} {fd : FuncData} (F : Fun K "is_integer" "is_integer" s_is_integer f fd) (B : Bt mg) (Bb : mg "bool" = none) : FnG P w K mg base CX0 1 f fd ["candidate"] (spIsInt K) := by
  refine fnG0 F sc_is_integer (fun vs H Q E h => ?_) (fun cdv A outer s H vs Q E hr h => ?_)
  · obtain ⟨x, a, rfl, _⟩ := h
    rfl
  · obtain ⟨x, a, rfl, hx, q⟩ := h
    have nd := sc_is_integer.nd
    refine ⟨_, (pss_one (ps_ret (pe_and (pe_callB (kIsi K rfl) (by rfl) B.isinstance bb_isinstance (pa_cons (pv 0) (pa_cons (pe_ty rfl B.int bb_int) pa_nil))) (pe_one (pe_not (pe_callB (kIsi K rfl) (by rfl) B.isinstance bb_isinstance (pa_cons (pv 0) (pa_cons (pe_ty rfl Bb bb_bool) pa_nil)))))))), ?_⟩
    wtm_at "rd"
    refine rd_isi hx (t := .int) (by decide +kernel) ?_
    wtm_at "rd"
    refine rd_b (fun c => ?_) (fun c => ?_)
    · wtm_at "rd"
      refine rd_isi hx (t := .bl) (by decide +kernel) ?_
      wtm_at "rd"
      have : (!isT a .bl) = decide (a = .int) := by revert c; cases a <;> decide +kernel
      rw [this]
      exact q
    · have : decide (a = Ty.int) = false := by revert c; cases a <;> decide +kernel
      rw [this] at q
      exact q
theorem ok_has {f : Addr} {fd : FuncData} (F : Fun K "has_node" "has_node" s_has_node f fd) (B : Bt mg) : FnG P w K mg base CX0 1 f fd ["graph", "candidate"] spHas := by
  refine fnG0 F sc_has_node (fun vs H Q E h => ?_) (fun cdv A outer s H vs Q E hr h => ?_)
  · obtain ⟨g, n, e, x, ns, es, rfl, _⟩ := h
    rfl
  · obtain ⟨g, n, e, x, ns, es, rfl, hg, q⟩ := h
    have nd := sc_has_node.nd
    refine ⟨_, (pss_one (ps_ret (pe_and (pe_callB (kIsi K rfl) (by rfl) B.isinstance bb_isinstance (pa_cons (pv 1) (pa_cons (pe_ty rfl B.str bb_str) pa_nil))) (pe_one (pe_cmpR (kIn K rfl) (pv 1) (pe_ix (kIx K rfl) (pv 0) pe_int (fun _ _ => rfl)) rfl))))), ?_⟩
    wtm_at "rd"
    refine rd_isi ty_str (t := .str) (by decide +kernel) ?_
    rw [show isT .str .str = true from by decide +kernel]
    wtm_at "rd"
    refine rd_ixT (SqT.of hg.top) (v := .ref n) rfl ?_
    refine rd_inST (SqT.of hg.nodes) ?_
    exact q
structure C6 (P : Program) (w : World) (K : PySem.W.Frag) (mg : Str → Option Value) (base : Heap) : Prop where
  is_integer : Cal P w K mg base CX0 1 "is_integer" (spIsInt K)
structure C8 (P : Program) (w : World) (K : PySem.W.Frag) (mg : Str → Option Value) (base : Heap) : Prop where
  adjacency : Cal P w K mg base CX0 1 "adjacency" spAdj
  is_move : Cal P w K mg base CX0 3 "is_move" (spIsMove K)
end
end Law

/-! exceptions that outlive their handler; own classes over own classes -/
namespace U
open PySem PySem.Spec PyProof.Rows L2
/-- at a: an exception of the class cls, its dict at d -/
def exk (a : Addr) (cls : Value) (d : Option Addr) : HO := .ext fun h => ∃ oe vs, h.get? a = some oe ∧ Zc cls d oe ∧ oe.data = .fields vs
theorem exk_ok {P : Program} {w : World} {H : Hp} {h : Heap} {a : Addr} {cls : Value} {d : Option Addr} {oe : Obj} {vs : Array Value} (e : h.get? a = some oe) (z : Zc cls d oe) (f : oe.data = .fields vs) : ObjOk P w H h a (exk a cls d) := by
  refine ⟨⟨oe, vs, e, z, f⟩, ⟨_, e⟩, fun h1 h2 t k => ?_⟩
  obtain ⟨o2, v2, e2, z2, f2⟩ := t
  exact ⟨o2, v2, k _ e2, z2, f2⟩
theorem exk_at {P : Program} {w : World} {H : Hp} {h : Heap} {a : Addr} {cls : Value} {d : Option Addr} (hok : HOk P w H h) (e : H a = some (exk a cls d)) : ∃ oe vs, h.get? a = some oe ∧ Zc cls d oe ∧ oe.data = .fields vs := by
  have t : ObjOk P w H h a (.ext fun h => ∃ oe vs, h.get? a = some oe ∧ Zc cls d oe ∧ oe.data = .fields vs) := hok a _ e
  exact t.1
section
variable {X : Cx} {pins : List (Addr × Obj)} {σ : L2.St} {H : Hp} {sI s' : Shared} {B : Heap} {a : Addr} {cls : Value} {d : Option Addr} {oe : Obj} {vs : Array Value}
/-- back on the ground, the exception tracked -/
theorem landed_k (I : Inv X pins σ H sI) (nb : ∀ b o, sI.heap.get? b = some o → b ∉ frs X.stack → B.get? b = some o) (st : B.StaysIn s'.heap) (up : sI.heap.UpToSlots s'.heap) (os : s'.os = sI.os) (ag : AllBare s'.gens)
    (hB : B.get? a = none) (nfr : a ∉ frs X.stack) (na : H a = none) (he : s'.heap.get? a = some oe) (hz : Zc cls d oe) (hd : oe.data = .fields vs) : Inv X pins σ (upd H a (exk a cls d)) s' := by
  have fr : ∀ b ∈ frs X.stack, ∀ o, sI.heap.get? b = some o → ∃ sl, s'.heap.get? b = some { o with slots := sl } := by
    intro b hb o e
    obtain ⟨_, o1, e1, h1⟩ := I.stack.mem hb
    rw [e] at e1
    cases e1
    exact up b o e h1
  have sIa : ∀ o, sI.heap.get? a ≠ some o := fun o e => by
    rw [nb a o e nfr] at hB
    cases hB
  have ok1 : HOk X.prog X.w H s'.heap := (I.inGround nb).kept st
  have ok2 : HOk X.prog X.w (upd H a (exk a cls d)) s'.heap := by
    intro b o e
    by_cases hb : b = a
    · subst hb
      rw [upd_same] at e
      cases e
      exact exk_ok he hz hd
    · rw [upd_ne hb] at e
      exact (ok1 b o e).stay (fun c v _ q => q) (fun c q => at_upd (ne_of_none q na) q) fun c xs q => at_upd (ne_of_none q na) q
  have J := I.call (ch := []) (h' := s'.heap) (g' := s'.gens) (t' := s'.toks) (d' := s'.drawn) (H' := upd H a (exk a cls d))
    { keep := fun b o e _ hb _ => st b o (nb b o e hb)
      slot := fun b o e _ hb _ => fr b hb o e
      free := fun b o e n _ => no_upd (fun z => sIa o (by rw [← z]; exact e)) n
      there := fun b o e _ => by
        by_cases hb : b ∈ frs X.stack
        · obtain ⟨sl, q⟩ := fr b hb o e
          exact ⟨_, q⟩
        · exact ⟨o, st b o (nb b o e hb)⟩
      tups := fun _ _ e => at_upd (ne_of_none e na) e
      frzs := fun _ _ _ e => at_upd (ne_of_none e na) e
      tbls := fun b ps e => ⟨#[], by rw [at_upd (ne_of_none e na) e]; simp⟩ } ok2 ag (fun _ z => nomatch z)
  obtain ⟨b1, b2, b3, b4, b5⟩ := s'
  have e5 : b5 = sI.os := os
  subst e5
  exact J
end
section
variable {X : Cx} {x n : Str} {c : Value} {i : Nat} {body suite : List Stmt} {b₀ : Stmt} {np pos pos' : Pos} {tb : WX → TS} {ts : TS} {Wout : WX}
end
/-! e.f of a tracked exception -/
def tXk (K : PySem.W.Frag) (f : Str) (te : TE) : TE := fun σ H Q => te σ H fun x H1 => ∃ (a C dd : Addr) (fs : List (Str × V)) (v : V), x = .ref a ∧ H1 a = some (exk a (.ref C) (some dd)) ∧ XfC K C ∧ PySem.W.findIn K (.ref C) f = some none ∧ H1 dd = some (.xd fs) ∧ fs.lookup f = some v ∧ Q v H1
theorem pe_xk {X : Cx} {e : Expr} {te : TE} {pos : Pos} {n : Str} (he : PE X e te) (hb : attributeBase e n X.env (eval e X.env) = eval e X.env := by rfl) : PE X (.Attribute e n pos) (tXk X.K n te) := by
  refine ⟨fun pins s σ H Q I want => attr_of hb (thn (he.run pins s σ H _ I want) fun u s1 got => ?_)⟩
  obtain ⟨x, H1, I1, rx, a, C, dd, fs, v, rfl, hk, T, hno, hdd, hl, q⟩ := got
  obtain rfl : u = Value.ref a := rx
  obtain ⟨oe, vs, h1, hz, hd⟩ := exk_at I1.hok hk
  have hx : ObjOk X.prog X.w H1 s1.heap dd (.xd fs) := I1.hok dd _ hdd
  obtain ⟨mA, hns, hr⟩ := hx
  obtain ⟨od, ho, hl2⟩ := lookIn_ns hns
  obtain ⟨u2, hu, ru⟩ := RelO.some_of (v := v) (o := mA n) (by rw [← hl]; exact hr n)
  have J : PySem.W.InstAt s1.heap a oe C (some od) := by
    refine ⟨h1, hz.1, ?_, ?_⟩
    · unfold PySem.W.notCls
      rw [hd] <;> rfl
    · rw [hz.2]
      exact ho
  exact HandSPX.exc_get I1.kIn J T.ga T.gg T.exC (PySem.W.findObj_own T.hdC hno rfl (by rw [hl2, hu])) (handed_of ru) ⟨v, H1, I1.tok _, ru, q⟩
/-! Base.__init__(self, ..), Base an own class over ValueError with no __init__ of its own -/
structure BaseI (K : PySem.W.Frag) (CB : Addr) : Prop where
  kp : PySem.W.keepIn K (.ref CB) = true
  ga : PySem.W.specialIn K (.ref CB) "__getattribute__" = some (some (.builtin "type.__getattribute__"))
  rd : PySem.W.readsIn K CB (.type "type") = true
  at_ : PySem.W.findCls K (.ref CB) (.type "type") "__init__" = some (.val (.builtin "ValueError.__init__"))
theorem pe_binit {X : Cx} {x : Str} {CB : Addr} {e : Expr} {es : List Expr} {ta : TA} {p1 p2 pos : Pos} {pl : Sem Bool} (hg : Gl X x) (hm : X.mg x = some (.ref CB)) (T : BaseI X.K CB) (ha : PA X (e :: es) ta)
    (hc : eval (.Call (.Attribute (.Name x p1) "__init__" p2) (e :: es) [] pos) X.env = (do
      let ov ← eval (.Name x p1) X.env
      standAt p2.atName
      let (f, first) ← holding [ov] (getMethod ov "__init__" pl)
      callWith pos f first (backTo pos (starEach (e :: es) X.env)) (backToKw pos (keywordEach [] X.env))) := by rfl)
    (hdb : (x == ("__debug__" : Str)) = false := by decide)
    (he : starEach (e :: es) X.env = (false, eval e X.env) :: starEach es X.env := by rfl) (hpl : (backTo pos (starEach es X.env)).any (·.1) = false := by rfl) :
    PE X (.Call (.Attribute (.Name x p1) "__init__" p2) (e :: es) [] pos) (tVeI X.K ta) := by
  refine ⟨fun pins s σ H Q I want => ?_⟩
  refine PySem.W.methodCall_KW (ld_glob I hg hm ?_ hdb) hc
  refine PySem.W.method_cls I.kIn T.ga (PySem.W.cls_value I.kIn T.rd T.at_ (by decide +kernel) ?_)
  show wpAny _ _ (callWith pos (Value.builtin "ValueError.__init__") [] (backTo pos (starEach (e :: es) X.env)) []) _ _ _
  refine PyProof.Rows.callWith_method1 (thn (ha.run pos pins _ σ H _ (I.tok _) want) fun us s1 ⟨vs, H1, I1, r1, a, C, ws, ev, hl, O, ea, q⟩ => ?_) he hpl
  subst ev
  cases r1 with
  | @cons _ u0 _ ur ra rest =>
    obtain rfl : u0 = Value.ref a := ra
    have few : ur.length ≤ sizeLine := by
      rw [← Paired.length rest, sizeLine_eq]
      omega
    exact oinit_ok O I1 ea few fun s2 J => ⟨.non, H1, J, rfl, q⟩
end U

/-! functions handed on: promises that speak of the cells which a handed function captured -/
namespace U
open PySem PySem.Spec PyProof.Rows L2 LamX NdefX
section
variable {P : Program} {w : World} {K : PySem.W.Frag} {mg : Str → Option Value} {base : Heap} {CX : CXT}
end
section
variable {X : Cx} {pins : List (Addr × Obj)} {σ : L2.St} {H : Hp} {s : Shared} {cl : List (Str × Addr)} {fr : List Str} {ws : List (Option V)} {js : List Nat}
end
end U

/-! enumerate(tuple) -/
namespace U
open PySem PySem.Spec PyProof.Rows L2
end U

/-! own exceptions with one field: made, raised, kept, read -/
namespace U
open PySem PySem.Spec PyProof.Rows L2
/-- __init__(self, v): the field f is v -/
def spInit1 (C : Addr) (f : Str) : Sp := fun vs H Q _ => ∃ (a : Addr) (v : V), vs = [.ref a, v] ∧ H a = some (exo a C none) ∧
  ∀ dx, H dx = none → dx ≠ a → Q .non (upd (upd H dx (exd dx [(f, v)])) a (exo a C (some dx)))
theorem rd_mk1 {C : Addr} {f : Str} {v : V} {H : Hp} {Q : XK} (h : ∀ (dd : Addr) (H' : Hp), Same H H' → H dd = none → H' dd = some (.xd [(f, v)]) → Q (.ref C) (some dd) H') :
    [v].length ≤ 1000 ∧ ∀ a, H a = none → spInit1 C f (.ref a :: ([v] ++ [])) (upd H a (exo a C none)) (fun w H2 => w = .non ∧ ∃ (d : Addr) (fs : List (Str × V)), H2 a = some (exo a C (some d)) ∧ H2 d = some (exd d fs) ∧ H d = none ∧ Q (.ref C) (some d) (upd (del H2 a) d (.xd fs))) (fun _ _ _ => False) := by
  refine ⟨(by show 1 ≤ 1000; decide), fun a na => ⟨a, v, rfl, upd_same, fun dx ndx nda => ⟨rfl, dx, [(f, v)], upd_same, ?_, ?_, ?_⟩⟩⟩
  · rw [upd_ne nda, upd_same]
  · rw [upd_ne nda] at ndx
    exact ndx
  · have nd0 : H dx = none := by
      rw [upd_ne nda] at ndx
      exact ndx
    refine h dx _ (fun b o e => ?_) nd0 upd_same
    have n1 : b ≠ dx := ne_of_none e nd0
    have n2 : b ≠ a := ne_of_none e na
    rw [upd_ne n1, del_ne n2, upd_ne n2, upd_ne n1, upd_ne n2]
    exact e
section
variable {σ : L2.St} {H : Hp} {Q : VK} {D : Ends} {K : PySem.W.Frag} {te : TE} {ta : TA}
theorem rd_vei {v : V} (h : ta σ H fun vs H1 => ∃ (a C : Addr) (ws : List V), vs = .ref a :: ws ∧ ws.length ≤ 1000 ∧ OexC K C ∧ H1 a = some (exo a C none) ∧ Q .non H1) : tVeI K ta σ H Q := h
theorem rd_ost {f : Str} {to : TE} (h : te σ H fun y H1 => to σ H1 fun x H2 => ∃ a C : Addr, x = .ref a ∧ OexC K C ∧ PySem.W.findIn K (.ref C) f = some none ∧
  ((H2 a = some (exo a C none) ∧ ∀ dx, H2 dx = none → dx ≠ a → D.nx σ (upd (upd H2 dx (exd dx [(f, y)])) a (exo a C (some dx)))) ∨
    ∃ (dx : Addr) (fs : List (Str × V)), H2 a = some (exo a C (some dx)) ∧ H2 dx = some (exd dx fs) ∧ fs.length ≤ 900 ∧ D.nx σ (upd H2 dx (exd dx ((f, y) :: fs))))) : tOst K f to te D σ H := h
end
/-! the class's facts, gathered -/
structure OwnX (K : PySem.W.Frag) (mg : Str → Option Value) (x : Str) (f : Str) (C CB fI : Addr) : Prop where
  gC : mg x = some (.ref C)
  ox : OexC K C
  no : PySem.W.findIn K (.ref C) f = some none
  iC : PySem.W.findIn K (.ref C) "__init__" = some (some (.ref fI))
  tI : PySem.W.typeIn K (.ref fI) = some (.type "function")
  xf : XfC K C
  gB : mg "InputError" = some (.ref CB)
  bi : BaseI K CB
  ex : PySem.W.exmOne K (.ref C) (.ref C) = some true
  eb : PySem.W.exmOne K (.ref C) (.ref CB) = some true
end U

/-! is_move of anything -/
namespace Law
open PySem PySem.Spec PyProof.Rows L2 U


/-- c: not a move by its form (o = none), or a text and a number -/
inductive CandAt (K : PySem.W.Frag) (H : Hp) : V → Option (Str × Int) → Prop
  | odd {c : V} {a : Ty} : TyIs K H c a → isT a .tup = false → CandAt K H c none
  | len {a : Addr} {xs : List V} : H a = some (.tup xs) → xs.length ≠ 2 → CandAt K H (.ref a) none
  | node {a : Addr} {x y : V} {t : Ty} : H a = some (.tup [x, y]) → TyIs K H x t → isT t .str = false → CandAt K H (.ref a) none
  | val {a : Addr} {x : Str} {y : V} {t : Ty} : H a = some (.tup [.str x, y]) → TyIs K H y t → t ≠ .int → CandAt K H (.ref a) none
  | mv {a : Addr} {x : Str} {v : Int} : H a = some (.tup [.str x, .int v]) → CandAt K H (.ref a) (some (x, v))
def spHasV (K : PySem.W.Frag) : Sp := fun vs H Q _ => ∃ (g n e : Addr) (x : V) (t : Ty) (ns : List Str) (es : List (Addr × Str × Str)), vs = [.ref g, x] ∧ GrAt H g n e ns es ∧ ((TyIs K H x t ∧ isT t .str = false ∧ Q (.bl false) H) ∨ ∃ s, x = .str s ∧ Q (.bl (decide (s ∈ ns))) H)
def spIsValV (K : PySem.W.Frag) : Sp := fun vs H Q _ => ∃ (y : V) (t : Ty), vs = [y] ∧ ((TyIs K H y t ∧ t ≠ .int ∧ Q (.bl false) H) ∨ ∃ v : Int, y = .int v ∧ Q (.bl (decide (0 ≤ v) && decide (v ≤ 2))) H)
section
variable {P : Program} {w : World} {K : PySem.W.Frag} {mg : Str → Option Value} {base : Heap}
theorem ok_hasV {f : Addr} {fd : FuncData} (F : Fun K "has_node" "has_node" s_has_node f fd) (B : Bt mg) : FnG P w K mg base CX0 1 f fd ["graph", "candidate"] (spHasV K) := by
  refine fnG0 F sc_has_node (fun vs H Q E h => ?_) (fun cdv A outer s H vs Q E hr h => ?_)
  · obtain ⟨g, n, e, x, t, ns, es, rfl, _⟩ := h
    rfl
  · obtain ⟨g, n, e, x, t, ns, es, rfl, hg, q⟩ := h
    have nd := sc_has_node.nd
    refine ⟨_, (pss_one (ps_ret (pe_and (pe_callB (kIsi K rfl) (by rfl) B.isinstance bb_isinstance (pa_cons (pv 1) (pa_cons (pe_ty rfl B.str bb_str) pa_nil))) (pe_one (pe_cmpR (kIn K rfl) (pv 1) (pe_ix (kIx K rfl) (pv 0) pe_int (fun _ _ => rfl)) rfl))))), ?_⟩
    wtm_at "rd"
    rcases q with ⟨ht, hs, q⟩ | ⟨s, rfl, q⟩
    · refine rd_isi ht (t := .str) (by decide +kernel) ?_
      rw [hs]
      wtm_at "rd"
      exact q
    refine rd_isi ty_str (t := .str) (by decide +kernel) ?_
    rw [show isT .str .str = true from by decide +kernel]
    wtm_at "rd"
    refine rd_ixT (SqT.of hg.top) (v := .ref n) rfl ?_
    refine rd_inST (SqT.of hg.nodes) ?_
    exact q
theorem ok_is_valueV {f : Addr} {fd : FuncData} (F : Fun K "is_value" "is_value" s_is_value f fd) (B : Bt mg) (C : C6 P w K mg base) : FnG P w K mg base CX0 2 f fd ["candidate"] (spIsValV K) := by
  refine fnG0 F sc_is_value (fun vs H Q E h => ?_) (fun cdv A outer s H vs Q E hr h => ?_)
  · obtain ⟨y, t, rfl, _⟩ := h
    rfl
  · obtain ⟨y, t, rfl, q⟩ := h
    have nd := sc_is_value.nd
    refine ⟨_, (pss_one (ps_ret (pe_and (pe_c C.is_integer hr (by decide) rfl (pa_cons (pv 0) pa_nil)) (pe_one (pe_chain uLe uLe pe_int (pv 0) pe_int))))), ?_⟩
    wtm_at "rd"
    rcases q with ⟨ht, hs, q⟩ | ⟨v, rfl, q⟩
    · refine ⟨_, t, rfl, ht, ?_⟩
      rw [decide_eq_false hs]
      wtm_at "rd"
      exact q
    refine ⟨_, .int, rfl, ty_int, ?_⟩
    wtm_at "rd"
    refine rd_T ?_
    wtm_at "rd"
    refine rd_split (fun c => ?_) (fun c => ?_)
    · wtm_at "rd"
      rw [decide_eq_true c, Bool.true_and] at q
      exact q
    · rw [decide_eq_false c, Bool.false_and] at q
      exact q
end
end Law

/-! calls with keywords and defaults of a def that may raise -/
namespace U
open PySem PySem.Spec PyProof.Rows L2
def tCK2 (sp : Sp) (np nk : Nat) (W : WX) (t tk : TA) : TE := fun σ H Q => t σ H fun vs H1 => vs.length = np ∧ tk σ H1 fun zs H2 => zs.length = nk ∧ sp (vs ++ zs) H2 Q fun cls d H' => W cls d σ H'
theorem pe_cKX {X : Cx} {W : WX} {k j : Nat} {x : Str} {np : Nat} {ks : List Str} {sp : Sp} {e : Expr} {es : List Expr} {kws : List Keyword} {t tk : TA} {p pos : Pos} (c : CalK X.prog X.w X.K X.mg X.base (L2.CX X.prog X.w) k x np ks sp) (hr : Rm j X.A) (hk : k ≤ j) (hg : Gl X x) (tx : Takes X W)
    (ha : PA X (e :: es) t) (hkw : PK X kws tk) (hall : (backToKw pos (keywordEach kws X.env)).all (·.1.isSome) = true := by rfl) (hks : (backToKw pos (keywordEach kws X.env)).filterMap (·.1) = ks := by rfl)
    (hdb : (x == ("__debug__" : Str)) = false := by decide) (he : starEach (e :: es) X.env = (false, eval e X.env) :: starEach es X.env := by rfl)
    (hpl : ((backTo pos (starEach (e :: es) X.env)).any (·.1) || (backToKw pos (keywordEach kws X.env)).any (·.1.isNone)) = false := by rfl) :
    PE X (.Call (.Name x p) (e :: es) kws pos) (tCK2 sp np ks.length W t tk) := by
  obtain ⟨f, fd, ps, F, hm, kp, b⟩ := c.ex
  refine ⟨fun pins s σ H Q I h => wpAny_Call_Name_kw (ld_glob I hg hm ?_ hdb)⟩
  refine PySem.W.callWith_KW (h₀ := X.base) I.ok.mod.kin kp hall (thn (ha.run pos pins s σ H _ I h) fun us s1 ⟨vs, H1, I1, r, hn, q⟩ => ?_) hpl he
  refine thn (hkw.run pos pins s1 σ H1 _ I1 q) fun ws s2 ⟨zs, H2, I2, rz, hz, q2⟩ => ⟨I2.kIn, ?_⟩
  rw [hks]
  have bd : BindsTo s2 fd ⟨us, ks.zip ws⟩ (ps.zip (us ++ ws)) := .of_eq (b us ws (by rw [← r.length]; exact hn) (by rw [← rz.length]; exact hz))
  refine wpAny_call (codeAny_mono (F.go X.A X.stack s2 H2 ⟨us, ks.zip ws⟩ (us ++ ws) (vs ++ zs) _ _ (hr.mono hk) I2.env0 bd (vals_app r rz) q2) ?_)
  intro res s' hq
  cases res with
  | error er => exact tx er s' (XE.of_call I2 (fun cls d H' z => z) hq)
  | ok fl =>
    cases fl with
    | ret u => exact I2.after hq
    | next => exact hq.elim
    | brk => exact hq.elim
    | cont => exact hq.elim
/-- an own error with one field, its __init__ done -/
structure ErrX (P : Program) (w : World) (K : PySem.W.Frag) (mg : Str → Option Value) (base : Heap) (x f : Str) (C CB : Addr) : Prop where
  ex : ∃ (fI : Addr) (fd : FuncData), OwnX K mg x f C CB fI ∧ FnOk P w K mg base CX0 1 fI fd ["self", f] (spInit1 C f) ∧ Binds K fd ["self", f] []
theorem ErrX.ow {P : Program} {w : World} {K : PySem.W.Frag} {mg : Str → Option Value} {base : Heap} {x f : Str} {C CB : Addr} (h : ErrX P w K mg base x f C CB) : ∃ fI, OwnX K mg x f C CB fI := by
  obtain ⟨fI, fd, o, _⟩ := h.ex
  exact ⟨fI, o⟩
/-- raise X(e): reading rd_rz, e's, rd_mk1 -/
def tRz (C : Addr) (f : Str) (te : TE) (W : WX) : TS := fun _ σ H => tMkO C (spInit1 C f) [] (tCons te tNil) σ H fun cls d H' => W cls d σ H'
theorem ps_rz {X : Cx} {W : WX} {j : Nat} {x f : Str} {C CB : Addr} {e : Expr} {te : TE} {p p2 pos : Pos} (T : ErrX X.prog X.w X.K X.mg X.base x f C CB) (hr : Rm j X.A) (hk : 2 ≤ j) (hc : X.calm = true) (tk : Takes X W) (hg : Gl X x) (he : PE X e te)
    (hdb : (x == ("__debug__" : Str)) = false := by decide) (hs : starEach [e] X.env = (false, eval e X.env) :: starEach [] X.env := by rfl) (hpl : (backTo p2 (starEach [] X.env)).any (·.1) = false := by rfl) :
    PS X (.Raise (some (.Call (.Name x p) [e] [] p2)) none pos) (tRz C f te W) := by
  obtain ⟨fI, fd, T1, F1, b⟩ := T.ex
  exact ps_raise (pos := pos) hc tk (pmk_oex (p := p) (pos := p2) (dvs := []) T1.ox T1.iC T1.tI F1 (hr.r.mono hk) b .nil pass0 hg T1.gC (pa_cons he pa_nil (hs := hs)) hdb hs hpl)
theorem rd_rz {C : Addr} {f : Str} {te : TE} {W : WX} {D : Ends} {σ : L2.St} {H : Hp} (h : tCons te tNil σ H fun vs H1 => vs.length ≤ 1000 ∧ ∀ a, H1 a = none → spInit1 C f (.ref a :: (vs ++ [])) (upd H1 a (exo a C none))
  (fun v H2 => v = .non ∧ ∃ (d : Addr) (fs : List (Str × V)), H2 a = some (exo a C (some d)) ∧ H2 d = some (exd d fs) ∧ H1 d = none ∧ W (.ref C) (some d) σ (upd (del H2 a) d (.xd fs))) (fun _ _ _ => False)) : tRz C f te W D σ H := h
end U

/-! apply_moves of anything -/
namespace Law
open PySem PySem.Spec PyProof.Rows L2 U


theorem rd_rz {C : Addr} {f : Str} {te : TE} {W : WX} {D : Ends} {σ : L2.St} {H : Hp} (h : tCons te tNil σ H fun vs H1 => vs.length ≤ 1000 ∧ ∀ a, H1 a = none → spInit1 C f (.ref a :: (vs ++ [])) (upd H1 a (exo a C none))
  (fun v H2 => v = .non ∧ ∃ (d : Addr) (fs : List (Str × V)), H2 a = some (exo a C (some d)) ∧ H2 d = some (exd d fs) ∧ H1 d = none ∧ W (.ref C) (some d) σ (upd (del H2 a) d (.xd fs))) (fun _ _ _ => False)) : tRz C f te W D σ H := h
theorem tyx_same {K : PySem.W.Frag} {H H' : Hp} {x : V} {t : Value} (h : TyX K H x t) (s : Same H H') : TyX K H' x t := by
  cases h with
  | base h =>
    cases h with
    | non => exact .base .non
    | bl x => exact .base (.bl x)
    | int x => exact .base (.int x)
    | str x => exact .base (.str x)
    | flt x => exact .base (.flt x)
    | lst e => exact .base (.lst (s _ _ e))
    | frz e => exact .base (.frz (s _ _ e))
    | tup e => exact .base (.tup (s _ _ e))
    | dK e => exact .base (.dK (s _ _ e))
    | dT e => exact .base (.dT (s _ _ e))
    | ins e a b c d f => exact .base (.ins (s _ _ e) a b c d f)
  | byt b => exact .byt b
  | set e => exact .set (s _ _ e)
  | kList e c => exact .kList e c
  | kTuple e c => exact .kTuple e c
  | kDict e c => exact .kDict e c
  | fTuple e => exact .fTuple (s _ _ e)
  | fDict e => exact .fDict (s _ _ e)
theorem CandAt.same {K : PySem.W.Frag} {H H' : Hp} {c : V} {o : Option (Str × Int)} (h : CandAt K H c o) (s : Same H H') : CandAt K H' c o := by
  cases h with
  | odd a b => exact .odd (tyx_same a s) b
  | len a b => exact .len (s _ _ a) b
  | node a b c => exact .node (s _ _ a) (tyx_same b s) c
  | val a b c => exact .val (s _ _ a) (tyx_same b s) c
  | mv a => exact .mv (s _ _ a)
section
variable {P : Program} {w : World} {K : PySem.W.Frag} {mg : Str → Option Value} {base : Heap}
end
end Law

namespace Law
open PySem PySem.Spec PyProof.Rows L2 U


section
variable {P : Program} {w : World} {K : PySem.W.Frag} {mg : Str → Option Value} {base : Heap}
end
end Law

namespace Law
open PySem PySem.Spec PyProof.Rows L2 U


def spSlope : Sp := fun vs H Q _ => ∃ (st : Addr) (a b : Str) (ord : List Str) (f : Str → Int), vs = [.ref st, .str a, .str b] ∧ Rd H st (.dK (kvF ord f)) ∧ a ∈ ord ∧ b ∈ ord ∧ Q (.int (slp f a b)) H
section
variable {P : Program} {w : World} {K : PySem.W.Frag} {mg : Str → Option Value} {base : Heap}
structure D1c (mg : Str → Option Value) : Prop where
  UP : ∃ u, mg "UP" = some u ∧ RelV (.int 1) u
  DOWN : ∃ u, mg "DOWN" = some u ∧ RelV (.int (-1)) u
theorem ok_slope {f : Addr} {fd : FuncData} (F : Fun K "slope" "slope" s_slope f fd) (B : Bt mg) (C : D1c mg) : FnG P w K mg base CX0 1 f fd ["state", "node", "neighbor"] spSlope := by
  refine fnG0 F sc_slope (fun vs H Q E h => ?_) (fun cdv A outer s H vs Q E hr h => ?_)
  · obtain ⟨st, a, b, ord, f, rfl, _⟩ := h
    rfl
  · obtain ⟨st, a, b, ord, f, rfl, hst, ha, hb, q⟩ := h
    have nd := sc_slope.nd
    have hu := hr.u1
    refine ⟨_, (pss_one (ps_ret (pe_ifExp (pt_cmpR (kEq K rfl hr.u64) (pe_op uMod (pe_op uSub (pe_dget hu (pv 0) (pv 2) (fun _ _ => rfl)) (pe_dget hu (pv 0) (pv 1) (fun _ _ => rfl))) pe_int) pe_int (nomark _)) (pe_gl rfl C.UP) (pe_gl rfl C.DOWN)))), ?_⟩
    wtm_at "rd"
    refine rd_dat hst (kvF_val hb) rfl ?_
    wtm_at "rd"
    refine rd_dat hst (kvF_val ha) rfl ?_
    wtm_at "rd"
    unfold slp at q
    refine rd_split (fun c => ?_) (fun c => ?_)
    · rw [if_pos c] at q
      exact q
    · rw [if_neg c] at q
      exact q
end
end Law

/-! paths found level by level: the plain law -/
namespace U
open PySem PySem.Spec PyProof.Rows L2
/-- nodes found, each with its path, in the order in which they are found -/
abbrev keysF (kp : List (Str × List Str)) : List Str := kp.map (·.1)
def addF (ok : Str → Str → Bool) (c : Str × List Str) (kp : List (Str × List Str)) (o : Str) : List (Str × List Str) := if o ∉ keysF kp ∧ ok c.1 o = true then kp ++ [(o, c.2 ++ [o])] else kp
def addsF (ok : Str → Str → Bool) (c : Str × List Str) (os : List Str) (kp : List (Str × List Str)) : List (Str × List Str) := os.foldl (addF ok c) kp
def stF (adj : Str → List Str) (ok : Str → Str → Bool) (root : Str) : Nat → List (Str × List Str)
  | 0 => [(root, [root])]
  | i + 1 => match (stF adj ok root i)[i]? with
    | none => stF adj ok root i
    | some c => addsF ok c (adj c.1) (stF adj ok root i)
def pathsF (adj : Str → List Str) (ok : Str → Str → Bool) (root : Str) : List (Str × List Str) := stF adj ok root 1000
inductive Reach (adj : Str → List Str) (ok : Str → Str → Bool) (root : Str) : Str → Prop
  | refl : Reach adj ok root root
  | step {a b : Str} : Reach adj ok root a → b ∈ adj a → ok a b = true → Reach adj ok root b
theorem Reach.trans {adj : Str → List Str} {ok : Str → Str → Bool} {a b c : Str} (h : Reach adj ok a b) (k : Reach adj ok b c) : Reach adj ok a c := by
  induction k with
  | refl => exact h
  | step _ m o ih => exact .step ih m o
section
variable {adj : Str → List Str} {ok : Str → Str → Bool} {root : Str}
theorem addF_cases (c : Str × List Str) (kp : List (Str × List Str)) (o : Str) : (addF ok c kp o = kp ∧ (o ∈ keysF kp ∨ ok c.1 o = false)) ∨ (addF ok c kp o = kp ++ [(o, c.2 ++ [o])] ∧ o ∉ keysF kp ∧ ok c.1 o = true) := by
  unfold addF
  by_cases h : o ∉ keysF kp ∧ ok c.1 o = true
  · rw [if_pos h]
    exact .inr ⟨rfl, h⟩
  · rw [if_neg h]
    refine .inl ⟨rfl, ?_⟩
    by_cases m : o ∈ keysF kp
    · exact .inl m
    · refine .inr ?_
      cases e : ok c.1 o with
      | false => rfl
      | true => exact (h ⟨m, e⟩).elim
theorem addsF_snoc {c : Str × List Str} {os : List Str} {o : Str} {kp : List (Str × List Str)} : addsF ok c (os ++ [o]) kp = addF ok c (addsF ok c os kp) o := by
  unfold addsF
  rw [List.foldl_append]
  rfl
theorem addsF_pre {c : Str × List Str} : ∀ {os : List Str} {kp : List (Str × List Str)}, ∃ r, addsF ok c os kp = kp ++ r
  | [], kp => ⟨[], (List.append_nil kp).symm⟩
  | o :: os, kp => by
    obtain ⟨r, hr⟩ := addsF_pre (c := c) (os := os) (kp := addF ok c kp o)
    have e : addsF ok c (o :: os) kp = addsF ok c os (addF ok c kp o) := rfl
    rw [e, hr]
    rcases addF_cases c kp o with ⟨h, _⟩ | ⟨h, _⟩
    · rw [h]
      exact ⟨r, rfl⟩
    · rw [h, List.append_assoc]
      exact ⟨_, rfl⟩
/-- what is added: each a neighbour that may be gone to -/
theorem addsF_mem {c : Str × List Str} : ∀ {os : List Str} {kp : List (Str × List Str)} {x : Str × List Str}, x ∈ addsF ok c os kp → x ∈ kp ∨ (x.1 ∈ os ∧ ok c.1 x.1 = true ∧ x.2 = c.2 ++ [x.1])
  | [], kp, x, h => .inl h
  | o :: os, kp, x, h => by
    have e : addsF ok c (o :: os) kp = addsF ok c os (addF ok c kp o) := rfl
    rw [e] at h
    rcases addsF_mem h with h | ⟨h1, h2, h3⟩
    · rcases addF_cases c kp o with ⟨e, _⟩ | ⟨e, _, k⟩
      · rw [e] at h
        exact .inl h
      · rw [e] at h
        rcases List.mem_append.mp h with h | h
        · exact .inl h
        · rw [List.mem_singleton] at h
          subst h
          exact .inr ⟨List.mem_cons_self, k, rfl⟩
    · exact .inr ⟨List.mem_cons_of_mem _ h1, h2, h3⟩
theorem addsF_all {c : Str × List Str} : ∀ {os : List Str} {kp : List (Str × List Str)} {o : Str}, o ∈ os → ok c.1 o = true → o ∈ keysF (addsF ok c os kp)
  | o' :: os, kp, o, h, k => by
    have e : addsF ok c (o' :: os) kp = addsF ok c os (addF ok c kp o') := rfl
    rw [e]
    rcases List.mem_cons.mp h with rfl | h
    · obtain ⟨r, hr⟩ := addsF_pre (ok := ok) (c := c) (os := os) (kp := addF ok c kp o)
      rw [hr, keysF, List.map_append]
      refine List.mem_append_left _ ?_
      rcases addF_cases c kp o with ⟨e, m⟩ | ⟨e, _⟩
      · rw [e]
        rcases m with m | m
        · exact m
        · rw [k] at m
          cases m
      · rw [e, List.map_append]
        exact List.mem_append_right _ List.mem_cons_self
    · exact addsF_all h k
theorem addF_nodup {c : Str × List Str} {kp : List (Str × List Str)} {o : Str} (h : (keysF kp).Nodup) : (keysF (addF ok c kp o)).Nodup := by
  rcases addF_cases c kp o with ⟨e, _⟩ | ⟨e, m, _⟩
  · rw [e]
    exact h
  · rw [e, keysF, List.map_append, List.nodup_append]
    refine ⟨h, by simp, fun a ha b hb z => ?_⟩
    have : b = o := by simpa using hb
    rw [z, this] at ha
    exact m ha
theorem addsF_nodup {c : Str × List Str} : ∀ {os : List Str} {kp : List (Str × List Str)}, (keysF kp).Nodup → (keysF (addsF ok c os kp)).Nodup
  | [], _, h => h
  | o :: os, kp, h => addsF_nodup (os := os) (addF_nodup h)
theorem stF_at {i : Nat} {c : Str × List Str} (h : (stF adj ok root i)[i]? = some c) : stF adj ok root (i + 1) = addsF ok c (adj c.1) (stF adj ok root i) := by
  rw [stF, h]
theorem stF_end {i : Nat} (h : (stF adj ok root i)[i]? = none) : stF adj ok root (i + 1) = stF adj ok root i := by
  rw [stF, h]
theorem stF_pre (i : Nat) : ∃ r, stF adj ok root (i + 1) = stF adj ok root i ++ r := by
  cases h : (stF adj ok root i)[i]? with
  | none => rw [stF_end h]; exact ⟨[], (List.append_nil _).symm⟩
  | some c => rw [stF_at h]; exact addsF_pre
theorem stF_pre' (i : Nat) : ∀ k, ∃ r, stF adj ok root (i + k) = stF adj ok root i ++ r
  | 0 => ⟨[], (List.append_nil _).symm⟩
  | k + 1 => by
    obtain ⟨r, hr⟩ := stF_pre' i k
    obtain ⟨r2, h2⟩ := stF_pre (adj := adj) (ok := ok) (root := root) (i + k)
    exact ⟨r ++ r2, by rw [← Nat.add_assoc, h2, hr, List.append_assoc]⟩
theorem stF_stop {i : Nat} (h : (stF adj ok root i).length ≤ i) : ∀ k, stF adj ok root (i + k) = stF adj ok root i
  | 0 => rfl
  | k + 1 => by
    have e := stF_stop h k
    rw [← Nat.add_assoc, stF_end (by rw [e]; exact List.getElem?_eq_none (by omega)), e]
theorem stF_nodup : ∀ i, (keysF (stF adj ok root i)).Nodup
  | 0 => by simp [stF]
  | i + 1 => by
    cases h : (stF adj ok root i)[i]? with
    | none => rw [stF_end h]; exact stF_nodup i
    | some c => rw [stF_at h]; exact addsF_nodup (stF_nodup i)
theorem stF_root (i : Nat) : ∃ r, stF adj ok root i = (root, [root]) :: r := by
  obtain ⟨r, h⟩ := stF_pre' (adj := adj) (ok := ok) (root := root) 0 i
  rw [Nat.zero_add] at h
  exact ⟨r, h⟩
/-- a path: from the first to the last, each step to a neighbour that may be gone to -/
inductive PathTo (adj : Str → List Str) (ok : Str → Str → Bool) (root : Str) : Str → List Str → Prop
  | one : PathTo adj ok root root [root]
  | snoc {a b : Str} {p : List Str} : PathTo adj ok root a p → b ∈ adj a → ok a b = true → PathTo adj ok root b (p ++ [b])
theorem PathTo.reach {a : Str} {p : List Str} (h : PathTo adj ok root a p) : Reach adj ok root a := by
  induction h with
  | one => exact .refl
  | snoc _ m o ih => exact .step ih m o
theorem stF_path : ∀ i x, x ∈ stF adj ok root i → PathTo adj ok root x.1 x.2
  | 0, x, h => by
    rw [stF, List.mem_singleton] at h
    subst h
    exact .one
  | i + 1, x, h => by
    cases e : (stF adj ok root i)[i]? with
    | none => rw [stF_end e] at h; exact stF_path i x h
    | some c =>
      rw [stF_at e] at h
      rcases addsF_mem h with h | ⟨h1, h2, h3⟩
      · exact stF_path i x h
      · have := stF_path i c (List.mem_of_getElem? e)
        rw [h3]
        exact .snoc this h1 h2
theorem stF_reach {i : Nat} {x : Str} (h : x ∈ keysF (stF adj ok root i)) : Reach adj ok root x := by
  obtain ⟨y, hy, rfl⟩ := List.mem_map.mp h
  exact (stF_path i y hy).reach
/-- those whose turn has been have their neighbours found -/
theorem stF_closed : ∀ (i j : Nat) (c : Str × List Str), j < i → (stF adj ok root i)[j]? = some c → ∀ b ∈ adj c.1, ok c.1 b = true → b ∈ keysF (stF adj ok root i)
  | i + 1, j, c, hj, hc, b, hb, hk => by
    cases e : (stF adj ok root i)[i]? with
    | none =>
      rw [stF_end e] at hc ⊢
      have : j < (stF adj ok root i).length := (List.getElem?_eq_some_iff.mp hc).1
      have := List.getElem?_eq_none_iff.mp e
      exact stF_closed i j c (by omega) hc b hb hk
    | some d =>
      have li : i < (stF adj ok root i).length := (List.getElem?_eq_some_iff.mp e).1
      obtain ⟨r, hr⟩ := stF_pre (adj := adj) (ok := ok) (root := root) i
      have hc2 : (stF adj ok root i)[j]? = some c := by
        rw [hr, List.getElem?_append_left (by omega)] at hc
        exact hc
      by_cases q : j < i
      · have := stF_closed i j c q hc2 b hb hk
        rw [hr, keysF, List.map_append]
        exact List.mem_append_left _ this
      · have : j = i := by omega
        subst this
        rw [hc2] at e
        cases e
        rw [stF_at hc2]
        exact addsF_all hb hk
theorem stF_all {i : Nat} (h : (stF adj ok root i).length ≤ i) {x : Str} (r : Reach adj ok root x) : x ∈ keysF (stF adj ok root i) := by
  induction r with
  | refl =>
    obtain ⟨r, e⟩ := stF_root (adj := adj) (ok := ok) (root := root) i
    rw [e]
    exact List.mem_cons_self
  | step _ m o ih =>
    obtain ⟨y, hy, rfl⟩ := List.mem_map.mp ih
    obtain ⟨j, hj, e⟩ := List.mem_iff_getElem.mp hy
    exact stF_closed i j y (by omega) (by rw [List.getElem?_eq_getElem hj, e]) _ m o
/-- nodes of ns alone -/
theorem reach_mem {ns : List Str} (cl : ∀ x ∈ ns, ∀ y ∈ adj x, y ∈ ns) (h0 : root ∈ ns) {x : Str} (r : Reach adj ok root x) : x ∈ ns := by
  induction r with
  | refl => exact h0
  | step _ m _ ih => exact cl _ ih _ m
theorem nodup_len {α : Type} [DecidableEq α] : ∀ {xs ys : List α}, xs.Nodup → (∀ x ∈ xs, x ∈ ys) → xs.length ≤ ys.length
  | [], _, _, _ => Nat.zero_le _
  | x :: xs, ys, nd, h => by
    rw [List.nodup_cons] at nd
    have hx := h x List.mem_cons_self
    have := nodup_len (xs := xs) (ys := ys.erase x) nd.2 fun y hy => by
      refine (List.mem_erase_of_ne ?_).mpr (h y (List.mem_cons_of_mem _ hy))
      rintro rfl
      exact nd.1 hy
    rw [List.length_erase_of_mem hx] at this
    have : 0 < ys.length := List.length_pos_of_mem hx
    rw [List.length_cons]
    omega
theorem stF_len {ns : List Str} (cl : ∀ x ∈ ns, ∀ y ∈ adj x, y ∈ ns) (h0 : root ∈ ns) (i : Nat) : (stF adj ok root i).length ≤ ns.length := by
  have := nodup_len (stF_nodup (adj := adj) (ok := ok) (root := root) i) (ys := ns) fun x hx => reach_mem cl h0 (stF_reach hx)
  rw [List.length_map] at this
  exact this
theorem addsF_len {c : Str × List Str} : ∀ {os : List Str} {kp : List (Str × List Str)}, (addsF ok c os kp).length ≤ kp.length + os.length
  | [], kp => Nat.le_refl _
  | o :: os, kp => by
    have e : addsF ok c (o :: os) kp = addsF ok c os (addF ok c kp o) := rfl
    have := addsF_len (c := c) (os := os) (kp := addF ok c kp o)
    rw [e, List.length_cons]
    rcases addF_cases c kp o with ⟨z, _⟩ | ⟨z, _⟩ <;> rw [z] at this
    · rw [z]
      omega
    · rw [z]
      rw [List.length_append, List.length_singleton] at this
      omega
theorem stF_plen : ∀ i x, x ∈ stF adj ok root i → x.2.length ≤ i + 1
  | 0, x, h => by
    rw [stF, List.mem_singleton] at h
    subst h
    exact Nat.le_refl _
  | i + 1, x, h => by
    cases e : (stF adj ok root i)[i]? with
    | none =>
      rw [stF_end e] at h
      have := stF_plen i x h
      omega
    | some c =>
      rw [stF_at e] at h
      rcases addsF_mem h with h | ⟨h1, h2, h3⟩
      · have := stF_plen i x h
        omega
      · have := stF_plen i c (List.mem_of_getElem? e)
        rw [h3, List.length_append, List.length_singleton]
        omega
/-- where the loop ends, all is found -/
theorem stF_done {i : Nat} (h : (stF adj ok root i).length ≤ i) (hi : i ≤ 1000) : stF adj ok root i = pathsF adj ok root := by
  have e := stF_stop h (1000 - i)
  rw [Nat.add_sub_cancel' hi] at e
  exact e.symm
end

/-! ### neighbours in order -/
def sortS (xs : List Str) : List Str := xs.mergeSort fun a b => !decide (sLt b a)
theorem sortS_perm (xs : List Str) : (sortS xs).Perm xs := List.mergeSort_perm xs _
theorem nlt_trans {a b c : Str} (h : ¬ sLt b a) (k : ¬ sLt c b) : ¬ sLt c a := by
  intro z
  rcases sLt_tri a b with t | t | t
  · exact k (sLt_trans z t)
  · subst t
    exact k z
  · exact h t
theorem sortS_pw (xs : List Str) : (sortS xs).Pairwise fun a b => ¬ sLt b a := by
  have := List.pairwise_mergeSort (le := fun a b : Str => !decide (sLt b a)) (fun a b c h k => by
    simp only [Bool.not_eq_true', decide_eq_false_iff_not] at h k ⊢
    exact nlt_trans h k) (fun a b => by
    rw [Bool.or_eq_true]
    simp only [Bool.not_eq_true', decide_eq_false_iff_not]
    by_cases z : sLt b a
    · exact .inr (sLt_asymm z)
    · exact .inl z) xs
  exact this.imp fun h => by
    simp only [Bool.not_eq_true', decide_eq_false_iff_not] at h
    exact h
theorem sortS_asc {xs : List Str} (nd : xs.Nodup) : Asc (sortS xs) := asc_of_sorted (sortS_pw xs) ((sortS_perm xs).nodup_iff.mpr nd)
theorem sort_uniq {xs ys : List Str} (p : ys.Perm xs) (s : ys.Pairwise fun a b => ¬ sLt b a) (nd : xs.Nodup) : ys = sortS xs :=
  asc_unique (asc_of_sorted s (p.nodup_iff.mpr nd)) (sortS_asc nd) fun z => by rw [p.mem_iff, (sortS_perm xs).mem_iff]
theorem nbrF_nodup {ns : List Str} {es : List (Str × Str)} (ok : GrOk ns es) (x : Str) : (nbrF es x).Nodup := by
  unfold nbrF
  rw [List.nodup_iff_pairwise_ne, List.pairwise_flatMap]
  have m : ∀ {e : Str × Str} {z : Str}, z ∈ (if e.1 = x then [e.2] else []) ++ (if e.2 = x then [e.1] else []) → (e.1 = x ∧ z = e.2) ∨ (e.2 = x ∧ z = e.1) := by
    intro e z h
    rcases List.mem_append.mp h with h | h
    · split at h
      · rename_i c
        exact .inl ⟨c, by simpa using h⟩
      · cases h
    · split at h
      · rename_i c
        exact .inr ⟨c, by simpa using h⟩
      · cases h
  refine ⟨fun e he => ?_, ?_⟩
  · by_cases c : e.1 = x
    · have c2 : ¬ e.2 = x := fun z => by
        have := ok.lt e he
        rw [c, z] at this
        exact sLt_irrefl _ this
      rw [if_pos c, if_neg c2]
      simp
    · rw [if_neg c]
      split <;> simp
  · have nd := List.nodup_iff_pairwise_ne.mp (ascE_nodup ok.asc)
    refine List.Pairwise.imp_of_mem (fun {e d} he hd ne => ?_) nd
    intro z hz y hy zy
    subst zy
    have le := ok.lt e he
    have ld := ok.lt d hd
    rcases m hz with ⟨a1, a2⟩ | ⟨a1, a2⟩ <;> rcases m hy with ⟨b1, b2⟩ | ⟨b1, b2⟩
    · exact ne (Prod.ext (a1.trans b1.symm) (a2.symm.trans b2))
    · rw [a1, ← a2] at le
      rw [b1, ← b2] at ld
      exact sLt_asymm le ld
    · rw [a1, ← a2] at le
      rw [b1, ← b2] at ld
      exact sLt_asymm le ld
    · exact ne (Prod.ext (a2.symm.trans b2) (a1.trans b1.symm))
def nbS (es : List (Str × Str)) (x : Str) : List Str := sortS (nbrF es x)
theorem nbS_mem {es : List (Str × Str)} {x z : Str} : z ∈ nbS es x ↔ (x, z) ∈ es ∨ (z, x) ∈ es := by
  unfold nbS
  rw [(sortS_perm _).mem_iff]
  exact mem_nbrF
theorem nbS_of {ns : List Str} {es : List (Str × Str)} {x : Str} {ys : List Str} (ok : GrOk ns es) (p : ys.Perm (nbrF es x)) (s : ys.Pairwise fun a b => ¬ sLt b a) : ys = nbS es x := sort_uniq p s (nbrF_nodup ok x)
theorem nbS_in {ns : List Str} {es : List (Str × Str)} (ok : GrOk ns es) {x y : Str} (h : y ∈ nbS es x) : y ∈ ns := by
  rcases nbS_mem.mp h with h | h
  · exact (ok.mem _ h).2
  · exact (ok.mem _ h).1
end U

/-! paths found level by level: paths_from, sloped_paths -/
namespace Law
open PySem PySem.Spec PyProof.Rows L2 U


theorem rd_disp {σ : L2.St} {H : Hp} {Q : VK} {tk tv : TE} (h : ∀ p, H p = none → tk σ (upd H p (.dK [])) fun x H1 => tv σ H1 fun y H2 => H2 p = some (.dK []) ∧ ∃ kvs : List (Key × V), [(x, y)] = kvs.map (fun kv => (kV kv.1, kv.2)) ∧ kvs.length ≤ 15 ∧ Q (.ref p) (upd H2 p (.dK (mergeK [] kvs)))) : tDisp [(tk, tv)] σ H Q := h
theorem rd_dispE {H2 : Hp} {p : Addr} {x y : V} {k : Key} {R : List (Key × V) → Prop} (hx : x = kV k) (h0 : H2 p = some (.dK [])) (q : R [(k, y)]) : H2 p = some (.dK []) ∧ ∃ kvs : List (Key × V), [(x, y)] = kvs.map (fun kv => (kV kv.1, kv.2)) ∧ kvs.length ≤ 15 ∧ R kvs :=
  ⟨h0, [(k, y)], by rw [hx]; rfl, (by show 1 ≤ 15; decide), q⟩
theorem rd_augI {n : Nat} {i : Int} {g : Int → Int → Int} {te : TE} {D : Ends} {σ : L2.St} {H : Hp} (hv : σ[n]? = some (some (.int i))) (h : te σ H fun y H1 => ipI g (.int i) y H1 fun z H2 => D.nx (σ.set n (some z)) H2) : tAug n te (ipI g) D σ H := ⟨_, hv, h⟩
theorem rd_ipI {g : Int → Int → Int} {i j : Int} {H : Hp} {Q : VK} (h : Q (.int (g i j)) H) : ipI g (.int i) (.int j) H Q := ⟨i, j, rfl, rfl, h⟩
theorem AdjAt.at {H : Hp} {d : Addr} {ns : List Str} {es : List (Str × Str)} {A : Str → Addr} (h : AdjAt H d ns es A) (ok : GrOk ns es) {n : Str} (hn : n ∈ ns) : H (A n) = some (.lst ((nbS es n).map V.str)) := by
  obtain ⟨ys, h1, h2, h3⟩ := h.li n hn
  rw [← nbS_of ok h2 h3]
  exact h1
/-- paths found stand at d -/
structure PathsAt (H : Hp) (d : Addr) (kp : List (Str × List Str)) (A : Str → Addr) : Prop where
  di : H d = some (.dK (kvG (keysF kp) fun n => .ref (A n)))
  li : ∀ c ∈ kp, H (A c.1) = some (.lst (c.2.map V.str))
theorem PathsAt.same {H H' : Hp} {d : Addr} {kp : List (Str × List Str)} {A : Str → Addr} (h : PathsAt H d kp A) (s : Same H H') : PathsAt H' d kp A := ⟨s _ _ h.di, fun c hc => s _ _ (h.li c hc)⟩
theorem kvG_congr {ns : List Str} {F G : Str → V} (h : ∀ n ∈ ns, F n = G n) : kvG ns F = kvG ns G := List.map_congr_left fun n hn => by rw [h n hn]
/-- one more path -/
theorem PathsAt.put {H : Hp} {d t : Addr} {kp : List (Str × List Str)} {A : Str → Addr} {o : Str} {p : List Str} (h : PathsAt H d kp A) (no : o ∉ keysF kp) (ht : H t = some (.lst (p.map V.str))) :
    PathsAt (upd H d (.dK (putK (kvG (keysF kp) fun n => .ref (A n)) (.inr o) (.ref t)))) d (kp ++ [(o, p)]) (updV A o t) := by
  refine ⟨?_, fun c hc => ?_⟩
  · rw [upd_same, kvG_new no, show keysF (kp ++ [(o, p)]) = keysF kp ++ [o] from List.map_append]
    congr 2
    refine kvG_congr fun m _ => ?_
    unfold updV
    by_cases z : m = o
    · rw [if_pos z, if_pos z]
    · rw [if_neg z, if_neg z]
  · unfold updV
    rcases List.mem_append.mp hc with hc | hc
    · rw [if_neg (fun z => no (by rw [← z]; exact List.mem_map_of_mem hc))]
      exact at_upd (ne_of (h.li c hc) h.di (by intro z; cases z)) (h.li c hc)
    · rw [List.mem_singleton] at hc
      subst hc
      rw [if_pos rfl]
      exact at_upd (ne_of ht h.di (by intro z; cases z)) ht
theorem PathsAt.off {H : Hp} {d q : Addr} {kp : List (Str × List Str)} {A : Str → Addr} {xs ys : List V} (h : PathsAt H d kp A) (hq : H q = some (.lst xs)) (off : ∀ c ∈ kp, A c.1 ≠ q) : PathsAt (upd H q (.lst ys)) d kp A :=
  ⟨at_upd (ne_of h.di hq (by intro z; cases z)) h.di, fun c hc => at_upd (off c hc) (h.li c hc)⟩
def slOk (f : Str → Int) (dir : Int) (a b : Str) : Bool := decide (slp f a b = dir)
abbrev slF (es : List (Str × Str)) (f : Str → Int) (dir : Int) (x : Str) : List (Str × List Str) := pathsF (nbS es) (slOk f dir) x
def spSloped : Sp := fun vs H Q _ => ∃ (g n e st : Addr) (x : Str) (dir : Int) (ns ord : List Str) (es : List (Addr × Str × Str)) (f : Str → Int), vs = [.ref g, .ref st, .str x, .int dir] ∧ GSt H g n e st ns ord es f ∧ x ∈ ns ∧
  ∀ (d : Addr) (A : Str → Addr) (H' : Hp), Same H H' → H d = none → (∀ c ∈ slF (es.map (·.2)) f dir x, H (A c.1) = none) → PathsAt H' d (slF (es.map (·.2)) f dir x) A → Q (.ref d) H'
section
variable {P : Program} {w : World} {K : PySem.W.Frag} {mg : Str → Option Value} {base : Heap}
structure B1c (P : Program) (w : World) (K : PySem.W.Frag) (mg : Str → Option Value) (base : Heap) : Prop where
  adjacency : Cal P w K mg base CX0 1 "adjacency" spAdj
  slope : Cal P w K mg base CX0 1 "slope" spSlope
theorem ok_sloped {f : Addr} {fd : FuncData} (F : Fun K "sloped_paths" "sloped_paths" s_sloped_paths f fd) (B : Bt mg) (C : B1c P w K mg base) : FnG P w K mg base CX0 2 f fd ["graph", "state", "node", "direction"] spSloped := by
  refine fnG0 F sc_sloped_paths (fun vs H Q E h => ?_) (fun cdv A outer s H vs Q E hr h => ?_)
  · obtain ⟨g, n, e, st, x, dir, ns, ord, es, f, rfl, _⟩ := h
    rfl
  · obtain ⟨g, n, e, st, x, dir, ns, ord, es, f, rfl, gs, hx, q⟩ := h
    have nd := sc_sloped_paths.nd
    have hu := hr.u1
    refine ⟨_, (pss_cons (ps_set (i := 4) nd rfl (by first | exact Or.inl rfl | exact Or.inr rfl) (pe_c C.adjacency hr (by decide) rfl (pa_cons (pv 0) pa_nil)))
  (pss_cons (ps_set (i := 5) nd rfl (by first | exact Or.inl rfl | exact Or.inr rfl) (pe_disp (pps_cons (pv 2) (pe_lst (pa_cons (pv 2) pa_nil)) pps_nil) (by rfl) (by rfl) (fun z => by cases z) (by decide)))
  (pss_cons (ps_set (i := 6) nd rfl (by first | exact Or.inl rfl | exact Or.inr rfl) (pe_lst (pa_cons (pv 2) pa_nil)))
  (pss_cons (ps_set (i := 7) nd rfl (by first | exact Or.inl rfl | exact Or.inr rfl) pe_int)
  (pss_cons (ps_while PassesOwn.never (pt_cmpR uLt (pv 7) (pe_callB (kLen K rfl) (by rfl) B.len bb_len (pa_cons (pv 6) pa_nil)) (nomark _)) (pss_cons (ps_set (i := 8) nd rfl (by first | exact Or.inl rfl | exact Or.inr rfl) (pe_ix (kIx K rfl) (pv 6) (pv 7) (fun _ _ => rfl)))
  (pss_cons (ps_aug (i := 7) nd rfl (Or.inl rfl) pe_int ip_add)
  (pss_one (ps_for PassesOwn.never rfl (ki_list K rfl (pe_dget hu (pv 4) (pv 8) (fun _ _ => rfl))) (pg_name (i := 9) nd rfl (by first | exact Or.inl rfl | exact Or.inr rfl)) (pss_one (ps_if (PW.pt (pw_and (pt_cmp (pc_dnotin hu (pv 9) (pv 5))) (pw_and1 (pt_cmpR (kEq K rfl hr.u64) (pe_c C.slope hr (by decide) rfl (pa_cons (pv 1) (pa_cons (pv 8) (pa_cons (pv 9) pa_nil)))) (pv 3) (nomark _))))) (pss_cons (ps_dput hu (pv 5) (pv 9) (pe_op (kAdd K rfl) (pe_dget hu (pv 5) (pv 8) (fun _ _ => rfl)) (pe_lst (pa_cons (pv 9) pa_nil))) rfl)
  (pss_one (ps_expr (pe_bm PySem.F.plainAttrs_list PySem.F.slot_list_append PySem.F.type_list_append mt_append (pv 6) (pa_cons (pv 9) pa_nil))))) pss_nil)))))))
  (pss_one (ps_ret (pv 5)))))))), ?_⟩
    wtm_at "rd"
    refine ⟨g, n, e, ns, es, rfl, gs.grs, fun ad Ad H1 s1 _ had => ?_⟩
    have gs1 := gs.same s1
    wtm_at "rd"
    refine rd_disp fun D fD => ?_
    wtm_at "rd"
    intro t ft
    have ntD := new_ne ft
    refine rd_dispE (x := .str x) (y := .ref t) (k := .inr x) rfl (at_upd (Ne.symm ntD) upd_same) ?_
    rw [show mergeK [] [((Sum.inr x : Key), V.ref t)] = [(Sum.inr x, V.ref t)] from rfl]
    have s2 : Same H1 (upd (upd (upd H1 D (.dK [])) t (.lst [.str x])) D (.dK [(.inr x, .ref t)])) := same_put (same_add (Same.new fD) ft) fD
    have ft1 := new_of_same (Same.new (o := .dK []) fD) ft
    have pa : PathsAt (upd (upd (upd H1 D (.dK [])) t (.lst [.str x])) D (.dK [(.inr x, .ref t)])) D (stF (nbS (es.map (·.2))) (slOk f dir) x 0) fun _ => t := ⟨upd_same, fun c hc => by
      rw [stF, List.mem_singleton] at hc
      subst hc
      exact at_upd ntD upd_same⟩
    generalize upd (upd (upd H1 D (.dK [])) t (.lst [.str x])) D (.dK [(.inr x, .ref t)]) = H2 at s2 pa
    wtm_at "rd"
    intro qa fq
    have fq1 := new_of_same s2 fq
    have s3 := same_add (o := .lst [.str x]) s2 fq
    have nDq : D ≠ qa := ne_of_none pa.di fq
    have pa3 := pa.same (Same.new (o := .lst [.str x]) fq)
    have ntq : t ≠ qa := ne_of_none (pa.li (x, [x]) List.mem_cons_self) fq
    have hq3 := @upd_same H2 qa (.lst [.str x])
    generalize upd H2 qa (.lst [.str x]) = H3 at s3 pa3 hq3
    wtm_at "rd"
    have cl : ∀ a ∈ ns, ∀ b ∈ nbS (es.map (·.2)) a, b ∈ ns := fun a _ b hb => nbS_in gs.ok hb
    refine ⟨fun m σ H' => ∃ (i : Nat) (A : Str → Addr) (u8 u9 : Option V), m = ns.length + 1 - i ∧ i ≤ ns.length ∧ σ = [some (.ref g), some (.ref st), some (.str x), some (.int dir), some (.ref ad), some (.ref D), some (.ref qa), some (.int i), u8, u9] ∧ Same H1 H' ∧
      PathsAt H' D (stF (nbS (es.map (·.2))) (slOk f dir) x i) A ∧ (∀ c ∈ stF (nbS (es.map (·.2))) (slOk f dir) x i, H1 (A c.1) = none ∧ A c.1 ≠ qa) ∧ H' qa = some (.lst ((keysF (stF (nbS (es.map (·.2))) (slOk f dir) x i)).map V.str)),
      ⟨_, 0, fun _ => t, _, _, rfl, Nat.zero_le _, rfl, s3, pa3, fun c _ => ⟨ft1, ntq⟩, hq3⟩, ?_⟩
    rintro m σ H' ⟨i, A, u8, u9, rfl, il, rfl, s, pa, fr, hq⟩
    have sl := stF_len (ok := slOk f dir) cl hx i
    have hin : ∀ c ∈ stF (nbS (es.map (·.2))) (slOk f dir) x i, c.1 ∈ ns := fun c hc => reach_mem cl hx (stF_reach (List.mem_map_of_mem hc))
    wtm_at "rd"
    refine rd_lenL (SqL.of hq) ?_
    rw [List.length_map, List.length_map]
    wtm_at "rd"
    refine rd_split (fun c0 => ?_) (fun c0 => ?_)
    case refine_2 =>
      rw [stF_done (by omega) (by have := gs.l2; omega)] at pa fr
      wtm_at "rd"
      exact q D A H' (s1.trans s) (new_of_same s1 fD) (fun c hc => new_of_same s1 (fr c hc).1) pa
    have hi : i < (stF (nbS (es.map (·.2))) (slOk f dir) x i).length := by omega
    refine ⟨fun σ' H' => ∃ (A : Str → Addr) (u8 u9 : Option V), σ' = [some (.ref g), some (.ref st), some (.str x), some (.int dir), some (.ref ad), some (.ref D), some (.ref qa), some (.int (i + 1 : Nat)), u8, u9] ∧ Same H1 H' ∧
      PathsAt H' D (stF (nbS (es.map (·.2))) (slOk f dir) x (i + 1)) A ∧ (∀ c ∈ stF (nbS (es.map (·.2))) (slOk f dir) x (i + 1), H1 (A c.1) = none ∧ A c.1 ≠ qa) ∧ H' qa = some (.lst ((keysF (stF (nbS (es.map (·.2))) (slOk f dir) x (i + 1))).map V.str)),
      fun σ' H' ⟨A, u8, u9, h1, h2, h3, h4, h5⟩ => ⟨ns.length + 1 - (i + 1), by omega, i + 1, A, u8, u9, rfl, by omega, h1, h2, h3, h4, h5⟩, ?_⟩
    have e1 : (stF (nbS (es.map (·.2))) (slOk f dir) x i)[i]? = some (stF (nbS (es.map (·.2))) (slOk f dir) x i)[i] := List.getElem?_eq_getElem hi
    have cm := List.getElem_mem hi
    rw [stF_at e1]
    wtm_at "rd"
    refine rd_ixL (SqL.of hq) (atI_nat (v := .str (stF (nbS (es.map (·.2))) (slOk f dir) x i)[i].1) (by rw [List.getElem?_map, List.getElem?_map, e1]; rfl)) ?_
    have cn := hin _ cm
    have cp := pa.li _ cm
    have cq := fr _ cm
    have cpl := stF_plen _ _ cm
    generalize (stF (nbS (es.map (·.2))) (slOk f dir) x i)[i] = c at *
    generalize hkp : stF (nbS (es.map (·.2))) (slOk f dir) x i = kp at *
    have lkp : (keysF kp).Nodup := by rw [← hkp]; exact stF_nodup i
    wtm_at "rd"
    refine rd_augI rfl ?_
    wtm_at "rd"
    refine rd_ipI ?_
    have ei : (i : Int) + 1 = ((i + 1 : Nat) : Int) := by omega
    rw [ei]
    wtm_at "rd"
    refine rd_dat (.inl (s _ _ had.di)) (kvG_val cn) rfl ?_
    have hos := had.at gs.ok cn
    have osn : ∀ o ∈ nbS (es.map (·.2)) c.1, o ∈ ns := fun o ho => cl _ cn o ho
    have osl : (nbS (es.map (·.2)) c.1).length ≤ 2000 := by
      unfold nbS
      rw [(sortS_perm _).length_eq]
      have := nbrF_len (x := c.1) (es := es.map (·.2))
      rw [List.length_map] at this
      have := gs.l3
      omega
    generalize nbS (es.map (·.2)) c.1 = os at *
    refine rd_forL (SqL.of (s _ _ hos)) ?_
    refine turnsL (K := K) (xs := os.map V.str) (fun j σ H' => ∃ (A : Str → Addr) (u9 : Option V), σ = [some (.ref g), some (.ref st), some (.str x), some (.int dir), some (.ref ad), some (.ref D), some (.ref qa), some (.int (i + 1 : Nat)), some (.str c.1), u9] ∧ Same H1 H' ∧
      PathsAt H' D (addsF (slOk f dir) c (os.take j) kp) A ∧ (∀ c2 ∈ addsF (slOk f dir) c (os.take j) kp, H1 (A c2.1) = none ∧ A c2.1 ≠ qa) ∧ H' qa = some (.lst ((keysF (addsF (slOk f dir) c (os.take j) kp)).map V.str))) ⟨A, u9, rfl, s, pa, fr, hq⟩ ?_ ?_ ?_
    · rintro j σ H' hj ⟨A, u9, rfl, s, _⟩
      exact SqL.of (s _ _ hos)
    · rintro j y σ H' hy ⟨A, u9, rfl, s, pa, fr, hq⟩
      obtain ⟨hj, rfl⟩ := map_at hy
      have hom := osn _ (List.getElem_mem hj)
      have tk : addsF (slOk f dir) c (os.take (j + 1)) kp = addF (slOk f dir) c (addsF (slOk f dir) c (os.take j) kp) os[j] := by rw [take_snoc hj, addsF_snoc]
      have len : (addsF (slOk f dir) c (os.take j) kp).length ≤ kp.length + 2000 := by
        have := addsF_len (ok := slOk f dir) (c := c) (os := os.take j) (kp := kp)
        rw [List.length_take] at this
        omega
      have cin : c ∈ addsF (slOk f dir) c (os.take j) kp := by
        obtain ⟨r, hr⟩ := addsF_pre (ok := slOk f dir) (c := c) (os := os.take j) (kp := kp)
        rw [hr]
        exact List.mem_append_left _ cm
      generalize addsF (slOk f dir) c (os.take j) kp = k1 at *
      generalize os[j] = o at *
      wtm_at "rd"
      refine rd_din1 (.inl pa.di) (k := .inr o) rfl ?_
      have skip : (o ∈ keysF k1 ∨ slOk f dir c.1 o = false) → addsF (slOk f dir) c (os.take (j + 1)) kp = k1 := fun h => by
        rw [tk]
        unfold addF
        rw [if_neg]
        rintro ⟨z1, z2⟩
        rcases h with h | h
        · exact z1 h
        · rw [h] at z2
          cases z2
      by_cases mo : o ∈ keysF k1
      · rw [kvG_val mo]
        wtm_at "rd"
        rw [skip (.inl mo)]
        exact ⟨A, _, rfl, s, pa, fr, hq⟩
      · rw [kvG_none mo]
        refine rd_bl ?_
        refine rd_T ?_
        wtm_at "rd"
        refine ⟨st, c.1, o, ord, f, rfl, .inl (s _ _ gs1.st), gs.inO _ cn, gs.inO _ hom, ?_⟩
        wtm_at "rd"
        refine rd_split (fun c1 => ?_) (fun c1 => ?_)
        case refine_2 =>
          wtm_at "rd"
          rw [skip (.inr (decide_eq_false c1))]
          exact ⟨A, _, rfl, s, pa, fr, hq⟩
        have tk2 : addsF (slOk f dir) c (os.take (j + 1)) kp = k1 ++ [(o, c.2 ++ [o])] := by
          rw [tk]
          unfold addF
          exact if_pos ⟨mo, decide_eq_true c1⟩
        rw [tk2]
        wtm_at "rd"
        refine rd_dat (.inl pa.di) (kvG_val (List.mem_map_of_mem cin)) rfl ?_
        wtm_at "rd"
        intro t1 ft1
        have pl1 := pa.li _ cin
        refine rd_catL (at_upd (ne_of_none pl1 ft1) pl1) upd_same (by rw [List.length_map]; simp only [List.length_singleton]; have := gs.l2; omega) ?_
        intro t2 ft2
        have sT := same_add (o := .lst (c.2.map V.str ++ [.str o])) (same_add (o := .lst [.str o]) s ft1) ft2
        have paT := (pa.same (Same.new (o := .lst [.str o]) ft1)).same (Same.new (o := .lst (c.2.map V.str ++ [.str o])) ft2)
        have hqT := at_upd (o := .lst (c.2.map V.str ++ [.str o])) (ne_of_none (at_upd (o := .lst [.str o]) (ne_of_none hq ft1) hq) ft2) (at_upd (o := .lst [.str o]) (ne_of_none hq ft1) hq)
        have nt2 : t2 ≠ qa := Ne.symm (ne_of_none (at_upd (o := .lst [.str o]) (ne_of_none hq ft1) hq) ft2)
        have ft20 := new_of_same (same_add (o := .lst [.str o]) s ft1) ft2
        have ht2 : (upd (upd H' t1 (.lst [.str o])) t2 (.lst (c.2.map V.str ++ [.str o]))) t2 = some (.lst ((c.2 ++ [o]).map V.str)) := by
          rw [upd_same, List.map_append]
          rfl
        generalize upd (upd H' t1 (.lst [.str o])) t2 (.lst (c.2.map V.str ++ [.str o])) = HT at sT paT hqT ht2
        wtm_at "rd"
        refine rd_dset paT.di (k := .inr o) rfl (by rw [List.length_map, List.length_map]; have := gs.l2; omega) ?_
        have pa2 := paT.put mo ht2
        have sU := same_put (o := .dK (putK (kvG (keysF k1) fun n => .ref (A n)) (.inr o) (.ref t2))) sT fD
        have hqU := at_upd (o := .dK (putK (kvG (keysF k1) fun n => .ref (A n)) (.inr o) (.ref t2))) (Ne.symm nDq) hqT
        generalize upd HT D (.dK (putK (kvG (keysF k1) fun n => .ref (A n)) (.inr o) (.ref t2))) = HU at pa2 sU hqU
        wtm_at "rd"
        refine rd_tyL hqU ?_
        wtm_at "rd"
        refine rd_append hqU (by rw [List.length_map, List.length_map]; have := gs.l2; omega) ?_
        have off : ∀ c2 ∈ k1 ++ [(o, c.2 ++ [o])], H1 (updV A o t2 c2.1) = none ∧ updV A o t2 c2.1 ≠ qa := fun c2 hc2 => by
          unfold updV
          rcases List.mem_append.mp hc2 with h | h
          · rw [if_neg (fun z => mo (by rw [← z]; exact List.mem_map_of_mem h))]
            exact fr c2 h
          · rw [List.mem_singleton] at h
            subst h
            rw [if_pos rfl]
            exact ⟨ft20, nt2⟩
        refine ⟨updV A o t2, _, rfl, same_put sU fq1, pa2.off hqU (fun c2 hc2 => (off c2 hc2).2), off, ?_⟩
        rw [upd_same, show keysF (k1 ++ [(o, c.2 ++ [o])]) = keysF k1 ++ [o] from List.map_append, List.map_append]
        rfl
    · rintro σ H' ⟨A, u9, rfl, s, pa, fr, hq⟩
      rw [List.length_map, List.take_length] at pa fr hq
      wtm_at "rd"
      exact ⟨A, _, _, rfl, s, pa, fr, hq⟩
end
end Law

/-! d.update(e); lists of texts compared; the last but one -/
namespace U
open PySem PySem.Spec PyProof.Rows L2
def rDUpd : V → List V → Hp → VK → Prop := fun x vs H Q => ∃ (a b : Addr) (kvs more : List (Key × V)), x = .ref a ∧ vs = [.ref b] ∧ a ≠ b ∧ H a = some (.dK kvs) ∧ H b = some (.dK more) ∧ kvs.length + more.length ≤ 100000 ∧ Q .non (upd H a (.dK (mergeK kvs more)))
theorem mtd_update {X : Cx} : MtR X "dict.update" rDUpd := by
  intro pins s σ H x vs v us Q I rx rv h
  obtain ⟨a, b, kvs, more, rfl, rfl, hab, ha, hb, hl, q⟩ := h
  obtain rfl : v = Value.ref a := rx
  cases rv with
  | cons r rr =>
    cases rr
    cases r
    obtain ⟨la, na, vs1, rel1, d1⟩ := dk_of I.hok ha
    obtain ⟨lb, nb, vs2, rel2, d2⟩ := dk_of I.hok hb
    have l1 := rel1.length
    have l2 := rel2.length
    have big : kvs.length + more.length ≤ sizeLine := Nat.le_trans hl (by decide)
    refine call_meetsIn PySem.F.slot_dict_update d1.typeIs PySem.F.entry_dict_update (PySem.F.args_dict_update_2 _ _) (meets_dict_update (mixKind X.prog X.w) a b hab nb) ⟨vs1, vs2, d1, d2, by rw [← l1, ← l2]; exact big, fun h' dd' _ hs => ?_⟩
    have he : ∃ q, h'.get? a = some q := let ⟨q, _, _, hq, _⟩ := dd'; ⟨q, hq⟩
    exact ⟨.non, _, d_write (t' := s.toks) I (by rw [ha]; exact True.intro) hs he (dk_new (Nat.le_trans (length_mergeK more kvs) big) na (KV.merge rel2 rel1) dd'), rfl, q⟩
/-! lists of texts compared -/
theorem eqvAll_strs : ∀ (xs ys : List Str), PyData.eqvAll (xs.map PyData.str) (ys.map PyData.str) = decide (xs = ys)
  | [], [] => by simp [PyData.eqvAll]
  | [], y :: ys => by simp [PyData.eqvAll]
  | x :: xs, [] => by simp [PyData.eqvAll]
  | x :: xs, y :: ys => by
    rw [List.map_cons, List.map_cons, PyData.eqvAll, eqvAll_strs xs ys]
    by_cases e : x = y
    · subst e
      simp [PyData.eqv]
    · simp [PyData.eqv, e]
theorem canLay_strs : ∀ {xs : List Str}, (∀ x ∈ xs, PyData.strOk x = true) → PyData.canLayAll0 (xs.map PyData.str) = true
  | [], _ => by simp [PyData.canLayAll0]
  | x :: xs, h => by
    rw [List.map_cons, PyData.canLayAll0, PyData.canLay0, h x List.mem_cons_self, canLay_strs fun y hy => h y (List.mem_cons_of_mem _ hy)]
    rfl
theorem depth_strs : ∀ {xs : List Str}, PyData.depthAll (xs.map PyData.str) = 0
  | [] => by simp [PyData.depthAll]
  | x :: xs => by
    rw [List.map_cons, PyData.depthAll, PyData.depth, depth_strs]
    rfl
theorem shaped_strs {xs : List Str} (h : ∀ x ∈ xs, PyData.strOk x = true) : SeqAt.shaped (.list (xs.map PyData.str)) = true := by
  unfold SeqAt.shaped
  rw [PyData.canLay0, canLay_strs h, PyData.depth, depth_strs]
  rfl
section
variable {K : PySem.W.Frag} {H : Hp} {Q : VK} {p q : Addr} {x y : V} {d : PyData} {xs ys : List Str}
theorem rd_neSL (hp : SqL K H p (xs.map V.str)) (hq : SqL K H q (ys.map V.str)) (ox : ∀ x ∈ xs, PyData.strOk x = true) (oy : ∀ x ∈ ys, PyData.strOk x = true) (h : Q (.bl (!decide (xs = ys))) H) : rNeU K (.ref p) (.ref q) H Q := by
  refine ⟨_, _, .lst hp (dp_strs _), .lst hq (dp_strs _), shaped_strs ox, shaped_strs oy, ?_⟩
  rw [PyData.eqv, eqvAll_strs]
  exact h
/-- the same data twice -/
theorem rd_neSame (hp : Dp K H (.ref p) d) (hq : Dp K H (.ref q) d) (sh : SeqAt.shaped d = true) (h : Q (.bl false) H) : rNeU K (.ref p) (.ref q) H Q := by
  refine ⟨_, _, hp, hq, sh, sh, ?_⟩
  rw [SeqAt.eqv_refl _ (SeqAt.canLay_of_shaped sh)]
  exact h
theorem rd_eqSame (hp : Dp K H (.ref p) d) (hq : Dp K H (.ref q) d) (sh : SeqAt.shaped d = true) (h : Q (.bl true) H) : rEqU K (.ref p) (.ref q) H Q := by
  refine ⟨_, _, hp, hq, sh, sh, ?_⟩
  rw [SeqAt.eqv_refl _ (SeqAt.canLay_of_shaped sh)]
  exact h
end
end U

/-! components, root paths, basis cycles: the plain law -/
namespace U
open PySem PySem.Spec PyProof.Rows L2
theorem risingS_pw : ∀ {xs : List Str} {p : Str}, risingS p xs = true → (∀ x ∈ xs, ¬ sLt x p) ∧ xs.Pairwise (fun a b => ¬ sLt b a)
  | [], _, _ => ⟨(fun x hx => nomatch hx), List.Pairwise.nil⟩
  | x :: r, p, h => by
    rw [risingS, Bool.and_eq_true, Bool.not_eq_true', ltCps_eq, decide_eq_false_iff_not] at h
    obtain ⟨h1, h2⟩ := h
    obtain ⟨k1, k2⟩ := risingS_pw h2
    refine ⟨fun y hy => ?_, List.pairwise_cons.mpr ⟨k1, k2⟩⟩
    rcases List.mem_cons.mp hy with rfl | hy
    · exact h1
    · exact nlt_trans h1 (k1 y hy)
theorem sortedS_pw : ∀ {xs : List Str}, sortedS xs = true → xs.Pairwise (fun a b => ¬ sLt b a)
  | [], _ => List.Pairwise.nil
  | x :: r, h => by
    obtain ⟨a, b⟩ := risingS_pw (show risingS x r = true from h)
    exact List.pairwise_cons.mpr ⟨a, b⟩
abbrev ptF (es : List (Str × Str)) (x : Str) : List (Str × List Str) := pathsF (nbS es) (fun _ _ => true) x
abbrev Con (es : List (Str × Str)) (x y : Str) : Prop := Reach (nbS es) (fun _ _ => true) x y
section
variable {ns : List Str} {es : List (Str × Str)} {x y : Str}
theorem con_symm (h : Con es x y) : Con es y x := by
  induction h with
  | refl => exact .refl
  | step _ m _ ih =>
    refine Reach.trans (.step .refl ?_ rfl) ih
    exact nbS_mem.mpr ((nbS_mem.mp m).symm)
theorem pt_mem (ok : GrOk ns es) (l : ns.length ≤ 1000) (hx : x ∈ ns) : y ∈ keysF (ptF es x) ↔ Con es x y :=
  ⟨fun h => stF_reach h, fun h => stF_all (by have := stF_len (ok := fun _ _ => true) (adj := nbS es) (ns := ns) (fun a _ b hb => nbS_in ok hb) hx 1000; omega) h⟩
theorem pt_nodup : (keysF (ptF es x)).Nodup := stF_nodup 1000
theorem pt_len (ok : GrOk ns es) (hx : x ∈ ns) : (ptF es x).length ≤ ns.length := stF_len (fun a _ b hb => nbS_in ok hb) hx 1000
theorem pt_in (ok : GrOk ns es) (hx : x ∈ ns) (h : y ∈ keysF (ptF es x)) : y ∈ ns := reach_mem (fun a _ b hb => nbS_in ok hb) hx (stF_reach h)
def comp (es : List (Str × Str)) (x : Str) : List Str := sortS (keysF (ptF es x))
theorem comp_mem (ok : GrOk ns es) (l : ns.length ≤ 1000) (hx : x ∈ ns) : y ∈ comp es x ↔ Con es x y := by
  unfold comp
  rw [(sortS_perm _).mem_iff, pt_mem ok l hx]
theorem comp_len (ok : GrOk ns es) (hx : x ∈ ns) : (comp es x).length ≤ ns.length := by
  unfold comp
  rw [(sortS_perm _).length_eq, List.length_map]
  exact pt_len ok hx
def compStep (es : List (Str × Str)) (cs : List (List Str)) (n : Str) : List (List Str) := if n ∈ cs.flatten then cs else cs ++ [comp es n]
def compsF (ns : List Str) (es : List (Str × Str)) : List (List Str) := ns.foldl (compStep es) []
/-- components found from the nodes ds, all in ns -/
structure Cmps (ns : List Str) (es : List (Str × Str)) (ds : List Str) (cs : List (List Str)) : Prop where
  of : ∀ c ∈ cs, ∃ r ∈ ns, c = comp es r
  nd : cs.flatten.Nodup
  all : ∀ x ∈ ds, x ∈ cs.flatten
theorem Cmps.nil : Cmps ns es [] [] := ⟨(fun c hc => nomatch hc), List.nodup_nil, (fun x hx => nomatch hx)⟩
theorem Cmps.in_ {ds : List Str} {cs : List (List Str)} (h : Cmps ns es ds cs) (ok : GrOk ns es) : ∀ x ∈ cs.flatten, x ∈ ns := fun x hx => by
  obtain ⟨c, hc, hx⟩ := List.mem_flatten.mp hx
  obtain ⟨r, hr, rfl⟩ := h.of c hc
  exact pt_in ok hr ((sortS_perm _).mem_iff.mp hx)
theorem Cmps.step {ds : List Str} {cs : List (List Str)} {n : Str} (h : Cmps ns es ds cs) (ok : GrOk ns es) (l : ns.length ≤ 1000) (hn : n ∈ ns) : Cmps ns es (ds ++ [n]) (compStep es cs n) := by
  unfold compStep
  by_cases m : n ∈ cs.flatten
  · rw [if_pos m]
    refine ⟨h.of, h.nd, fun x hx => ?_⟩
    rcases List.mem_append.mp hx with hx | hx
    · exact h.all x hx
    · rw [List.mem_singleton] at hx
      rw [hx]
      exact m
  · rw [if_neg m]
    refine ⟨fun c hc => ?_, ?_, fun x hx => ?_⟩
    · rcases List.mem_append.mp hc with hc | hc
      · exact h.of c hc
      · rw [List.mem_singleton] at hc
        exact ⟨n, hn, hc⟩
    · rw [List.flatten_append, List.nodup_append]
      refine ⟨h.nd, ?_, fun a ha b hb z => ?_⟩
      · rw [List.flatten_singleton]
        exact (sortS_perm _).nodup_iff.mpr pt_nodup
      · rw [List.flatten_singleton] at hb
        subst z
        obtain ⟨c, hc, ha⟩ := List.mem_flatten.mp ha
        obtain ⟨r, hr, rfl⟩ := h.of c hc
        have h1 := (comp_mem ok l hr).mp ha
        have h2 := (comp_mem ok l hn).mp hb
        exact m (List.mem_flatten.mpr ⟨_, hc, (comp_mem ok l hr).mpr (h1.trans (con_symm h2))⟩)
    · rw [List.flatten_append, List.flatten_singleton]
      rcases List.mem_append.mp hx with hx | hx
      · exact List.mem_append_left _ (h.all x hx)
      · rw [List.mem_singleton] at hx
        subst hx
        exact List.mem_append_right _ ((comp_mem ok l hn).mpr .refl)
theorem compsF_ok (ok : GrOk ns es) (l : ns.length ≤ 1000) : Cmps ns es ns (compsF ns es) := by
  have key : ∀ (xs ds : List Str) (cs : List (List Str)), (∀ x ∈ xs, x ∈ ns) → Cmps ns es ds cs → Cmps ns es (ds ++ xs) (xs.foldl (compStep es) cs) := by
    intro xs
    induction xs with
    | nil => intro ds cs _ h; rw [List.append_nil]; exact h
    | cons x r ih =>
      intro ds cs hx h
      have := ih (ds ++ [x]) (compStep es cs x) (fun y hy => hx y (List.mem_cons_of_mem _ hy)) (h.step ok l (hx x List.mem_cons_self))
      rw [List.append_assoc] at this
      exact this
  exact key ns [] [] (fun _ h => h) .nil
theorem Cmps.len {ds : List Str} {cs : List (List Str)} (h : Cmps ns es ds cs) (ok : GrOk ns es) : cs.flatten.length ≤ ns.length := nodup_len h.nd (h.in_ ok)
theorem comp_pos : 0 < (comp es x).length := by
  unfold comp
  rw [(sortS_perm _).length_eq, List.length_map]
  obtain ⟨r, h⟩ := stF_root (adj := nbS es) (ok := fun _ _ => true) (root := x) 1000
  show 0 < (stF (nbS es) (fun _ _ => true) x 1000).length
  rw [h]
  exact Nat.succ_pos _
/-! root paths -/
def rootsF (es : List (Str × Str)) (cs : List (List Str)) : List (Str × List Str) := cs.flatMap fun c => ptF es (c.headD Str.empty)
theorem head_in {c : List Str} (h : 0 < c.length) : c.headD Str.empty ∈ c := by
  cases c with
  | nil => cases h
  | cons x r => exact List.mem_cons_self
theorem root_keys (ok : GrOk ns es) (l : ns.length ≤ 1000) {r : Str} (hr : r ∈ ns) : (comp es r).headD Str.empty ∈ ns ∧ ∀ y, y ∈ keysF (ptF es ((comp es r).headD Str.empty)) ↔ y ∈ comp es r := by
  have h0 := head_in (comp_pos (es := es) (x := r))
  have h1 := (comp_mem ok l hr).mp h0
  have hn : (comp es r).headD Str.empty ∈ ns := reach_mem (fun a _ b hb => nbS_in ok hb) hr h1
  refine ⟨hn, fun y => ?_⟩
  rw [pt_mem ok l hn, comp_mem ok l hr]
  exact ⟨fun h => h1.trans h, fun h => (con_symm h1).trans h⟩
theorem rootsF_snoc {cs : List (List Str)} {c : List Str} : rootsF es (cs ++ [c]) = rootsF es cs ++ ptF es (c.headD Str.empty) := by
  unfold rootsF
  rw [List.flatMap_append, List.flatMap_singleton]
theorem roots_keys (ok : GrOk ns es) (l : ns.length ≤ 1000) : ∀ {cs : List (List Str)}, (∀ c ∈ cs, ∃ r ∈ ns, c = comp es r) → ∀ y, y ∈ keysF (rootsF es cs) ↔ y ∈ cs.flatten
  | [], _, y => by simp [rootsF]
  | c :: cs, h, y => by
    obtain ⟨r, hr, rfl⟩ := h c List.mem_cons_self
    have ih := roots_keys ok l (cs := cs) (fun d hd => h d (List.mem_cons_of_mem _ hd)) y
    have e : rootsF es (comp es r :: cs) = ptF es ((comp es r).headD Str.empty) ++ rootsF es cs := rfl
    rw [e, keysF, List.map_append, List.mem_append, List.flatten_cons, List.mem_append, ← ih, ← (root_keys ok l hr).2 y]
end
end U

/-! paths_from, components, root_paths, basis_cycles -/
namespace Law
open PySem PySem.Spec PyProof.Rows L2 U


section
variable {X : Cx} {o e : Expr} {es : List Expr} {to : TE} {t : TA} {apos cpos : Pos}
theorem kr_set0 (P : Program) (w : World) (hP : X.prog = P) (hw : X.w = w) : CallR X (.type "set") (rSet0K P w) := by
  subst hP hw
  exact cr_set0K
theorem kr_snotin (P : Program) (w : World) (hP : X.prog = P) (hw : X.w = w) : OpR X (compareOp .NotIn) (rSInK P w true) := by
  subst hP hw
  exact or_snotinK
theorem kr_sadd (P : Program) (w : World) (hP : X.prog = P) (hw : X.w = w) (ho : PE X o to) (ha : PA X (e :: es) t)
    (hbase : attributeBase o "add" X.env (eval o X.env) = eval o X.env := by rfl)
    (hfew : ((backTo cpos (starEach (e :: es) X.env)).all (fun x => !x.1) && (backToKw cpos (keywordEach [] X.env)).all (fun x => x.1.isSome)
      && decide ((e :: es).length + ([] : List Keyword).length + (if ([] : List Keyword).isEmpty then 0 else 1) < 30)) = true := by rfl)
    (hline : (apos.endLine == cpos.line) = true := by rfl) (hs : starEach (e :: es) X.env = (false, eval e X.env) :: starEach es X.env := by rfl) (hplain : (backTo cpos (starEach es X.env)).any (·.1) = false := by rfl) :
    PE X (.Call (.Attribute o "add" apos) (e :: es) [] cpos) (tSAddK P w to t) := by
  subst hP hw
  exact pe_saddK ho ha hbase hfew hline hs hplain
end
theorem rd_sadd {P : Program} {w : World} {to : TE} {t : TA} {σ : L2.St} {H : Hp} {Q : VK} (h : to σ H fun x H1 => (∃ a S n, x = V.ref a ∧ H1 a = some (SetK P w a S n)) ∧ t σ H1 fun xs H2 => rSAddK P w x xs H2 Q) : tSAddK P w to t σ H Q := h
def spPathsFrom : Sp := fun vs H Q _ => ∃ (g n e : Addr) (x : Str) (ns : List Str) (es : List (Addr × Str × Str)), vs = [.ref g, .str x] ∧ GrS H g n e ns es ∧ x ∈ ns ∧
  ∀ (d : Addr) (A : Str → Addr) (H' : Hp), Same H H' → H d = none → (∀ c ∈ ptF (es.map (·.2)) x, H (A c.1) = none) → PathsAt H' d (ptF (es.map (·.2)) x) A → Q (.ref d) H'
/-- lists of names stand, each at its own place -/
structure ListsAt (H : Hp) (l : Addr) (cs : List (Addr × List Str)) : Prop where
  li : H l = some (.lst (cs.map fun c => V.ref c.1))
  at_ : ∀ c ∈ cs, H c.1 = some (.lst (c.2.map V.str))
theorem ListsAt.same {H H' : Hp} {l : Addr} {cs : List (Addr × List Str)} (h : ListsAt H l cs) (s : Same H H') : ListsAt H' l cs := ⟨s _ _ h.li, fun c hc => s _ _ (h.at_ c hc)⟩
def spComps : Sp := fun vs H Q _ => ∃ (g n e : Addr) (ns : List Str) (es : List (Addr × Str × Str)), vs = [.ref g] ∧ GrS H g n e ns es ∧ ns.length ≤ 60 ∧
  ∀ (l : Addr) (cs : List (Addr × List Str)) (H' : Hp), Same H H' → H l = none → (∀ c ∈ cs, H c.1 = none) → ListsAt H' l cs → cs.map (·.2) = compsF ns (es.map (·.2)) → Q (.ref l) H'
section
variable {P : Program} {w : World} {K : PySem.W.Frag} {mg : Str → Option Value} {base : Heap}
structure B2c (P : Program) (w : World) (K : PySem.W.Frag) (mg : Str → Option Value) (base : Heap) : Prop where
  adjacency : Cal P w K mg base CX0 1 "adjacency" spAdj
theorem ok_paths_from {f : Addr} {fd : FuncData} (F : Fun K "paths_from" "paths_from" s_paths_from f fd) (B : Bt mg) (C : B2c P w K mg base) : FnG P w K mg base CX0 2 f fd ["graph", "node"] spPathsFrom := by
  refine fnG0 F sc_paths_from (fun vs H Q E h => ?_) (fun cdv A outer s H vs Q E hr h => ?_)
  · obtain ⟨g, n, e, x, ns, es, rfl, _⟩ := h
    rfl
  · obtain ⟨g, n, e, x, ns, es, rfl, gs, hx, q⟩ := h
    have nd := sc_paths_from.nd
    have hu := hr.u1
    refine ⟨_, (pss_cons (ps_set (i := 2) nd rfl (by first | exact Or.inl rfl | exact Or.inr rfl) (pe_c C.adjacency hr (by decide) rfl (pa_cons (pv 0) pa_nil)))
  (pss_cons (ps_set (i := 3) nd rfl (by first | exact Or.inl rfl | exact Or.inr rfl) (pe_disp (pps_cons (pv 1) (pe_lst (pa_cons (pv 1) pa_nil)) pps_nil) (by rfl) (by rfl) (fun z => by cases z) (by decide)))
  (pss_cons (ps_set (i := 4) nd rfl (by first | exact Or.inl rfl | exact Or.inr rfl) (pe_lst (pa_cons (pv 1) pa_nil)))
  (pss_cons (ps_set (i := 5) nd rfl (by first | exact Or.inl rfl | exact Or.inr rfl) pe_int)
  (pss_cons (ps_while PassesOwn.never (pt_cmpR uLt (pv 5) (pe_callB (kLen K rfl) (by rfl) B.len bb_len (pa_cons (pv 4) pa_nil)) (nomark _)) (pss_cons (ps_set (i := 6) nd rfl (by first | exact Or.inl rfl | exact Or.inr rfl) (pe_ix (kIx K rfl) (pv 4) (pv 5) (fun _ _ => rfl)))
  (pss_cons (ps_aug (i := 5) nd rfl (Or.inl rfl) pe_int ip_add)
  (pss_one (ps_for PassesOwn.never rfl (ki_list K rfl (pe_dget hu (pv 2) (pv 6) (fun _ _ => rfl))) (pg_name (i := 7) nd rfl (by first | exact Or.inl rfl | exact Or.inr rfl)) (pss_one (ps_if (pt_cmp (pc_dnotin hu (pv 7) (pv 3))) (pss_cons (ps_dput hu (pv 3) (pv 7) (pe_op (kAdd K rfl) (pe_dget hu (pv 3) (pv 6) (fun _ _ => rfl)) (pe_lst (pa_cons (pv 7) pa_nil))) rfl)
  (pss_one (ps_expr (pe_bm PySem.F.plainAttrs_list PySem.F.slot_list_append PySem.F.type_list_append mt_append (pv 4) (pa_cons (pv 7) pa_nil))))) pss_nil)))))))
  (pss_one (ps_ret (pv 3)))))))), ?_⟩
    wtm_at "rd"
    refine ⟨g, n, e, ns, es, rfl, gs, fun ad Ad H1 s1 _ had => ?_⟩
    wtm_at "rd"
    refine rd_disp fun D fD => ?_
    wtm_at "rd"
    intro t ft
    have ntD := new_ne ft
    refine rd_dispE (x := .str x) (y := .ref t) (k := .inr x) rfl (at_upd (Ne.symm ntD) upd_same) ?_
    rw [show mergeK [] [((Sum.inr x : Key), V.ref t)] = [(Sum.inr x, V.ref t)] from rfl]
    have s2 : Same H1 (upd (upd (upd H1 D (.dK [])) t (.lst [.str x])) D (.dK [(.inr x, .ref t)])) := same_put (same_add (Same.new fD) ft) fD
    have ft1 := new_of_same (Same.new (o := .dK []) fD) ft
    have pa : PathsAt (upd (upd (upd H1 D (.dK [])) t (.lst [.str x])) D (.dK [(.inr x, .ref t)])) D (stF (nbS (es.map (·.2))) (fun _ _ => true) x 0) fun _ => t := ⟨upd_same, fun c hc => by
      rw [stF, List.mem_singleton] at hc
      subst hc
      exact at_upd ntD upd_same⟩
    generalize upd (upd (upd H1 D (.dK [])) t (.lst [.str x])) D (.dK [(.inr x, .ref t)]) = H2 at s2 pa
    wtm_at "rd"
    intro qa fq
    have fq1 := new_of_same s2 fq
    have s3 := same_add (o := .lst [.str x]) s2 fq
    have nDq : D ≠ qa := ne_of_none pa.di fq
    have pa3 := pa.same (Same.new (o := .lst [.str x]) fq)
    have ntq : t ≠ qa := ne_of_none (pa.li (x, [x]) List.mem_cons_self) fq
    have hq3 := @upd_same H2 qa (.lst [.str x])
    generalize upd H2 qa (.lst [.str x]) = H3 at s3 pa3 hq3
    wtm_at "rd"
    have cl : ∀ a ∈ ns, ∀ b ∈ nbS (es.map (·.2)) a, b ∈ ns := fun a _ b hb => nbS_in gs.ok hb
    refine ⟨fun m σ H' => ∃ (i : Nat) (A : Str → Addr) (u8 u9 : Option V), m = ns.length + 1 - i ∧ i ≤ ns.length ∧ σ = [some (.ref g), some (.str x), some (.ref ad), some (.ref D), some (.ref qa), some (.int i), u8, u9] ∧ Same H1 H' ∧
      PathsAt H' D (stF (nbS (es.map (·.2))) (fun _ _ => true) x i) A ∧ (∀ c ∈ stF (nbS (es.map (·.2))) (fun _ _ => true) x i, H1 (A c.1) = none ∧ A c.1 ≠ qa) ∧ H' qa = some (.lst ((keysF (stF (nbS (es.map (·.2))) (fun _ _ => true) x i)).map V.str)),
      ⟨_, 0, fun _ => t, _, _, rfl, Nat.zero_le _, rfl, s3, pa3, fun c _ => ⟨ft1, ntq⟩, hq3⟩, ?_⟩
    rintro m σ H' ⟨i, A, u8, u9, rfl, il, rfl, s, pa, fr, hq⟩
    have sl := stF_len (ok := (fun _ _ => true)) cl hx i
    have hin : ∀ c ∈ stF (nbS (es.map (·.2))) (fun _ _ => true) x i, c.1 ∈ ns := fun c hc => reach_mem cl hx (stF_reach (List.mem_map_of_mem hc))
    wtm_at "rd"
    refine rd_lenL (SqL.of hq) ?_
    rw [List.length_map, List.length_map]
    wtm_at "rd"
    refine rd_split (fun c0 => ?_) (fun c0 => ?_)
    case refine_2 =>
      rw [stF_done (by omega) (by have := gs.l2; omega)] at pa fr
      wtm_at "rd"
      exact q D A H' (s1.trans s) (new_of_same s1 fD) (fun c hc => new_of_same s1 (fr c hc).1) pa
    have hi : i < (stF (nbS (es.map (·.2))) (fun _ _ => true) x i).length := by omega
    refine ⟨fun σ' H' => ∃ (A : Str → Addr) (u8 u9 : Option V), σ' = [some (.ref g), some (.str x), some (.ref ad), some (.ref D), some (.ref qa), some (.int (i + 1 : Nat)), u8, u9] ∧ Same H1 H' ∧
      PathsAt H' D (stF (nbS (es.map (·.2))) (fun _ _ => true) x (i + 1)) A ∧ (∀ c ∈ stF (nbS (es.map (·.2))) (fun _ _ => true) x (i + 1), H1 (A c.1) = none ∧ A c.1 ≠ qa) ∧ H' qa = some (.lst ((keysF (stF (nbS (es.map (·.2))) (fun _ _ => true) x (i + 1))).map V.str)),
      fun σ' H' ⟨A, u8, u9, h1, h2, h3, h4, h5⟩ => ⟨ns.length + 1 - (i + 1), by omega, i + 1, A, u8, u9, rfl, by omega, h1, h2, h3, h4, h5⟩, ?_⟩
    have e1 : (stF (nbS (es.map (·.2))) (fun _ _ => true) x i)[i]? = some (stF (nbS (es.map (·.2))) (fun _ _ => true) x i)[i] := List.getElem?_eq_getElem hi
    have cm := List.getElem_mem hi
    rw [stF_at e1]
    wtm_at "rd"
    refine rd_ixL (SqL.of hq) (atI_nat (v := .str (stF (nbS (es.map (·.2))) (fun _ _ => true) x i)[i].1) (by rw [List.getElem?_map, List.getElem?_map, e1]; rfl)) ?_
    have cn := hin _ cm
    have cp := pa.li _ cm
    have cq := fr _ cm
    have cpl := stF_plen _ _ cm
    generalize (stF (nbS (es.map (·.2))) (fun _ _ => true) x i)[i] = c at *
    generalize hkp : stF (nbS (es.map (·.2))) (fun _ _ => true) x i = kp at *
    have lkp : (keysF kp).Nodup := by rw [← hkp]; exact stF_nodup i
    wtm_at "rd"
    refine rd_augI rfl ?_
    wtm_at "rd"
    refine rd_ipI ?_
    have ei : (i : Int) + 1 = ((i + 1 : Nat) : Int) := by omega
    rw [ei]
    wtm_at "rd"
    refine rd_dat (.inl (s _ _ had.di)) (kvG_val cn) rfl ?_
    have hos := had.at gs.ok cn
    have osn : ∀ o ∈ nbS (es.map (·.2)) c.1, o ∈ ns := fun o ho => cl _ cn o ho
    have osl : (nbS (es.map (·.2)) c.1).length ≤ 2000 := by
      unfold nbS
      rw [(sortS_perm _).length_eq]
      have := nbrF_len (x := c.1) (es := es.map (·.2))
      rw [List.length_map] at this
      have := gs.l3
      omega
    generalize nbS (es.map (·.2)) c.1 = os at *
    refine rd_forL (SqL.of (s _ _ hos)) ?_
    refine turnsL (K := K) (xs := os.map V.str) (fun j σ H' => ∃ (A : Str → Addr) (u9 : Option V), σ = [some (.ref g), some (.str x), some (.ref ad), some (.ref D), some (.ref qa), some (.int (i + 1 : Nat)), some (.str c.1), u9] ∧ Same H1 H' ∧
      PathsAt H' D (addsF (fun _ _ => true) c (os.take j) kp) A ∧ (∀ c2 ∈ addsF (fun _ _ => true) c (os.take j) kp, H1 (A c2.1) = none ∧ A c2.1 ≠ qa) ∧ H' qa = some (.lst ((keysF (addsF (fun _ _ => true) c (os.take j) kp)).map V.str))) ⟨A, u9, rfl, s, pa, fr, hq⟩ ?_ ?_ ?_
    · rintro j σ H' hj ⟨A, u9, rfl, s, _⟩
      exact SqL.of (s _ _ hos)
    · rintro j y σ H' hy ⟨A, u9, rfl, s, pa, fr, hq⟩
      obtain ⟨hj, rfl⟩ := map_at hy
      have hom := osn _ (List.getElem_mem hj)
      have tk : addsF (fun _ _ => true) c (os.take (j + 1)) kp = addF (fun _ _ => true) c (addsF (fun _ _ => true) c (os.take j) kp) os[j] := by rw [take_snoc hj, addsF_snoc]
      have len : (addsF (fun _ _ => true) c (os.take j) kp).length ≤ kp.length + 2000 := by
        have := addsF_len (ok := (fun _ _ => true)) (c := c) (os := os.take j) (kp := kp)
        rw [List.length_take] at this
        omega
      have cin : c ∈ addsF (fun _ _ => true) c (os.take j) kp := by
        obtain ⟨r, hr⟩ := addsF_pre (ok := (fun _ _ => true)) (c := c) (os := os.take j) (kp := kp)
        rw [hr]
        exact List.mem_append_left _ cm
      generalize addsF (fun _ _ => true) c (os.take j) kp = k1 at *
      generalize os[j] = o at *
      wtm_at "rd"
      refine rd_din1 (.inl pa.di) (k := .inr o) rfl ?_
      have skip : (o ∈ keysF k1 ∨ (fun _ _ => true) c.1 o = false) → addsF (fun _ _ => true) c (os.take (j + 1)) kp = k1 := fun h => by
        rw [tk]
        unfold addF
        rw [if_neg]
        rintro ⟨z1, z2⟩
        rcases h with h | h
        · exact z1 h
        · rw [h] at z2
          cases z2
      by_cases mo : o ∈ keysF k1
      · rw [kvG_val mo]
        wtm_at "rd"
        rw [skip (.inl mo)]
        exact ⟨A, _, rfl, s, pa, fr, hq⟩
      · rw [kvG_none mo]
        refine rd_bl ?_
        refine rd_T ?_
        wtm_at "rd"
        have tk2 : addsF (fun _ _ => true) c (os.take (j + 1)) kp = k1 ++ [(o, c.2 ++ [o])] := by
          rw [tk]
          unfold addF
          exact if_pos ⟨mo, rfl⟩
        rw [tk2]
        wtm_at "rd"
        refine rd_dat (.inl pa.di) (kvG_val (List.mem_map_of_mem cin)) rfl ?_
        wtm_at "rd"
        intro t1 ft1
        have pl1 := pa.li _ cin
        refine rd_catL (at_upd (ne_of_none pl1 ft1) pl1) upd_same (by rw [List.length_map]; simp only [List.length_singleton]; have := gs.l2; omega) ?_
        intro t2 ft2
        have sT := same_add (o := .lst (c.2.map V.str ++ [.str o])) (same_add (o := .lst [.str o]) s ft1) ft2
        have paT := (pa.same (Same.new (o := .lst [.str o]) ft1)).same (Same.new (o := .lst (c.2.map V.str ++ [.str o])) ft2)
        have hqT := at_upd (o := .lst (c.2.map V.str ++ [.str o])) (ne_of_none (at_upd (o := .lst [.str o]) (ne_of_none hq ft1) hq) ft2) (at_upd (o := .lst [.str o]) (ne_of_none hq ft1) hq)
        have nt2 : t2 ≠ qa := Ne.symm (ne_of_none (at_upd (o := .lst [.str o]) (ne_of_none hq ft1) hq) ft2)
        have ft20 := new_of_same (same_add (o := .lst [.str o]) s ft1) ft2
        have ht2 : (upd (upd H' t1 (.lst [.str o])) t2 (.lst (c.2.map V.str ++ [.str o]))) t2 = some (.lst ((c.2 ++ [o]).map V.str)) := by
          rw [upd_same, List.map_append]
          rfl
        generalize upd (upd H' t1 (.lst [.str o])) t2 (.lst (c.2.map V.str ++ [.str o])) = HT at sT paT hqT ht2
        wtm_at "rd"
        refine rd_dset paT.di (k := .inr o) rfl (by rw [List.length_map, List.length_map]; have := gs.l2; omega) ?_
        have pa2 := paT.put mo ht2
        have sU := same_put (o := .dK (putK (kvG (keysF k1) fun n => .ref (A n)) (.inr o) (.ref t2))) sT fD
        have hqU := at_upd (o := .dK (putK (kvG (keysF k1) fun n => .ref (A n)) (.inr o) (.ref t2))) (Ne.symm nDq) hqT
        generalize upd HT D (.dK (putK (kvG (keysF k1) fun n => .ref (A n)) (.inr o) (.ref t2))) = HU at pa2 sU hqU
        wtm_at "rd"
        refine rd_tyL hqU ?_
        wtm_at "rd"
        refine rd_append hqU (by rw [List.length_map, List.length_map]; have := gs.l2; omega) ?_
        have off : ∀ c2 ∈ k1 ++ [(o, c.2 ++ [o])], H1 (updV A o t2 c2.1) = none ∧ updV A o t2 c2.1 ≠ qa := fun c2 hc2 => by
          unfold updV
          rcases List.mem_append.mp hc2 with h | h
          · rw [if_neg (fun z => mo (by rw [← z]; exact List.mem_map_of_mem h))]
            exact fr c2 h
          · rw [List.mem_singleton] at h
            subst h
            rw [if_pos rfl]
            exact ⟨ft20, nt2⟩
        refine ⟨updV A o t2, _, rfl, same_put sU fq1, pa2.off hqU (fun c2 hc2 => (off c2 hc2).2), off, ?_⟩
        rw [upd_same, show keysF (k1 ++ [(o, c.2 ++ [o])]) = keysF k1 ++ [o] from List.map_append, List.map_append]
        rfl
    · rintro σ H' ⟨A, u9, rfl, s, pa, fr, hq⟩
      rw [List.length_map, List.take_length] at pa fr hq
      wtm_at "rd"
      exact ⟨A, _, _, rfl, s, pa, fr, hq⟩
structure B3c (P : Program) (w : World) (K : PySem.W.Frag) (mg : Str → Option Value) (base : Heap) : Prop where
  paths_from : Cal P w K mg base CX0 2 "paths_from" spPathsFrom
theorem ok_comps {f : Addr} {fd : FuncData} (F : Fun K "components" "components" s_components f fd) (B : Bt mg) (C : B3c P w K mg base) : FnG P w K mg base CX0 3 f fd ["graph"] spComps := by
  refine fnG0 F sc_components (fun vs H Q E h => ?_) (fun cdv A outer s H vs Q E hr h => ?_)
  · obtain ⟨g, n, e, ns, es, rfl, _⟩ := h
    rfl
  · obtain ⟨g, n, e, ns, es, rfl, gs, nl, q⟩ := h
    have nd := sc_components.nd
    have hu := hr.u1
    refine ⟨_, (pss_cons (ps_set (i := 1) nd rfl (by first | exact Or.inl rfl | exact Or.inr rfl) (pe_lst pa_nil))
  (pss_cons (ps_set (i := 2) nd rfl (by first | exact Or.inl rfl | exact Or.inr rfl) (pe_callTy0 (kr_set0 P w rfl rfl) (by rfl) B.set bb_set))
  (pss_cons (ps_for PassesOwn.never rfl (ki_tup K rfl (pe_ix (kIx K rfl) (pv 0) pe_int (fun _ _ => rfl))) (pg_name (i := 3) nd rfl (by first | exact Or.inl rfl | exact Or.inr rfl)) (pss_one (ps_if (pt_cmpR (kr_snotin P w rfl rfl) (pv 3) (pv 2) rfl) (pss_cons (ps_set (i := 4) nd rfl (by first | exact Or.inl rfl | exact Or.inr rfl) (pe_callB (call_sortedD rfl) (by rfl) B.sorted bb_sorted (pa_cons (pe_c C.paths_from hr (by decide) rfl (pa_cons (pv 0) (pa_cons (pv 3) pa_nil))) pa_nil)))
  (pss_cons (ps_expr (pe_bm PySem.F.plainAttrs_list PySem.F.slot_list_append PySem.F.type_list_append mt_append (pv 1) (pa_cons (pv 4) pa_nil)))
  (pss_one (ps_for PassesOwn.never rfl (ki_list K rfl (pv 4)) (pg_name (i := 5) nd rfl (by first | exact Or.inl rfl | exact Or.inr rfl)) (pss_one (ps_expr (kr_sadd P w rfl rfl (pv 2) (pa_cons (pv 5) pa_nil)))))))) pss_nil)))
  (pss_one (ps_ret (pv 1)))))), ?_⟩
    wtm_at "rd"
    intro l fl
    have s1 := Same.new (o := .lst []) fl
    have hl1 := @upd_same H l (.lst [])
    generalize upd H l (.lst []) = H1 at s1 hl1
    wtm_at "rd"
    refine ⟨rfl, fun kn fk => ?_⟩
    have fk0 := new_of_same s1 fk
    have s2 := same_add (o := SetK P w kn (fun _ => false) 0) s1 fk
    have hl2 := at_upd (o := SetK P w kn (fun _ => false) 0) (ne_of_none hl1 fk) hl1
    have hk2 := @upd_same H1 kn (SetK P w kn (fun _ => false) 0)
    generalize upd H1 kn (SetK P w kn (fun _ => false) 0) = H2 at s2 hl2 hk2
    wtm_at "rd"
    refine rd_ixT (SqT.of (s2 _ _ gs.gr.top)) (v := .ref n) rfl ?_
    refine rd_forT (SqT.of (s2 _ _ gs.gr.nodes)) ?_
    refine turnsT (K := K) (xs := ns.map V.str) (fun i σ H' => ∃ (cs : List (Addr × List Str)) (S : Key → Bool) (m : Nat) (u3 u4 u5 : Option V), σ = [some (.ref g), some (.ref l), some (.ref kn), u3, u4, u5] ∧ Same H H' ∧ ListsAt H' l cs ∧ (∀ c ∈ cs, H c.1 = none ∧ c.1 ≠ l) ∧
      H' kn = some (SetK P w kn S m) ∧ (∀ x : Str, S (.inr x) = decide (x ∈ (cs.map (·.2)).flatten)) ∧ m = (cs.map (·.2)).flatten.length ∧ cs.map (·.2) = (ns.take i).foldl (compStep (es.map (·.2))) [] ∧ Cmps ns (es.map (·.2)) (ns.take i) (cs.map (·.2)))
      ⟨[], fun _ => false, 0, _, _, _, rfl, s2, ⟨hl2, fun c hc => nomatch hc⟩, (fun c hc => nomatch hc), hk2, (fun x => rfl), rfl, rfl, Cmps.nil⟩ ?_ ?_ ?_
    · rintro i σ H' hi ⟨cs, S, m, u3, u4, u5, rfl, s, _⟩
      exact SqT.of (s _ _ gs.gr.nodes)
    · rintro i y σ H' hy ⟨cs, S, m, u3, u4, u5, rfl, s, la, fr, hk, hS, hm, ec, cm⟩
      obtain ⟨hi, rfl⟩ := map_at hy
      have hx := List.getElem_mem hi
      have tk := take_snoc hi
      have cm2 := cm.step gs.ok (by have := gs.l2; omega) hx
      rw [← tk] at cm2
      have ec2 : compStep (es.map (·.2)) (cs.map (·.2)) ns[i] = (ns.take (i + 1)).foldl (compStep (es.map (·.2))) [] := by
        rw [tk, List.foldl_append, ← ec]
        rfl
      have fl1 := cm.len gs.ok
      have fl2 := cm2.len gs.ok
      generalize ns[i] = x at *
      wtm_at "rd"
      refine ⟨.inr x, kn, S, m, rfl, rfl, hk, ?_⟩
      rw [hS]
      by_cases mx : x ∈ (cs.map (·.2)).flatten
      · rw [decide_eq_true mx]
        refine rd_bl ?_
        refine rd_F ?_
        have st : compStep (es.map (·.2)) (cs.map (·.2)) x = cs.map (·.2) := if_pos mx
        rw [st] at ec2 cm2
        wtm_at "rd"
        exact ⟨cs, S, m, _, _, _, rfl, s, la, fr, hk, hS, hm, ec2, cm2⟩
      rw [decide_eq_false mx]
      refine rd_bl ?_
      refine rd_T ?_
      have st : compStep (es.map (·.2)) (cs.map (·.2)) x = cs.map (·.2) ++ [comp (es.map (·.2)) x] := if_neg mx
      rw [st] at ec2 cm2 fl2
      wtm_at "rd"
      refine ⟨g, n, e, x, ns, es, rfl, gs.same s, hx, fun d A H3 s3 fd frA pa => ?_⟩
      have s03 := s.trans s3
      refine ⟨d, _, keysF (ptF (es.map (·.2)) x), rfl, .inl pa.di, (by rw [List.map_map]; rfl), (by rw [List.length_map]; have := pt_len gs.ok hx; omega), fun ys p pm srt fp => ?_⟩
      obtain rfl : ys = comp (es.map (·.2)) x := sort_uniq pm (sortedS_pw srt) pt_nodup
      have la3 := la.same s3
      have s04 := same_add (o := .lst ((comp (es.map (·.2)) x).map V.str)) s03 fp
      have la4 := la3.same (Same.new (o := .lst ((comp (es.map (·.2)) x).map V.str)) fp)
      have hk4 := at_upd (o := .lst ((comp (es.map (·.2)) x).map V.str)) (ne_of_none (s3 _ _ hk) fp) (s3 _ _ hk)
      have hp4 := @upd_same H3 p (.lst ((comp (es.map (·.2)) x).map V.str))
      have npl : p ≠ l := Ne.symm (ne_of_none la3.li fp)
      have fp0 := new_of_same s03 fp
      generalize upd H3 p (.lst ((comp (es.map (·.2)) x).map V.str)) = H4 at s04 la4 hk4 hp4
      wtm_at "rd"
      refine rd_tyL la4.li ?_
      wtm_at "rd"
      have cl : cs.length ≤ (cs.map (·.2)).flatten.length := by
        have : ∀ (xs : List (List Str)), (∀ c ∈ xs, 0 < c.length) → xs.length ≤ xs.flatten.length := by
          intro xs
          induction xs with
          | nil => intro _; exact Nat.le_refl _
          | cons c r ih =>
            intro h
            rw [List.flatten_cons, List.length_append, List.length_cons]
            have := ih fun d hd => h d (List.mem_cons_of_mem _ hd)
            have := h c List.mem_cons_self
            omega
        have z := this (cs.map (·.2)) fun c hc => by
          obtain ⟨r, _, rfl⟩ := cm.of c hc
          exact comp_pos
        rw [List.length_map] at z
        exact z
      refine rd_append la4.li (by rw [List.length_map]; have := gs.l2; omega) ?_
      have s05 := same_put (o := .lst (cs.map (fun c => V.ref c.1) ++ [.ref p])) s04 fl
      have nkl : kn ≠ l := Ne.symm (ne_of_none hl1 fk)
      have hk5 := at_upd (o := .lst (cs.map (fun c => V.ref c.1) ++ [.ref p])) nkl hk4
      have hp5 := at_upd (o := .lst (cs.map (fun c => V.ref c.1) ++ [.ref p])) npl hp4
      have la5 : ListsAt (upd H4 l (.lst (cs.map (fun c => V.ref c.1) ++ [.ref p]))) l (cs ++ [(p, comp (es.map (·.2)) x)]) := ⟨by rw [upd_same, List.map_append]; rfl, fun c hc => by
        rcases List.mem_append.mp hc with hc | hc
        · exact at_upd (fr c hc).2 (la4.at_ c hc)
        · rw [List.mem_singleton] at hc
          subst hc
          exact hp5⟩
      generalize upd H4 l (.lst (cs.map (fun c => V.ref c.1) ++ [.ref p])) = H5 at s05 hk5 hp5 la5
      have cnd : ((cs.map (·.2)).flatten ++ comp (es.map (·.2)) x).Nodup := by
        have := cm2.nd
        rw [List.flatten_append, List.flatten_singleton] at this
        exact this
      have cle : (cs.map (·.2)).flatten.length + (comp (es.map (·.2)) x).length ≤ ns.length := by
        have := fl2
        rw [List.flatten_append, List.flatten_singleton, List.length_append] at this
        exact this
      have fin : (cs ++ [(p, comp (es.map (·.2)) x)]).map (·.2) = cs.map (·.2) ++ [comp (es.map (·.2)) x] := by rw [List.map_append]; rfl
      have fin2 : ((cs ++ [(p, comp (es.map (·.2)) x)]).map (·.2)).flatten = (cs.map (·.2)).flatten ++ comp (es.map (·.2)) x := by rw [fin, List.flatten_append, List.flatten_singleton]
      generalize comp (es.map (·.2)) x = co at *
      wtm_at "rd"
      refine rd_forL (SqL.of hp5) ?_
      refine turnsL (K := K) (xs := co.map V.str) (fun j σ H' => ∃ (S : Key → Bool) (u5 : Option V), σ = [some (.ref g), some (.ref l), some (.ref kn), some (.str x), some (.ref p), u5] ∧ Same H H' ∧ ListsAt H' l (cs ++ [(p, co)]) ∧
        H' kn = some (SetK P w kn S (m + j)) ∧ ∀ x : Str, S (.inr x) = decide (x ∈ (cs.map (·.2)).flatten ++ co.take j)) ⟨S, _, rfl, s05, la5, hk5, fun y => by rw [hS, List.take_zero, List.append_nil]⟩ ?_ ?_ ?_
      · rintro j σ H' hj ⟨S, u5, rfl, s, la, _⟩
        exact SqL.of (la.at_ (p, co) (List.mem_append_right _ List.mem_cons_self))
      · rintro j y σ H' hy ⟨S, u5, rfl, s, la, hk, hS⟩
        obtain ⟨hj, rfl⟩ := map_at hy
        have tj := take_snoc hj
        have no : co[j] ∉ (cs.map (·.2)).flatten ++ co.take j := by
          intro z
          rw [List.nodup_append] at cnd
          rcases List.mem_append.mp z with z | z
          · exact cnd.2.2 _ z _ (List.getElem_mem hj) rfl
          · exact not_take cnd.2.1 hj z
        generalize co[j] = o at *
        wtm_at "rd"
        refine rd_sadd ?_
        wtm_at "rd"
        refine ⟨⟨kn, S, m + j, rfl, hk⟩, ?_⟩
        wtm_at "rd"
        refine ⟨kn, .inr o, S, m + j, rfl, rfl, hk, ?_, ?_⟩
        · show m + j + 1 < 4096
          omega
        have so : S (.inr o) = false := by rw [hS]; exact decide_eq_false no
        rw [if_neg (by rw [so]; exact Bool.false_ne_true)]
        refine ⟨fun k => S k || decide (k = .inr o), _, rfl, same_put s fk0, ⟨at_upd (Ne.symm nkl) la.li, fun c hc => at_upd (fun z => by
          have := la.at_ c hc
          rw [z, hk] at this
          cases this) (la.at_ c hc)⟩, upd_same, fun y => ?_⟩
        show (S (.inr y) || decide ((Sum.inr y : Key) = Sum.inr o)) = _
        rw [hS, tj, ← List.append_assoc, Bool.eq_iff_iff]
        simp only [Bool.or_eq_true, decide_eq_true_eq, List.mem_append, List.mem_singleton, Sum.inr.injEq]
      · rintro σ H6 ⟨S6, u5, rfl, s6, la6, hk6, hS6⟩
        rw [List.length_map] at hk6 hS6
        rw [List.take_length] at hS6
        refine ⟨cs ++ [(p, co)], S6, _, _, _, _, rfl, s6, la6, ?_, hk6, ?_, ?_, ?_, ?_⟩
        · intro c hc
          rcases List.mem_append.mp hc with hc | hc
          · exact fr c hc
          · rw [List.mem_singleton] at hc
            subst hc
            exact ⟨fp0, npl⟩
        · intro y
          rw [hS6, fin2]
        · rw [fin2, List.length_append, hm]
        · rw [fin]
          exact ec2
        · rw [fin]
          exact cm2
    · rintro σ H' ⟨cs, S, m, u3, u4, u5, rfl, s, la, fr, hk, hS, hm, ec, cm⟩
      rw [List.length_map, List.take_length] at ec
      wtm_at "rd"
      exact q l cs H' s fl (fun c hc => (fr c hc).1) la ec
end
end Law

/-! sums of slopes along walks: the plain law -/
namespace U
open PySem PySem.Spec PyProof.Rows L2
def Adj (es : List (Str × Str)) (a b : Str) : Prop := (a, b) ∈ es ∨ (b, a) ∈ es
theorem Adj.symm {es : List (Str × Str)} {a b : Str} (h : Adj es a b) : Adj es b a := Or.symm h
def Wk (es : List (Str × Str)) : List Str → Prop
  | a :: b :: r => Adj es a b ∧ Wk es (b :: r)
  | _ => True
/-- the slopes along a list -/
def psl (f : Str → Int) : List Str → List Int
  | a :: b :: r => slp f a b :: psl f (b :: r)
  | _ => []
def psum (f : Str → Int) (p : List Str) : Int := (psl f p).sum
theorem psl_len (f : Str → Int) : ∀ p : List Str, (psl f p).length = p.length - 1
  | [] => rfl
  | [_] => rfl
  | a :: b :: r => by
    rw [psl, List.length_cons, psl_len f (b :: r)]
    simp
theorem psl_at (f : Str → Int) : ∀ (p : List Str) (i : Nat) (h : i + 1 < p.length), (psl f p)[i]? = some (slp f p[i] p[i + 1])
  | a :: b :: r, 0, _ => rfl
  | a :: b :: r, i + 1, h => by
    rw [psl, List.getElem?_cons_succ, psl_at f (b :: r) i (by simp at h ⊢; omega)]
    rfl
theorem psum_cons {f : Str → Int} {a b : Str} {r : List Str} : psum f (a :: b :: r) = slp f a b + psum f (b :: r) := by
  unfold psum
  rw [psl, List.sum_cons]
theorem psum_one {f : Str → Int} {a : Str} : psum f [a] = 0 := rfl
/-- p, behind its last the rest r -/
theorem psum_join {f : Str → Int} : ∀ {p r : List Str} {x : Str}, p.getLast? = some x → psum f (p ++ r) = psum f p + psum f (x :: r)
  | [], _, _, h => nomatch h
  | [a], r, x, h => by
    have : a = x := by simpa using h
    subst this
    rw [psum_one, Int.zero_add]
    rfl
  | a :: b :: q, r, x, h => by
    have h' : (b :: q).getLast? = some x := by rw [List.getLast?_cons_cons] at h; exact h
    have ih := psum_join (f := f) (p := b :: q) (r := r) h'
    rw [List.cons_append, List.cons_append, psum_cons, psum_cons]
    rw [List.cons_append] at ih
    rw [ih]
    omega
theorem Wk.join {es : List (Str × Str)} : ∀ {p r : List Str} {x : Str}, p.getLast? = some x → Wk es p → Wk es (x :: r) → Wk es (p ++ r)
  | [], _, _, h, _, _ => nomatch h
  | [a], r, x, h, _, w => by
    have : a = x := by simpa using h
    subst this
    exact w
  | a :: b :: q, r, x, h, w1, w2 => by
    have h' : (b :: q).getLast? = some x := by rw [List.getLast?_cons_cons] at h; exact h
    exact ⟨w1.1, Wk.join (p := b :: q) h' w1.2 w2⟩
theorem Wk.snoc {es : List (Str × Str)} {p : List Str} {x b : Str} (h : p.getLast? = some x) (w : Wk es p) (a : Adj es x b) : Wk es (p ++ [b]) := w.join h ⟨a, trivial⟩
theorem Wk.left {es : List (Str × Str)} : ∀ {p r : List Str}, Wk es (p ++ r) → Wk es p
  | [], _, _ => trivial
  | [_], _, _ => trivial
  | a :: b :: q, r, w => ⟨w.1, Wk.left (p := b :: q) (r := r) w.2⟩
theorem Wk.tail {es : List (Str × Str)} {a : Str} {p : List Str} (w : Wk es (a :: p)) : Wk es p := by
  cases p with
  | nil => trivial
  | cons b r => exact w.2
theorem Wk.right {es : List (Str × Str)} : ∀ {p r : List Str}, Wk es (p ++ r) → Wk es r
  | [], _, w => w
  | a :: q, r, w => Wk.right (p := q) (r := r) (Wk.tail w)
theorem Wk.rev {es : List (Str × Str)} : ∀ {p : List Str}, Wk es p → Wk es p.reverse
  | [], _ => trivial
  | [_], _ => trivial
  | a :: b :: r, w => by
    have ih := Wk.rev (p := b :: r) w.2
    rw [List.reverse_cons]
    refine ih.snoc (x := b) ?_ w.1.symm
    rw [List.reverse_cons, List.getLast?_append]
    simp
section
variable {ns : List Str} {es : List (Str × Str)} {f : Str → Int}
theorem slp_neg (ok : EsOk ns es f) {a b : Str} (h : Adj es a b) : slp f b a = - slp f a b := by
  have ha : a ∈ ns ∧ b ∈ ns ∧ f a ≠ f b := by
    rcases h with h | h
    · exact ⟨(ok.mem _ h).1, (ok.mem _ h).2, ok.pro _ h⟩
    · exact ⟨(ok.mem _ h).2, (ok.mem _ h).1, fun z => ok.pro _ h z.symm⟩
  have t1 := ok.tri a ha.1
  have t2 := ok.tri b ha.2.1
  have ne := ha.2.2
  unfold slp
  split <;> split <;> omega
theorem slp_mod (ok : EsOk ns es f) {a b : Str} (h : Adj es a b) : slp f a b % 3 = (f b - f a) % 3 := by
  have ha : a ∈ ns ∧ b ∈ ns ∧ f a ≠ f b := by
    rcases h with h | h
    · exact ⟨(ok.mem _ h).1, (ok.mem _ h).2, ok.pro _ h⟩
    · exact ⟨(ok.mem _ h).2, (ok.mem _ h).1, fun z => ok.pro _ h z.symm⟩
  have t1 := ok.tri a ha.1
  have t2 := ok.tri b ha.2.1
  have ne := ha.2.2
  unfold slp
  split <;> omega
theorem psum_rev (ok : EsOk ns es f) : ∀ {p : List Str}, Wk es p → psum f p.reverse = - psum f p
  | [], _ => rfl
  | [_], _ => rfl
  | a :: b :: r, w => by
    have ih := psum_rev ok (p := b :: r) w.2
    have hl : (b :: r).reverse.getLast? = some b := by
      rw [List.reverse_cons, List.getLast?_append]
      simp
    rw [List.reverse_cons, psum_join hl, ih, psum_cons, psum_cons, psum_one, slp_neg ok w.1]
    omega
theorem psum_mod (ok : EsOk ns es f) : ∀ {p : List Str} {a b : Str}, Wk es p → p.head? = some a → p.getLast? = some b → psum f p % 3 = (f b - f a) % 3
  | [], _, _, _, h, _ => nomatch h
  | [x], a, b, _, h, k => by
    have h1 : x = a := by simpa using h
    have h2 : x = b := by simpa using k
    subst h1
    subst h2
    rw [psum_one]
    omega
  | x :: y :: r, a, b, w, h, k => by
    have h1 : x = a := by simpa using h
    subst h1
    have k' : (y :: r).getLast? = some b := by rw [List.getLast?_cons_cons] at k; exact k
    have ih := psum_mod ok (p := y :: r) (a := y) w.2 rfl k'
    have m := slp_mod ok w.1
    rw [psum_cons]
    omega
/-- two states apart by the numbers h -/
theorem psum_lift {g h : Str → Int} (okf : EsOk ns es f) (okg : EsOk ns es g) (t : ∀ e ∈ es, slp f e.1 e.2 - slp g e.1 e.2 = 2 * (h e.1 - h e.2)) : ∀ {p : List Str} {a b : Str}, Wk es p → p.head? = some a → p.getLast? = some b → psum f p - psum g p = 2 * (h a - h b)
  | [], _, _, _, h, _ => nomatch h
  | [x], a, b, _, h, k => by
    have h1 : x = a := by simpa using h
    have h2 : x = b := by simpa using k
    subst h1
    subst h2
    rw [psum_one, psum_one]
    omega
  | x :: y :: r, a, b, w, k1, k => by
    have h1 : x = a := by simpa using k1
    subst h1
    have k' : (y :: r).getLast? = some b := by rw [List.getLast?_cons_cons] at k; exact k
    have ih := psum_lift okf okg t (p := y :: r) (a := y) w.2 rfl k'
    rw [psum_cons, psum_cons]
    have m : slp f x y - slp g x y = 2 * (h x - h y) := by
      rcases w.1 with q | q
      · exact t _ q
      · have := t _ q
        have n1 := slp_neg okf (.inl q)
        have n2 := slp_neg okg (.inl q)
        simp only at this
        omega
    omega
end
/-! ### the paths found are walks -/
theorem PathTo.wk {es : List (Str × Str)} {ok : Str → Str → Bool} {root x : Str} {p : List Str} (h : PathTo (nbS es) ok root x p) : Wk es p ∧ p.head? = some root ∧ p.getLast? = some x := by
  induction h with
  | one => exact ⟨trivial, rfl, rfl⟩
  | @snoc a b p _ m o ih =>
    obtain ⟨h1, h2, h3⟩ := ih
    refine ⟨h1.snoc h3 (nbS_mem.mp m), ?_, by simp⟩
    cases p with
    | nil => cases h2
    | cons _ _ => exact h2
/-! ### basis cycles -/
def pen (p : List Str) : List Str := (p.drop (p.length - 2)).take ((p.length - 1) - (p.length - 2))
def pth (kp : List (Str × List Str)) (x : Str) : List Str := (kp.lookup x).getD []
def isBasis (kp : List (Str × List Str)) (e : Str × Str) : Bool := !decide (pen (pth kp e.1) = [e.2]) && !decide (pen (pth kp e.2) = [e.1])
def basisF (es : List (Str × Str)) (kp : List (Str × List Str)) : List (List Str) := (es.filter (isBasis kp)).map fun e => pth kp e.1 ++ (pth kp e.2).reverse
theorem lookup_some : ∀ {kp : List (Str × List Str)} {x : Str}, x ∈ keysF kp → ∃ p, kp.lookup x = some p ∧ (x, p) ∈ kp
  | y :: r, x, h => by
    rw [List.lookup_cons]
    by_cases e : x = y.1
    · subst e
      rw [show (y.1 == y.1) = true from beq_self_eq_true _]
      exact ⟨y.2, rfl, List.mem_cons_self⟩
    · rw [show (x == y.1) = false from beq_eq_false_iff_ne.mpr e]
      have : x ∈ keysF r := by
        rcases List.mem_cons.mp h with z | z
        · exact absurd z e
        · exact z
      obtain ⟨p, h1, h2⟩ := lookup_some this
      exact ⟨p, h1, List.mem_cons_of_mem _ h2⟩
theorem lookup_uniq : ∀ {kp : List (Str × List Str)} {x : Str} {p : List Str}, (keysF kp).Nodup → (x, p) ∈ kp → kp.lookup x = some p
  | y :: r, x, p, nd, h => by
    have nd' : y.1 ∉ keysF r ∧ (keysF r).Nodup := List.nodup_cons.mp nd
    rw [List.lookup_cons]
    rcases List.mem_cons.mp h with e | h
    · rw [← e]
      rw [show (x == x) = true from beq_self_eq_true _]
    · have : x ≠ y.1 := by
        rintro rfl
        exact nd'.1 (List.mem_map_of_mem (f := (·.1)) h)
      rw [show (x == y.1) = false from beq_eq_false_iff_ne.mpr this]
      exact lookup_uniq nd'.2 h
section
variable {ns : List Str} {es : List (Str × Str)}
theorem comp_same (ok : GrOk ns es) (l : ns.length ≤ 1000) {r s x y : Str} (hr : r ∈ ns) (hs : s ∈ ns) (hx : x ∈ comp es r) (hy : y ∈ comp es s) (c : Con es x y) : comp es r = comp es s := by
  have h1 := (comp_mem ok l hr).mp hx
  have h2 := (comp_mem ok l hs).mp hy
  have rs : Con es r s := (h1.trans c).trans (con_symm h2)
  refine asc_unique (sortS_asc pt_nodup) (sortS_asc pt_nodup) fun z => ?_
  rw [comp_mem ok l hr, comp_mem ok l hs]
  exact ⟨fun h => (con_symm rs).trans h, fun h => rs.trans h⟩
/-- each node has its root path: a walk from the root of its component -/
theorem roots_path (ok : GrOk ns es) (l : ns.length ≤ 1000) {x : Str} (hx : x ∈ ns) : ∃ r ∈ ns, x ∈ comp es r ∧ PathTo (nbS es) (fun _ _ => true) ((comp es r).headD Str.empty) x (pth (rootsF es (compsF ns es)) x) := by
  have cm := compsF_ok ok l
  have hk : x ∈ keysF (rootsF es (compsF ns es)) := (roots_keys ok l cm.of x).mpr (cm.all x hx)
  obtain ⟨p, h1, h2⟩ := lookup_some hk
  have e : pth (rootsF es (compsF ns es)) x = p := by unfold pth; rw [h1]; rfl
  rw [e]
  obtain ⟨c, hc, h3⟩ := List.mem_flatMap.mp h2
  obtain ⟨r, hr, rfl⟩ := cm.of c hc
  exact ⟨r, hr, ((root_keys ok l hr).2 x).mp (List.mem_map_of_mem h3), stF_path 1000 _ h3⟩
theorem basis_ok (ok : GrOk ns es) (l : ns.length ≤ 1000) : ∀ c ∈ basisF es (rootsF es (compsF ns es)), Wk es c ∧ ∃ a, c.head? = some a ∧ c.getLast? = some a := by
  intro c hc
  obtain ⟨e, he, rfl⟩ := List.mem_map.mp hc
  have he := (List.mem_filter.mp he).1
  obtain ⟨m1, m2⟩ := ok.mem e he
  obtain ⟨r, hr, hx, p1⟩ := roots_path ok l m1
  obtain ⟨s, hs, hy, p2⟩ := roots_path ok l m2
  have cs := comp_same ok l hr hs hx hy (.step .refl (nbS_mem.mpr (.inl he)) rfl)
  rw [← cs] at p2
  obtain ⟨w1, h1, k1⟩ := p1.wk
  obtain ⟨w2, h2, k2⟩ := p2.wk
  generalize pth (rootsF es (compsF ns es)) e.1 = p at *
  generalize pth (rootsF es (compsF ns es)) e.2 = q at *
  generalize (comp es r).headD Str.empty = rt at *
  have hq : q.reverse.head? = some e.2 := by rw [List.head?_reverse]; exact k2
  have lq : q.reverse.getLast? = some rt := by rw [List.getLast?_reverse]; exact h2
  refine ⟨w1.join k1 ?_, rt, ?_, ?_⟩
  · have w3 := w2.rev
    cases e3 : q.reverse with
    | nil => rw [e3] at hq; cases hq
    | cons y t =>
      rw [e3] at hq w3
      have : y = e.2 := by simpa using hq
      subst this
      exact ⟨.inl he, w3⟩
  · rw [List.head?_append, h1]
    rfl
  · rw [List.getLast?_append, lq]
    rfl
end
end U

/-! small readings that many laws want -/
namespace U
open PySem PySem.Spec PyProof.Rows L2
section
variable {K : PySem.W.Frag} {H H' : Hp} {Q : VK} {p q a : Addr} {σ : L2.St} {te td : TE} {tr : TA} {xs : List V}
theorem rd_tyD {kvs : List (Key × V)} {P : Prop} (hs : H p = some (.dK kvs)) (h : P) : tyV K "dict" (.ref p) H ∧ P := ⟨.inr (.inr (.inl ⟨rfl, .inl ⟨kvs, hs⟩⟩)), h⟩
theorem rd_revL (h : te σ H fun x H1 => ∃ a xs, x = .ref a ∧ SqL K H1 a xs ∧ ∀ p, H1 p = none → Q (.ref p) (upd H1 p (.lst xs.reverse))) : tRevL K te σ H Q := h
theorem Same.sqL (s : Same H H') (h : SqL K H a xs) : SqL K H' a xs := by
  rcases h with (h | ⟨o, h⟩) | h
  · exact .inl (.inl (s _ _ h))
  · exact .inl (.inr ⟨o, s _ _ h⟩)
  · exact .inr h
end
end U

/-! root_paths, basis_cycles, path_sum, windings -/
namespace Law
open PySem PySem.Spec PyProof.Rows L2 U


theorem merge_kvG {G : Str → V} : ∀ {b a : List Str} {F : Str → V}, (a ++ b).Nodup → mergeK (kvG a F) (kvG b G) = kvG (a ++ b) (fun x => if x ∈ a then F x else G x)
  | [], a, F, _ => by
    rw [List.append_nil]
    exact kvG_congr fun x hx => (if_pos hx).symm
  | n :: b, a, F, nd => by
    have nn : n ∉ a := by
      rw [List.nodup_append] at nd
      exact fun z => nd.2.2 n z n List.mem_cons_self rfl
    have e : mergeK (kvG a F) (kvG (n :: b) G) = mergeK (putK (kvG a F) (.inr n) (G n)) (kvG b G) := rfl
    rw [e, kvG_new nn, merge_kvG (by rw [List.append_assoc]; exact nd), List.append_assoc]
    refine kvG_congr fun x _ => ?_
    unfold updV
    by_cases z : x = n
    · subst z
      rw [if_pos (List.mem_append_right _ List.mem_cons_self), if_pos rfl, if_neg nn]
    · by_cases m : x ∈ a
      · rw [if_pos (List.mem_append_left _ m), if_neg z, if_pos m]
      · rw [if_neg (fun h => by
          rcases List.mem_append.mp h with h | h
          · exact m h
          · exact z (List.mem_singleton.mp h)), if_neg m]
theorem cutV_pen {p : List Str} : cutV (p.map V.str) (some (-2)) (some (-1)) = (pen p).map V.str := by
  unfold cutV pen HT.sIx
  simp only
  rw [if_pos (by decide), if_pos (by decide), List.length_map, List.map_take, List.map_drop]
  congr 2 <;> omega
abbrev rtF (ns : List Str) (es : List (Str × Str)) : List (Str × List Str) := rootsF es (compsF ns es)
def spRoots : Sp := fun vs H Q _ => ∃ (g n e : Addr) (ns : List Str) (es : List (Addr × Str × Str)), vs = [.ref g] ∧ GrS H g n e ns es ∧ ns.length ≤ 60 ∧
  ∀ (d : Addr) (A : Str → Addr) (H' : Hp), Same H H' → H d = none → (∀ c ∈ rtF ns (es.map (·.2)), H (A c.1) = none) → PathsAt H' d (rtF ns (es.map (·.2))) A → Q (.ref d) H'
abbrev bsF (ns : List Str) (es : List (Str × Str)) : List (List Str) := basisF es (rtF ns es)
def spBasis : Sp := fun vs H Q _ => ∃ (g n e : Addr) (ns : List Str) (es : List (Addr × Str × Str)), vs = [.ref g] ∧ GrS H g n e ns es ∧ ns.length ≤ 60 ∧
  ∀ (l : Addr) (cs : List (Addr × List Str)) (H' : Hp), Same H H' → H l = none → (∀ c ∈ cs, H c.1 = none) → ListsAt H' l cs → cs.map (·.2) = bsF ns (es.map (·.2)) → Q (.ref l) H'
def spPsum (K : PySem.W.Frag) : Sp := fun vs H Q _ => ∃ (st pl : Addr) (ord p : List Str) (f : Str → Int), vs = [.ref st, .ref pl] ∧ H st = some (.dK (kvF ord f)) ∧ SqL K H pl (p.map V.str) ∧ (∀ x ∈ p, x ∈ ord) ∧ p.length ≤ 5000 ∧ ∀ H' : Hp, Same H H' → Q (.int (psum f p)) H'
def spWind : Sp := fun vs H Q _ => ∃ (g n e st : Addr) (ns ord : List Str) (es : List (Addr × Str × Str)) (f : Str → Int), vs = [.ref g, .ref st] ∧ GSt H g n e st ns ord es f ∧ ns.length ≤ 60 ∧
  ∀ (l : Addr) (H' : Hp), Same H H' → H l = none → H' l = some (.lst (((bsF ns (es.map (·.2))).map fun c => psum f c / 3).map V.int)) → Q (.ref l) H'
theorem rt_mem {ns : List Str} {es : List (Str × Str)} (ok : GrOk ns es) (l : ns.length ≤ 1000) {x : Str} (hx : x ∈ ns) : x ∈ keysF (rtF ns es) := (roots_keys ok l (compsF_ok ok l).of x).mpr ((compsF_ok ok l).all x hx)
theorem rt_at {H : Hp} {d : Addr} {ns : List Str} {es : List (Str × Str)} {A : Str → Addr} (h : PathsAt H d (rtF ns es) A) (ok : GrOk ns es) (l : ns.length ≤ 1000) {x : Str} (hx : x ∈ ns) : H (A x) = some (.lst ((pth (rtF ns es) x).map V.str)) := by
  obtain ⟨p, h1, h2⟩ := lookup_some (rt_mem ok l hx)
  have e : pth (rtF ns es) x = p := by unfold pth; rw [h1]; rfl
  rw [e]
  exact h.li _ h2
theorem rt_len {ns : List Str} {es : List (Str × Str)} (ok : GrOk ns es) (l : ns.length ≤ 1000) {x : Str} (hx : x ∈ ns) : (pth (rtF ns es) x).length ≤ 1001 := by
  obtain ⟨p, h1, h2⟩ := lookup_some (rt_mem ok l hx)
  have e : pth (rtF ns es) x = p := by unfold pth; rw [h1]; rfl
  rw [e]
  obtain ⟨c, _, h3⟩ := List.mem_flatMap.mp h2
  exact stF_plen 1000 _ h3
theorem path_in {ns : List Str} {es : List (Str × Str)} (ok : GrOk ns es) {r x : Str} {p : List Str} (hr : r ∈ ns) (h : PathTo (nbS es) (fun _ _ => true) r x p) : ∀ y ∈ p, y ∈ ns := by
  induction h with
  | one => intro y hy; rw [List.mem_singleton] at hy; rw [hy]; exact hr
  | snoc _ m _ ih =>
    intro y hy
    rcases List.mem_append.mp hy with hy | hy
    · exact ih y hy
    · rw [List.mem_singleton] at hy
      rw [hy]
      exact nbS_in ok m
theorem rt_in {ns : List Str} {es : List (Str × Str)} (ok : GrOk ns es) (l : ns.length ≤ 1000) {x : Str} (hx : x ∈ ns) : ∀ y ∈ pth (rtF ns es) x, y ∈ ns := by
  obtain ⟨r, hr, _, p⟩ := roots_path ok l hx
  exact path_in ok (root_keys ok l hr).1 p
theorem bs_in {ns : List Str} {es : List (Str × Str)} (ok : GrOk ns es) (l : ns.length ≤ 1000) : ∀ c ∈ bsF ns es, (∀ y ∈ c, y ∈ ns) ∧ c.length ≤ 2002 := by
  intro c hc
  obtain ⟨e, he, rfl⟩ := List.mem_map.mp hc
  obtain ⟨m1, m2⟩ := ok.mem e (List.mem_filter.mp he).1
  refine ⟨fun y hy => ?_, ?_⟩
  · rcases List.mem_append.mp hy with hy | hy
    · exact rt_in ok l m1 y hy
    · exact rt_in ok l m2 y (List.mem_reverse.mp hy)
  · have := rt_len ok l m1
    have := rt_len ok l m2
    rw [List.length_append, List.length_reverse]
    omega
section
variable {P : Program} {w : World} {K : PySem.W.Frag} {mg : Str → Option Value} {base : Heap}
structure B4c (P : Program) (w : World) (K : PySem.W.Frag) (mg : Str → Option Value) (base : Heap) : Prop where
  paths_from : Cal P w K mg base CX0 2 "paths_from" spPathsFrom
  components : Cal P w K mg base CX0 3 "components" spComps
theorem ok_roots {f : Addr} {fd : FuncData} (F : Fun K "root_paths" "root_paths" s_root_paths f fd) (B : Bt mg) (C : B4c P w K mg base) : FnG P w K mg base CX0 4 f fd ["graph"] spRoots := by
  refine fnG0 F sc_root_paths (fun vs H Q E h => ?_) (fun cdv A outer s H vs Q E hr h => ?_)
  · obtain ⟨g, n, e, ns, es, rfl, _⟩ := h
    rfl
  · obtain ⟨g, n, e, ns, es, rfl, gs, nl, q⟩ := h
    have nd := sc_root_paths.nd
    have hu := hr.u1
    refine ⟨_, (pss_cons (ps_set (i := 1) nd rfl (by first | exact Or.inl rfl | exact Or.inr rfl) pe_dnewK)
  (pss_cons (ps_for PassesOwn.never rfl (ki_list K rfl (pe_c C.components hr (by decide) rfl (pa_cons (pv 0) pa_nil))) (pg_name (i := 2) nd rfl (by first | exact Or.inl rfl | exact Or.inr rfl)) (pss_one (ps_expr (pe_bm PySem.F.plainAttrs_dict PySem.F.slot_dict_update PySem.F.type_dict_update mtd_update (pv 1) (pa_cons (pe_c C.paths_from hr (by decide) rfl (pa_cons (pv 0) (pa_cons (pe_ix (kIx K rfl) (pv 2) pe_int (fun _ _ => rfl)) pa_nil))) pa_nil)))))
  (pss_one (ps_ret (pv 1))))), ?_⟩
    have l1 : ns.length ≤ 1000 := by omega
    wtm_at "rd"
    intro d fd
    have s1 := Same.new (o := .dK []) fd
    have hd1 := @upd_same H d (.dK [])
    generalize upd H d (.dK []) = H1 at s1 hd1
    wtm_at "rd"
    refine ⟨g, n, e, ns, es, rfl, gs.same s1, nl, fun l cs H2 s2 fl fr la ec => ?_⟩
    have hd2 := s2 _ _ hd1
    have s12 := s1.trans s2
    have cm := compsF_ok gs.ok l1
    rw [← ec] at cm
    refine rd_forL (SqL.of la.li) ?_
    refine turnsL (K := K) (xs := cs.map fun c => V.ref c.1) (fun i σ H' => ∃ (A : Str → Addr) (u2 : Option V), σ = [some (.ref g), some (.ref d), u2] ∧ Same H H' ∧ ListsAt H' l cs ∧ PathsAt H' d (rootsF (es.map (·.2)) ((cs.map (·.2)).take i)) A ∧
      (∀ c ∈ rootsF (es.map (·.2)) ((cs.map (·.2)).take i), H (A c.1) = none) ∧ (keysF (rootsF (es.map (·.2)) ((cs.map (·.2)).take i))).Nodup) ⟨fun _ => 0, _, rfl, s12, la, ⟨hd2, fun c hc => nomatch hc⟩, (fun c hc => nomatch hc), List.nodup_nil⟩ ?_ ?_ ?_
    · rintro i σ H' hi ⟨A, u2, rfl, s, la, _⟩
      exact SqL.of la.li
    · rintro i y σ H' hy ⟨A, u2, rfl, s, la, pa, frA, knd⟩
      obtain ⟨hi, rfl⟩ := map_at hy
      have hm := List.getElem_mem hi
      have hc := la.at_ _ hm
      have hi2 : i < (cs.map (·.2)).length := by rw [List.length_map]; exact hi
      have tk := take_snoc hi2
      rw [List.getElem_map] at tk
      obtain ⟨r, hr', er⟩ := cm.of cs[i].2 (List.mem_map_of_mem hm)
      have cpos : 0 < cs[i].2.length := by rw [er]; exact comp_pos
      obtain ⟨z, t, ez⟩ : ∃ z t, cs[i].2 = z :: t := by
        cases h : cs[i].2 with
        | nil => rw [h] at cpos; cases cpos
        | cons z t => exact ⟨z, t, rfl⟩
      have hh : (comp (es.map (·.2)) r).headD Str.empty = z := by rw [← er, ez]; rfl
      obtain ⟨k1, k2⟩ := root_keys gs.ok l1 hr'
      rw [hh] at k1 k2
      rw [← er] at k2
      have tk2 : rootsF (es.map (·.2)) ((cs.map (·.2)).take (i + 1)) = rootsF (es.map (·.2)) ((cs.map (·.2)).take i) ++ ptF (es.map (·.2)) z := by
        rw [tk, rootsF_snoc, ez]
        rfl
      have of' : ∀ c ∈ (cs.map (·.2)).take i, ∃ r ∈ ns, c = comp (es.map (·.2)) r := fun c hc => cm.of c (List.mem_of_mem_take hc)
      have rk := roots_keys gs.ok l1 of'
      have dis : ∀ x ∈ keysF (rootsF (es.map (·.2)) ((cs.map (·.2)).take i)), x ∉ keysF (ptF (es.map (·.2)) z) := by
        intro x h1 h2
        have h1 := (rk x).mp h1
        have h2 := (k2 x).mp h2
        have fnd := cm.nd
        rw [← List.take_append_drop (i + 1) (cs.map (·.2)), List.flatten_append, tk, List.flatten_append, List.flatten_singleton] at fnd
        have := (List.nodup_append.mp (List.nodup_append.mp fnd).1).2.2
        exact this x h1 x h2 rfl
      have nd2 : (keysF (rootsF (es.map (·.2)) ((cs.map (·.2)).take i)) ++ keysF (ptF (es.map (·.2)) z)).Nodup := List.nodup_append.mpr ⟨knd, pt_nodup, fun a ha b hb e => dis a ha (by rw [e]; exact hb)⟩
      have len1 : (rootsF (es.map (·.2)) ((cs.map (·.2)).take i)).length ≤ 1000 := by
        have := nodup_len knd (ys := ns) fun x hx => cm.in_ gs.ok x (by
          have := (rk x).mp hx
          obtain ⟨c, hc, hx⟩ := List.mem_flatten.mp this
          exact List.mem_flatten.mpr ⟨c, List.mem_of_mem_take hc, hx⟩)
        rw [List.length_map] at this
        omega
      rw [ez] at hc
      generalize cs[i] = c at *
      wtm_at "rd"
      refine rd_tyD pa.di ?_
      wtm_at "rd"
      refine rd_ixL (SqL.of hc) (v := .str z) (show atI _ ((0 : Nat) : Int) = _ from atI_nat rfl) ?_
      wtm_at "rd"
      refine ⟨g, n, e, z, ns, es, rfl, gs.same s, k1, fun d2 A2 H3 s3 fd2 frA2 pa2 => ?_⟩
      have pa3 := pa.same s3
      have nd2' : d ≠ d2 := ne_of_none pa.di fd2
      refine ⟨d, d2, _, _, rfl, rfl, nd2', pa3.di, pa2.di, (by rw [List.length_map, List.length_map, List.length_map, List.length_map]; have := pt_len gs.ok k1; omega), ?_⟩
      rw [merge_kvG nd2]
      have s03 := s.trans s3
      refine ⟨fun x => if x ∈ keysF (rootsF (es.map (·.2)) ((cs.map (·.2)).take i)) then A x else A2 x, _, rfl, same_put s03 fd, ⟨at_upd (ne_of (s3 _ _ la.li) pa3.di (by intro z; cases z)) (s3 _ _ la.li), fun c hc => at_upd (ne_of (s3 _ _ (la.at_ c hc)) pa3.di (by intro z; cases z)) (s3 _ _ (la.at_ c hc))⟩, ?_, ?_, ?_⟩
      · rw [tk2]
        refine ⟨?_, fun c hc => ?_⟩
        · rw [upd_same, show keysF (rootsF (es.map (·.2)) ((cs.map (·.2)).take i) ++ ptF (es.map (·.2)) z) = keysF (rootsF (es.map (·.2)) ((cs.map (·.2)).take i)) ++ keysF (ptF (es.map (·.2)) z) from List.map_append]
          congr 2
          refine kvG_congr fun x _ => ?_
          by_cases m : x ∈ keysF (rootsF (es.map (·.2)) ((cs.map (·.2)).take i))
          · rw [if_pos m, if_pos m]
          · rw [if_neg m, if_neg m]
        · rcases List.mem_append.mp hc with hc | hc
          · rw [if_pos (List.mem_map_of_mem hc)]
            exact at_upd (ne_of (pa3.li c hc) pa3.di (by intro z; cases z)) (pa3.li c hc)
          · rw [if_neg (fun h => dis _ h (List.mem_map_of_mem hc))]
            exact at_upd (ne_of (pa2.li c hc) pa3.di (by intro z; cases z)) (pa2.li c hc)
      · rw [tk2]
        intro c hc
        simp only
        rcases List.mem_append.mp hc with hc | hc
        · rw [if_pos (List.mem_map_of_mem hc)]
          exact frA c hc
        · rw [if_neg (fun h => dis _ h (List.mem_map_of_mem hc))]
          exact new_of_same s (frA2 c hc)
      · rw [tk2, keysF, List.map_append]
        exact nd2
    · rintro σ H' ⟨A, u2, rfl, s, la, pa, frA, knd⟩
      rw [List.length_map, List.take_of_length_le (by rw [List.length_map]; exact Nat.le_refl _), ec] at pa frA
      wtm_at "rd"
      exact q d A H' s fd frA pa
structure B5c (P : Program) (w : World) (K : PySem.W.Frag) (mg : Str → Option Value) (base : Heap) : Prop where
  root_paths : Cal P w K mg base CX0 4 "root_paths" spRoots
theorem ok_basis {f : Addr} {fd : FuncData} (F : Fun K "basis_cycles" "basis_cycles" s_basis_cycles f fd) (B : Bt mg) (C : B5c P w K mg base) : FnG P w K mg base CX0 5 f fd ["graph"] spBasis := by
  refine fnG0 F sc_basis_cycles (fun vs H Q E h => ?_) (fun cdv A outer s H vs Q E hr h => ?_)
  · obtain ⟨g, n, e, ns, es, rfl, _⟩ := h
    rfl
  · obtain ⟨g, n, e, ns, es, rfl, gs, nl, q⟩ := h
    have nd := sc_basis_cycles.nd
    have hu := hr.u1
    refine ⟨_, (pss_cons (ps_set (i := 1) nd rfl (by first | exact Or.inl rfl | exact Or.inr rfl) (pe_c C.root_paths hr (by decide) rfl (pa_cons (pv 0) pa_nil)))
  (pss_cons (ps_set (i := 2) nd rfl (by first | exact Or.inl rfl | exact Or.inr rfl) (pe_lst pa_nil))
  (pss_cons (ps_for PassesOwn.never rfl (ki_tup K rfl (pe_ix (kIx K rfl) (pv 0) pe_int (fun _ _ => rfl))) (kg_tup (n := 2) K rfl rfl (pgs_cons (pg_name (i := 3) nd rfl (by first | exact Or.inl rfl | exact Or.inr rfl)) (pgs_cons (pg_name (i := 4) nd rfl (by first | exact Or.inl rfl | exact Or.inr rfl)) pgs_nil))) (pss_one (ps_if (PW.pt (pw_and (pt_cmpR (kNe K rfl hr.u64) (pe_slice (kSl K rfl) (pe_dget hu (pv 1) (pv 3) (fun _ _ => rfl)) (po_some (pe_un un_neg pe_int)) (po_some (pe_un un_neg pe_int))) (pe_lst (pa_cons (pv 4) pa_nil)) (nomark _)) (pw_and1 (pt_cmpR (kNe K rfl hr.u64) (pe_slice (kSl K rfl) (pe_dget hu (pv 1) (pv 4) (fun _ _ => rfl)) (po_some (pe_un un_neg pe_int)) (po_some (pe_un un_neg pe_int))) (pe_lst (pa_cons (pv 3) pa_nil)) (nomark _))))) (pss_one (ps_expr (pe_bm PySem.F.plainAttrs_list PySem.F.slot_list_append PySem.F.type_list_append mt_append (pv 2) (pa_cons (pe_op (kAdd K rfl) (pe_dget hu (pv 1) (pv 3) (fun _ _ => rfl)) (pe_revL (pe_dget hu (pv 1) (pv 4) (fun _ _ => rfl)))) pa_nil)))) pss_nil)))
  (pss_one (ps_ret (pv 2)))))), ?_⟩
    have l1 : ns.length ≤ 1000 := by omega
    have sok : ∀ x ∈ ns, PyData.strOk x = true := fun x hx => (gs.ok.names.ok x hx).sok
    wtm_at "rd"
    refine ⟨g, n, e, ns, es, rfl, gs, nl, fun d A H1 s1 fd frA pa => ?_⟩
    wtm_at "rd"
    intro l fl
    have s2 := same_add (o := .lst []) s1 fl
    have pa2 := pa.same (Same.new (o := .lst []) fl)
    have hl2 := @upd_same H1 l (.lst [])
    have fl0 := new_of_same s1 fl
    have offA : ∀ x ∈ ns, A x ≠ l := fun x hx => ne_of_none (rt_at pa gs.ok l1 hx) fl
    have ndl : d ≠ l := ne_of_none pa.di fl
    generalize upd H1 l (.lst []) = H2 at s2 pa2 hl2
    wtm_at "rd"
    refine rd_ixT (SqT.of (s2 _ _ gs.gr.top)) (v := .ref e) rfl ?_
    refine rd_forT (SqT.of (s2 _ _ gs.gr.edges)) ?_
    refine turnsT (K := K) (xs := es.map fun x => V.ref x.1) (fun i σ H' => ∃ (cs : List (Addr × List Str)) (u3 u4 : Option V), σ = [some (.ref g), some (.ref d), some (.ref l), u3, u4] ∧ Same H H' ∧ PathsAt H' d (rtF ns (es.map (·.2))) A ∧ ListsAt H' l cs ∧ (∀ c ∈ cs, H c.1 = none ∧ c.1 ≠ l) ∧ cs.length ≤ i ∧
      cs.map (·.2) = basisF ((es.map (·.2)).take i) (rtF ns (es.map (·.2)))) ⟨[], _, _, rfl, s2, (by exact pa2), ⟨hl2, fun c hc => nomatch hc⟩, (fun c hc => nomatch hc), Nat.le_refl _, by rw [List.take_zero]; rfl⟩ ?_ ?_ ?_
    · rintro i σ H' hi ⟨cs, u3, u4, rfl, s, _⟩
      exact SqT.of (s _ _ gs.gr.edges)
    · rintro i y σ H' hy ⟨cs, u3, u4, rfl, s, pa, la, fr, cl, ec⟩
      obtain ⟨hi, rfl⟩ := map_at hy
      have hm := List.getElem_mem hi
      obtain ⟨m1, m2⟩ := gs.inE _ hm
      have hi2 : i < (es.map (·.2)).length := by rw [List.length_map]; exact hi
      have tk := take_snoc hi2
      rw [List.getElem_map] at tk
      have tk2 : basisF ((es.map (·.2)).take (i + 1)) (rtF ns (es.map (·.2))) = basisF ((es.map (·.2)).take i) (rtF ns (es.map (·.2))) ++ if isBasis (rtF ns (es.map (·.2))) es[i].2 = true then [pth (rtF ns (es.map (·.2))) es[i].2.1 ++ (pth (rtF ns (es.map (·.2))) es[i].2.2).reverse] else [] := by
        unfold basisF
        rw [tk, List.filter_append, List.map_append]
        congr 1
        rw [List.filter_cons, List.filter_nil]
        split <;> rfl
      have h1 := rt_at pa gs.ok l1 m1
      have h2 := rt_at pa gs.ok l1 m2
      have i1 := rt_in gs.ok l1 m1
      have i2 := rt_in gs.ok l1 m2
      have n1 := rt_len gs.ok l1 m1
      have n2 := rt_len gs.ok l1 m2
      have pr := s _ _ (gs.gr.pairs _ hm)
      have l3 := gs.l3
      unfold isBasis at tk2
      generalize es[i] = ed at *
      generalize pth (rtF ns (es.map (·.2))) ed.2.1 = p1 at *
      generalize pth (rtF ns (es.map (·.2))) ed.2.2 = p2 at *
      have penin : ∀ {p : List Str}, (∀ y ∈ p, y ∈ ns) → ∀ y ∈ pen p, PyData.strOk y = true := fun {p} h y hy => sok y (h y (List.mem_of_mem_drop (List.mem_of_mem_take hy)))
      refine rd_unp (SqT.of pr) rfl ?_
      wtm_at "rd"
      refine rd_dat (.inl pa.di) (kvG_val (rt_mem gs.ok l1 m1)) rfl ?_
      wtm_at "rd"
      refine rd_slL (SqL.of h1) ?_
      rw [cutV_pen]
      intro t5 f5
      have s5 := Same.new (o := .lst ((pen p1).map V.str)) f5
      have ht5 := @upd_same H' t5 (.lst ((pen p1).map V.str))
      generalize upd H' t5 (.lst ((pen p1).map V.str)) = H5 at s5 ht5
      wtm_at "rd"
      intro t6 f6
      have s6 := same_add (o := .lst [.str ed.2.2]) s5 f6
      have skip : ∀ {H'' : Hp} {u3 u4 : Option V}, Same H' H'' → (!decide (pen p1 = [ed.2.2]) && !decide (pen p2 = [ed.2.1])) = false → ∃ (cs : List (Addr × List Str)) (v3 v4 : Option V), [some (.ref g), some (.ref d), some (.ref l), u3, u4] = [some (.ref g), some (.ref d), some (.ref l), v3, v4] ∧ Same H H'' ∧ PathsAt H'' d (rtF ns (es.map (·.2))) A ∧ ListsAt H'' l cs ∧ (∀ c ∈ cs, H c.1 = none ∧ c.1 ≠ l) ∧ cs.length ≤ i + 1 ∧
          cs.map (·.2) = basisF ((es.map (·.2)).take (i + 1)) (rtF ns (es.map (·.2))) := by
        intro H'' u3 u4 sx hb
        refine ⟨cs, _, _, rfl, s.trans sx, pa.same sx, la.same sx, fr, by omega, ?_⟩
        rw [tk2, if_neg (by rw [hb]; exact Bool.false_ne_true), List.append_nil]
        exact ec
      refine rd_neSL (ys := [ed.2.2]) (SqL.of (at_upd (ne_of_none ht5 f6) ht5)) (SqL.of upd_same) (penin i1) (fun x hx => by rw [List.mem_singleton] at hx; rw [hx]; exact sok _ m2) ?_
      generalize upd H5 t6 (.lst [.str ed.2.2]) = H6 at s6
      wtm_at "rd"
      refine rd_nsplit (fun c1 => ?_) (fun c1 => ?_)
      case refine_2 =>
        wtm_at "rd"
        exact skip s6 (by rw [decide_eq_true c1]; rfl)
      wtm_at "rd"
      refine rd_dat (.inl (s6 _ _ pa.di)) (kvG_val (rt_mem gs.ok l1 m2)) rfl ?_
      wtm_at "rd"
      refine rd_slL (SqL.of (s6 _ _ h2)) ?_
      rw [cutV_pen]
      intro t7 f7
      have s7 := same_add (o := .lst ((pen p2).map V.str)) s6 f7
      have ht7 := @upd_same H6 t7 (.lst ((pen p2).map V.str))
      generalize upd H6 t7 (.lst ((pen p2).map V.str)) = H7 at s7 ht7
      wtm_at "rd"
      intro t8 f8
      have s8 := same_add (o := .lst [.str ed.2.1]) s7 f8
      refine rd_neSL (ys := [ed.2.1]) (SqL.of (at_upd (ne_of_none ht7 f8) ht7)) (SqL.of upd_same) (penin i2) (fun x hx => by rw [List.mem_singleton] at hx; rw [hx]; exact sok _ m1) ?_
      generalize upd H7 t8 (.lst [.str ed.2.1]) = H8 at s8
      refine rd_bl ?_
      refine rd_nsplit (fun c2 => ?_) (fun c2 => ?_)
      case refine_2 =>
        wtm_at "rd"
        exact skip s8 (by rw [decide_eq_true c2, Bool.not_true, Bool.and_false])
      wtm_at "rd"
      have la8 := la.same s8
      refine rd_tyL la8.li ?_
      wtm_at "rd"
      refine rd_dat (.inl (s8 _ _ pa.di)) (kvG_val (rt_mem gs.ok l1 m1)) rfl ?_
      refine rd_revL ?_
      wtm_at "rd"
      refine rd_dat (.inl (s8 _ _ pa.di)) (kvG_val (rt_mem gs.ok l1 m2)) rfl ?_
      refine ⟨_, _, rfl, SqL.of (s8 _ _ h2), fun t9 f9 => ?_⟩
      have s9 := same_add (o := .lst (p2.map V.str).reverse) s8 f9
      have ht9 := @upd_same H8 t9 (.lst (p2.map V.str).reverse)
      generalize upd H8 t9 (.lst (p2.map V.str).reverse) = H9 at s9 ht9
      refine rd_catL (s9 _ _ h1) ht9 (by rw [List.length_reverse, List.length_map, List.length_map]; omega) ?_
      intro t10 f10
      rw [← List.map_reverse, ← List.map_append]
      have s10 := same_add (o := .lst ((p1 ++ p2.reverse).map V.str)) s9 f10
      have ht10 := @upd_same H9 t10 (.lst ((p1 ++ p2.reverse).map V.str))
      have la10 := la.same s10
      have n10 : t10 ≠ l := Ne.symm (ne_of_none (s9 _ _ la.li) f10)
      have f100 := new_of_same (s.trans s9) f10
      generalize upd H9 t10 (.lst ((p1 ++ p2.reverse).map V.str)) = H10 at s10 ht10 la10
      have s010 := s.trans s10
      wtm_at "rd"
      refine rd_append la10.li (by rw [List.length_map]; omega) ?_
      refine ⟨cs ++ [(t10, p1 ++ p2.reverse)], _, _, rfl, same_put s010 fl0, ?_, ⟨by rw [upd_same, List.map_append]; rfl, fun c hc => ?_⟩, fun c hc => ?_, by rw [List.length_append, List.length_singleton]; omega, ?_⟩
      · have pa10 := pa.same s10
        refine ⟨at_upd ndl pa10.di, fun c hc => ?_⟩
        have hcn : c.1 ∈ ns := by
          have cm := compsF_ok gs.ok l1
          exact cm.in_ gs.ok _ ((roots_keys gs.ok l1 cm.of _).mp (List.mem_map_of_mem hc))
        exact at_upd (offA _ hcn) (pa10.li c hc)
      · rcases List.mem_append.mp hc with hc | hc
        · exact at_upd (fr c hc).2 (la10.at_ c hc)
        · rw [List.mem_singleton] at hc
          subst hc
          exact at_upd n10 ht10
      · rcases List.mem_append.mp hc with hc | hc
        · exact fr c hc
        · rw [List.mem_singleton] at hc
          subst hc
          exact ⟨f100, n10⟩
      · rw [tk2, if_pos (by rw [decide_eq_false c1, decide_eq_false c2]; rfl), List.map_append, ec]
        rfl
    · rintro σ H' ⟨cs, u3, u4, rfl, s, pa, la, fr, cl, ec⟩
      rw [List.length_map, List.take_of_length_le (by rw [List.length_map]; exact Nat.le_refl _)] at ec
      wtm_at "rd"
      exact q l cs H' s fl0 (fun c hc => (fr c hc).1) la ec
structure B6c (P : Program) (w : World) (K : PySem.W.Frag) (mg : Str → Option Value) (base : Heap) : Prop where
  slope : Cal P w K mg base CX0 1 "slope" spSlope
theorem ok_psum {f : Addr} {fd : FuncData} (F : Fun K "path_sum" "path_sum" s_path_sum f fd) (B : Bt mg) (C : B6c P w K mg base) : FnG P w K mg base CX0 2 f fd ["state", "path"] (spPsum K) := by
  refine fnG0 F sc_path_sum (fun vs H Q E h => ?_) (fun cdv A outer s H vs Q E hr h => ?_)
  · obtain ⟨st, pl, ord, p, f, rfl, _⟩ := h
    rfl
  · obtain ⟨st, pl, ord, p, f, rfl, hst, hpl, pin, pn, q⟩ := h
    have nd := sc_path_sum.nd
    have hu := hr.u1
    refine ⟨_, (pss_one (ps_ret (pe_callB (kSum K rfl rfl) (by rfl) B.sum bb_sum (pa_cons (pe_lc (own := [("at", 2)]) rfl nd (pi_range1 rfl B.range (pa_cons (pe_op uSub (pe_callB (kLen K rfl) (by rfl) B.len bb_len (pa_cons (pv 1) pa_nil)) pe_int) pa_nil)) (blkOk_by (own := [("at", 2)]) (N := nN_path_sum) (sc := defScope s_path_sum) (by decide +kernel)) (fun _ _ _ _ _ => (pg_name (i := 2) nd rfl (by first | exact Or.inl rfl | exact Or.inr rfl))) (fun _ _ _ _ _ => pts_nil) (fun _ _ _ _ _ => (pe_c C.slope hr (by decide) rfl (pa_cons (pv 0) (pa_cons (pe_ix (kIx K rfl) (pv 1) (pv 2) (fun _ _ => rfl)) (pa_cons (pe_ix (kIx K rfl) (pv 1) (pe_op (kAdd K rfl) (pv 2) pe_int) (fun _ _ => rfl)) pa_nil)))))) pa_nil)))), ?_⟩
    wtm_at "rd"
    refine rd_lenL hpl ?_
    rw [List.length_map]
    wtm_at "rd"
    intro D fD
    have en : ((p.length : Int) - 1).toNat = p.length - 1 := by omega
    rw [en]
    refine lcR (fun i H' => Same H H' ∧ H' D = some (.lst (((psl f p).take i).map V.int))) ⟨Same.new fD, upd_same⟩ ?_ ?_
    · rintro i H' hi ⟨s, hD⟩
      have lp := psl_len f p
      have ip : i < (psl f p).length := by omega
      have tk := take_snoc ip
      have pa := psl_at f p i (by omega)
      rw [List.getElem?_eq_getElem ip] at pa
      rw [Option.some.inj pa] at tk
      have hplH := Same.sqL s hpl
      wtm_at "rd"
      refine rd_ixL hplH (v := .str p[i]) (by rw [Int.zero_add]; exact atI_nat (by rw [List.getElem?_map, List.getElem?_eq_getElem (by omega)]; rfl)) ?_
      wtm_at "rd"
      refine rd_ixL hplH (v := .str p[i + 1]) (by rw [show (0 : Int) + (i : Int) + 1 = ((i + 1 : Nat) : Int) from by omega]; exact atI_nat (by rw [List.getElem?_map, List.getElem?_eq_getElem (by omega)]; rfl)) ?_
      wtm_at "rd"
      refine ⟨st, _, _, ord, f, rfl, .inl (s _ _ hst), pin _ (List.getElem_mem _), pin _ (List.getElem_mem _), ?_⟩
      refine rd_acc hD (by rw [List.length_map, List.length_take]; omega) ?_
      refine ⟨same_put s fD, ?_⟩
      rw [upd_same, tk, List.map_append]
      rfl
    · rintro H' ⟨s, hD⟩
      rw [List.take_of_length_le (by rw [psl_len]; exact Nat.le_refl _)] at hD
      wtm_at "rd"
      refine rd_sumL (SqL.of hD) ?_
      exact q H' s
structure B7c (P : Program) (w : World) (K : PySem.W.Frag) (mg : Str → Option Value) (base : Heap) : Prop where
  path_sum : Cal P w K mg base CX0 2 "path_sum" (spPsum K)
  basis_cycles : Cal P w K mg base CX0 5 "basis_cycles" spBasis
theorem ok_wind {f : Addr} {fd : FuncData} (F : Fun K "windings" "windings" s_windings f fd) (B : Bt mg) (C : B7c P w K mg base) : FnG P w K mg base CX0 6 f fd ["graph", "state"] spWind := by
  refine fnG0 F sc_windings (fun vs H Q E h => ?_) (fun cdv A outer s H vs Q E hr h => ?_)
  · obtain ⟨g, n, e, st, ns, ord, es, f, rfl, _⟩ := h
    rfl
  · obtain ⟨g, n, e, st, ns, ord, es, f, rfl, gs, nl, q⟩ := h
    have nd := sc_windings.nd
    have hu := hr.u1
    refine ⟨_, (pss_one (ps_ret (pe_lc (own := [("cycle", 2)]) rfl nd (ki_list K rfl (pe_c C.basis_cycles hr (by decide) rfl (pa_cons (pv 0) pa_nil))) (blkOk_by (own := [("cycle", 2)]) (N := nN_windings) (sc := defScope s_windings) (by decide +kernel)) (fun _ _ _ _ _ => (pg_name (i := 2) nd rfl (by first | exact Or.inl rfl | exact Or.inr rfl))) (fun _ _ _ _ _ => pts_nil) (fun _ _ _ _ _ => (pe_op uDiv (pe_c C.path_sum hr (by decide) rfl (pa_cons (pv 1) (pa_cons (pv 2) pa_nil))) pe_int))))), ?_⟩
    have l1 : ns.length ≤ 1000 := by omega
    wtm_at "rd"
    refine ⟨g, n, e, ns, es, rfl, gs.grs, nl, fun l cs H1 s1 fl fr la ec => ?_⟩
    have bi := bs_in gs.ok l1
    rw [← ec] at bi
    refine rd_forL (SqL.of la.li) ?_
    intro D fD
    have fD0 := new_of_same s1 fD
    refine lcL (K := K) (xs := cs.map fun c => V.ref c.1) (fun i H' => Same H1 H' ∧ H' D = some (.lst ((((cs.map (·.2)).take i).map fun c => psum f c / 3).map V.int))) ⟨Same.new fD, upd_same⟩ ?_ ?_ ?_
    · rintro i H' hi ⟨s, _⟩
      exact SqL.of (s _ _ la.li)
    · rintro i y H' hy ⟨s, hD⟩
      obtain ⟨hi, rfl⟩ := map_at hy
      have hm := List.getElem_mem hi
      have hc := la.at_ _ hm
      have hi2 : i < (cs.map (·.2)).length := by rw [List.length_map]; exact hi
      have tk := take_snoc hi2
      rw [List.getElem_map] at tk
      obtain ⟨b1, b2⟩ := bi _ (List.mem_map_of_mem hm)
      have cl : cs.length ≤ 1000 := by
        have := congrArg List.length ec
        rw [List.length_map] at this
        unfold bsF basisF at this
        rw [List.length_map] at this
        have z := List.length_filter_le (isBasis (rtF ns (es.map (·.2)))) (es.map (·.2))
        rw [List.length_map] at z
        have := gs.l3
        omega
      generalize cs[i] = c at *
      wtm_at "rd"
      refine ⟨st, c.1, ord, c.2, f, rfl, s _ _ (s1 _ _ gs.st), SqL.of (s _ _ hc), (fun x hx => gs.inO _ (b1 x hx)), by omega, fun H2 s2 => ?_⟩
      wtm_at "rd"
      refine rd_acc (s2 _ _ hD) (by rw [List.length_map, List.length_map, List.length_take, List.length_map]; omega) ?_
      refine ⟨same_put (s.trans s2) fD, ?_⟩
      rw [upd_same, tk, List.map_append, List.map_append]
      rfl
    · rintro H' ⟨s, hD⟩
      rw [List.length_map, List.take_of_length_le (by rw [List.length_map]; exact Nat.le_refl _), ec] at hD
      exact q D H' (s1.trans s) fD0 hD
end
end Law

/-! a lambda with parameters and without captured names: entered -/
namespace U
open PySem PySem.Spec PyProof.Rows L2
abbrev lamFn (q : Str) (params : Arguments) (body : Expr) (scope : Scope) (pm : Value) (c' : Addr) (ctv : Value) : FuncData := PySem.W.kla_fn "<lambda>" q params body scope [] pm (.ref c') ctv
theorem run_lam {CX : CXT} {P : Program} {w : World} {K : PySem.W.Frag} {mg : Str → Option Value} {base : Heap} {k : Nat} {f c' : Addr} {q : Str} {params : Arguments} {body : Expr} {scope : Scope} {pm ctv : Value} {N ps : List Str} (S : FnScope N ps scope)
    {A : Around} {outer : List Env} {s : Shared} {H : Hp} {args : Args} {us : List Value} {vs : List V} {Q : VK} {E : XK} (ho : s.heap.get? f = some (PySem.W.kla_obj "<lambda>" q params body scope [] pm c' ctv)) (hc : s.heap.CodeRec (.ref c') q)
    (hr : Room (k + 1) A) (e0 : Env0 P w K mg base A outer s H) (hb : BindsTo s (lamFn q params body scope pm c' ctv) args (ps.zip us)) (r : Vals vs us) (hl : vs.length = ps.length)
    (hbody : Room k (A.deeper (envOfC q scope s.heap.objs.size f (.ref c'))) → ∃ t, PE (cxOf CX P w K mg base N q scope f (.ref c') A outer s H E) body t ∧ t (L2.start N vs) H Q) :
    codeAny (model P w) A (.call (.ref f) args) (CR CX outer P w H s Q E) s := by
  have lim : s.heap.NoLimit := e0.mod.nolimit.keeps fun b o e => (e0.bs b o e).1
  have kinds : ∀ y ∈ ps.zip us, scope.names.lookup y.1 = some .local ∨ (scope.names.lookup y.1 = some .cell ∧ ((cellsFrom (s.heap.objs.size + 1) scope.names []).lookup y.1).isSome = true) := fun y hy => by
    rcases S.par y.1 (List.of_mem_zip (show (y.1, y.2) ∈ ps.zip us from hy)).1 with z | z
    · exact .inl z
    · exact .inr ⟨z, PySem.W.cellsFrom_some _ _ _ (.inl z)⟩
  refine PySem.W.kla_callFunE hr.depth ho rfl S.co S.gen rfl hc (hb _ _ _ _ ?_)
  refine wpAny_newFunctionEnv_cells S.kind kinds fun env he s1 x => ?_
  subst he
  obtain ⟨t, ht, hq⟩ := hbody (hr.deeper _)
  have I : Inv (cxOf CX P w K mg base N q scope f (.ref c') A outer s H E) [] (L2.start N vs) H s1 := inv_start S hr.hd e0 hl r x
  refine ⟨lim.keeps x.toInCall.keep, PySem.W.kla_codeExpr (wpAny_mono (ht.run [] s1 _ H Q I hq) (fun u s' hs => ?_) fun e s' hs => hs)⟩
  obtain ⟨v, H', J, rv, hQ⟩ := hs
  exact ⟨v, H', J.os, J.bare, J.base, J.hok, rv, hQ⟩
end U
namespace U
open PySem PySem.Spec PyProof.Rows L2 PySem.W
def dKey (names : List Str) : PyData := .tuple [.int (names.length : Int), .list (names.map PyData.str)]
theorem alike_strs : ∀ xs ys : List Str, alikeAll (xs.map PyData.str) (ys.map PyData.str) = true
  | [], ys => by cases ys <;> simp [alikeAll]
  | x :: xs, [] => by simp [alikeAll]
  | x :: xs, y :: ys => by
    rw [List.map_cons, List.map_cons, alikeAll, alike_strs xs ys]
    simp [alike]
theorem alike_key (xs ys : List Str) : alike (dKey xs) (dKey ys) = true := by
  unfold dKey
  simp [alike, alikeAll, alike_strs]
theorem depth_key (xs : List Str) : (dKey xs).depth ≤ 3 := by
  have e : ∀ xs : List Str, PyData.depthAll (xs.map PyData.str) = 0 := fun xs => by
    induction xs with
    | nil => simp [PyData.depthAll]
    | cons x r ih => rw [List.map_cons, PyData.depthAll, PyData.depth, ih]; rfl
  unfold dKey
  simp [PyData.depth, PyData.depthAll, e]
theorem reads_strs {h : Heap} : ∀ {xs : List Str} {us : List Value}, Vals (xs.map V.str) us → ∃ as, ReadsAll h us (xs.map PyData.str) as
  | [], _, r => by
    cases r
    exact ⟨_, .nil⟩
  | x :: xs, _, r => by
    cases r with
    | cons r rr =>
      obtain ⟨tk, rfl⟩ := r
      obtain ⟨as, ra⟩ := reads_strs rr
      exact ⟨_, .cons (.str x tk) ra⟩
end U
namespace U
open PySem PySem.Spec PyProof.Rows L2 PySem.W
/-- no more than new things, the callers' frames but for their slots -/
def Jm (X : Cx) (s0 s' : Shared) : Prop := s'.os = s0.os ∧ AllBare s'.gens ∧ Un (frs X.stack) [] (fun _ => none) (fun _ => none) s0.heap s'.heap
def Vm (X : Cx) (av : List Addr) (items : List (Addr × List Str)) (i : Nat) (k : Value) (s' : Shared) : Prop :=
  ∃ (t a : Addr) (names : List Str) (tk : Tok), items[i]? = some (a, names) ∧ k = .ref t ∧ t ∉ av ∧ t ∉ frs X.stack ∧ IsTup s'.heap t #[.int (names.length : Int) tk, .ref a]
/-- the paths stand, known to the object -/
def Hc (H : Hp) (s0 : Shared) (items : List (Addr × List Str)) : Hp := fun b => match H b, s0.heap.get? b with
  | some (.lst xs), some o => if b ∈ items.map (·.1) then some (.frz o (.lst xs)) else none
  | _, _ => none
theorem hc_some {H : Hp} {s0 : Shared} {items : List (Addr × List Str)} {b : Addr} {u : HO} (h : Hc H s0 items b = some u) : ∃ xs o, H b = some (.lst xs) ∧ s0.heap.get? b = some o ∧ u = .frz o (.lst xs) := by
  unfold Hc at h
  split at h
  · rename_i xs o e1 e2
    split at h
    · exact ⟨xs, o, e1, e2, (Option.some.inj h).symm⟩
    · cases h
  · cases h
theorem hc_none {H : Hp} {s0 : Shared} {items : List (Addr × List Str)} {b : Addr} (h : H b = none) : Hc H s0 items b = none := by
  cases e : Hc H s0 items b with
  | none => rfl
  | some u =>
    obtain ⟨xs, o, e1, _⟩ := hc_some e
    rw [h] at e1
    cases e1
theorem hc_new {H : Hp} {s0 : Shared} {items : List (Addr × List Str)} {b : Addr} (h : s0.heap.get? b = none) : Hc H s0 items b = none := by
  cases e : Hc H s0 items b with
  | none => rfl
  | some u =>
    obtain ⟨xs, o, _, e1, _⟩ := hc_some e
    rw [h] at e1
    cases e1
section
variable {X : Cx} {pins : List (Addr × Obj)} {σ : L2.St} {H : Hp} {s0 s : Shared}
theorem Jm.refl (I : Inv X pins σ H s0) : Jm X s0 s0 := ⟨rfl, I.bare, Un.refl⟩
theorem Jm.inv (I : Inv X pins σ H s0) (j : Jm X s0 s) : Inv X pins σ H s := by
  obtain ⟨os, bare, un⟩ := j
  have e0 := I.env0
  have raw : ∀ b u, H b = some u → ∀ o, s0.heap.get? b = some o → s.heap.get? b = some o := fun b u hb o ho => un.keep b o ho rfl (fun z => by rw [e0.frf b z] at hb; cases hb) (by simp)
  refine I.call' (ch := []) os ⟨fun b o e _ h1 h2 => un.keep b o e rfl h1 h2, fun b o e _ h1 h2 => un.slot b o e rfl h1 h2, fun _ _ _ n _ => n, un.there, fun _ _ q => q, fun _ _ _ q => q, fun _ ps q => ⟨#[], by rw [q]; simp⟩⟩ (fun a u e => ?_) bare (fun b hb => absurd hb (by simp))
  refine (I.hok a u e).stay (fun b o hb ho => ?_) (fun _ q => q) fun _ _ q => q
  rcases hb with rfl | hb
  · exact raw _ _ e o ho
  · exact raw _ _ hb o ho
variable {A : Around} {q : Str} {params : Arguments} {body : Expr} {scope : Scope} {pm ctv : Value} {f c' l : Addr} {items : List (Addr × List Str)} {its : List Value} {N : List Str} {p : Str} {tb : TE} {k : Nat}
theorem in1_room (h : Room (k + 2) A) : Room (k + 1) A.in1 := by
  have a := h.dp
  have b := h.un
  refine ⟨h.hd, ?_, ?_⟩
  · have : A.in1.depth = A.depth := rfl
    omega
  · have : A.in1.units = A.units + 1 := rfl
    omega
theorem fr_old (I : Inv X pins σ H s0) {b : Addr} (hb : b ∈ frs X.stack) : ∃ o, s0.heap.get? b = some o := by
  obtain ⟨_, o, ho, _⟩ := I.env0.funs.mem hb
  exact ⟨o, ho⟩
theorem env_c (I : Inv X pins σ H s0) (j : Jm X s0 s) : Env0 X.prog X.w X.K X.mg X.base X.A.in1 X.stack s (Hc H s0 items) := by
  have e := (j.inv I).env0
  refine ⟨e.frames, e.mod, fun b o h => ⟨(e.bs b o h).1, hc_none (e.bs b o h).2⟩, e.bsz, e.funs, fun b hb => hc_none (e.frf b hb), fun a u h => ?_, e.bare⟩
  obtain ⟨xs, o, h1, h2, rfl⟩ := hc_some h
  have k := e.hok a _ h1
  exact ⟨j.2.2.keep a o h2 rfl (fun z => by rw [e.frf a z] at h1; cases h1) (by simp), k⟩
/-- what the call of the lambda keeps -/
theorem lam_kept (I : Inv X pins σ H s0) (j : Jm X s0 s) {s' : Shared} {H' : Hp} (un : Un (frs X.stack) [] (Hc H s0 items) H' s.heap s'.heap) (hok : HOk X.prog X.w H' s'.heap) {b : Addr} {o : Obj} (ho : s.heap.get? b = some o) (hb : b ∉ frs X.stack) : s'.heap.get? b = some o := by
  cases e : Hc H s0 items b with
  | none => exact un.keep b o ho e hb (by simp)
  | some u =>
    obtain ⟨xs, o2, h1, h2, rfl⟩ := hc_some e
    have k1 := (show s.heap.get? b = some o2 ∧ _ from (env_c (items := items) I j).hok b _ e).1
    rw [ho] at k1
    obtain rfl := Option.some.inj k1
    exact (show s'.heap.get? b = some o ∧ _ from hok b _ (un.frzs b _ _ e)).1
def nmAt (items : List (Addr × List Str)) (i : Nat) : List Str := (items[i]?.map (·.2)).getD []
theorem nm_at {items : List (Addr × List Str)} {i : Nat} {a : Addr} {names : List Str} (h : items[i]? = some (a, names)) : nmAt items i = names := by
  unfold nmAt
  rw [h]
  rfl
theorem vals_at {items : List (Addr × List Str)} {its : List Value} (r : Vals (items.map fun i => V.ref i.1) its) {i : Nat} {v : Value} (h : its.toArray[i]? = some v) : ∃ a names, items[i]? = some (a, names) ∧ v = .ref a := by
  have h2 : its[i]? = some v := by simpa using h
  have hi : i < its.length := (List.getElem?_eq_some_iff.mp h2).1
  have hi2 : i < items.length := by
    have := r.length
    rw [List.length_map] at this
    omega
  obtain ⟨u, e1, e2⟩ := r.get (i := i) (x := .ref items[i].1) (by rw [List.getElem?_map, List.getElem?_eq_getElem hi2]; rfl)
  rw [h2] at e1
  exact ⟨items[i].1, items[i].2, List.getElem?_eq_getElem hi2, (Option.some.inj e1).trans e2⟩
theorem reads_key (I : Inv X pins σ H s0) (j : Jm X s0 s) {t a : Addr} {names : List Str} {tk : Tok} (ha : H a = some (.lst (names.map V.str))) (ht : IsTup s.heap t #[.int (names.length : Int) tk, .ref a]) : ∃ as, Reads s.heap (.ref t) (dKey names) as := by
  obtain ⟨_, us, n, r, e⟩ := (j.inv I).hok a _ ha
  obtain ⟨as, ra⟩ := reads_strs r
  obtain ⟨o, h1, h2, m, h3⟩ := ht
  have ra2 : ReadsAll s.heap us.toArray.toList (names.map PyData.str) as := by simpa using ra
  exact ⟨_, Reads.tuple h1 h2 h3 (.cons (.int _ tk) (.cons (Reads.list e rfl rfl ra2) .nil))⟩
theorem key_run (I : Inv X pins σ H s0) (hr : Room (k + 2) X.A) (S : FnScope N [p] scope) (hitem : ∀ i ∈ items, H i.1 = some (.lst (i.2.map V.str))) (hlv : Vals (items.map fun i => V.ref i.1) its) (hl : s0.heap.IsList l its.toArray) (hlf : l ∉ frs X.stack)
    (hf : s0.heap.get? f = some (PySem.W.kla_obj "<lambda>" q params body scope [] pm c' ctv)) (hff : f ∉ frs X.stack) (hcd : s0.heap.CodeRec (.ref c') q) (hcf : c' ∉ frs X.stack)
    (hbind : ∀ (s : Shared) (u : Value), BindsTo s (lamFn q params body scope pm c' ctv) ⟨[u], []⟩ [(p, u)])
    (hbody : ∀ (A : Around) (outer : List Env) (s : Shared) (H : Hp) (E : XK), Room k (A.deeper (envOfC q scope s.heap.objs.size f (.ref c'))) → PE (cxOf (fun _ _ _ _ _ _ => False) X.prog X.w X.K X.mg X.base N q scope f (.ref c') A outer s H E) body tb)
    (htb : ∀ (a : Addr) (names : List Str) (o : Obj) (H : Hp) (Q : VK), H a = some (.frz o (.lst (names.map V.str))) → (∀ t H', H t = none → H' t = some (.tup [.int (names.length : Int), .ref a]) → Q (.ref t) H') → tb (L2.start N [.ref a]) H Q)
    {s2 : Shared} (es : s2.heap.objs.size = s0.heap.objs.size + 1) :
    KeyRun X.prog X.w X.A.in1 (.ref f) .Lt s2.heap.objs.size [s0.heap.objs.size] (fun a b => b = a) its.toArray.size (fun i v => its.toArray[i]? = some v) (fun i s' => s'.heap.IsListIter s0.heap.objs.size l i ∧ s'.heap.IsList l its.toArray)
      (Jm X s0) (Vm X [s2.heap.objs.size, s0.heap.objs.size] items) (fun i j => dataLt (dKey (nmAt items i)) (dKey (nmAt items j))) := by
  have old : ∀ b o, s0.heap.get? b = some o → b ∉ s2.heap.objs.size :: [s0.heap.objs.size] := fun b o h z => by
    have lt := Heap.lt_size h
    rcases List.mem_cons.mp z with z | z
    · rw [z, es] at lt
      exact Nat.lt_irrefl _ (Nat.lt_of_succ_lt lt)
    · rw [List.mem_singleton] at z
      rw [z] at lt
      exact Nat.lt_irrefl _ lt
  have frl : ∀ b, b ∈ frs X.stack → b < s0.heap.objs.size := fun b hb => by
    obtain ⟨o, ho⟩ := fr_old I hb
    exact Heap.lt_size ho
  have nI : s0.heap.objs.size ∉ frs X.stack := fun z => Nat.lt_irrefl _ (frl _ z)
  have nS : s2.heap.objs.size ∉ frs X.stack := fun z => by
    have := frl _ z
    rw [es] at this
    exact Nat.lt_irrefl _ (Nat.lt_of_succ_lt this)
  have new : ∀ b, s0.heap.objs.size ≤ b → s0.heap.get? b = none := fun b hb => Heap.get?_none_of_le hb
  refine ⟨fun s s' j m => ?_, fun i v s s' hv m => ?_, ?_, ?_⟩
  · obtain ⟨j1, j2, un⟩ := j
    refine ⟨m.os.trans j1, by rw [show s'.gens = s.gens from m.gens]; exact j2, ⟨fun b o h _ hb hx => m.heap b o (old b o h) (un.keep b o h rfl hb hx), fun b o h _ hb hx => ?_, fun _ _ _ _ _ => rfl, fun b o h hx => ?_, (fun _ _ z => nomatch z), (fun _ _ _ z => nomatch z), (fun _ _ z => nomatch z)⟩⟩
    · obtain ⟨sl, h2⟩ := un.slot b o h rfl hb hx
      exact ⟨sl, m.heap b _ (old b o h) h2⟩
    · obtain ⟨o2, h2⟩ := un.there b o h hx
      exact ⟨o2, m.heap b _ (old b o h) h2⟩
  · obtain ⟨t, a, names, tk, h1, h2, h3, h4, o, h5, h6⟩ := hv
    exact ⟨t, a, names, tk, h1, h2, h3, h4, o, m.heap t o h3 h5, h6⟩
  · intro i v s o Q E hi hP j st hS hk
    obtain ⟨a, names, hit, rfl⟩ := vals_at hlv hP
    have ha := hitem _ (List.mem_of_getElem? hit)
    have jI := j.inv I
    obtain ⟨oa, hoa⟩ : ∃ o, s0.heap.get? a = some o := by
      obtain ⟨_, _, _, _, e⟩ := I.hok a _ ha
      exact ⟨_, e⟩
    have hca : Hc H s0 items a = some (.frz oa (.lst (names.map V.str))) := by
      unfold Hc
      rw [ha, hoa]
      exact if_pos (List.mem_map_of_mem (f := (·.1)) (List.mem_of_getElem? hit))
    have hf' := j.2.2.keep f _ hf rfl hff (by simp)
    have hcd' : s.heap.CodeRec (.ref c') q := by
      obtain ⟨c2, oc, vs, t, e1, e2, e3, e4⟩ := hcd
      obtain rfl := Value.ref.inj e1
      exact ⟨c', oc, vs, t, rfl, j.2.2.keep c' _ e2 rfl hcf (by simp), e3, e4⟩
    have rc : codeAny (model X.prog X.w) X.A.in1 (.call (.ref f) ⟨[.ref a], []⟩) (CR (fun _ _ _ _ _ _ => False) X.stack X.prog X.w (Hc H s0 items) s (fun v H' => ∃ t, v = .ref t ∧ Hc H s0 items t = none ∧ H' t = some (.tup [.int (names.length : Int), .ref a])) (fun _ _ _ => False)) s := by
      refine run_lam (N := N) (ps := [p]) (us := [.ref a]) (vs := [.ref a]) S hf' hcd' (in1_room hr) (env_c I j) (hbind s _) (.cons rfl .nil) rfl fun hr' => ⟨tb, hbody _ _ _ _ _ hr', ?_⟩
      exact htb a names oa _ _ hca fun t H' h1 h2 => ⟨t, rfl, h1, h2⟩
    refine wpAny_call (codeAny_mono rc fun r s' hq => ?_)
    cases r with
    | error e => exact False.elim hq
    | ok fl =>
      cases fl with
      | next => exact False.elim hq
      | brk => exact False.elim hq
      | cont => exact False.elim hq
      | ret u =>
        obtain ⟨v, H', os, bare, un, hok, rv, t, rfl, hn, ht⟩ := hq
        obtain rfl : u = Value.ref t := rv
        have kp : ∀ {b o}, s.heap.get? b = some o → b ∉ frs X.stack → s'.heap.get? b = some o := fun {b o} h1 h2 => lam_kept I j un hok h1 h2
        have free : ∀ b o, s.heap.get? b = some o → Hc H s0 items b = none → b ≠ t := fun b o h1 h2 z => by
          have := un.free b o h1 h2 (by simp)
          rw [z, ht] at this
          cases this
        have hI : ∃ oi, s.heap.get? s0.heap.objs.size = some oi := by
          obtain ⟨oi, e, _⟩ := st.1
          exact ⟨oi, e⟩
        obtain ⟨oi, hoi⟩ := hI
        refine hk (.ref t) s' ⟨os.trans j.1, bare, ⟨fun b o h _ hb hx => kp (j.2.2.keep b o h rfl hb hx) hb, fun b o h _ hb hx => ?_, fun _ _ _ _ _ => rfl, fun b o h hx => ?_, (fun _ _ z => nomatch z), (fun _ _ _ z => nomatch z), (fun _ _ z => nomatch z)⟩⟩ ⟨?_, ?_⟩ (kp hS nS) ⟨t, a, names, ?_⟩ fun j2 k2 hv => ?_
        · obtain ⟨sl, h2⟩ := j.2.2.slot b o h rfl hb hx
          obtain ⟨sl2, h3⟩ := un.slot b _ h2 ((env_c (items := items) I j).frf b hb) hb hx
          exact ⟨sl2, h3⟩
        · obtain ⟨o2, h2⟩ := j.2.2.there b o h hx
          exact un.there b o2 h2 hx
        · obtain ⟨o2, e1, e2⟩ := st.1
          exact ⟨o2, kp e1 nI, e2⟩
        · obtain ⟨o2, e1, e2⟩ := st.2
          exact ⟨o2, kp e1 hlf, e2⟩
        · obtain ⟨_, us, r, o2, e1, e2⟩ := hok t _ ht
          cases r with
          | cons r1 rr =>
            cases rr with
            | cons r2 rr =>
              cases rr
              obtain ⟨tk, rfl⟩ := r1
              obtain rfl := r2
              refine ⟨tk, hit, rfl, fun z => ?_, fun z => ?_, o2, e1, e2⟩
              · rcases List.mem_cons.mp z with z | z
                · exact free _ _ hS (hc_new (new _ (by rw [es]; exact Nat.le_succ _))) z.symm
                · exact free _ _ hoi (hc_new (new _ (Nat.le_refl _))) (List.mem_singleton.mp z).symm
              · obtain ⟨o3, h3⟩ := fr_old jI z
                exact free t _ h3 ((env_c (items := items) I j).frf t z) rfl
        · obtain ⟨t2, a2, n2, tk2, h1, h2, h3, h4, o2, h5, h6⟩ := hv
          exact ⟨t2, a2, n2, tk2, h1, h2, h3, h4, o2, kp h5 h4, h6⟩
  · intro i j ki kj s Q E hj h1 h2 hq
    obtain ⟨t, a, n1, tk, e1, rfl, _, _, e2⟩ := h1
    obtain ⟨t2, a2, n2, tk2, f1, rfl, _, _, f2⟩ := h2
    obtain ⟨as, r1⟩ := reads_key I hj (hitem _ (List.mem_of_getElem? e1)) e2
    obtain ⟨bs, r2⟩ := reads_key I hj (hitem _ (List.mem_of_getElem? f1)) f2
    have hq : Q (.bool (dataLt (dKey (nmAt items i)) (dKey (nmAt items j)))) s := hq
    rw [nm_at e1, nm_at f1] at hq
    refine rcLt_alike (dKey n1) (dKey n2) X.A.in1 s (.ref t) (.ref t2) as bs r1 r2 (alike_key _ _) (fun z => by unfold dKey at z; cases z) ?_ X.prog X.w E Q hq
    have d := depth_key n1
    have u := hr.un
    have : X.A.in1.units = X.A.units + 1 := rfl
    have := Nat.min_le_left (dKey n1).depth (dKey n2).depth
    omega
end
end U
namespace U
open PySem PySem.Spec PyProof.Rows L2 PySem.W LamX
def tMinK (T : List (Addr × Str)) (te : TA) : TE := fun σ H Q => te σ H fun vs H1 => Tabs T H1 ∧ ∃ (l : Addr) (items : List (Addr × List Str)), vs = [.ref l] ∧ H1 l = some (.lst (items.map fun i => V.ref i.1)) ∧ (∀ i ∈ items, H1 i.1 = some (.lst (i.2.map V.str))) ∧
  ∀ H2, ExtN H1 H2 → Tabs T H2 → (items = [] → Q .non H2) ∧ ∀ i ∈ items, Q (.ref i.1) H2
theorem pe_minK {X : Cx} {T : List (Addr × Str)} {c P : Addr} {params : Arguments} {body : Expr} {scope : Scope} {N : List Str} {p : Str} {tb : TE} {k j : Nat} {e : Expr} {te : TA} {pm lpos kp1 kp2 cpos pos : Pos}
    (hc : X.calm = true) (hg : Gl X "min") (hm : X.mg "min" = none) (ha : PA X [e] te) (TB : TabB X.base X.mg c P) (hcode : X.env.code = .ref c) (hmT : (P, X.env.qual ++ "<lambda>") ∈ T) (huT : ∀ y ∈ T, y.1 = P → y.2 = X.env.qual ++ "<lambda>")
    (hdef : defaultsOf params X.env = ([], [])) (hfree : ∀ y ∈ scope.names, y.2 = .free → ∃ c, X.env.cells.lookup y.1 = some c) (hcl : cloFrom X.env.cells scope.names [] = [])
    (hr : Room (k + 2) X.A) (S : FnScope N [p] scope)
    (hbind : ∀ (s : Shared) (u pm ctv : Value) (c' : Addr), BindsTo s (lamFn (X.env.qual ++ "<lambda>") params body scope pm c' ctv) ⟨[u], []⟩ [(p, u)])
    (hbody : ∀ (A : Around) (outer : List Env) (s : Shared) (H : Hp) (E : XK) (f c' : Addr), Room k (A.deeper (envOfC (X.env.qual ++ "<lambda>") scope s.heap.objs.size f (.ref c'))) → PE (cxOf (fun _ _ _ _ _ _ => False) X.prog X.w X.K X.mg X.base N (X.env.qual ++ "<lambda>") scope f (.ref c') A outer s H E) body tb)
    (htb : ∀ (a : Addr) (names : List Str) (o : Obj) (H : Hp) (Q : VK), H a = some (.frz o (.lst (names.map V.str))) → (∀ t H', H t = none → H' t = some (.tup [.int (names.length : Int), .ref a]) → Q (.ref t) H') → tb (L2.start N [.ref a]) H Q)
    (hst : starEach [e] X.env = (false, eval e X.env) :: starEach [] X.env := by rfl) :
    PE X (.Call (.Name "min" pm) [e] [⟨some "key", .Lambda params body scope lpos, kp1⟩, ⟨some "default", .Constant .none j cpos, kp2⟩] pos) (tMinK T te) := by
  refine ⟨fun pins s σ H Q I h => ?_⟩
  refine wpAny_Call_Name_kw (ld_blt (u := .builtin "min") I hg hm (by decide +kernel) ?_)
  refine PyProof.Rows.callWith_kw (thn (ha.run pos pins s σ H _ I h) fun us s1 ⟨vs, H1, I1, r1, hT, l, items, ev, hl, hit, q⟩ => ?_) (by rw [hst]; rfl) (by rw [hst]; rfl)
  subst ev
  obtain ⟨u, rfl, ru⟩ := r1.one
  obtain rfl : u = Value.ref l := ru
  show wpAny _ _ (evalAll [(do let v ← eval (.Lambda params body scope lpos) X.env; standAt pos; pure v), (do let v ← eval (.Constant .none j cpos) X.env; standAt pos; pure v)]) _ _ s1
  refine wpAny_evalAll_cons (wpAny_bind (lam_make2 I1 TB hcode hmT huT hT hdef hfree fun f c' pm' ctv H2 s2 I2 eN T2 hf hfn hfr hco => wpAny_bind (wpAny_standAt (wpAny_pure ?_))))
  refine wpAny_evalAll_cons (wpAny_bind (show wpAny _ _ (eval (.Constant .none j cpos) X.env) _ _ s2 from wpAny_pure (wpAny_bind (wpAny_standAt (wpAny_pure (wpAny_evalAll_nil ?_))))))
  show wpAny _ _ (call (.builtin "min") [.ref l] [(Str.ofString "key", .ref f), (Str.ofString "default", .none)]) _ _ s2
  have nt : ∀ (xs : List V) (ps : Array Value), HO.lst xs ≠ .tbl ps := fun _ _ z => nomatch z
  have hl2 := eN _ _ hl (nt _)
  have hit2 : ∀ i ∈ items, H2 i.1 = some (.lst (i.2.map V.str)) := fun i hi => eN _ _ (hit i hi) (nt _)
  have frf := I2.env0.frf
  obtain ⟨_, its, n, rv, el⟩ := I2.hok l _ hl2
  obtain ⟨⟨oc, cvs, ct, d1, d2, d3⟩, _, _⟩ := I2.hok c' _ hco
  rw [hcl] at hf
  obtain ⟨q0, q1⟩ := q H2 eN T2
  have hlen : items.length = its.length := by
    have := rv.length
    rw [List.length_map] at this
    exact this
  refine PySem.call_min_walkKD (iter_listW (A := X.A.in1) (I2.ok.hd hc) ⟨_, el, rfl, n, rfl⟩ fun s3 e3 W st hfp hw hk => ?_)
  have es : s3.heap.objs.size = s2.heap.objs.size + 1 := by
    rw [e3]
    exact Heap.size_push _ _
  refine ⟨_, _, _, _, _, _, _, _, _, _, rfl, W, st, hfp, key_run I2 hr S hit2 rv ⟨_, el, rfl, n, rfl⟩ (fun z => by rw [frf _ z] at hl2; cases hl2) hf hfr ⟨c', oc, cvs, ct, rfl, d1, d2, d3⟩ (fun z => by rw [frf _ z] at hco; cases hco) (fun s u => hbind s u _ _ _) (fun A outer s H E hr => hbody A outer s H E f c' hr) htb es, ?_, ?_, ?_⟩
  · refine ⟨by rw [e3], by rw [e3]; exact I2.bare, ?_⟩
    exact Un.kept hk
  · intro hn s' hj
    refine ⟨.non, H2, hj.inv I2, rfl, q0 ?_⟩
    have : its.length = 0 := by simpa using hn
    exact List.eq_nil_of_length_eq_zero (by omega)
  · intro hn v s' hP hj
    obtain ⟨a, names, e1, rfl⟩ := vals_at rv hP
    exact ⟨.ref a, H2, hj.inv I2, rfl, q1 _ (List.mem_of_getElem? e1)⟩
end U

/-! a def whose code object is known (its table of lambdas is tracked) -/
namespace U
open PySem PySem.Spec PyProof.Rows L2 LamX
structure FunC (K : PySem.W.Frag) (x qual : Str) (st : Stmt) (f : Addr) (fd : FuncData) (c : Addr) : Prop where
  ex : ∃ (oc : Value) (od : Option Addr) (kV doc pm : Value) (an : Option Addr) (ct : Value) (osl : Array (Option Value)),
    fd = PySem.W.fnOf x qual (defArgs st) (defBody st) (defScope st) .none kV doc pm an (.ref c) ct ∧ K.lookup f = some ⟨oc, od, .func fd, osl⟩ ∧ PySem.W.codeIn K (.ref c) qual = true
section
variable {P : Program} {w : World} {K : PySem.W.Frag} {mg : Str → Option Value} {base : Heap}
theorem fnG0C {x qual : Str} {st : Stmt} {f c : Addr} {fd : FuncData} {N ps : List Str} {k : Nat} {sp : Sp} (F : FunC K x qual st f fd c) (S : FnScope N ps (defScope st)) (len : ∀ vs H Q E, sp vs H Q E → vs.length = ps.length)
    (body : ∀ (A : Around) (outer : List Env) (s : Shared) (H : Hp) (vs : List V) (Q : VK) (E : XK), Rm k (A.deeper (envOfC qual (defScope st) s.heap.objs.size f (.ref c))) → sp vs H Q E →
      ∃ t, PSs (cxOf CX0 P w K mg base N qual (defScope st) f (.ref c) A outer s H E).nox (defBody st) t ∧ t { nx := fun _ H' => Q .non H', rt := Q } (start N vs) H) :
    FnG P w K mg base CX0 (k + 1) f fd ps sp := by
  obtain ⟨oc, od, kV, doc, pm, an, ct, osl, rfl, lk, hcd⟩ := F.ex
  refine ⟨len, fun A outer s H args us vs Q E room e0 bd rel want => ?_⟩
  have count := len _ _ _ _ want
  have kin : K.In s.heap := e0.mod.kin.keeps fun b o e => (e0.bs b o e).1
  have kinds : ∀ y ∈ ps.zip us, (defScope st).names.lookup y.1 = some .local ∨ ((defScope st).names.lookup y.1 = some .cell ∧ ((cellsFrom (s.heap.objs.size + 1) (defScope st).names []).lookup y.1).isSome = true) := by
    rintro ⟨n, v⟩ hy
    cases S.par n (List.of_mem_zip hy).1 with
    | inl q => exact .inl q
    | inr q => exact .inr ⟨q, PySem.W.cellsFrom_some _ _ _ (.inl q)⟩
  apply codeAny_call_function room.r.depth (kin _ _ lk) rfl S.co S.gen rfl (PySem.W.codeRec_of kin hcd) (bd _ _ _ _ _)
  apply wpAny_newFunctionEnv_cells S.kind kinds
  intro env he s1 x
  subst he
  have lim : s.heap.NoLimit := e0.mod.nolimit.keeps fun b o e => (e0.bs b o e).1
  refine ⟨lim.keeps x.toInCall.keep, codeAny_func ?_⟩
  obtain ⟨t, ht0, want'⟩ := body A outer s H vs Q E (room.deeper _) want
  have ht := ht0.nox
  have I := inv_start (CX := CX0) (P := P) (w := w) (K := K) (mg := mg) (base := base) (E := E) S room.r.hd e0 count rel x
  refine wpAny_mono (ht.run [] s1 (start N vs) H _ I want') ?_ fun e s' hs => hs
  intro fl s' hs
  cases fl with
  | ret u =>
    obtain ⟨v, σ', H', J, rv, q⟩ := hs
    exact ⟨v, H', J.os, J.bare, J.base, J.hok, rv, q⟩
  | next =>
    obtain ⟨σ', H', J, q⟩ := hs
    exact ⟨V.non, H', J.os, J.bare, J.base, J.hok, rfl, q⟩
  | brk => exact hs.elim fun _ z => z.elim fun _ z => z.2.elim
  | cont => exact hs.elim fun _ z => z.elim fun _ z => z.2.elim
end
end U

/-! smallest_path -/
namespace Law
open PySem PySem.Spec PyProof.Rows L2 U LamX


theorem rd_minK {T : List (Addr × Str)} {te : TA} {σ : L2.St} {H : Hp} {Q : VK} (h : te σ H fun vs H1 => Tabs T H1 ∧ ∃ (l : Addr) (items : List (Addr × List Str)), vs = [.ref l] ∧ H1 l = some (.lst (items.map fun i => V.ref i.1)) ∧ (∀ i ∈ items, H1 i.1 = some (.lst (i.2.map V.str))) ∧
  ∀ H2, ExtN H1 H2 → Tabs T H2 → (items = [] → Q .non H2) ∧ ∀ i ∈ items, Q (.ref i.1) H2) : tMinK T te σ H Q := h
def spSmall (T : List (Addr × Str)) : Sp := fun vs H Q _ => ∃ (l : Addr) (items : List (Addr × List Str)), vs = [.ref l] ∧ Tabs T H ∧ H l = some (.lst (items.map fun i => V.ref i.1)) ∧ (∀ i ∈ items, H i.1 = some (.lst (i.2.map V.str))) ∧
  ∀ (v : V) (H' : Hp), ExtN H H' → Tabs T H' → (v = .non ↔ items = []) → (v = .non ∨ ∃ i ∈ items, v = .ref i.1) → Q v H'
/-- the lambda's text -/
def lamScope : Scope := { kind := .function, names := [("path", .local), ("len", .globalImplicit)], isGenerator := false, isCoroutine := false }
abbrev lamBody : Expr := .Tuple [.Call (.Name "len" ⟨112, 40, 112, 43⟩) [.Name "path" ⟨112, 44, 112, 48⟩] [] ⟨112, 40, 112, 49⟩, .Name "path" ⟨112, 51, 112, 55⟩] 0 ⟨112, 39, 112, 56⟩
theorem lamS : FnScope ["path"] ["path"] lamScope := ⟨rfl, rfl, rfl, by decide +kernel, rfl, by decide +kernel, by decide +kernel⟩
section
variable {P : Program} {w : World} {K : PySem.W.Frag} {mg : Str → Option Value} {base : Heap}
theorem ok_small {f : Addr} {fd : FuncData} {c Pt : Addr} {T : List (Addr × Str)} (F : FunC K "smallest_path" "smallest_path" s_smallest_path f fd c) (hmin : mg "min" = none) (hlen : mg "len" = none) (TB : TabB base mg c Pt) (hT : (Pt, ("smallest_path" : Str) ++ ".<locals>." ++ "<lambda>") ∈ T) (hu : ∀ y ∈ T, y.1 = Pt → y.2 = ("smallest_path" : Str) ++ ".<locals>." ++ "<lambda>") : FnG P w K mg base CX0 3 f fd ["paths"] (spSmall T) := by
  refine fnG0C F sc_smallest_path (fun vs H Q E h => ?_) (fun A outer s H vs Q E hr h => ?_)
  · obtain ⟨l, items, rfl, _⟩ := h
    rfl
  · obtain ⟨l, items, rfl, hTab, hl, hit, q⟩ := h
    have nd := sc_smallest_path.nd
    have nd1 : ([("path" : Str)] : List Str).Nodup := by decide
    have body : ∀ (A : Around) (outer : List Env) (s : Shared) (H : Hp) (E : XK) (f c' : Addr), Room 0 (A.deeper (envOfC (("smallest_path" : Str) ++ ".<locals>." ++ "<lambda>") lamScope s.heap.objs.size f (.ref c'))) →
        PE (cxOf (fun _ _ _ _ _ _ => False) P w K mg base ["path"] (("smallest_path" : Str) ++ ".<locals>." ++ "<lambda>") lamScope f (.ref c') A outer s H E) lamBody (tTup (tCons (tCB (rLenU K) (tCons (tVar 0) tNil)) (tCons (tVar 0) tNil))) := fun A outer s H E f c' hr2 => by
      have nd := nd1
      exact pe_tup (pa_cons (pe_callB (kLen K rfl) (by rfl) hlen bb_len (pa_cons (pv 0) pa_nil)) (pa_cons (pv 0) pa_nil))
    refine ⟨_, pss_one (ps_ret (pe_minK (T := T) (c := c) (P := Pt) (k := 0) (N := ["path"]) (p := "path") rfl rfl hmin (pa_cons (pv 0) pa_nil) TB rfl hT hu rfl (fun y hy e => ?_) rfl (hr.r.mono (by decide)) lamS (fun s u pm ctv c' => .of_eq rfl) body ?_)), ?_⟩
    · have : ∀ y ∈ lamScope.names, y.2 ≠ .free := by decide
      exact absurd e (this y hy)
    · intro a names o H' Q' ha hq
      wtm_at "rd"
      refine rd_lenL (K := K) (xs := names.map V.str) (.inl (.inr ⟨o, ha⟩)) ?_
      rw [List.length_map]
      wtm_at "rd"
      intro t ft
      exact hq t _ ft upd_same
    · wtm_at "rd"
      refine rd_minK ?_
      wtm_at "rd"
      refine ⟨hTab, l, items, rfl, hl, hit, fun H2 e2 t2 => ⟨fun e => ?_, fun i hi => ?_⟩⟩
      · exact q .non H2 e2 t2 ⟨fun _ => e, fun _ => rfl⟩ (.inl rfl)
      · exact q (.ref i.1) H2 e2 t2 ⟨(fun z => nomatch z), (fun z => by rw [z] at hi; cases hi)⟩ (.inr ⟨i, hi, rfl⟩)
end
end Law

/-! rising cycles, feasible lifts, progress: the plain law -/
namespace U
open PySem PySem.Spec PyProof.Rows L2
def slOk (f : Str → Int) (dir : Int) (a b : Str) : Bool := decide (slp f a b = dir)
abbrev Rr (es : List (Str × Str)) (f : Str → Int) (dir : Int) (x y : Str) : Prop := Reach (nbS es) (slOk f dir) x y
/-- x is on a rising (falling) cycle -/
def CycD (es : List (Str × Str)) (f : Str → Int) (dir : Int) (x : Str) : Prop := ∃ y, Adj es y x ∧ slp f y x = dir ∧ Rr es f dir x y
abbrev Cyc (es : List (Str × Str)) (f : Str → Int) (x : Str) : Prop := CycD es f 1 x
section
variable {ns : List Str} {es : List (Str × Str)} {f : Str → Int} {dir : Int}
theorem rr_step {a b : Str} (h : Adj es a b) (k : slp f a b = dir) : Rr es f dir a b := .step .refl (nbS_mem.mpr h) (decide_eq_true k)
theorem rr_snoc {a b c : Str} (r : Rr es f dir a b) (h : Adj es b c) (k : slp f b c = dir) : Rr es f dir a c := .step r (nbS_mem.mpr h) (decide_eq_true k)
theorem rr_first {x y : Str} (r : Rr es f dir x y) : y = x ∨ ∃ z, Adj es x z ∧ slp f x z = dir ∧ Rr es f dir z y := by
  induction r with
  | refl => exact .inl rfl
  | @step a b _ m o ih =>
    have o' := of_decide_eq_true o
    have m' := nbS_mem.mp m
    rcases ih with rfl | ⟨z, h1, h2, h3⟩
    · exact .inr ⟨b, m', o', .refl⟩
    · exact .inr ⟨z, h1, h2, .step h3 m o⟩
theorem rr_last {x y : Str} (r : Rr es f dir x y) : y = x ∨ ∃ z, Adj es z y ∧ slp f z y = dir ∧ Rr es f dir x z := by
  cases r with
  | refl => exact .inl rfl
  | step r m o => exact .inr ⟨_, nbS_mem.mp m, of_decide_eq_true o, r⟩
/-- what lies on the way of a cycle is on a cycle -/
theorem cyc_on {x w y : Str} (r1 : Rr es f dir x w) (r2 : Rr es f dir w y) (h : Adj es y x) (k : slp f y x = dir) : CycD es f dir w := by
  rcases rr_last r1 with e | ⟨z, z1, z2, z3⟩
  · rw [e] at r2 ⊢
    exact ⟨y, h, k, r2⟩
  · exact ⟨z, z1, z2, (rr_snoc r2 h k).trans z3⟩
theorem adj_in (ok : EsOk ns es f) {a b : Str} (h : Adj es a b) : a ∈ ns ∧ b ∈ ns ∧ f a ≠ f b ∧ a ≠ b := by
  have m : a ∈ ns ∧ b ∈ ns ∧ f a ≠ f b := by
    rcases h with h | h
    · exact ⟨(ok.mem _ h).1, (ok.mem _ h).2, ok.pro _ h⟩
    · exact ⟨(ok.mem _ h).2, (ok.mem _ h).1, fun z => ok.pro _ h z.symm⟩
  exact ⟨m.1, m.2.1, m.2.2, fun z => m.2.2 (by rw [z])⟩
/-- a node on a cycle has no move -/
theorem cyc_still (ok : EsOk ns es f) {pn : List Str} {m : Str × Int} (l : Legal ns es f pn m) : ¬ Cyc es f m.1 := by
  rintro ⟨y, h, k, r⟩
  have ay := adj_in ok h
  rcases rr_first r with e | ⟨z, h1, h2, _⟩
  · exact ay.2.2.2 e
  have az := adj_in ok h1
  have ty := ok.tri y ay.1
  have tx := ok.tri _ ay.2.1
  have tz := ok.tri z az.2.1
  have n1 := l.nbr y (.symm h)
  have n2 := l.nbr z h1
  have n3 := l.own
  have tv := l.val
  have e1 : (f m.1 - f y) % 3 = 1 := by
    unfold slp at k
    split at k
    · assumption
    · cases k
  have e2 : (f z - f m.1) % 3 = 1 := by
    unfold slp at h2
    split at h2
    · assumption
    · cases h2
  have d1 := ay.2.2.1
  have d2 := az.2.2.1
  omega
theorem slp_off {n : Str} {v : Int} {a b : Str} (ha : a ≠ n) (hb : b ≠ n) : slp (updf f n v) a b = slp f a b := by
  unfold slp updf
  rw [if_neg ha, if_neg hb]
/-- cycles stay -/
theorem cyc_move (ok : EsOk ns es f) {pn : List Str} {m : Str × Int} (l : Legal ns es f pn m) {x : Str} (c : Cyc es f x) : Cyc es (updf f m.1 m.2) x := by
  obtain ⟨y, h, k, r⟩ := c
  have st := cyc_still ok l
  have off : ∀ w, Rr es f 1 x w → Rr es f 1 w y → w ≠ m.1 := fun w r1 r2 z => st (by rw [← z]; exact cyc_on r1 r2 h k)
  have walk : ∀ w, Rr es f 1 x w → Rr es f 1 w y → Rr es (updf f m.1 m.2) 1 x w := by
    intro w r1
    induction r1 with
    | refl => intro _; exact .refl
    | @step a b r1 mm o ih =>
      intro r2
      have o' := of_decide_eq_true o
      have m' := nbS_mem.mp mm
      have r2' : Rr es f 1 a y := (rr_step m' o').trans r2
      refine rr_snoc (ih r2') m' ?_
      rw [slp_off (off a r1 r2') (off b (.step r1 mm o) r2)]
      exact o'
  refine ⟨y, h, ?_, walk y r .refl⟩
  rw [slp_off (off y r .refl) (off x .refl r)]
  exact k
theorem legal_back (ok : EsOk ns es f) {pn : List Str} {m : Str × Int} (l : Legal ns es f pn m) : Legal ns es (updf f m.1 m.2) pn (m.1, f m.1) := by
  have own : f m.1 ≠ updf f m.1 m.2 m.1 := by
    unfold updf
    rw [if_pos rfl]
    exact fun z => l.own z.symm
  refine ⟨l.mem, l.pin, ok.tri _ l.mem, own, fun z hz => ?_⟩
  have a := adj_in ok (show Adj es m.1 z from hz)
  show f m.1 ≠ updf f m.1 m.2 z
  unfold updf
  rw [if_neg (Ne.symm a.2.2.2)]
  exact a.2.2.1
theorem updf_undo {n : Str} {v : Int} : updf (updf f n v) n (f n) = f := by
  funext x
  unfold updf
  by_cases e : x = n
  · rw [if_pos e, e]
  · rw [if_neg e, if_neg e]
theorem cyc_iff (ok : EsOk ns es f) {pn : List Str} {m : Str × Int} (l : Legal ns es f pn m) {x : Str} : Cyc es (updf f m.1 m.2) x ↔ Cyc es f x := by
  refine ⟨fun c => ?_, cyc_move ok l⟩
  have ok' := (move_keeps (f0 := f) (h := fun _ => 0) ok l fun e _ => by omega).1
  have := cyc_move ok' (legal_back ok l) c
  rw [updf_undo] at this
  exact this
/-! ### feasible lifts -/
structure Feas (ns : List Str) (es : List (Str × Str)) (f h : Str → Int) (pn : List Str) : Prop where
  fit : Fits es f h
  pin : ∀ x ∈ pn, h x = 0
  cyc : ∀ x, Cyc es f x → h x = 0
theorem fit_pm {a b : Str} : fitB f h a b = true ↔ slp f a b - 2 * (h a - h b) = 1 ∨ slp f a b - 2 * (h a - h b) = -1 := by
  rw [fit_iff]
  rcases slp_pm f a b with e | e
  · rw [if_pos e, e]
    omega
  · rw [if_neg (by rw [e]; decide), e]
    omega
/-- a move, and one less to go -/
theorem feas_move (ok : EsOk ns es f) {pn : List Str} {h : Str → Int} {m : Str × Int} (fe : Feas ns es f h pn) (l : Legal ns es f pn m) : Feas ns es (updf f m.1 m.2) (updf h m.1 (h m.1 - dlt (f m.1 - m.2))) pn := by
  have mk := (move_keeps (f0 := f) (h := fun _ => 0) ok l fun e _ => by omega).2
  have ne : ∀ x, Cyc es f x ∨ x ∈ pn → x ≠ m.1 := fun x hx z => by
    rcases hx with c | c
    · rw [z] at c
      exact cyc_still ok l c
    · rw [z] at c
      exact l.pin c
  refine ⟨fun e he => ?_, fun x hx => ?_, fun x hx => ?_⟩
  · have a := fit_pm.mp (fe.fit e he)
    have b := mk e he
    rw [fit_pm]
    have u1 : ∀ x, updf h m.1 (h m.1 - dlt (f m.1 - m.2)) x = h x - updf (fun _ => 0) m.1 (0 + dlt (f m.1 - m.2)) x := fun x => by
      unfold updf
      by_cases z : x = m.1
      · rw [if_pos z, if_pos z, z]
        omega
      · rw [if_neg z, if_neg z]
        show h x = h x - 0
        omega
    rw [u1, u1]
    omega
  · unfold updf
    rw [if_neg (ne x (.inr hx))]
    exact fe.pin x hx
  · have c := (cyc_iff ok l).mp hx
    unfold updf
    rw [if_neg (ne x (.inl c))]
    exact fe.cyc x c
/-! ### progress -/
end
end U

/-! paths of one slope; certificates -/
namespace U
open PySem PySem.Spec PyProof.Rows L2
def SlP (es : List (Str × Str)) (f : Str → Int) (dir : Int) : List Str → Prop
  | a :: b :: r => Adj es a b ∧ slp f a b = dir ∧ SlP es f dir (b :: r)
  | _ => True
section
variable {ns : List Str} {es : List (Str × Str)} {f : Str → Int} {dir : Int}
theorem SlP.join : ∀ {p r : List Str} {x : Str}, p.getLast? = some x → SlP es f dir p → SlP es f dir (x :: r) → SlP es f dir (p ++ r)
  | [], _, _, h, _, _ => nomatch h
  | [a], r, x, h, _, k => by
    have e : a = x := by simpa using h
    subst e
    exact k
  | a :: b :: q, r, x, h, w, k => by
    have h' : (b :: q).getLast? = some x := by rw [List.getLast?_cons_cons] at h; exact h
    exact ⟨w.1, w.2.1, SlP.join h' w.2.2 k⟩
theorem SlP.snoc {p : List Str} {x b : Str} (h : p.getLast? = some x) (w : SlP es f dir p) (a : Adj es x b) (e : slp f x b = dir) : SlP es f dir (p ++ [b]) := w.join h ⟨a, e, trivial⟩
theorem SlP.tail {a : Str} {p : List Str} (w : SlP es f dir (a :: p)) : SlP es f dir p := by
  cases p with
  | nil => trivial
  | cons b r => exact w.2.2
theorem SlP.left : ∀ {p r : List Str}, SlP es f dir (p ++ r) → SlP es f dir p
  | [], _, _ => trivial
  | [a], _, _ => trivial
  | a :: b :: q, r, w => ⟨w.1, w.2.1, SlP.left (p := b :: q) w.2.2⟩
theorem SlP.wk : ∀ {p : List Str}, SlP es f dir p → Wk es p
  | [], _ => trivial
  | [a], _ => trivial
  | a :: b :: q, w => ⟨w.1, SlP.wk w.2.2⟩
theorem SlP.at : ∀ {p : List Str}, SlP es f dir p → ∀ i (h : i + 1 < p.length), Adj es p[i] p[i + 1] ∧ slp f p[i] p[i + 1] = dir
  | a :: b :: q, w, 0, _ => ⟨w.1, w.2.1⟩
  | a :: b :: q, w, i + 1, h => SlP.at (p := b :: q) w.2.2 i (by simpa using h)
theorem SlP.of : ∀ {p : List Str}, (∀ i (h : i + 1 < p.length), Adj es p[i] p[i + 1] ∧ slp f p[i] p[i + 1] = dir) → SlP es f dir p
  | [], _ => trivial
  | [a], _ => trivial
  | a :: b :: q, h => ⟨(h 0 (by simp)).1, (h 0 (by simp)).2, SlP.of fun i hi => h (i + 1) (by simpa using hi)⟩
theorem SlP.rev (ok : EsOk ns es f) : ∀ {p : List Str}, SlP es f dir p → SlP es f (-dir) p.reverse
  | [], _ => trivial
  | [a], _ => trivial
  | a :: b :: q, w => by
    have i := SlP.rev ok w.2.2
    rw [List.reverse_cons]
    refine i.snoc (x := b) ?_ w.1.symm ?_
    · rw [List.reverse_cons]
      simp only [List.getLast?_append, List.getLast?_singleton, Option.some_or]
    · rw [slp_neg ok w.1, w.2.1]
theorem PathTo.slp {x y : Str} {p : List Str} (h : PathTo (nbS es) (slOk f dir) x y p) : SlP es f dir p ∧ p.head? = some x ∧ p.getLast? = some y := by
  induction h with
  | one => exact ⟨trivial, rfl, rfl⟩
  | @snoc a b p q m o ih =>
    obtain ⟨i1, i2, i3⟩ := ih
    refine ⟨i1.snoc i3 (nbS_mem.mp m) (of_decide_eq_true o), ?_, ?_⟩
    · cases p with
      | nil => cases i2
      | cons c r => exact i2
    · simp only [List.getLast?_append, List.getLast?_singleton, Option.some_or]
/-- a rising cycle from x -/
structure CycL (ns : List Str) (es : List (Str × Str)) (f : Str → Int) (x : Str) (c : List Str) : Prop where
  sl : SlP es f 1 c
  hd : c.head? = some x
  la : c.getLast? = some x
  l2 : 2 ≤ c.length
  ln : c.length ≤ ns.length + 2
  in_ : ∀ y ∈ c, y ∈ ns
/-- one path of a certificate -/
structure CerP (ns : List Str) (es : List (Str × Str)) (f : Str → Int) (pn : List Str) (dir : Int) (x : Str) (p : List Str) : Prop where
  hd : p.head? = some x
  sl : SlP es f dir p
  ln : p.length ≤ 2 * ns.length + 20
  in_ : ∀ y ∈ p, y ∈ ns
  en : ∃ y, p.getLast? = some y ∧ (y ∈ pn ∨ y ∈ p.dropLast)
theorem sl_paths (ok : GrOk ns es) (l : ns.length ≤ 1000) {x : Str} (hx : x ∈ ns) {c : Str × List Str} (h : c ∈ pathsF (nbS es) (slOk f dir) x) : PathTo (nbS es) (slOk f dir) x c.1 c.2 ∧ c.2.length ≤ ns.length + 1 ∧ ∀ y ∈ c.2, y ∈ ns := by
  have cl : ∀ a ∈ ns, ∀ b ∈ nbS es a, b ∈ ns := fun a _ b hb => nbS_in ok hb
  have e := stF_done (adj := nbS es) (ok := slOk f dir) (root := x) (i := ns.length) (stF_len cl hx ns.length) l
  rw [← e] at h
  have p := stF_path _ _ h
  refine ⟨p, stF_plen _ _ h, ?_⟩
  generalize c.2 = q at p
  generalize c.1 = z at p
  clear h e
  induction p with
  | one => intro y hy; rw [List.mem_singleton.mp hy]; exact hx
  | @snoc a b p q m o ih =>
    intro y hy
    rcases List.mem_append.mp hy with hy | hy
    · exact ih y hy
    · rw [List.mem_singleton.mp hy]
      exact nbS_in ok m
end
end U

/-! cycle_at, cycle_nodes, find_anchors -/
namespace Law
open PySem PySem.Spec PyProof.Rows L2 U LamX


theorem ExtN.li {H H' : Hp} (e : ExtN H H') {a : Addr} {xs : List V} (h : H a = some (.lst xs)) : H' a = some (.lst xs) := e _ _ h fun _ z => nomatch z
theorem ExtN.tu {H H' : Hp} (e : ExtN H H') {a : Addr} {xs : List V} (h : H a = some (.tup xs)) : H' a = some (.tup xs) := e _ _ h fun _ z => nomatch z
theorem ExtN.dk {H H' : Hp} (e : ExtN H H') {a : Addr} {xs : List (Key × V)} (h : H a = some (.dK xs)) : H' a = some (.dK xs) := e _ _ h fun _ z => nomatch z
theorem GSt.ext {H H' : Hp} {g n e st : Addr} {ns ord : List Str} {es : List (Addr × Str × Str)} {f : Str → Int} (h : GSt H g n e st ns ord es f) (x : ExtN H H') : GSt H' g n e st ns ord es f :=
  ⟨⟨ExtN.tu x h.gr.top, ExtN.tu x h.gr.nodes, ExtN.tu x h.gr.edges, fun y hy => ExtN.tu x (h.gr.pairs y hy)⟩, h.ok, h.pm, h.l2, h.l3, ExtN.dk x h.st, h.tri, h.pro⟩
def spCycAt (T : List (Addr × Str)) : Sp := fun vs H Q _ => ∃ (g n e st : Addr) (x : Str) (ns ord : List Str) (es : List (Addr × Str × Str)) (f : Str → Int), vs = [.ref g, .ref st, .str x] ∧ GSt H g n e st ns ord es f ∧ x ∈ ns ∧ Tabs T H ∧
  ∀ (v : V) (H' : Hp), ExtN H H' → Tabs T H' → (v = .non ↔ ¬ Cyc (es.map (·.2)) f x) → (v = .non ∨ ∃ a c, v = .ref a ∧ H' a = some (.lst (c.map V.str)) ∧ CycL ns (es.map (·.2)) f x c) → Q v H'
section
variable {P : Program} {w : World} {K : PySem.W.Frag} {mg : Str → Option Value} {base : Heap}
structure Y6c (P : Program) (w : World) (K : PySem.W.Frag) (mg : Str → Option Value) (base : Heap) (T : List (Addr × Str)) : Prop where
  adjacency : Cal P w K mg base CX0 1 "adjacency" spAdj
  slope : Cal P w K mg base CX0 1 "slope" spSlope
  sloped_paths : Cal P w K mg base CX0 2 "sloped_paths" spSloped
  smallest_path : Cal P w K mg base CX0 3 "smallest_path" (spSmall T)
  UP : ∃ u, mg "UP" = some u ∧ RelV (.int 1) u
theorem ok_cycle_at {f : Addr} {fd : FuncData} {T : List (Addr × Str)} (F : Fun K "cycle_at" "cycle_at" s_cycle_at f fd) (B : Bt mg) (C : Y6c P w K mg base T) : FnG P w K mg base CX0 4 f fd ["graph", "state", "node"] (spCycAt T) := by
  refine fnG0 F sc_cycle_at (fun vs H Q E h => ?_) (fun cdv A outer s H vs Q E hr h => ?_)
  · obtain ⟨g, n, e, st, x, ns, ord, es, f, rfl, _⟩ := h
    rfl
  · obtain ⟨g, n, e, st, x, ns, ord, es, f, rfl, gs, hx, tabs, q⟩ := h
    have nd := sc_cycle_at.nd
    have hu := hr.u1
    refine ⟨_, (pss_cons (ps_set (i := 3) nd rfl (by first | exact Or.inl rfl | exact Or.inr rfl) (pe_c C.sloped_paths hr (by decide) rfl (pa_cons (pv 0) (pa_cons (pv 1) (pa_cons (pv 2) (pa_cons (pe_gl rfl C.UP) pa_nil))))))
  (pss_cons (ps_setLc (i := 4) (own := [("one", 5)]) rfl nd rfl rfl (sw_true rfl rfl rfl (by decide +kernel)) (ki_list K rfl (pe_dget hu (pe_c C.adjacency hr (by decide) rfl (pa_cons (pv 0) pa_nil)) (pv 2) (fun _ _ => rfl))) (blkOk_by (own := [("one", 5)]) (N := nN_cycle_at) (sc := defScope s_cycle_at) (by decide +kernel)) (fun _ _ _ _ _ => (pg_name (i := 5) nd rfl (by first | exact Or.inl rfl | exact Or.inr rfl))) (fun _ _ _ _ _ => (pts_one (PW.pt (pw_and (pt_cmp (pc_din hu (pv 5) (pv 3))) (pw_and1 (pt_cmpR (kEq K rfl hr.u64) (pe_c C.slope hr (by decide) rfl (pa_cons (pv 1) (pa_cons (pv 5) (pa_cons (pv 2) pa_nil)))) (pe_gl rfl C.UP) (nomark _))))))) (fun _ _ _ _ _ => (pv 5)))
  (pss_one (ps_ret (pe_c C.smallest_path hr (by decide) rfl (pa_cons (pe_lc (own := [("one", 5)]) rfl nd (ki_list K rfl (pv 4)) (blkOk_by (own := [("one", 5)]) (N := nN_cycle_at) (sc := defScope s_cycle_at) (by decide +kernel)) (fun _ _ _ _ _ => (pg_name (i := 5) nd rfl (by first | exact Or.inl rfl | exact Or.inr rfl))) (fun _ _ _ _ _ => pts_nil) (fun _ _ _ _ _ => (pe_op (kAdd K rfl) (pe_dget hu (pv 3) (pv 5) (fun _ _ => rfl)) (pe_lst (pa_cons (pv 2) pa_nil))))) pa_nil)))))), ?_⟩
    wtm_at "rd"
    refine ⟨g, n, e, st, x, 1, ns, ord, es, f, rfl, gs, hx, fun d A H1 s1 fd fA pa => ?_⟩
    have gs1 := gs.same s1
    wtm_at "rd"
    refine ⟨g, n, e, ns, es, rfl, gs1.grs, fun ad Ad H2 s2 _ had => ?_⟩
    have gs2 := gs1.same s2
    have pa2 := pa.same s2
    wtm_at "rd"
    refine rd_dat (.inl had.di) (kvG_val hx) rfl ?_
    have hos := had.at gs.ok hx
    have cl : ∀ a ∈ ns, ∀ b ∈ nbS (es.map (·.2)) a, b ∈ ns := fun a _ b hb => nbS_in gs.ok hb
    have l1 : ns.length ≤ 1000 := by have := gs.l2; omega
    have kin : ∀ y, y ∈ keysF (slF (es.map (·.2)) f 1 x) ↔ Rr (es.map (·.2)) f 1 x y := fun y => ⟨fun h => stF_reach h, fun h => stF_all (i := 1000) (by have := stF_len (ok := slOk f 1) cl hx 1000; omega) h⟩
    have slp_ : ∀ c ∈ slF (es.map (·.2)) f 1 x, PathTo (nbS (es.map (·.2))) (slOk f 1) x c.1 c.2 ∧ c.2.length ≤ ns.length + 1 ∧ ∀ y ∈ c.2, y ∈ ns := fun c hc => sl_paths gs.ok l1 hx hc
    have slq : ∀ c ∈ slF (es.map (·.2)) f 1 x, SlP (es.map (·.2)) f 1 c.2 ∧ c.2.head? = some x ∧ c.2.getLast? = some c.1 ∧ c.2.length ≤ ns.length + 1 ∧ ∀ y ∈ c.2, y ∈ ns := fun c hc => ⟨(slp_ c hc).1.slp.1, (slp_ c hc).1.slp.2.1, (slp_ c hc).1.slp.2.2, (slp_ c hc).2⟩
    clear slp_
    have plen : ∀ c ∈ slF (es.map (·.2)) f 1 x, c.2.length ≤ 1001 := fun c hc => stF_plen 1000 c hc
    have osa : ∀ o, o ∈ nbS (es.map (·.2)) x ↔ Adj (es.map (·.2)) x o := fun o => nbS_mem
    have osl : (nbS (es.map (·.2)) x).length ≤ 2000 := by
      unfold nbS
      rw [(sortS_perm _).length_eq]
      have := nbrF_len (x := x) (es := es.map (·.2))
      rw [List.length_map] at this
      have := gs.l3
      omega
    generalize nbS (es.map (·.2)) x = os at *
    generalize slF (es.map (·.2)) f 1 x = kp at *
    have s02 := s1.trans s2
    refine rd_forL (SqL.of hos) ?_
    intro D fD
    refine lcL (K := K) (xs := os.map V.str) (fun j H' => Same H2 H' ∧ H' D = some (.lst (((os.take j).filter fun o => decide (o ∈ keysF kp) && decide (slp f o x = 1)).map V.str))) ⟨Same.new fD, upd_same⟩ ?_ ?_ ?_
    · rintro j H' hj ⟨sb, _⟩
      exact SqL.of (sb _ _ hos)
    · rintro j y H' hy ⟨sb, hD⟩
      obtain ⟨hj, rfl⟩ := map_at hy
      have tk := take_snoc hj
      have hom := (adj_in gs.eok ((osa _).mp (List.getElem_mem hj))).2.1
      have lt : ((os.take j).filter fun o => decide (o ∈ keysF kp) && decide (slp f o x = 1)).length ≤ 2000 := Nat.le_trans (List.length_filter_le _ _) (by rw [List.length_take]; omega)
      rw [tk, List.filter_append, List.map_append]
      generalize os[j] = o at *
      wtm_at "rd"
      refine rd_din1 (.inl (sb _ _ pa2.di)) (k := .inr o) rfl ?_
      by_cases mo : o ∈ keysF kp
      · rw [kvG_val mo]
        refine rd_bl ?_
        refine rd_T ?_
        wtm_at "rd"
        refine ⟨st, o, x, ord, f, rfl, .inl (sb _ _ gs2.st), gs.inO _ hom, gs.inO _ hx, ?_⟩
        wtm_at "rd"
        refine rd_split (fun c1 => ?_) (fun c1 => ?_)
        · wtm_at "rd"
          refine rd_acc hD (by rw [List.length_map]; omega) ?_
          refine ⟨same_put sb fD, ?_⟩
          rw [upd_same, List.filter_cons, if_pos (by rw [decide_eq_true mo, decide_eq_true c1]; rfl)]
          rfl
        · refine ⟨sb, ?_⟩
          rw [List.filter_cons, if_neg (by rw [decide_eq_false c1, Bool.and_false]; exact Bool.false_ne_true), List.filter_nil, List.map_nil, List.append_nil]
          exact hD
      · rw [kvG_none mo]
        wtm_at "rd"
        refine ⟨sb, ?_⟩
        rw [List.filter_cons, if_neg (by rw [decide_eq_false mo]; exact Bool.false_ne_true), List.filter_nil, List.map_nil, List.append_nil]
        exact hD
    rintro H3 ⟨s3, hD3⟩
    rw [List.length_map, List.take_length] at hD3
    have fD0 := new_of_same s02 fD
    have enm : ∀ o, o ∈ (os.filter fun o => decide (o ∈ keysF kp) && decide (slp f o x = 1)) ↔ Adj (es.map (·.2)) o x ∧ slp f o x = 1 ∧ Rr (es.map (·.2)) f 1 x o := fun o => by
      rw [List.mem_filter, Bool.and_eq_true, decide_eq_true_iff, decide_eq_true_iff, kin, osa]
      exact ⟨fun ⟨a, b, c⟩ => ⟨a.symm, c, b⟩, fun ⟨a, b, c⟩ => ⟨a.symm, c, b⟩⟩
    have enl : (os.filter fun o => decide (o ∈ keysF kp) && decide (slp f o x = 1)).length ≤ 2000 := Nat.le_trans (List.length_filter_le _ _) osl
    generalize (os.filter fun o => decide (o ∈ keysF kp) && decide (slp f o x = 1)) = en at *
    have s03 := s02.trans s3
    have pa3 := pa2.same s3
    wtm_at "rd"
    refine rd_forL (SqL.of hD3) ?_
    intro D2 fD2
    refine lcL (K := K) (xs := en.map V.str) (fun j H' => ∃ items : List (Addr × List Str), Same H3 H' ∧ H' D2 = some (.lst (items.map fun i => V.ref i.1)) ∧ (∀ i ∈ items, H' i.1 = some (.lst (i.2.map V.str)) ∧ i.1 ≠ D2) ∧ items.length = j ∧ ∀ i ∈ items, CycL ns (es.map (·.2)) f x i.2) ⟨[], Same.new fD2, upd_same, (fun i h => nomatch h), rfl, fun i h => nomatch h⟩ ?_ ?_ ?_
    · rintro j H' hj ⟨items, sb, _⟩
      exact SqL.of (sb _ _ hD3)
    · rintro j y H' hy ⟨items, sb, hD, hit, il, icy⟩
      obtain ⟨hj, rfl⟩ := map_at hy
      have m := (kin _).mpr ((enm _).mp (List.getElem_mem hj)).2.2
      obtain ⟨e1, e2, _⟩ := (enm _).mp (List.getElem_mem hj)
      generalize en[j] = o at *
      obtain ⟨pth, h1, h2⟩ := lookup_some m
      have hp := sb _ _ (pa3.li _ h2)
      have pl := plen _ h2
      obtain ⟨q1, q2, q3, q4, q5⟩ := slq _ h2
      have cyc : CycL ns (es.map (·.2)) f x (pth ++ [x]) := by
        have pp : 0 < pth.length := by
          cases pth with
          | nil => cases q3
          | cons _ _ => simp
        refine ⟨q1.snoc q3 e1 e2, ?_, ?_, by rw [List.length_append, List.length_singleton]; omega, by rw [List.length_append, List.length_singleton]; dsimp only at q4; omega, fun y hy => ?_⟩
        · cases pth with
          | nil => cases q3
          | cons a r => exact q2
        · simp only [List.getLast?_append, List.getLast?_singleton, Option.some_or]
        · rcases List.mem_append.mp hy with hy | hy
          · exact q5 y hy
          · rw [List.mem_singleton.mp hy]
            exact hx
      wtm_at "rd"
      refine rd_dat (.inl (sb _ _ pa3.di)) (kvG_val m) rfl ?_
      wtm_at "rd"
      intro t1 ft1
      refine rd_catL (at_upd (ne_of_none hp ft1) hp) upd_same (by rw [List.length_map]; simp only [List.length_singleton] at *; omega) ?_
      intro t2 ft2
      have sT := same_add (o := .lst (pth.map V.str ++ [.str x])) (same_add (o := .lst [.str x]) sb ft1) ft2
      have hDT := at_upd (o := .lst (pth.map V.str ++ [.str x])) (ne_of_none (at_upd (o := .lst [.str x]) (ne_of_none hD ft1) hD) ft2) (at_upd (o := .lst [.str x]) (ne_of_none hD ft1) hD)
      have hitT : ∀ i ∈ items, (upd (upd H' t1 (.lst [.str x])) t2 (.lst (pth.map V.str ++ [.str x]))) i.1 = some (.lst (i.2.map V.str)) ∧ i.1 ≠ D2 := fun i hi => by
        have a := at_upd (o := .lst [.str x]) (ne_of_none (hit i hi).1 ft1) (hit i hi).1
        exact ⟨at_upd (ne_of_none a ft2) a, (hit i hi).2⟩
      have nt2 : t2 ≠ D2 := Ne.symm (ne_of_none (at_upd (o := .lst [.str x]) (ne_of_none hD ft1) hD) ft2)
      have ht2 : (upd (upd H' t1 (.lst [.str x])) t2 (.lst (pth.map V.str ++ [.str x]))) t2 = some (.lst ((pth ++ [x]).map V.str)) := by
        rw [upd_same, List.map_append]
        rfl
      generalize upd (upd H' t1 (.lst [.str x])) t2 (.lst (pth.map V.str ++ [.str x])) = HT at sT hDT hitT ht2
      refine rd_acc hDT (by rw [List.length_map]; omega) ?_
      refine ⟨items ++ [(t2, pth ++ [x])], same_put sT fD2, by rw [upd_same, List.map_append]; rfl, fun i hi => ?_, by rw [List.length_append, il]; rfl, fun i hi => ?_⟩
      · rcases List.mem_append.mp hi with hi | hi
        · exact ⟨at_upd (hitT i hi).2 (hitT i hi).1, (hitT i hi).2⟩
        · rw [List.mem_singleton] at hi
          subst hi
          exact ⟨at_upd nt2 ht2, nt2⟩
      · rcases List.mem_append.mp hi with hi | hi
        · exact icy i hi
        · rw [List.mem_singleton] at hi
          subst hi
          exact cyc
    rintro H4 ⟨items, s4, hD4, hit4, il, icy⟩
    rw [List.length_map] at il
    have s04 := s03.trans s4
    refine ⟨D2, items, rfl, tabs.ext fun b o h => s04 b o h, hD4, fun i hi => (hit4 i hi).1, fun v H5 e5 t5 i1 i2 => q v H5 ((ExtN.of fun b o h => s04 b o h).trans e5) t5 ?_ ?_⟩
    rotate_left
    · rcases i2 with i2 | ⟨i, hi, e⟩
      · exact .inl i2
      · exact .inr ⟨i.1, i.2, e, ExtN.li e5 (hit4 i hi).1, icy i hi⟩
    rw [i1]
    constructor
    · rintro rfl ⟨y, y1, y2, y3⟩
      have := (enm y).mpr ⟨y1, y2, y3⟩
      cases en with
      | nil => cases this
      | cons z r => cases il
    · intro nc
      cases en with
      | nil => exact List.eq_nil_of_length_eq_zero il
      | cons z r => exact (nc ⟨z, (enm z).mp List.mem_cons_self⟩).elim
end
end Law

/-! cycle_nodes, find_anchors -/
namespace Law
open PySem PySem.Spec PyProof.Rows L2 U LamX


theorem ext_put {H H' : Hp} {D : Addr} {o : HO} (e : ExtN H H') (fD : H D = none) : ExtN H (upd H' D o) := fun b u h n => by
  rw [upd_ne (ne_of_none h fD)]
  exact e b u h n
theorem tabs_put {T : List (Addr × Str)} {H : Hp} {D : Addr} {xs ys : List V} (t : Tabs T H) (hD : H D = some (.lst xs)) : Tabs T (upd H D (.lst ys)) := fun p hp => by
  obtain ⟨ps, h1, h2, h3⟩ := t p hp
  refine ⟨ps, at_upd (ne_of h1 hD (by intro z; cases z)) h1, h2, fun pos cv hc => ?_⟩
  obtain ⟨c, e1, e2⟩ := h3 pos cv hc
  exact ⟨c, e1, at_upd (ne_of e2 hD (by intro z; unfold CodeO at z; cases z)) e2⟩
def spCycNodes (T : List (Addr × Str)) : Sp := fun vs H Q _ => ∃ (g n e st : Addr) (ns ord : List Str) (es : List (Addr × Str × Str)) (f : Str → Int), vs = [.ref g, .ref st] ∧ GSt H g n e st ns ord es f ∧ Tabs T H ∧
  ∀ (l : Addr) (ys : List Str) (H' : Hp), ExtN H H' → Tabs T H' → H l = none → H' l = some (.lst (ys.map V.str)) → (∀ y, y ∈ ys ↔ y ∈ ns ∧ Cyc (es.map (·.2)) f y) → Q (.ref l) H'
theorem sqT_ext {K : PySem.W.Frag} {H H' : Hp} {a : Addr} {xs : List V} (h : SqT K H a xs) (x : ExtN H H') : SqT K H' a xs := by
  rcases h with (h | ⟨o, h⟩) | h
  · exact .inl (.inl (ExtN.tu x h))
  · exact .inl (.inr ⟨o, x _ _ h fun _ z => nomatch z⟩)
  · exact .inr h
section
variable {P : Program} {w : World} {K : PySem.W.Frag} {mg : Str → Option Value} {base : Heap}
structure Y7c (P : Program) (w : World) (K : PySem.W.Frag) (mg : Str → Option Value) (base : Heap) (T : List (Addr × Str)) : Prop where
  cycle_at : Cal P w K mg base CX0 4 "cycle_at" (spCycAt T)
theorem ok_cycle_nodes {f : Addr} {fd : FuncData} {T : List (Addr × Str)} (F : Fun K "cycle_nodes" "cycle_nodes" s_cycle_nodes f fd) (B : Bt mg) (C : Y7c P w K mg base T) : FnG P w K mg base CX0 5 f fd ["graph", "state"] (spCycNodes T) := by
  refine fnG0 F sc_cycle_nodes (fun vs H Q E h => ?_) (fun cdv A outer s H vs Q E hr h => ?_)
  · obtain ⟨g, n, e, st, ns, ord, es, f, rfl, _⟩ := h
    rfl
  · obtain ⟨g, n, e, st, ns, ord, es, f, rfl, gs, tabs, q⟩ := h
    have nd := sc_cycle_nodes.nd
    have hu := hr.u1
    refine ⟨_, (pss_one (ps_ret (pe_lc (own := [("node", 2)]) rfl nd (ki_tup K rfl (pe_ix (kIx K rfl) (pv 0) pe_int (fun _ _ => rfl))) (blkOk_by (own := [("node", 2)]) (N := nN_cycle_nodes) (sc := defScope s_cycle_nodes) (by decide +kernel)) (fun _ _ _ _ _ => (pg_name (i := 2) nd rfl (by first | exact Or.inl rfl | exact Or.inr rfl))) (fun _ _ _ _ _ => (pts_one (pt_cmpR uIsNot (pe_c C.cycle_at hr (by decide) rfl (pa_cons (pv 0) (pa_cons (pv 1) (pa_cons (pv 2) pa_nil)))) pe_non (nomark _)))) (fun _ _ _ _ _ => (pv 2))))), ?_⟩
    wtm_at "rd"
    refine rd_ixT (SqT.of gs.gr.top) (v := .ref n) rfl ?_
    refine rd_forT (SqT.of gs.gr.nodes) ?_
    intro D fD
    refine lcT (K := K) (xs := ns.map V.str) (fun j H' => ExtN H H' ∧ Tabs T H' ∧ ∃ ys : List Str, H' D = some (.lst (ys.map V.str)) ∧ ys.length ≤ j ∧ ∀ y, y ∈ ys ↔ y ∈ ns.take j ∧ Cyc (es.map (·.2)) f y) ⟨ExtN.of (Same.new fD), tabs.ext (Same.new fD), [], upd_same, Nat.le_refl _, fun y => by rw [List.take_zero]; exact ⟨(fun z => nomatch z), fun z => nomatch z.1⟩⟩ ?_ ?_ ?_
    · rintro j H' hj ⟨x, _⟩
      exact SqT.of (ExtN.tu x gs.gr.nodes)
    · rintro j y H' hy ⟨x, tb, ys, hD, yl, ym⟩
      obtain ⟨hj, rfl⟩ := map_at hy
      have tk := take_snoc hj
      have hxn := List.getElem_mem hj
      rw [tk]
      generalize ns[j] = a at *
      have yl2 : ys.length ≤ 1000 := by have := gs.l2; omega
      wtm_at "rd"
      refine ⟨g, n, e, st, a, ns, ord, es, f, rfl, gs.ext x, hxn, tb, fun v H2 x2 tb2 hv _ => ?_⟩
      have hD2 := ExtN.li x2 hD
      have x02 := x.trans x2
      wtm_at "rd"
      try refine rd_isNot ?_
      wtm_at "rd"
      refine rd_nsplit (fun c1 => ?_) (fun c1 => ?_)
      · have cy : Cyc (es.map (·.2)) f a := Classical.byContradiction fun z => c1 (hv.mpr z)
        wtm_at "rd"
        refine rd_acc hD2 (by rw [List.length_map]; omega) ?_
        refine ⟨ext_put x02 fD, tabs_put tb2 hD2, ys ++ [a], by rw [upd_same, List.map_append]; rfl, by rw [List.length_append, List.length_singleton]; omega, fun y => ?_⟩
        rw [List.mem_append, List.mem_append, List.mem_singleton, ym]
        constructor
        · rintro (⟨h1, h2⟩ | rfl)
          · exact ⟨.inl h1, h2⟩
          · exact ⟨.inr rfl, cy⟩
        · rintro ⟨h1 | h1, h2⟩
          · exact .inl ⟨h1, h2⟩
          · exact .inr h1
      · have nc := hv.mp c1
        refine ⟨x02, tb2, ys, hD2, by omega, fun y => ?_⟩
        rw [List.mem_append, List.mem_singleton, ym]
        constructor
        · rintro ⟨h1, h2⟩
          exact ⟨.inl h1, h2⟩
        · rintro ⟨h1 | rfl, h2⟩
          · exact ⟨h1, h2⟩
          · exact (nc h2).elim
    · rintro H' ⟨x, tb, ys, hD, yl, ym⟩
      rw [List.length_map, List.take_length] at ym
      exact q D ys H' x tb fD hD ym
structure Y7d (P : Program) (w : World) (K : PySem.W.Frag) (mg : Str → Option Value) (base : Heap) (T : List (Addr × Str)) : Prop where
  cycle_nodes : Cal P w K mg base CX0 5 "cycle_nodes" (spCycNodes T)
end
end Law

/-! slopes as the laws count them; walks drawn -/
namespace Law
open PySem PySem.Spec PyProof.Rows L2 U


section
variable {P : Program} {w : World} {K : PySem.W.Frag} {mg : Str → Option Value} {base : Heap}
end
end Law

/-! components as a law finds them: the plain law -/
namespace U
open PySem PySem.Spec PyProof.Rows L2
end U

/-! reach, cycles, anchors as the laws find them -/
namespace Law
open PySem PySem.Spec PyProof.Rows L2 U


section
variable {P : Program} {w : World} {K : PySem.W.Frag} {mg : Str → Option Value} {base : Heap}
end
end Law

/-! the anchors, in their order -/
namespace Law
open PySem PySem.Spec PyProof.Rows L2 U LamX


open Classical in noncomputable def ancF (ns : List Str) (es : List (Str × Str)) (f : Str → Int) (pn : List Str) : List Str := ns.filter fun y => decide (y ∈ pn ∨ Cyc es f y)
section
variable {ns a b : List Str} {es : List (Str × Str)} {f : Str → Int} {pn : List Str}
theorem ancF_app : ancF (a ++ b) es f pn = ancF a es f pn ++ ancF b es f pn := List.filter_append ..
theorem ancF_yes {x : Str} (h : x ∈ pn ∨ Cyc es f x) : ancF [x] es f pn = [x] := by
  classical
  unfold ancF
  rw [List.filter_cons, if_pos (decide_eq_true h)]
  rfl
theorem ancF_no {x : Str} (h : ¬ (x ∈ pn ∨ Cyc es f x)) : ancF [x] es f pn = [] := by
  classical
  unfold ancF
  rw [List.filter_cons, if_neg (by rw [decide_eq_false h]; exact Bool.false_ne_true)]
  rfl
theorem ancF_mem {x : Str} : x ∈ ancF ns es f pn ↔ x ∈ ns ∧ (x ∈ pn ∨ Cyc es f x) := by
  classical
  unfold ancF
  rw [List.mem_filter, decide_eq_true_iff]
theorem ancF_len : (ancF ns es f pn).length ≤ ns.length := List.length_filter_le _ _
end
def spFindAnchO (K : PySem.W.Frag) (T : List (Addr × Str)) : Sp := fun vs H Q _ => ∃ (g n e st ps : Addr) (ns ord pn : List Str) (es : List (Addr × Str × Str)) (f : Str → Int), vs = [.ref g, .ref st, .ref ps] ∧ GSt H g n e st ns ord es f ∧ SqT K H ps (pn.map V.str) ∧ Tabs T H ∧
  ∀ (l : Addr) (H' : Hp), ExtN H H' → Tabs T H' → (∀ b o, H b = some o → (∀ ps, o ≠ .tbl ps) → b ≠ l) → H' l = some (.lst ((ancF ns (es.map (·.2)) f pn).map V.str)) → Q (.ref l) H'
section
variable {P : Program} {w : World} {K : PySem.W.Frag} {mg : Str → Option Value} {base : Heap}
theorem ok_find_anchorsO {f : Addr} {fd : FuncData} {T : List (Addr × Str)} (F : Fun K "find_anchors" "find_anchors" s_find_anchors f fd) (B : Bt mg) (C : Y7d P w K mg base T) : FnG P w K mg base CX0 6 f fd ["graph", "state", "pinned"] (spFindAnchO K T) := by
  refine fnG0 F sc_find_anchors (fun vs H Q E h => ?_) (fun cdv A outer s H vs Q E hr h => ?_)
  · obtain ⟨g, n, e, st, ps, ns, ord, pn, es, f, rfl, _⟩ := h
    rfl
  · obtain ⟨g, n, e, st, ps, ns, ord, pn, es, f, rfl, gs, hps, tabs, q⟩ := h
    have nd := sc_find_anchors.nd
    have hu := hr.u1
    refine ⟨_, (pss_cons (ps_set (i := 3) nd rfl (by first | exact Or.inl rfl | exact Or.inr rfl) (pe_c C.cycle_nodes hr (by decide) rfl (pa_cons (pv 0) (pa_cons (pv 1) pa_nil))))
  (pss_one (ps_ret (pe_lc (own := [("node", 4)]) rfl nd (ki_tup K rfl (pe_ix (kIx K rfl) (pv 0) pe_int (fun _ _ => rfl))) (blkOk_by (own := [("node", 4)]) (N := nN_find_anchors) (sc := defScope s_find_anchors) (by decide +kernel)) (fun _ _ _ _ _ => (pg_name (i := 4) nd rfl (by first | exact Or.inl rfl | exact Or.inr rfl))) (fun _ _ _ _ _ => (pts_one (PW.pt (pw_or (pt_cmpR (kIn K rfl) (pv 4) (pv 2) rfl) (pw_or1 (pt_cmpR (kIn K rfl) (pv 4) (pv 3) rfl)))))) (fun _ _ _ _ _ => (pv 4)))))), ?_⟩
    wtm_at "rd"
    refine ⟨g, n, e, st, ns, ord, es, f, rfl, gs, tabs, fun cl cy H1 x1 tb1 fcl hcl cm => ?_⟩
    have gs1 := gs.ext x1
    have hps1 := sqT_ext hps x1
    wtm_at "rd"
    refine rd_ixT (SqT.of gs1.gr.top) (v := .ref n) rfl ?_
    refine rd_forT (SqT.of gs1.gr.nodes) ?_
    intro D fD
    have fD0 : ∀ b o, H b = some o → (∀ ps, o ≠ .tbl ps) → b ≠ D := fun b o h z => ne_of_none (x1 _ _ h z) fD
    refine lcT (K := K) (xs := ns.map V.str) (fun j H' => Same H1 H' ∧ H' D = some (.lst ((ancF (ns.take j) (es.map (·.2)) f pn).map V.str))) ⟨Same.new fD, upd_same⟩ ?_ ?_ ?_
    · rintro j H' hj ⟨sb, _⟩
      exact SqT.of (sb _ _ gs1.gr.nodes)
    · rintro j y H' hy ⟨sb, hD⟩
      obtain ⟨hj, rfl⟩ := map_at hy
      have tk := take_snoc hj
      have al : (ancF (ns.take j) (es.map (·.2)) f pn).length ≤ 1000 := Nat.le_trans ancF_len (by rw [List.length_take]; have := gs.l2; omega)
      rw [tk, ancF_app, List.map_append]
      have hxn := List.getElem_mem hj
      generalize ns[j] = a at *
      wtm_at "rd"
      refine rd_inST (Same.seqT sb hps1) ?_
      wtm_at "rd"
      refine rd_split (fun c1 => ?_) (fun c1 => ?_)
      · wtm_at "rd"
        refine rd_acc hD (by rw [List.length_map]; omega) ?_
        rw [ancF_yes (.inl c1)]
        exact ⟨same_put sb fD, upd_same⟩
      · wtm_at "rd"
        refine rd_inSL (SqL.of (sb _ _ hcl)) ?_
        wtm_at "rd"
        refine rd_split (fun c2 => ?_) (fun c2 => ?_)
        · wtm_at "rd"
          refine rd_acc hD (by rw [List.length_map]; omega) ?_
          rw [ancF_yes (.inr ((cm _).mp c2).2)]
          exact ⟨same_put sb fD, upd_same⟩
        · rw [ancF_no fun z => z.elim c1 fun z => c2 ((cm _).mpr ⟨hxn, z⟩)]
          exact ⟨sb, hD.trans (by rw [List.map_nil, List.append_nil])⟩
    · rintro H' ⟨sb, hD⟩
      rw [List.length_map, List.take_length] at hD
      exact q D H' (x1.trans (ExtN.of fun b o h => sb b o h)) (tb1.ext fun b o h => sb b o h) fD0 hD
end
end Law

/-! a def with defaults of its positional parameters -/
namespace U
open PySem PySem.Spec PyProof.Rows L2
section
variable {P : Program} {w : World} {K : PySem.W.Frag} {mg : Str → Option Value} {base : Heap}
end
end U

/-! progress moves: the plain law -/
namespace U
open PySem PySem.Spec PyProof.Rows L2
def sz (ns : List Str) (h : Str → Int) : Int := (ns.map fun n => ((h n).natAbs : Int)).sum
def goP (f h : Str → Int) (m : Str × Int) : Bool := decide (0 < h m.1) && decide ((f m.1 - m.2) % 3 = 1) || decide (h m.1 < 0) && !decide ((f m.1 - m.2) % 3 = 1)
def progF (ns : List Str) (es : List (Str × Str)) (f h : Str → Int) (pn : List Str) : List (Str × Int) := (movesF ns es f pn).filter (goP f h)
def dirU (x : Int) : Int := if 0 < x then 1 else -1
/-- the value of a progress move -/
def pvF (f : Str → Int) (ys : List Str) (n : Str) (x : Int) : Option Int := if x ≠ 0 ∧ ∀ o ∈ ys, slp f n o = dirU x then some ((f n - dirU x) % 3) else none
def pmF (es : List (Str × Str)) (f h : Str → Int) (pn : List Str) (n : Str) : List (Str × Int) := match pvF f (nbS es n) n (h n) with
  | none => []
  | some v => if n ∈ pn then [] else [(n, v)]
theorem three {q : Int → Bool} {v0 : Int} {c : Bool} (h0 : 0 ≤ v0) (h2 : v0 ≤ 2) (h : ∀ v, 0 ≤ v → v ≤ 2 → q v = (decide (v = v0) && c)) : ([0, 1, 2] : List Int).filter q = if c = true then [v0] else [] := by
  have a := h 0 (by decide) (by decide)
  have b := h 1 (by decide) (by decide)
  have d := h 2 (by decide) (by decide)
  have e : v0 = 0 ∨ v0 = 1 ∨ v0 = 2 := by omega
  rcases e with rfl | rfl | rfl <;> cases c <;> simp_all [List.filter_cons]
section
variable {ns : List Str} {es : List (Str × Str)} {f h : Str → Int} {pn : List Str}
theorem prog_at (ok : EsOk ns es f) {n : Str} (hn : n ∈ ns) : (movesOf es f n).filter (goP f h) = match pvF f (nbS es n) n (h n) with
  | none => []
  | some v => [(n, v)] := by
  classical
  have tri := ok.tri n hn
  have nbr : ∀ o ∈ nbrF es n, 0 ≤ f o ∧ f o < 3 ∧ f n ≠ f o := fun o ho => by
    have a := adj_in ok (show Adj es n o from mem_nbrF.mp ho)
    exact ⟨(ok.tri o a.2.1).1, (ok.tri o a.2.1).2, a.2.2.1⟩
  have nbm : ∀ o, o ∈ nbS es n ↔ o ∈ nbrF es n := fun o => nbS_mem.trans mem_nbrF.symm
  have slo : ∀ o ∈ nbrF es n, ∀ d : Int, d = 1 ∨ d = -1 → (slp f n o = d ↔ f o ≠ (f n - d) % 3) := fun o ho d hd => by
    obtain ⟨a, b, c⟩ := nbr o ho
    unfold slp
    rcases hd with rfl | rfl <;> split <;> omega
  unfold movesOf
  rw [List.filter_map, List.filter_filter]
  have dd : dirU (h n) = 1 ∨ dirU (h n) = -1 := by
    unfold dirU
    split <;> simp
  rw [three (v0 := (f n - dirU (h n)) % 3) (c := decide (h n ≠ 0 ∧ ∀ o ∈ nbS es n, slp f n o = dirU (h n))) (by omega) (by omega) ?_]
  · unfold pvF
    by_cases c : h n ≠ 0 ∧ ∀ o ∈ nbS es n, slp f n o = dirU (h n)
    · rw [decide_eq_true c, if_pos rfl, if_pos c]
      rfl
    · rw [decide_eq_false c, if_neg Bool.false_ne_true, if_neg c]
      rfl
  · intro v v0 v2
    rw [Bool.eq_iff_iff, Bool.and_eq_true, Bool.and_eq_true, decide_eq_true_iff, decide_eq_true_iff]
    show (goP f h (n, v) = true ∧ freeB es f n v = true) ↔ _
    have fr : freeB es f n v = true ↔ (∀ o ∈ nbrF es n, f o ≠ v) ∧ v ≠ f n := by
      unfold freeB
      rw [Bool.not_eq_true', decide_eq_false_iff_not, List.mem_append, List.mem_singleton, List.mem_map, not_or]
      constructor
      · rintro ⟨a, b⟩
        exact ⟨fun o ho z => a ⟨o, ho, z⟩, b⟩
      · rintro ⟨a, b⟩
        exact ⟨fun ⟨o, ho, z⟩ => a o ho z, b⟩
    have go : goP f h (n, v) = true ↔ (0 < h n ∧ (f n - v) % 3 = 1) ∨ (h n < 0 ∧ ¬ (f n - v) % 3 = 1) := by
      unfold goP
      simp only [Bool.or_eq_true, Bool.and_eq_true, decide_eq_true_iff, Bool.not_eq_true', decide_eq_false_iff_not]
    rw [fr, go]
    constructor
    · rintro ⟨a, b, c⟩
      have ev : v = (f n - dirU (h n)) % 3 := by
        unfold dirU
        rcases a with a | a
        · rw [if_pos a.1]
          omega
        · rw [if_neg (by omega)]
          omega
      refine ⟨ev, by omega, fun o ho => (slo o ((nbm o).mp ho) _ dd).mpr ?_⟩
      rw [← ev]
      exact b o ((nbm o).mp ho)
    · rintro ⟨ev, c, k⟩
      refine ⟨?_, fun o ho => ?_, ?_⟩
      · unfold dirU at ev
        by_cases p : 0 < h n
        · rw [if_pos p] at ev
          left
          omega
        · rw [if_neg p] at ev
          right
          omega
      · rw [ev]
        exact (slo o ho _ dd).mp (k o ((nbm o).mpr ho))
      · rcases dd with z | z <;> rw [z] at ev <;> omega
theorem prog_eq (ok : EsOk ns es f) : ∀ {xs : List Str}, (∀ x ∈ xs, x ∈ ns) → progF xs es f h pn = xs.flatMap (pmF es f h pn)
  | [], _ => rfl
  | x :: r, hx => by
    have ih := prog_eq ok (xs := r) fun y hy => hx y (List.mem_cons_of_mem _ hy)
    unfold progF movesF at ih ⊢
    rw [List.flatMap_cons, List.filter_append, List.flatMap_cons, ih]
    congr 1
    unfold pmF
    by_cases c : x ∈ pn
    · rw [if_pos c]
      cases pvF f (nbS es x) x (h x) with
      | none => rfl
      | some v =>
        show _ = if x ∈ pn then [] else [(x, v)]
        rw [if_pos c]
        rfl
    · rw [if_neg c, prog_at ok (hx x List.mem_cons_self)]
      cases pvF f (nbS es x) x (h x) with
      | none => rfl
      | some v =>
        show _ = if x ∈ pn then [] else [(x, v)]
        rw [if_neg c]
theorem sz_zero : ∀ {ns : List Str}, sz ns h = 0 ↔ ∀ n ∈ ns, h n = 0
  | [] => ⟨(fun _ _ m => nomatch m), fun _ => rfl⟩
  | n :: r => by
    have ih := sz_zero (ns := r)
    have e : sz (n :: r) h = ((h n).natAbs : Int) + sz r h := List.sum_cons
    have p : ∀ xs : List Str, 0 ≤ sz xs h := fun xs => by
      induction xs with
      | nil => exact Int.le_refl _
      | cons x t ih =>
        have e : sz (x :: t) h = ((h x).natAbs : Int) + sz t h := List.sum_cons
        omega
    have := p r
    rw [e]
    constructor
    · intro z x hx
      rcases List.mem_cons.mp hx with rfl | hx
      · omega
      · exact ih.mp (by omega) x hx
    · intro z
      have a := z n List.mem_cons_self
      have b := ih.mpr fun x hx => z x (List.mem_cons_of_mem _ hx)
      omega
theorem prog_legal {m : Str × Int} (hm : m ∈ progF ns es f h pn) : Legal ns es f pn m ∧ goP f h m = true := ⟨legal_of (List.mem_filter.mp hm).1, (List.mem_filter.mp hm).2⟩
/-- the number after a progress move -/
theorem prog_dlt (ok : EsOk ns es f) {m : Str × Int} (hm : m ∈ progF ns es f h pn) : h m.1 - dlt (f m.1 - m.2) = h m.1 + (if 0 < h m.1 then -1 else 1) := by
  obtain ⟨l, g⟩ := prog_legal hm
  have go : (0 < h m.1 ∧ (f m.1 - m.2) % 3 = 1) ∨ (h m.1 < 0 ∧ ¬ (f m.1 - m.2) % 3 = 1) := by
    unfold goP at g
    simpa only [Bool.or_eq_true, Bool.and_eq_true, decide_eq_true_iff, Bool.not_eq_true', decide_eq_false_iff_not] using g
  have v := l.val
  have t := ok.tri _ l.mem
  have ne := l.own
  unfold dlt
  rcases go with ⟨a, b⟩ | ⟨a, b⟩
  · rw [if_pos a, if_neg (by omega), if_pos b]
    omega
  · have c : ¬ 0 < h m.1 := by omega
    rw [if_neg c, if_neg (by omega), if_neg b]
    omega
end
end U

/-! progress moves -/
namespace Law
open PySem PySem.Spec PyProof.Rows L2 U


section
variable {P : Program} {w : World} {K : PySem.W.Frag} {mg : Str → Option Value} {base : Heap}
end
end Law

/-! repr of [graph, state, pins], of moves -/
namespace Law
open PySem PySem.Spec PyProof.Rows L2 U
section
variable {K : PySem.W.Frag} {H : Hp} {Q : VK} {p q : Addr} {σ : L2.St}
end
end Law

/-! draws and tables of code objects together -/
namespace Law
open PySem PySem.Spec PyProof.Rows L2 U LamX
/-- nothing but the draws' source and the tables changes -/
structure GoN (T : List (Addr × Str)) (p : Addr) (H H' : Hp) : Prop where
  but : ∀ b o, b ≠ p → H b = some o → (∀ ps, o ≠ .tbl ps) → H' b = some o
  pool : PoolAt H' p
  tabs : Tabs T H'
theorem tabs_but {T : List (Addr × Str)} {H H' : Hp} {p : Addr} {ys : List V} (t : Tabs T H) (hp : H p = some (.lst ys)) (b : But p H H') : Tabs T H' := fun q hq => by
  obtain ⟨ps, h1, h2, h3⟩ := t q hq
  refine ⟨ps, b _ _ (ne_of h1 hp (by intro z; cases z)) h1, h2, fun pos cv hc => ?_⟩
  obtain ⟨c, e1, e2⟩ := h3 pos cv hc
  exact ⟨c, e1, b _ _ (ne_of e2 hp (by intro z; unfold CodeO at z; cases z)) e2⟩
section
variable {T : List (Addr × Str)} {p : Addr} {H H1 H' : Hp}
theorem GoN.refl (hp : PoolAt H p) (t : Tabs T H) : GoN T p H H := ⟨fun _ _ _ h _ => h, hp, t⟩
theorem GoN.trans (a : GoN T p H H1) (b : GoN T p H1 H') : GoN T p H H' := ⟨fun c o n h z => b.but c o n (a.but c o n h z) z, b.pool, b.tabs⟩
theorem GoN.of_go (t : Tabs T H) (hp : PoolAt H p) (g : Go p H H') : GoN T p H H' := ⟨fun b o n h _ => g.but b o n h, g.pool, by
  obtain ⟨ys, hy⟩ := hp.isL
  exact tabs_but t hy g.but⟩
theorem GoN.of_ext (hp : PoolAt H p) (x : ExtN H H') (t : Tabs T H') : GoN T p H H' := ⟨fun b o _ h z => x b o h z, hp.keep fun a xs h => ExtN.li x h, t⟩
theorem GoN.of_same (t : Tabs T H) (hp : PoolAt H p) (s : Same H H') : GoN T p H H' := .of_go t hp (Go.of_same hp s)
theorem GoN.go (a : GoN T p H H1) (g : Go p H1 H') : GoN T p H H' := a.trans (.of_go a.tabs a.pool g)
theorem GoN.same (a : GoN T p H H1) (s : Same H1 H') : GoN T p H H' := a.trans (.of_same a.tabs a.pool s)
theorem GoN.ext (a : GoN T p H H1) (x : ExtN H1 H') (t : Tabs T H') : GoN T p H H' := a.trans (.of_ext a.pool x t)
theorem GoN.tu (g : GoN T p H H') (hp : PoolAt H p) {a : Addr} {xs : List V} (h : H a = some (.tup xs)) : H' a = some (.tup xs) := g.but _ _ (hp.offT h) h fun _ z => nomatch z
theorem GoN.dk (g : GoN T p H H') (hp : PoolAt H p) {a : Addr} {xs : List (Key × V)} (h : H a = some (.dK xs)) : H' a = some (.dK xs) := g.but _ _ (hp.offD h) h fun _ z => nomatch z
theorem GoN.li (g : GoN T p H H') {a : Addr} {xs : List V} (n : a ≠ p) (h : H a = some (.lst xs)) : H' a = some (.lst xs) := g.but _ _ n h fun _ z => nomatch z
theorem TupsAt.ext {ms : List (Addr × Str × Int)} (h : TupsAt H ms) (x : ExtN H H') : TupsAt H' ms := fun m hm => ExtN.tu x (h m hm)
end
end Law

/-! feasible lifts: of moves, and shifted -/
namespace U
open PySem PySem.Spec PyProof.Rows L2
section
variable {ns : List Str} {es : List (Str × Str)} {f h : Str → Int} {pn : List Str}
end
end U

/-! lifts performed, step by step -/
namespace U
open PySem PySem.Spec PyProof.Rows L2
/-- one less to go at n -/
def redU (h : Str → Int) (n : Str) : Str → Int := updf h n (h n + (if 0 < h n then -1 else 1))
section
variable {ns : List Str} {es : List (Str × Str)} {f h : Str → Int} {pn : List Str}
theorem sz_cons {n : Str} {r : List Str} : sz (n :: r) h = ((h n).natAbs : Int) + sz r h := List.sum_cons
theorem sz_off {n : Str} {v : Int} : ∀ {xs : List Str}, n ∉ xs → sz xs (updf h n v) = sz xs h
  | [], _ => rfl
  | x :: t, nm => by
    rw [sz_cons, sz_cons, sz_off fun z => nm (List.mem_cons_of_mem _ z)]
    have : x ≠ n := fun z => nm (z ▸ List.mem_cons_self)
    unfold updf
    rw [if_neg this]
theorem sz_upd {n : Str} {v : Int} : ∀ {xs : List Str}, xs.Nodup → n ∈ xs → sz xs (updf h n v) = sz xs h - ((h n).natAbs : Int) + (v.natAbs : Int)
  | x :: t, nd, hm => by
    rw [sz_cons, sz_cons]
    rw [List.nodup_cons] at nd
    by_cases e : x = n
    · subst e
      rw [sz_off nd.1]
      unfold updf
      rw [if_pos rfl]
      omega
    · rw [sz_upd nd.2 ((List.mem_cons.mp hm).resolve_left fun z => e z.symm)]
      have : updf h n v x = h x := by
        unfold updf
        rw [if_neg e]
      rw [this]
      omega
theorem sz_red {n : Str} (nd : ns.Nodup) (hn : n ∈ ns) (h0 : h n ≠ 0) : sz ns (redU h n) = sz ns h - 1 := by
  unfold redU
  rw [sz_upd nd hn]
  split <;> omega
theorem dlt_mod {d : Int} : (d - dlt d) % 3 = 0 ∧ -1 ≤ dlt d ∧ dlt d ≤ 1 := by
  unfold dlt
  split
  · omega
  · split <;> omega
/-- the moves of a lift, each the first progress move -/
inductive PerfR (ns : List Str) (es : List (Str × Str)) (pn : List Str) (f h : Str → Int) : List (Str × Int) → (Str → Int) → (Str → Int) → Prop
  | nil : PerfR ns es pn f h [] f h
  | snoc {ms : List (Str × Int)} {f' h' : Str → Int} {m : Str × Int} {r : List (Str × Int)} : PerfR ns es pn f h ms f' h' → progF ns es f' h' pn = m :: r → PerfR ns es pn f h (ms ++ [m]) (updf f' m.1 m.2) (redU h' m.1)
/-- .. or any progress move -/
inductive AnyR (ns : List Str) (es : List (Str × Str)) (pn : List Str) (f h : Str → Int) : List (Str × Int) → (Str → Int) → (Str → Int) → Prop
  | nil : AnyR ns es pn f h [] f h
  | snoc {ms : List (Str × Int)} {f' h' : Str → Int} {m : Str × Int} : AnyR ns es pn f h ms f' h' → m ∈ progF ns es f' h' pn → AnyR ns es pn f h (ms ++ [m]) (updf f' m.1 m.2) (redU h' m.1)
theorem PerfR.any {ms : List (Str × Int)} {f' h' : Str → Int} (r : PerfR ns es pn f h ms f' h') : AnyR ns es pn f h ms f' h' := by
  induction r with
  | nil => exact .nil
  | snoc _ e ih => exact .snoc ih (by rw [e]; exact List.mem_cons_self)
theorem prog_ne {m : Str × Int} (hm : m ∈ progF ns es f h pn) : h m.1 ≠ 0 := by
  have g := (prog_legal hm).2
  have go : (0 < h m.1 ∧ (f m.1 - m.2) % 3 = 1) ∨ (h m.1 < 0 ∧ ¬ (f m.1 - m.2) % 3 = 1) := by
    unfold goP at g
    simpa only [Bool.or_eq_true, Bool.and_eq_true, decide_eq_true_iff, Bool.not_eq_true', decide_eq_false_iff_not] using g
  omega
/-- a progress move: what it keeps -/
theorem prog_step (ok : EsOk ns es f) (nd : ns.Nodup) (fe : Feas ns es f h pn) {m : Str × Int} (hm : m ∈ progF ns es f h pn) :
    EsOk ns es (updf f m.1 m.2) ∧ Feas ns es (updf f m.1 m.2) (redU h m.1) pn ∧ sz ns (redU h m.1) = sz ns h - 1 ∧ ∀ n ∈ ns, (updf f m.1 m.2 n - redU h m.1 n) % 3 = (f n - h n) % 3 := by
  have lg := (prog_legal hm).1
  have e := prog_dlt ok hm
  have fe2 := feas_move ok fe lg
  rw [e] at fe2
  refine ⟨(move_keeps (f0 := f) (h := fun _ => 0) ok lg fun e _ => by omega).1, fe2, sz_red nd lg.mem (prog_ne hm), fun n hn => ?_⟩
  unfold redU
  rw [← e]
  unfold updf
  by_cases z : n = m.1
  · rw [if_pos z, if_pos z, z]
    have := dlt_mod (d := f m.1 - m.2)
    omega
  · rw [if_neg z, if_neg z]
theorem AnyR.keeps (ok : EsOk ns es f) (nd : ns.Nodup) (fe : Feas ns es f h pn) {ms : List (Str × Int)} {f' h' : Str → Int} (r : AnyR ns es pn f h ms f' h') :
    EsOk ns es f' ∧ Feas ns es f' h' pn ∧ sz ns h' + ms.length = sz ns h ∧ (∀ n ∈ ns, (f' n - h' n) % 3 = (f n - h n) % 3) ∧ Plays ns es pn f ms f' := by
  induction r with
  | nil => exact ⟨ok, fe, by simp, fun _ _ => rfl, .nil⟩
  | @snoc ms f' h' m r hm ih =>
    obtain ⟨i1, i2, i3, i4, i5⟩ := ih
    obtain ⟨s1, s2, s3, s4⟩ := prog_step i1 nd i2 hm
    refine ⟨s1, s2, ?_, fun n hn => (s4 n hn).trans (i4 n hn), .snoc i5 (prog_legal hm).1⟩
    rw [List.length_append, List.length_singleton]
    omega
/-- nothing is left: the state of the lift -/
theorem AnyR.done (ok : EsOk ns es f) (nd : ns.Nodup) (fe : Feas ns es f h pn) {ms : List (Str × Int)} {f' h' : Str → Int} (r : AnyR ns es pn f h ms f' h') (z : sz ns h' = 0) : ∀ n ∈ ns, f' n = (f n - h n) % 3 := fun n hn => by
  obtain ⟨a, _, _, b, _⟩ := r.keeps ok nd fe
  have t := a.tri n hn
  have := b n hn
  rw [sz_zero.mp z n hn] at this
  omega
/-- a lift of moves: no more than these, and the state it leads to -/
theorem plays_lift (ok : EsOk ns es f) (nd : ns.Nodup) {ms : List (Str × Int)} {f' : Str → Int} (p : Plays ns es pn f ms f') :
    EsOk ns es f' ∧ (countF f (fun _ => 0) ms).1 = f' ∧ sz ns (countF f (fun _ => 0) ms).2 ≤ ms.length ∧ ∀ n ∈ ns, f' n = (f n - (countF f (fun _ => 0) ms).2 n) % 3 := by
  induction p with
  | nil =>
    refine ⟨ok, rfl, ?_, fun n hn => ?_⟩
    · show sz ns (fun _ => 0) ≤ 0
      exact Int.le_of_eq (sz_zero.mpr fun _ _ => rfl)
    · show f n = (f n - 0) % 3
      have := ok.tri n hn
      omega
  | @snoc ms f' m p l ih =>
    obtain ⟨i1, i2, i3, i4⟩ := ih
    have ok2 := (move_keeps (f0 := f') (h := fun _ => 0) i1 l fun e _ => by omega).1
    obtain ⟨n, v⟩ := m
    rw [countF_snoc, i2]
    generalize (countF f (fun _ => 0) ms).2 = h0 at *
    have dm := dlt_mod (d := f' n - v)
    refine ⟨ok2, rfl, ?_, fun x hx => ?_⟩
    · rw [sz_upd nd l.mem, List.length_append, List.length_singleton]
      show sz ns h0 - ((h0 n).natAbs : Int) + ((h0 n + dlt (f' n - v)).natAbs : Int) ≤ _
      omega
    · have j := i4 x hx
      have t := ok2.tri x hx
      show updf f' n v x = (f x - updf h0 n (h0 n + dlt (f' n - v)) x) % 3
      have t : 0 ≤ updf f' n v x ∧ updf f' n v x < 3 := t
      unfold updf at t ⊢
      by_cases z : x = n
      · rw [if_pos z] at t ⊢
        rw [if_pos z]
        rw [z] at j ⊢
        omega
      · rw [if_neg z] at t ⊢
        rw [if_neg z]
        exact j
def plU (f : Str → Int) (ms : List (Str × Int)) : Str → Int := ms.foldl (fun f m => updf f m.1 m.2) f
def rdU (h : Str → Int) (ms : List (Str × Int)) : Str → Int := ms.foldl (fun h m => redU h m.1) h
theorem plU_snoc {ms : List (Str × Int)} {m : Str × Int} : plU f (ms ++ [m]) = updf (plU f ms) m.1 m.2 := by
  unfold plU
  rw [List.foldl_append]
  rfl
theorem rdU_snoc {ms : List (Str × Int)} {m : Str × Int} : rdU h (ms ++ [m]) = redU (rdU h ms) m.1 := by
  unfold rdU
  rw [List.foldl_append]
  rfl
theorem AnyR.ends {ms : List (Str × Int)} {f' h' : Str → Int} (r : AnyR ns es pn f h ms f' h') : f' = plU f ms ∧ h' = rdU h ms := by
  induction r with
  | nil => exact ⟨rfl, rfl⟩
  | snoc _ _ ih => exact ⟨by rw [plU_snoc, ih.1], by rw [rdU_snoc, ih.2]⟩
theorem AnyR.at {ms : List (Str × Int)} {f' h' : Str → Int} (r : AnyR ns es pn f h ms f' h') : ∀ i (hi : i < ms.length), AnyR ns es pn f h (ms.take i) (plU f (ms.take i)) (rdU h (ms.take i)) ∧ ms[i] ∈ progF ns es (plU f (ms.take i)) (rdU h (ms.take i)) pn := by
  induction r with
  | nil => exact fun i hi => absurd hi (Nat.not_lt_zero i)
  | @snoc ms f' h' m r hm ih =>
    intro i hi
    rw [List.length_append, List.length_singleton] at hi
    by_cases c : i < ms.length
    · rw [List.take_append_of_le_length (by omega), List.getElem_append_left c]
      exact ih i c
    · obtain rfl : i = ms.length := by omega
      obtain ⟨e1, e2⟩ := r.ends
      rw [List.take_append_of_le_length (Nat.le_refl _), List.take_length, List.getElem_append_right (Nat.le_refl _), ← e1, ← e2]
      simp only [Nat.sub_self, List.getElem_cons_zero]
      exact ⟨r, hm⟩
end
end U

/-! lifts performed: nothing is raised -/
namespace Law
open PySem PySem.Spec PyProof.Rows L2 U LamX


section
variable {P : Program} {w : World} {K : PySem.W.Frag} {mg : Str → Option Value} {base : Heap}
theorem AdjAt.off {H : Hp} {ad a : Addr} {ns : List Str} {es : List (Str × Str)} {Ad : Str → Addr} (h : AdjAt H ad ns es Ad) (n : H a = none) : ad ≠ a ∧ ∀ x ∈ ns, Ad x ≠ a := ⟨ne_of_none h.di n, fun x hx => by
  obtain ⟨ys, h1, _⟩ := h.li x hx
  exact ne_of_none h1 n⟩
theorem AdjAt.put {H : Hp} {ad a : Addr} {o : HO} {ns : List Str} {es : List (Str × Str)} {Ad : Str → Addr} (h : AdjAt H ad ns es Ad) (n : ad ≠ a ∧ ∀ x ∈ ns, Ad x ≠ a) : AdjAt (upd H a o) ad ns es Ad := ⟨at_upd n.1 h.di, fun x hx => by
  obtain ⟨ys, h1, h2⟩ := h.li x hx
  exact ⟨ys, at_upd (n.2 x hx) h1, h2⟩⟩
end
end Law

namespace Law
open PySem PySem.Spec PyProof.Rows L2 U


section
variable {P : Program} {w : World} {K : PySem.W.Frag} {mg : Str → Option Value} {base : Heap}
end
end Law

/-! as many basis cycles as edges, nodes and components tell: the plain law -/
namespace U
open PySem PySem.Spec PyProof.Rows L2
section
variable {adj : Str → List Str} {ok : Str → Str → Bool} {root : Str}
/-- a path found goes on from a path found -/
theorem stF_par : ∀ i x, x ∈ stF adj ok root i → x = (root, [root]) ∨ ∃ c ∈ stF adj ok root i, x.1 ∈ adj c.1 ∧ x.2 = c.2 ++ [x.1]
  | 0, x, h => by
    rw [stF, List.mem_singleton] at h
    exact .inl h
  | i + 1, x, h => by
    obtain ⟨r, hr⟩ := stF_pre (adj := adj) (ok := ok) (root := root) i
    have up : ∀ {y}, y ∈ stF adj ok root i → y ∈ stF adj ok root (i + 1) := fun h => by rw [hr]; exact List.mem_append_left _ h
    cases e : (stF adj ok root i)[i]? with
    | none =>
      rw [stF_end e] at h
      rcases stF_par i x h with h | ⟨c, hc, h⟩
      · exact .inl h
      · exact .inr ⟨c, up hc, h⟩
    | some d =>
      rw [stF_at e] at h
      rcases addsF_mem h with h | ⟨h1, _, h3⟩
      · rcases stF_par i x h with h | ⟨c, hc, h⟩
        · exact .inl h
        · exact .inr ⟨c, up hc, h⟩
      · exact .inr ⟨d, up (List.mem_of_getElem? e), h1, h3⟩
end
section
variable {ns : List Str} {es : List (Str × Str)}
theorem roots_nodup (ok : GrOk ns es) (l : ns.length ≤ 1000) : ∀ {cs : List (List Str)}, (∀ c ∈ cs, ∃ r ∈ ns, c = comp es r) → cs.flatten.Nodup → (keysF (rootsF es cs)).Nodup
  | [], _, _ => List.nodup_nil
  | c :: cs, h, nd => by
    obtain ⟨r, hr, rfl⟩ := h c List.mem_cons_self
    have h' : ∀ d ∈ cs, ∃ r ∈ ns, d = comp es r := fun d hd => h d (List.mem_cons_of_mem _ hd)
    rw [List.flatten_cons, List.nodup_append] at nd
    have e : keysF (rootsF es (comp es r :: cs)) = keysF (ptF es ((comp es r).headD Str.empty)) ++ keysF (rootsF es cs) := List.map_append
    rw [e, List.nodup_append]
    refine ⟨pt_nodup, roots_nodup ok l h' nd.2.1, fun a ha b hb z => ?_⟩
    have h1 := ((root_keys ok l hr).2 a).mp ha
    have h2 := (roots_keys ok l h' b).mp hb
    exact nd.2.2 a h1 b h2 z
abbrev kpF (ns : List Str) (es : List (Str × Str)) : List (Str × List Str) := rootsF es (compsF ns es)
theorem kp_nodup (ok : GrOk ns es) (l : ns.length ≤ 1000) : (keysF (kpF ns es)).Nodup := roots_nodup ok l (compsF_ok ok l).of (compsF_ok ok l).nd
theorem pth_uniq (ok : GrOk ns es) (l : ns.length ≤ 1000) {x : Str} {p : List Str} (h : (x, p) ∈ kpF ns es) : pth (kpF ns es) x = p := by
  unfold pth
  rw [lookup_uniq (kp_nodup ok l) h]
  rfl
/-- x's path is that of a root, or goes on from its parent's -/
theorem pth_cases (ok : GrOk ns es) (l : ns.length ≤ 1000) {x : Str} (hx : x ∈ ns) : (pth (kpF ns es) x = [x] ∧ ∃ c ∈ compsF ns es, x = c.headD Str.empty) ∨
    ∃ y ∈ ns, Adj es y x ∧ pth (kpF ns es) x = pth (kpF ns es) y ++ [x] ∧ (pth (kpF ns es) y).getLast? = some y := by
  have cm := compsF_ok ok l
  have hk : x ∈ keysF (kpF ns es) := (roots_keys ok l cm.of x).mpr (cm.all x hx)
  obtain ⟨p, h1, h2⟩ := lookup_some hk
  rw [pth_uniq ok l h2]
  obtain ⟨c, hc, h3⟩ := List.mem_flatMap.mp h2
  obtain ⟨r, hr, rfl⟩ := cm.of c hc
  rcases stF_par 1000 _ h3 with h | ⟨d, hd, m, h⟩
  · have e1 := congrArg Prod.fst h
    have e2 := congrArg Prod.snd h
    simp only at e1 e2
    exact .inl ⟨by rw [e2, ← e1], _, hc, e1⟩
  · have hdk : (d.1, d.2) ∈ kpF ns es := List.mem_flatMap.mpr ⟨_, hc, hd⟩
    have hy : d.1 ∈ ns := by
      have := (root_keys ok l hr).1
      exact pt_in ok this (List.mem_map_of_mem hd)
    refine .inr ⟨d.1, hy, nbS_mem.mp m, ?_, ?_⟩
    · rw [pth_uniq ok l hdk]
      exact h
    · rw [pth_uniq ok l hdk]
      exact (stF_path 1000 _ hd).wk.2.2
theorem pen_snoc {p : List Str} {y x : Str} (h : p.getLast? = some y) : pen (p ++ [x]) = [y] := by
  unfold pen
  obtain ⟨q, rfl⟩ : ∃ q, p = q ++ [y] := List.getLast?_eq_some_iff.mp h
  have e1 : (q ++ [y] ++ [x]).length - 2 = q.length := by simp
  have e2 : (q ++ [y] ++ [x]).length - 1 - q.length = 1 := by simp
  rw [e1, e2, List.append_assoc, List.drop_left' rfl]
  rfl
theorem pen_one {x : Str} : pen [x] = [] := rfl
end
end U

/-! repr of [graph, state, lift, pins], the lift's numbers small -/
namespace U
open PySem PySem.Spec PyProof.Rows L2
end U

/-! repr of a list of dicts of larger numbers -/
namespace U
open PySem PySem.Spec PyProof.Rows L2
end U

/-! repr of a tuple of data and dicts of numbers; a tuple == () -/
namespace U
open PySem PySem.Spec PyProof.Rows L2
theorem rd_eqNoT {K : PySem.W.Frag} {H : Hp} {Q : VK} {p q : Addr} {xs : List Str} (hp : SqT K H p (xs.map V.str)) (hq : SqT K H q []) (ok : ∀ x ∈ xs, PyData.strOk x = true) (h : Q (.bl xs.isEmpty) H) : rEqU K (.ref p) (.ref q) H Q := by
  refine ⟨_, _, .tup hp (dp_strs _), .tup hq .nil, ?_, by decide, ?_⟩
  · unfold SeqAt.shaped
    rw [PyData.canLay0, can_strs ok, PyData.depth, dep_strs]
    rfl
  · have : PyData.eqv (.tuple (xs.map PyData.str)) (.tuple []) = xs.isEmpty := by
      cases xs with
      | nil => simp [PyData.eqv, PyData.eqvAll]
      | cons _ _ => simp [PyData.eqv, PyData.eqvAll]
    rw [this]
    exact h
end U

/-! dict(a list of pairs), lists of truth values compared -/
namespace U
open PySem PySem.Spec PyProof.Rows L2
end U

/-! dict([(key, ..) for key in d]): the pairs made, the dict -/
namespace U
open PySem PySem.Spec PyProof.Rows L2
end U

/-! find_lift of a state to itself -/
namespace Law
open PySem PySem.Spec PyProof.Rows L2 U LamX


section
variable {P : Program} {w : World} {K : PySem.W.Frag} {mg : Str → Option Value} {base : Heap}
end
end Law

/-! the smallest lift to a state that a feasible lift leads to: the plain law -/
namespace U
open PySem PySem.Spec PyProof.Rows L2
/-- half the differences of the slopes along a path -/
def numS (f g : Str → Int) : List Str → Int
  | a :: b :: r => (slp g a b - slp f a b) / 2 + numS f g (b :: r)
  | _ => 0
theorem numS_snoc {f g : Str → Int} : ∀ {p : List Str} {x b : Str}, p.getLast? = some x → numS f g (p ++ [b]) = numS f g p + (slp g x b - slp f x b) / 2
  | [], _, _, h => nomatch h
  | [a], x, b, h => by
    have e : a = x := by simpa using h
    subst e
    show (slp g a b - slp f a b) / 2 + 0 = 0 + (slp g a b - slp f a b) / 2
    omega
  | a :: c :: r, x, b, h => by
    have h' : (c :: r).getLast? = some x := by rw [List.getLast?_cons_cons] at h; exact h
    have i := numS_snoc (f := f) (g := g) (b := b) h'
    show (slp g a c - slp f a c) / 2 + numS f g (c :: r ++ [b]) = (slp g a c - slp f a c) / 2 + numS f g (c :: r) + _
    rw [i]
    omega
section
variable {ns : List Str} {es : List (Str × Str)} {f g h h0 : Str → Int} {pn : List Str}
theorem pm_mod {x y : Int} (hx : x = 1 ∨ x = -1) (hy : y = 1 ∨ y = -1) (e : x % 3 = y % 3) : x = y := by
  omega
/-- the slopes of the state that a feasible lift leads to -/
theorem feas_t (ok : EsOk ns es f) (okg : EsOk ns es g) (fe : Feas ns es f h pn) (hg : ∀ x ∈ ns, (f x - h x - g x) % 3 = 0) : ∀ e ∈ es, slp f e.1 e.2 - slp g e.1 e.2 = 2 * (h e.1 - h e.2) := fun e he => by
  have a := fit_pm.mp (fe.fit e he)
  have k : Adj es e.1 e.2 := .inl he
  obtain ⟨i1, i2, _⟩ := adj_in ok k
  have g1 := hg _ i1
  have g2 := hg _ i2
  have m1 := slp_mod ok k
  have m2 := slp_mod okg k
  have b := slp_pm g e.1 e.2
  have := pm_mod a b (by omega)
  omega
/-! ### shifts -/
def gS (h : Str → Int) (c : List Str) (k : Int) : Int := sz c fun x => h x + 3 * k
def nS (h : Str → Int) (c : List Str) (k : Int) : Int := (c.map fun x => max (-(h x + 3 * k)) 0).sum
/-! ### the lift found -/
theorem sz_congr {h2 : Str → Int} : ∀ {c : List Str}, (∀ x ∈ c, h x = h2 x) → sz c h = sz c h2
  | [], _ => rfl
  | x :: r, k => by
    rw [sz_cons, sz_cons, k x List.mem_cons_self, sz_congr fun y hy => k y (List.mem_cons_of_mem _ hy)]
/-- the lift back -/
theorem feas_back (ok : EsOk ns es f) (okg : EsOk ns es g) (fe : Feas ns es f h pn) (t : ∀ e ∈ es, slp f e.1 e.2 - slp g e.1 e.2 = 2 * (h e.1 - h e.2)) (cy : ∀ x, Cyc es g x → Cyc es f x) : Feas ns es g (fun x => - h x) pn := by
  refine ⟨fun e he => ?_, fun x hx => ?_, fun x hx => ?_⟩
  · have a := t e he
    have b := slp_pm f e.1 e.2
    rw [fit_pm]
    omega
  · have := fe.pin x hx
    show - h x = 0
    omega
  · have := fe.cyc x (cy x hx)
    show - h x = 0
    omega
end
end U

/-! find_lift to a state that a feasible lift leads to: the smallest such lift -/
namespace Law
open PySem PySem.Spec PyProof.Rows L2 U LamX


section
variable {P : Program} {w : World} {K : PySem.W.Frag} {mg : Str → Option Value} {base : Heap}
end
end Law

/-! a dict that a call has just made, locked for good -/
namespace U
open PySem PySem.Spec PyProof.Rows L2
end U

/-! is_frozen -/
namespace Law
open PySem PySem.Spec PyProof.Rows L2 U LamX


section
variable {P : Program} {w : World} {K : PySem.W.Frag} {mg : Str → Option Value} {base : Heap}
end
end Law

/-! frozen_nodes -/
namespace Law
open PySem PySem.Spec PyProof.Rows L2 U LamX


section
variable {P : Program} {w : World} {K : PySem.W.Frag} {mg : Str → Option Value} {base : Heap}
end
end Law

/-! rounds of progress moves: the plain law -/
namespace U
open PySem PySem.Spec PyProof.Rows L2
section
variable {ns : List Str} {es : List (Str × Str)} {f h : Str → Int} {pn : List Str}
theorem prog_iff (ok : EsOk ns es f) {m : Str × Int} : m ∈ progF ns es f h pn ↔ m.1 ∈ ns ∧ m.1 ∉ pn ∧ h m.1 ≠ 0 ∧ (∀ o, Adj es m.1 o → slp f m.1 o = dirU (h m.1)) ∧ m.2 = (f m.1 - dirU (h m.1)) % 3 := by
  rw [prog_eq ok fun _ h => h, List.mem_flatMap]
  constructor
  · rintro ⟨x, hx, hm⟩
    unfold pmF pvF at hm
    by_cases c : h x ≠ 0 ∧ ∀ o ∈ nbS es x, slp f x o = dirU (h x)
    · rw [if_pos c] at hm
      have hm : m ∈ (if x ∈ pn then [] else [(x, (f x - dirU (h x)) % 3)]) := hm
      split at hm
      · cases hm
      · rename_i np
        obtain rfl := List.mem_singleton.mp hm
        exact ⟨hx, np, c.1, fun o ho => c.2 o (nbS_mem.mpr ho), rfl⟩
    · rw [if_neg c] at hm
      cases hm
  · rintro ⟨a, b, c, d, e⟩
    refine ⟨m.1, a, ?_⟩
    unfold pmF pvF
    rw [if_pos ⟨c, fun o ho => d o (nbS_mem.mp ho)⟩]
    show m ∈ (if m.1 ∈ pn then [] else [(m.1, (f m.1 - dirU (h m.1)) % 3)])
    rw [if_neg b, ← e]
    exact List.mem_singleton.mpr rfl
theorem pm_shape {x : Str} : pmF es f h pn x = [] ∨ pmF es f h pn x = [(x, (f x - dirU (h x)) % 3)] := by
  unfold pmF pvF
  by_cases c : h x ≠ 0 ∧ ∀ o ∈ nbS es x, slp f x o = dirU (h x)
  · rw [if_pos c]
    show (if x ∈ pn then [] else [(x, (f x - dirU (h x)) % 3)]) = [] ∨ (if x ∈ pn then [] else [(x, (f x - dirU (h x)) % 3)]) = _
    split
    · exact .inl rfl
    · exact .inr rfl
  · rw [if_neg c]
    exact .inl rfl
theorem pm_nodup : ∀ {xs : List Str}, xs.Nodup → ((xs.flatMap (pmF es f h pn)).map (·.1)).Nodup ∧ ∀ y ∈ (xs.flatMap (pmF es f h pn)).map (·.1), y ∈ xs
  | [], _ => ⟨List.nodup_nil, fun y h => nomatch h⟩
  | x :: r, nd => by
    have nd' := List.nodup_cons.mp nd
    obtain ⟨i1, i2⟩ := pm_nodup nd'.2
    rw [List.flatMap_cons, List.map_append]
    rcases pm_shape (es := es) (f := f) (h := h) (pn := pn) (x := x) with e | e
    · rw [e]
      exact ⟨i1, fun y hy => List.mem_cons_of_mem _ (i2 y hy)⟩
    · rw [e]
      refine ⟨List.nodup_cons.mpr ⟨fun z => nd'.1 (i2 x z), i1⟩, fun y hy => ?_⟩
      rcases List.mem_cons.mp hy with z | z
      · rw [z]
        exact List.mem_cons_self
      · exact List.mem_cons_of_mem _ (i2 y z)
theorem prog_nodup (ok : EsOk ns es f) (nd : ns.Nodup) : ((progF ns es f h pn).map (·.1)).Nodup := by
  rw [prog_eq ok fun _ h => h]
  exact (pm_nodup nd).1
/-- numbers of neighbors differ by one at most -/
theorem fe_near (ok : EsOk ns es f) (fe : Feas ns es f h pn) {a b : Str} (k : Adj es a b) : slp f a b - 2 * (h a - h b) = 1 ∨ slp f a b - 2 * (h a - h b) = -1 := by
  rcases k with k | k
  · exact fit_pm.mp (fe.fit _ k)
  · have e := fit_pm.mp (fe.fit _ k)
    have s := slp_neg ok (show Adj es b a from .inl k)
    have e : slp f b a - 2 * (h b - h a) = 1 ∨ slp f b a - 2 * (h b - h a) = -1 := e
    omega
theorem prog_apart (ok : EsOk ns es f) (fe : Feas ns es f h pn) {a b : Str × Int} (ha : a ∈ progF ns es f h pn) (hb : b ∈ progF ns es f h pn) : ¬ Adj es a.1 b.1 := fun k => by
  obtain ⟨_, _, a3, a4, _⟩ := (prog_iff ok).mp ha
  obtain ⟨_, _, b3, b4, _⟩ := (prog_iff ok).mp hb
  have e1 := a4 _ k
  have e2 := b4 _ k.symm
  have e3 := slp_neg ok k
  have e4 := fe_near ok fe k
  unfold dirU at e1 e2
  split at e1 <;> split at e2 <;> omega
theorem prog_after (ok : EsOk ns es f) (nd : ns.Nodup) (fe : Feas ns es f h pn) {a b : Str × Int} (ha : a ∈ progF ns es f h pn) (hb : b ∈ progF ns es f h pn) (ne : b.1 ≠ a.1) : b ∈ progF ns es (updf f a.1 a.2) (redU h a.1) pn := by
  obtain ⟨ok', _⟩ := prog_step ok nd fe ha
  obtain ⟨b1, b2, b3, b4, b5⟩ := (prog_iff ok).mp hb
  have u1 : updf f a.1 a.2 b.1 = f b.1 := if_neg ne
  have u2 : redU h a.1 b.1 = h b.1 := if_neg ne
  refine (prog_iff ok').mpr ⟨b1, b2, by rw [u2]; exact b3, fun o ho => ?_, by rw [u1, u2]; exact b5⟩
  have no : o ≠ a.1 := fun z => prog_apart ok fe hb ha (by rw [← z]; exact ho)
  rw [slp_off ne no, u2]
  exact b4 o ho
theorem AnyR.trans {ms ms2 : List (Str × Int)} {f' h' f2 h2 : Str → Int} (a : AnyR ns es pn f h ms f' h') (b : AnyR ns es pn f' h' ms2 f2 h2) : AnyR ns es pn f h (ms ++ ms2) f2 h2 := by
  induction b with
  | nil => rw [List.append_nil]; exact a
  | snoc _ hm ih => rw [← List.append_assoc]; exact .snoc ih hm
/-- progress moves of one point, one after another -/
theorem round_any (ok : EsOk ns es f) (nd : ns.Nodup) (fe : Feas ns es f h pn) {ms : List (Str × Int)} (all : ∀ m ∈ ms, m ∈ progF ns es f h pn) (ndm : (ms.map (·.1)).Nodup) : ∀ i, i ≤ ms.length →
    AnyR ns es pn f h (ms.take i) (plU f (ms.take i)) (rdU h (ms.take i)) ∧ ∀ b ∈ progF ns es f h pn, b.1 ∉ (ms.take i).map (·.1) → b ∈ progF ns es (plU f (ms.take i)) (rdU h (ms.take i)) pn := by
  intro i
  induction i with
  | zero => exact fun _ => ⟨.nil, fun b hb _ => hb⟩
  | succ i ih =>
    intro hi
    obtain ⟨r, k⟩ := ih (by omega)
    have tk : ms.take (i + 1) = ms.take i ++ [ms[i]] := by
      rw [List.take_succ, List.getElem?_eq_getElem (by omega)]
      rfl
    have hm := all _ (List.getElem_mem (by omega : i < ms.length))
    have nin : ms[i].1 ∉ (ms.take i).map (·.1) := fun z => by
      rw [List.nodup_iff_pairwise_ne, List.pairwise_iff_getElem] at ndm
      obtain ⟨j, hj, e⟩ := List.mem_iff_getElem.mp z
      rw [List.getElem_map, List.getElem_take] at e
      rw [List.length_map, List.length_take] at hj
      have := ndm j i (by rw [List.length_map]; omega) (by rw [List.length_map]; omega) (by omega)
      rw [List.getElem_map, List.getElem_map] at this
      exact this e
    have hm' := k _ hm nin
    obtain ⟨ok', fe', _⟩ := r.keeps ok nd fe
    rw [tk, plU_snoc, rdU_snoc]
    refine ⟨.snoc r hm', fun b hb nb => ?_⟩
    rw [List.map_append, List.mem_append, not_or] at nb
    exact prog_after ok' nd fe' hm' (k b hb nb.1) fun z => nb.2 (by rw [z]; exact List.mem_singleton.mpr rfl)
theorem round_all (ok : EsOk ns es f) (nd : ns.Nodup) (fe : Feas ns es f h pn) : AnyR ns es pn f h (progF ns es f h pn) (plU f (progF ns es f h pn)) (rdU h (progF ns es f h pn)) := by
  have := (round_any ok nd fe (ms := progF ns es f h pn) (fun _ h => h) (prog_nodup ok nd) _ (Nat.le_refl _)).1
  rw [List.take_length] at this
  exact this
/-- rounds that are each all progress moves -/
inductive RoundR (ns : List Str) (es : List (Str × Str)) (pn : List Str) (f h : Str → Int) : List (List (Str × Int)) → (Str → Int) → (Str → Int) → Prop
  | nil : RoundR ns es pn f h [] f h
  | snoc {rs : List (List (Str × Int))} {f' h' : Str → Int} : RoundR ns es pn f h rs f' h' → progF ns es f' h' pn ≠ [] → RoundR ns es pn f h (rs ++ [progF ns es f' h' pn]) (plU f' (progF ns es f' h' pn)) (rdU h' (progF ns es f' h' pn))
theorem RoundR.any (ok : EsOk ns es f) (nd : ns.Nodup) (fe : Feas ns es f h pn) {rs : List (List (Str × Int))} {f' h' : Str → Int} (r : RoundR ns es pn f h rs f' h') : AnyR ns es pn f h rs.flatten f' h' := by
  induction r with
  | nil => exact .nil
  | @snoc rs f' h' r ne ih =>
    obtain ⟨ok', fe', _⟩ := ih.keeps ok nd fe
    rw [List.flatten_append]
    have := ih.trans (round_all ok' nd fe')
    simpa using this
theorem RoundR.len (ok : EsOk ns es f) (nd : ns.Nodup) (fe : Feas ns es f h pn) {rs : List (List (Str × Int))} {f' h' : Str → Int} (r : RoundR ns es pn f h rs f' h') : (rs.length : Int) + sz ns h' ≤ sz ns h := by
  induction r with
  | nil => simp
  | @snoc rs f' h' r ne ih =>
    obtain ⟨ok', fe', _⟩ := (r.any ok nd fe).keeps ok nd fe
    obtain ⟨_, _, s, _⟩ := (round_all ok' nd fe').keeps ok' nd fe'
    have : 0 < (progF ns es f' h' pn).length := List.length_pos_iff.mpr ne
    rw [List.length_append, List.length_singleton]
    omega
theorem RoundR.at {rs : List (List (Str × Int))} {f' h' : Str → Int} (r : RoundR ns es pn f h rs f' h') : ∀ i (hi : i < rs.length), ∃ f1 h1, RoundR ns es pn f h (rs.take i) f1 h1 ∧ rs[i] = progF ns es f1 h1 pn ∧ progF ns es f1 h1 pn ≠ [] ∧ RoundR ns es pn f h (rs.take (i + 1)) (plU f1 rs[i]) (rdU h1 rs[i]) := by
  induction r with
  | nil => exact fun i hi => absurd hi (Nat.not_lt_zero i)
  | @snoc rs f' h' r ne ih =>
    intro i hi
    rw [List.length_append, List.length_singleton] at hi
    by_cases c : i < rs.length
    · obtain ⟨f1, h1, a, b, d, e⟩ := ih i c
      refine ⟨f1, h1, ?_⟩
      rw [List.take_append_of_le_length (by omega), List.getElem_append_left c, List.take_append_of_le_length (by omega)]
      exact ⟨a, b, d, e⟩
    · obtain rfl : i = rs.length := by omega
      refine ⟨f', h', ?_⟩
      rw [List.take_append_of_le_length (Nat.le_refl _), List.take_length, List.getElem_append_right (Nat.le_refl _), List.take_of_length_le (by rw [List.length_append]; exact Nat.le_refl _)]
      simp only [Nat.sub_self, List.getElem_cons_zero]
      exact ⟨r, trivial, ne, .snoc r ne⟩
theorem RoundR.ends {rs : List (List (Str × Int))} {f' h' : Str → Int} (r : RoundR ns es pn f h rs f' h') : f' = plU f rs.flatten ∧ h' = rdU h rs.flatten := by
  induction r with
  | nil => exact ⟨rfl, rfl⟩
  | @snoc rs f' h' r ne ih =>
    obtain ⟨e1, e2⟩ := ih
    constructor
    · conv => lhs; rw [show plU f' = plU (plU f rs.flatten) from by rw [← e1]]
      unfold plU
      simp [List.foldl_append]
    · conv => lhs; rw [show rdU h' = rdU (rdU h rs.flatten) from by rw [← e2]]
      unfold rdU
      simp [List.foldl_append]
end
end U

/-! after_moves, schedule: nothing is raised -/
namespace Law
open PySem PySem.Spec PyProof.Rows L2 U LamX


/-- rounds stand -/
def RndsAt (H : Hp) (rs : List (Addr × List (Addr × Str × Int))) : Prop := ∀ r ∈ rs, H r.1 = some (.lst (r.2.map fun m => V.ref m.1)) ∧ TupsAt H r.2
theorem RndsAt.same {H H' : Hp} {rs : List (Addr × List (Addr × Str × Int))} (h : RndsAt H rs) (s : Same H H') : RndsAt H' rs := fun r hr => ⟨s _ _ (h r hr).1, (h r hr).2.same s⟩
section
variable {P : Program} {w : World} {K : PySem.W.Frag} {mg : Str → Option Value} {base : Heap}
end
end Law

/-! chains of events bound the rounds of any sequence: the plain law -/
namespace U
open PySem PySem.Spec PyProof.Rows L2
section
variable {ns : List Str} {es : List (Str × Str)} {f h : Str → Int} {pn : List Str}
/-- moves that are possible together -/
structure RoundOk (ns : List Str) (es : List (Str × Str)) (pn : List Str) (f : Str → Int) (r : List (Str × Int)) : Prop where
  leg : ∀ m ∈ r, Legal ns es f pn m
  nd : (r.map (·.1)).Nodup
  ap : ∀ a ∈ r, ∀ b ∈ r, ¬ Adj es a.1 b.1
theorem RoundOk.nil : RoundOk ns es pn f [] := ⟨(fun m h => nomatch h), List.nodup_nil, fun a h => nomatch h⟩
theorem RoundOk.snoc {r : List (Str × Int)} {m : Str × Int} (a : RoundOk ns es pn f r) (l : Legal ns es f pn m) (n : m.1 ∉ r.map (·.1)) (k : ∀ b ∈ r, ¬ Adj es b.1 m.1) (ok : EsOk ns es f) : RoundOk ns es pn f (r ++ [m]) := by
  refine ⟨fun x hx => ?_, ?_, fun x hx y hy z => ?_⟩
  · rcases List.mem_append.mp hx with hx | hx
    · exact a.leg x hx
    · rw [List.mem_singleton.mp hx]
      exact l
  · rw [List.map_append, List.nodup_append]
    refine ⟨a.nd, by simp, fun x hx y hy e => ?_⟩
    have hy : y = m.1 := List.mem_singleton.mp hy
    rw [e, hy] at hx
    exact n hx
  · rcases List.mem_append.mp hx with hx | hx <;> rcases List.mem_append.mp hy with hy | hy
    · exact a.ap x hx y hy z
    · rw [List.mem_singleton.mp hy] at z
      exact k x hx z
    · rw [List.mem_singleton.mp hx] at z
      exact k y hy z.symm
    · rw [List.mem_singleton.mp hx, List.mem_singleton.mp hy] at z
      exact (adj_in ok z).2.2.2 rfl
/-- the events for which an event waits -/
def depF (es : List (Str × Str)) (f h : Str → Int) (n : Str) (k : Int) : List (Str × Int) :=
  ((n, k - 1) :: (nbS es n).map fun m => (m, if (decide (slp f n m = -1) == decide (0 < h n)) = true then k else k - 1)).filter fun e => decide (0 < e.2)
def evOk (ns : List Str) (h : Str → Int) (e : Str × Int) : Prop := e.1 ∈ ns ∧ 1 ≤ e.2 ∧ e.2 ≤ ((h e.1).natAbs : Int)
def ChainP (ns : List Str) (es : List (Str × Str)) (f h : Str → Int) (evs : List (Str × Int)) : Prop := ∀ j (hj : j < evs.length), evOk ns h evs[j] ∧ ∀ i (hi : i + 1 = j), evs[i] ∈ depF es f h evs[j].1 evs[j].2
end
end U

/-! a pair among pairs; lists of lists of texts -/
namespace U
open PySem PySem.Spec PyProof.Rows L2
theorem kNinL {X : Cx} (K : PySem.W.Frag) (hK : X.K = K) (hu : X.A.units + 65 < cLine) : OpR X (compareOp .NotIn) (rNotInD K) := by
  subst hK
  exact op_notInD hu
abbrev dE (e : Str × Str) : PyData := .tuple [.str e.1, .str e.2]
theorem eqv_dE {a b : Str × Str} : PyData.eqv (dE a) (dE b) = decide (a = b) := by
  obtain ⟨a1, a2⟩ := a
  obtain ⟨b1, b2⟩ := b
  rw [Bool.eq_iff_iff]
  simp [dE, PyData.eqv, PyData.eqvAll]
theorem any_dE {es : List (Str × Str)} {e : Str × Str} : ((es.map dE).any fun z => PyData.eqv z (dE e)) = decide (e ∈ es) := by
  rw [Bool.eq_iff_iff, List.any_eq_true, decide_eq_true_iff]
  constructor
  · rintro ⟨z, hz, h⟩
    obtain ⟨y, hy, rfl⟩ := List.mem_map.mp hz
    rw [eqv_dE, decide_eq_true_iff] at h
    rw [← h]
    exact hy
  · intro h
    exact ⟨_, List.mem_map_of_mem h, by rw [eqv_dE]; exact decide_eq_true rfl⟩
theorem dp_edges {K : PySem.W.Frag} {H : Hp} : ∀ {es : List (Addr × Str × Str)}, (∀ x ∈ es, SqT K H x.1 [.str x.2.1, .str x.2.2]) → DpAll K H (es.map fun x => V.ref x.1) ((es.map (·.2)).map dE)
  | [], _ => .nil
  | x :: r, h => .cons (.tup (h x List.mem_cons_self) (.cons (.str _) (.cons (.str _) .nil))) (dp_edges fun y hy => h y (List.mem_cons_of_mem _ hy))
theorem can_edges : ∀ {es : List (Str × Str)}, (∀ e ∈ es, PyData.strOk e.1 = true ∧ PyData.strOk e.2 = true) → PyData.canLayAll0 (es.map dE) = true ∧ PyData.depthAll (es.map dE) ≤ 1
  | [], _ => by simp [PyData.canLayAll0, PyData.depthAll]
  | e :: r, h => by
    obtain ⟨a, b⟩ := can_edges (es := r) fun y hy => h y (List.mem_cons_of_mem _ hy)
    obtain ⟨h1, h2⟩ := h e List.mem_cons_self
    have c : (dE e).canLay0 = true := by simp [dE, PyData.canLay0, PyData.canLayAll0, h1, h2]
    have d : (dE e).depth = 1 := by simp [dE, PyData.depth, PyData.depthAll]
    rw [List.map_cons, PyData.canLayAll0, PyData.depthAll, a, c, d]
    exact ⟨rfl, by omega⟩
theorem shaped_edge {e : Str × Str} (h : PyData.strOk e.1 = true ∧ PyData.strOk e.2 = true) : SeqAt.shaped (dE e) = true := by
  unfold SeqAt.shaped
  simp [dE, PyData.canLay0, PyData.canLayAll0, PyData.depth, PyData.depthAll, h.1, h.2]
theorem shaped_edgesT {es : List (Str × Str)} (h : ∀ e ∈ es, PyData.strOk e.1 = true ∧ PyData.strOk e.2 = true) : SeqAt.shaped (.tuple (es.map dE)) = true := by
  obtain ⟨a, b⟩ := can_edges h
  unfold SeqAt.shaped
  rw [PyData.canLay0, a, PyData.depth, decide_eq_true (by omega)]
  rfl
/-! lists of lists of texts -/
end U

/-! dependencies, is_event, is_chain -/
namespace U
open PySem PySem.Spec PyProof.Rows L2
theorem ChainP.pre {ns : List Str} {es : List (Str × Str)} {f h : Str → Int} {a b : List (Str × Int)} (c : ChainP ns es f h (a ++ b)) : ChainP ns es f h a := fun j hj => by
  obtain ⟨c1, c2⟩ := c j (by rw [List.length_append]; omega)
  rw [List.getElem_append_left hj] at c1 c2
  refine ⟨c1, fun i hi => ?_⟩
  have := c2 i hi
  rw [List.getElem_append_left (by omega)] at this
  exact this
theorem ChainP.nil {ns : List Str} {es : List (Str × Str)} {f h : Str → Int} : ChainP ns es f h [] := fun j hj => absurd hj (Nat.not_lt_zero _)
theorem ChainP.snoc {ns : List Str} {es : List (Str × Str)} {f h : Str → Int} {a : List (Str × Int)} {e : Str × Int} (c : ChainP ns es f h a) (o : evOk ns h e) (d : ∀ i (hi : i + 1 = a.length), a[i] ∈ depF es f h e.1 e.2) : ChainP ns es f h (a ++ [e]) := fun j hj => by
  rw [List.length_append, List.length_singleton] at hj
  by_cases z : j < a.length
  · rw [List.getElem_append_left z]
    obtain ⟨c1, c2⟩ := c j z
    refine ⟨c1, fun i hi => ?_⟩
    rw [List.getElem_append_left (by omega)]
    exact c2 i hi
  · obtain rfl : j = a.length := by omega
    rw [List.getElem_append_right (Nat.le_refl _)]
    simp only [Nat.sub_self, List.getElem_cons_zero]
    refine ⟨o, fun i hi => ?_⟩
    rw [List.getElem_append_left (by omega)]
    exact d i hi
end U
namespace Law
open PySem PySem.Spec PyProof.Rows L2 U LamX


section
variable {P : Program} {w : World} {K : PySem.W.Frag} {mg : Str → Option Value} {base : Heap}
end
end Law

/-! path_to_anchor, frozen_certificate: nothing is raised -/
namespace Law
open PySem PySem.Spec PyProof.Rows L2 U LamX


section
variable {P : Program} {w : World} {K : PySem.W.Frag} {mg : Str → Option Value} {base : Heap}
end
end Law

/-! the numbers along the root paths; when there is no lift: the plain law -/
namespace U
open PySem PySem.Spec PyProof.Rows L2
theorem two_numS {f g : Str → Int} : ∀ {p : List Str}, 2 * numS f g p = psum g p - psum f p
  | [] => rfl
  | [a] => rfl
  | a :: b :: r => by
    have i := two_numS (f := f) (g := g) (p := b :: r)
    have s1 := slp_pm f a b
    have s2 := slp_pm g a b
    rw [psum_cons, psum_cons]
    show 2 * ((slp g a b - slp f a b) / 2 + numS f g (b :: r)) = _
    omega
section
variable {ns : List Str} {es : List (Str × Str)} {f g h0 : Str → Int} {pn : List Str}
/-- the number that the root path gives -/
def LnF (ns : List Str) (es : List (Str × Str)) (f g : Str → Int) (x : Str) : Int :=
  (f ((pth (kpF ns es) x).headD Str.empty) - g ((pth (kpF ns es) x).headD Str.empty)) % 3 + numS f g (pth (kpF ns es) x)
theorem pth_head (gok : GrOk ns es) (l : ns.length ≤ 1000) {x : Str} (hx : x ∈ ns) : ∃ r ∈ ns, x ∈ comp es r ∧ (pth (kpF ns es) x).headD Str.empty = (comp es r).headD Str.empty ∧ (comp es r).headD Str.empty ∈ ns ∧ Wk es (pth (kpF ns es) x) ∧ (pth (kpF ns es) x).head? = some ((comp es r).headD Str.empty) ∧ (pth (kpF ns es) x).getLast? = some x := by
  obtain ⟨r, hr, hxr, p⟩ := roots_path gok l hx
  obtain ⟨w1, w2, w3⟩ := p.wk
  refine ⟨r, hr, hxr, ?_, ?_, w1, w2, w3⟩
  · show (pth (rootsF es (compsF ns es)) x).headD Str.empty = _
    rw [List.headD_eq_head?_getD, w2]
    rfl
  · exact pt_in gok hr ((sortS_perm _).mem_iff.mp (head_in comp_pos))
theorem ln_edge (gok : GrOk ns es) (l : ns.length ≤ 1000) (okf : EsOk ns es f) (okg : EsOk ns es g) (psE : ∀ c ∈ basisF es (kpF ns es), psum f c = psum g c) : ∀ e ∈ es, slp f e.1 e.2 - slp g e.1 e.2 = 2 * (LnF ns es f g e.1 - LnF ns es f g e.2) := fun e he => by
  obtain ⟨m1, m2⟩ := gok.mem e he
  obtain ⟨r, hr, hx, e1, _, w1, h1, k1⟩ := pth_head gok l m1
  obtain ⟨s, hs, hy, e2, _, w2, h2, k2⟩ := pth_head gok l m2
  have cs := comp_same gok l hr hs hx hy (.step .refl (nbS_mem.mpr (.inl he)) rfl)
  have ad : Adj es e.1 e.2 := .inl he
  have n1 := slp_neg okf ad
  have n2 := slp_neg okg ad
  unfold LnF
  rw [e1, e2, cs]
  have t1 := two_numS (f := f) (g := g) (p := pth (kpF ns es) e.1)
  have t2 := two_numS (f := f) (g := g) (p := pth (kpF ns es) e.2)
  cases hb : isBasis (kpF ns es) e with
  | true =>
    have hc : pth (kpF ns es) e.1 ++ (pth (kpF ns es) e.2).reverse ∈ basisF es (kpF ns es) := List.mem_map.mpr ⟨e, List.mem_filter.mpr ⟨he, hb⟩, rfl⟩
    have q := psE _ hc
    have rv1 := psum_rev okf w2
    have rv2 := psum_rev okg w2
    have hd : (pth (kpF ns es) e.2).reverse.head? = some e.2 := by rw [List.head?_reverse]; exact k2
    generalize (pth (kpF ns es) e.2).reverse = q2 at *
    cases q2 with
    | nil => cases hd
    | cons z r2 =>
      obtain rfl : z = e.2 := by simpa using hd
      rw [psum_join k1, psum_join k1, psum_cons, psum_cons] at q
      omega
  | false =>
    have alt : pen (pth (kpF ns es) e.1) = [e.2] ∨ pen (pth (kpF ns es) e.2) = [e.1] := by
      unfold isBasis at hb
      by_cases z : pen (pth (kpF ns es) e.1) = [e.2]
      · exact .inl z
      · by_cases z2 : pen (pth (kpF ns es) e.2) = [e.1]
        · exact .inr z2
        · rw [decide_eq_false z, decide_eq_false z2] at hb
          cases hb
    have s1 := slp_pm f e.1 e.2
    have s2 := slp_pm g e.1 e.2
    rcases alt with z | z
    · rcases pth_cases gok l m1 with ⟨c, _⟩ | ⟨y, hy', _, ep, la⟩
      · rw [c, pen_one] at z
        cases z
      · rw [ep, pen_snoc la] at z
        obtain rfl : y = e.2 := by simpa using z
        rw [ep, numS_snoc la]
        omega
    · rcases pth_cases gok l m2 with ⟨c, _⟩ | ⟨y, hy', _, ep, la⟩
      · rw [c, pen_one] at z
        cases z
      · rw [ep, pen_snoc la] at z
        obtain rfl : y = e.1 := by simpa using z
        rw [ep, numS_snoc la]
        omega
theorem ln_mod (gok : GrOk ns es) (l : ns.length ≤ 1000) (okf : EsOk ns es f) (okg : EsOk ns es g) {x : Str} (hx : x ∈ ns) : (f x - LnF ns es f g x - g x) % 3 = 0 := by
  obtain ⟨r, hr, hxr, e1, _, w1, h1, k1⟩ := pth_head gok l hx
  have t1 := two_numS (f := f) (g := g) (p := pth (kpF ns es) x)
  have p1 := psum_mod okf w1 h1 k1
  have p2 := psum_mod okg w1 h1 k1
  unfold LnF
  rw [e1]
  omega
end
end U

/-! shortest_path; closed walks drawn; the law behind moves -/
namespace Law
open PySem PySem.Spec PyProof.Rows L2 U


def spCheckN : Sp := fun vs H Q _ => ∃ (g n e : Addr) (x : Str) (ns : List Str) (es : List (Addr × Str × Str)), vs = [.ref g, .str x] ∧ GrAt H g n e ns es ∧ x ∈ ns ∧ Q .non H
def spSP : Sp := fun vs H Q _ => ∃ (g n e : Addr) (x y : Str) (ns : List Str) (es : List (Addr × Str × Str)), vs = [.ref g, .str x, .str y] ∧ GrS H g n e ns es ∧ x ∈ ns ∧ y ∈ ns ∧
  (∀ (l : Addr) (p : List Str) (H' : Hp), Same H H' → H l = none → H' l = some (.lst (p.map V.str)) → (y, p) ∈ ptF (es.map (·.2)) x → Q (.ref l) H') ∧ (¬ Con (es.map (·.2)) x y → ∀ H' : Hp, Same H H' → Q .non H')
section
variable {P : Program} {w : World} {K : PySem.W.Frag} {mg : Str → Option Value} {base : Heap}
structure C1a (P : Program) (w : World) (K : PySem.W.Frag) (mg : Str → Option Value) (base : Heap) : Prop where
  has_node : Cal P w K mg base CX0 1 "has_node" spHas
theorem ok_check_node {f : Addr} {fd : FuncData} (F : Fun K "check_node" "check_node" s_check_node f fd) (B : Bt mg) (C : C1a P w K mg base) : FnG P w K mg base CX0 2 f fd ["graph", "candidate"] spCheckN := by
  refine fnG0 F sc_check_node (fun vs H Q E h => ?_) (fun cdv A outer s H vs Q E hr h => ?_)
  · obtain ⟨g, n, e, x, ns, es, rfl, _⟩ := h
    rfl
  · obtain ⟨g, n, e, x, ns, es, rfl, gr, hx, q⟩ := h
    have nd := sc_check_node.nd
    refine ⟨_, (pss_one (ps_if (pt_not (pt_val (pe_c C.has_node hr (by decide) rfl (pa_cons (pv 0) (pa_cons (pv 1) pa_nil))))) (pss_one ps_dead) pss_nil)), ?_⟩
    wtm_at "rd"
    refine ⟨g, n, e, x, ns, es, rfl, gr, ?_⟩
    rw [decide_eq_true hx]
    wtm_at "rd"
    try refine rd_nT ?_
    wtm_at "rd"
    exact q
structure C1b (P : Program) (w : World) (K : PySem.W.Frag) (mg : Str → Option Value) (base : Heap) : Prop where
  check_node : Cal P w K mg base CX0 2 "check_node" spCheckN
  paths_from : Cal P w K mg base CX0 2 "paths_from" spPathsFrom
theorem rd_dget1 {td ty : TE} {σ : L2.St} {H : Hp} {Q : VK} (h : td σ H fun x H1 => ∃ a, x = .ref a ∧ IsD H1 a ∧ ty σ H1 fun y H2 => ∃ o, DGet H2 a y o ∧ Q (o.getD .non) H2) : tDGet1 td ty σ H Q := h
theorem ok_sp {f : Addr} {fd : FuncData} (F : Fun K "shortest_path" "shortest_path" s_shortest_path f fd) (B : Bt mg) (C : C1b P w K mg base) : FnG P w K mg base CX0 3 f fd ["graph", "start", "end"] spSP := by
  refine fnG0 F sc_shortest_path (fun vs H Q E h => ?_) (fun cdv A outer s H vs Q E hr h => ?_)
  · obtain ⟨g, n, e, x, y, ns, es, rfl, _⟩ := h
    rfl
  · obtain ⟨g, n, e, x, y, ns, es, rfl, gs, hx, hy, q1, q2⟩ := h
    have nd := sc_shortest_path.nd
    have hu := hr.u1
    refine ⟨_, (pss_cons (ps_expr (pe_c C.check_node hr (by decide) rfl (pa_cons (pv 0) (pa_cons (pv 1) pa_nil))))
  (pss_cons (ps_expr (pe_c C.check_node hr (by decide) rfl (pa_cons (pv 0) (pa_cons (pv 2) pa_nil))))
  (pss_one (ps_ret (pe_dget1 hu (pe_c C.paths_from hr (by decide) rfl (pa_cons (pv 0) (pa_cons (pv 1) pa_nil))) (pv 2) ⟨rfl, rfl, rfl, rfl⟩))))), ?_⟩
    wtm_at "rd"
    refine ⟨g, n, e, x, ns, es, rfl, gs.gr, hx, ?_⟩
    wtm_at "rd"
    refine ⟨g, n, e, y, ns, es, rfl, gs.gr, hy, ?_⟩
    wtm_at "rd"
    refine rd_dget1 ?_
    wtm_at "rd"
    refine ⟨g, n, e, x, ns, es, rfl, gs, hx, fun d A H1 s1 fd frA pa => ?_⟩
    have l1 : ns.length ≤ 1000 := by have := gs.l2; omega
    refine ⟨d, rfl, .inl ⟨_, .inl pa.di⟩, ?_⟩
    wtm_at "rd"
    refine ⟨_, .inl ⟨_, .inr y, .inl pa.di, rfl, rfl⟩, ?_⟩
    by_cases m : y ∈ keysF (ptF (es.map (·.2)) x)
    · rw [kvG_val m]
      obtain ⟨p, h1, h2⟩ := lookup_some m
      exact q1 (A y) p H1 s1 (frA _ h2) (pa.li _ h2) h2
    · rw [kvG_none m]
      exact q2 (fun c => m ((pt_mem gs.ok l1 hx).mpr c)) H1 s1
end
end Law

/-! find_lift: the smallest lift, or an obstruction -/
namespace Law
open PySem PySem.Spec PyProof.Rows L2 U LamX


def CertAt (H : Hp) (ce : Addr) (ns : List Str) (es : List (Str × Str)) (f : Str → Int) (pn : List Str) (x : Str) : Prop :=
  ∃ a b p q, H ce = some (.tup [.ref a, .ref b]) ∧ H a = some (.lst (p.map V.str)) ∧ H b = some (.lst (q.map V.str)) ∧ CerP ns es f pn 1 x p ∧ CerP ns es f pn (-1) x q
theorem CertAt.ext {H H' : Hp} {ce : Addr} {ns : List Str} {es : List (Str × Str)} {f : Str → Int} {pn : List Str} {x : Str} (h : CertAt H ce ns es f pn x) (e : ExtN H H') : CertAt H' ce ns es f pn x := by
  obtain ⟨a, b, p, q, h1, h2, h3, r⟩ := h
  exact ⟨a, b, p, q, ExtN.tu e h1, ExtN.li e h2, ExtN.li e h3, r⟩
/-- an obstruction -/
inductive ObsAt (ns : List Str) (es : List (Str × Str)) (f g : Str → Int) (pn : List Str) (H : Hp) (t : Addr) : Prop
  | cyc {a : Addr} {c : List Str} {z : Str} : H t = some (.tup [.str "cycle", .ref a]) → H a = some (.lst (c.map V.str)) → Wk es c → c.head? = some z → c.getLast? = some z → (∀ y ∈ c, y ∈ ns) → c.length ≤ 1000 → psum f c ≠ psum g c → ObsAt ns es f g pn H t
  | node {x : Str} {ce : Addr} : H t = some (.tup [.str "node", .str x, .ref ce]) → CertAt H ce ns es f pn x → x ∈ ns → f x ≠ g x → ObsAt ns es f g pn H t
  | path {a c1 c2 : Addr} {p : List Str} {x y : Str} : H t = some (.tup [.str "path", .ref a, .ref c1, .ref c2]) → H a = some (.lst (p.map V.str)) → Wk es p → p.head? = some x → p.getLast? = some y → (∀ z ∈ p, z ∈ ns) → p.length ≤ 1000 → psum f p ≠ psum g p → CertAt H c1 ns es f pn x → CertAt H c2 ns es f pn y → ObsAt ns es f g pn H t
theorem ObsAt.ext {ns : List Str} {es : List (Str × Str)} {f g : Str → Int} {pn : List Str} {H H' : Hp} {t : Addr} (h : ObsAt ns es f g pn H t) (e : ExtN H H') : ObsAt ns es f g pn H' t := by
  cases h with
  | cyc a b c d e' i j k => exact .cyc (ExtN.tu e a) (ExtN.li e b) c d e' i j k
  | node a b c d => exact .node (ExtN.tu e a) (b.ext e) c d
  | path a b c d e' i j k l m => exact .path (ExtN.tu e a) (ExtN.li e b) c d e' i j k (l.ext e) (m.ext e)
theorem extN_put {H H' : Hp} {D : Addr} {o : HO} (x : ExtN H H') (fD : H D = none) : ExtN H (upd H' D o) := fun b u h n => at_upd (ne_of_none h fD) (x b u h n)
theorem path_inG {ns : List Str} {es : List (Str × Str)} {ok : Str → Str → Bool} {r x : Str} {p : List Str} (gok : GrOk ns es) (hr : r ∈ ns) (h : PathTo (nbS es) ok r x p) : ∀ z ∈ p, z ∈ ns := by
  induction h with
  | one => intro y hy; rw [List.mem_singleton.mp hy]; exact hr
  | @snoc a b p q m o ih =>
    intro y hy
    rcases List.mem_append.mp hy with hy | hy
    · exact ih y hy
    · rw [List.mem_singleton.mp hy]
      exact nbS_in gok m
section
variable {P : Program} {w : World} {K : PySem.W.Frag} {mg : Str → Option Value} {base : Heap}
end
end Law

/-! lifts back, lifts joined, the size of the smallest lift: the plain law -/
namespace U
open PySem PySem.Spec PyProof.Rows L2
section
variable {ns : List Str} {es : List (Str × Str)} {f g h : Str → Int} {pn : List Str} {dir : Int}
theorem psum_top {f : Str → Int} : ∀ {p : List Str}, Wk es p → psum f p + 1 ≤ (p.length : Int) ∨ p = [] := fun {p} => by
  induction p with
  | nil => intro _; exact .inr rfl
  | cons a r ih =>
    intro w
    cases r with
    | nil => left; rw [psum_one]; simp
    | cons b q =>
      left
      rcases ih w.2 with i | i
      · have s := slp_pm f a b
        rw [psum_cons]
        simp only [List.length_cons] at i ⊢
        omega
      · cases i
/-- all slopes are 1 where the sum is greatest -/
theorem slp_full {f : Str → Int} : ∀ {p : List Str}, Wk es p → psum f p + 1 = (p.length : Int) → SlP es f 1 p := fun {p} => by
  induction p with
  | nil => intro _ _; trivial
  | cons a r ih =>
    intro w e
    cases r with
    | nil => trivial
    | cons b q =>
      have s := slp_pm f a b
      rw [psum_cons] at e
      simp only [List.length_cons] at e
      rcases psum_top (f := f) w.2 with i | i
      · simp only [List.length_cons] at i
        have e1 : slp f a b = 1 := by omega
        exact ⟨w.1, e1, ih w.2 (by simp only [List.length_cons]; omega)⟩
      · cases i
theorem slp_sum {f : Str → Int} : ∀ {p : List Str}, SlP es f 1 p → p ≠ [] → psum f p + 1 = (p.length : Int) := fun {p} => by
  induction p with
  | nil => intro _ n; exact absurd rfl n
  | cons a r ih =>
    intro w _
    cases r with
    | nil => rw [psum_one]; rfl
    | cons b q =>
      have i := ih w.2.2 (by simp)
      rw [psum_cons, w.2.1]
      simp only [List.length_cons] at i ⊢
      omega
theorem rr_path {x y : Str} (r : Rr es f dir x y) : ∃ p, SlP es f dir p ∧ p.head? = some x ∧ p.getLast? = some y := by
  induction r with
  | refl => exact ⟨[x], trivial, rfl, rfl⟩
  | @step a b _ m o ih =>
    obtain ⟨p, i1, i2, i3⟩ := ih
    refine ⟨p ++ [b], i1.snoc i3 (nbS_mem.mp m) (of_decide_eq_true o), ?_, ?_⟩
    · cases p with
      | nil => cases i2
      | cons c r => exact i2
    · simp only [List.getLast?_append, List.getLast?_singleton, Option.some_or]
theorem path_rr : ∀ {p : List Str} {x y : Str}, SlP es f dir p → p.head? = some x → p.getLast? = some y → Rr es f dir x y := fun {p} => by
  induction p with
  | nil => intro x y _ h; cases h
  | cons a r ih =>
    intro x y w h l
    obtain rfl : a = x := by simpa using h
    cases r with
    | nil =>
      obtain rfl : a = y := by simpa using l
      exact .refl
    | cons b q =>
      have l' : (b :: q).getLast? = some y := by rw [List.getLast?_cons_cons] at l; exact l
      exact (rr_step w.1 w.2.1).trans (ih w.2.2 rfl l')
/-- cycles stay on the way of a lift -/
theorem cyc_t (okf : EsOk ns es f) (okg : EsOk ns es g) (t : ∀ e ∈ es, slp f e.1 e.2 - slp g e.1 e.2 = 2 * (h e.1 - h e.2)) {x : Str} (c : Cyc es g x) : Cyc es f x := by
  obtain ⟨y, k, e, r⟩ := c
  obtain ⟨p, p1, p2, p3⟩ := rr_path r
  have q1 := p1.snoc p3 k e
  have la : (p ++ [x]).getLast? = some x := by simp only [List.getLast?_append, List.getLast?_singleton, Option.some_or]
  have hd : (p ++ [x]).head? = some x := by
    cases p with
    | nil => cases p2
    | cons c r => exact p2
  have e1 := psum_lift okf okg t q1.wk hd la
  have e2 := slp_sum q1 (by simp)
  have q2 := slp_full (f := f) q1.wk (by omega)
  refine ⟨y, k, ?_, path_rr q2.left p2 p3⟩
  have pl : 0 < p.length := by
    cases p with
    | nil => cases p2
    | cons c r => simp
  have := (q2.at (p.length - 1) (by rw [List.length_append, List.length_singleton]; omega)).2
  have a1 : (p ++ [x])[p.length - 1]'(by rw [List.length_append]; omega) = y := by
    rw [List.getElem_append_left (by omega)]
    have := p3
    rw [List.getLast?_eq_getElem?, List.getElem?_eq_getElem (by omega)] at this
    exact Option.some.inj this
  have a2 : (p ++ [x])[p.length - 1 + 1]'(by rw [List.length_append, List.length_singleton]; omega) = x := by
    rw [List.getElem_append_right (by omega)]
    simp
  rw [a1, a2] at this
  exact this
/-- a feasible lift leads from f to g -/
def Lft (ns : List Str) (es : List (Str × Str)) (f g : Str → Int) (pn : List Str) (h : Str → Int) : Prop := Feas ns es f h pn ∧ ∀ x ∈ ns, (f x - h x - g x) % 3 = 0
theorem Lft.back (okf : EsOk ns es f) (okg : EsOk ns es g) (l : Lft ns es f g pn h) : Lft ns es g f pn fun x => - h x := by
  have t := feas_t okf okg l.1 l.2
  refine ⟨feas_back okf okg l.1 t fun x c => cyc_t okf okg t c, fun x hx => ?_⟩
  have := l.2 x hx
  show (g x - - h x - f x) % 3 = 0
  omega
theorem Lft.join {k h2 : Str → Int} (okf : EsOk ns es f) (okg : EsOk ns es g) (okk : EsOk ns es k) (l : Lft ns es f g pn h) (m : Lft ns es g k pn h2) : Lft ns es f k pn fun x => h x + h2 x := by
  have t := feas_t okf okg l.1 l.2
  have tb := feas_t okg okf (l.back okf okg).1 (l.back okf okg).2
  refine ⟨⟨fun e he => ?_, fun x hx => ?_, fun x hx => ?_⟩, fun x hx => ?_⟩
  · have a := t e he
    have b := fit_pm.mp (m.1.fit e he)
    rw [fit_pm]
    omega
  · have := l.1.pin x hx
    have := m.1.pin x hx
    omega
  · have := l.1.cyc x hx
    have := m.1.cyc x (cyc_t (h := fun x => - h x) okg okf tb hx)
    omega
  · have := l.2 x hx
    have := m.2 x hx
    show (f x - (h x + h2 x) - k x) % 3 = 0
    omega
end
end U

/-! signatures decide what is reached: the plain law -/
namespace U
open PySem PySem.Spec PyProof.Rows L2
/-- the anchors of a part -/
def ownS (an c : List Str) : List Str := c.filter fun x => decide (x ∈ an)
/-- the number of the way from a to x -/
@[irreducible] def pnS (es : List (Str × Str)) (f : Str → Int) (a x : Str) : Int := psum f (pth (ptF es a) x)
def sgC (es : List (Str × Str)) (f : Str → Int) (an c : List Str) : List Int := (ownS an c).flatMap fun x => [f x, pnS es f ((ownS an c).headD Str.empty) x]
def sgF (ns : List Str) (es : List (Str × Str)) (f : Str → Int) (an : List Str) : List Int :=
  (basisF es (kpF ns es)).map (fun c => psum f c / 3) ++ (compsF ns es).flatMap (sgC es f an)
theorem flat_inj {α : Type} {F G : α → List Int} : ∀ {l : List α}, (∀ x ∈ l, (F x).length = (G x).length) → l.flatMap F = l.flatMap G → ∀ x ∈ l, F x = G x
  | [], _, _, x, hx => nomatch hx
  | a :: r, hl, e, x, hx => by
    rw [List.flatMap_cons, List.flatMap_cons] at e
    obtain ⟨e1, e2⟩ := List.append_inj e (hl a List.mem_cons_self)
    rcases List.mem_cons.mp hx with rfl | hx
    · exact e1
    · exact flat_inj (fun y hy => hl y (List.mem_cons_of_mem _ hy)) e2 x hx
theorem flat_congr {α : Type} {F G : α → List Int} : ∀ {l : List α}, (∀ x ∈ l, F x = G x) → l.flatMap F = l.flatMap G
  | [], _ => rfl
  | a :: r, h => by
    rw [List.flatMap_cons, List.flatMap_cons, h a List.mem_cons_self, flat_congr fun y hy => h y (List.mem_cons_of_mem _ hy)]
theorem ownS_mem {an c : List Str} {x : Str} : x ∈ ownS an c ↔ x ∈ c ∧ x ∈ an := by
  unfold ownS
  rw [List.mem_filter, decide_eq_true_iff]
theorem ownS_head {an c : List Str} {x : Str} (h : x ∈ ownS an c) : (ownS an c).headD Str.empty ∈ ownS an c := by
  cases hc : ownS an c with
  | nil => rw [hc] at h; cases h
  | cons a r => exact List.mem_cons_self
theorem ownS_congr {an an2 c : List Str} (h : ∀ x, x ∈ an ↔ x ∈ an2) : ownS an c = ownS an2 c := by
  unfold ownS
  refine List.filter_congr fun x _ => ?_
  by_cases q : x ∈ an
  · rw [decide_eq_true q, decide_eq_true ((h x).mp q)]
  · rw [decide_eq_false q, decide_eq_false fun z => q ((h x).mpr z)]
section
variable {ns : List Str} {es : List (Str × Str)} {f g h : Str → Int} {pn : List Str} {dir : Int}
theorem pt_wk (gok : GrOk ns es) (l : ns.length ≤ 1000) {a x : Str} (ha : a ∈ ns) (c : Con es a x) : Wk es (pth (ptF es a) x) ∧ (pth (ptF es a) x).head? = some a ∧ (pth (ptF es a) x).getLast? = some x := by
  obtain ⟨p, h1, h2⟩ := lookup_some ((pt_mem gok l ha).mpr c)
  have e : pth (ptF es a) x = p := by unfold pth; rw [h1]; rfl
  rw [e]
  have := stF_path _ _ h2
  have : PathTo (nbS es) (fun _ _ => true) a x p := this
  exact this.wk
theorem own_con (gok : GrOk ns es) (l : ns.length ≤ 1000) {r x y : Str} (hr : r ∈ ns) (hx : x ∈ comp es r) (hy : y ∈ comp es r) : Con es x y :=
  (con_symm ((comp_mem gok l hr).mp hx)).trans ((comp_mem gok l hr).mp hy)
theorem pnS_lift (gok : GrOk ns es) (l : ns.length ≤ 1000) (okf : EsOk ns es f) (okg : EsOk ns es g) (t : ∀ e ∈ es, slp f e.1 e.2 - slp g e.1 e.2 = 2 * (h e.1 - h e.2)) {a x : Str} (ha : a ∈ ns) (c : Con es a x) : pnS es f a x - pnS es g a x = 2 * (h a - h x) := by
  have w := pt_wk gok l ha c
  unfold pnS
  generalize pth (ptF es a) x = p at w ⊢
  exact psum_lift okf okg t w.1 w.2.1 w.2.2
theorem pnS_of {a x : Str} {p : List Str} (h : (x, p) ∈ ptF es a) : pnS es f a x = psum f p := by
  unfold pnS pth
  rw [lookup_uniq pt_nodup h]
  rfl
/-- a lift leaves the signature as it is -/
theorem sg_of_lft (gok : GrOk ns es) (l : ns.length ≤ 1000) (okf : EsOk ns es f) (okg : EsOk ns es g) {an an2 : List Str} (hf : ∀ x, x ∈ an ↔ x ∈ ns ∧ (x ∈ pn ∨ Cyc es f x)) (hg : ∀ x, x ∈ an2 ↔ x ∈ ns ∧ (x ∈ pn ∨ Cyc es g x)) (lf : Lft ns es f g pn h) : sgF ns es f an = sgF ns es g an2 := by
  have t := feas_t okf okg lf.1 lf.2
  have tb := feas_t okg okf (lf.back okf okg).1 (lf.back okf okg).2
  have aa : ∀ x, x ∈ an ↔ x ∈ an2 := fun x => by
    rw [hf, hg]
    exact ⟨fun ⟨a, b⟩ => ⟨a, b.imp id fun c => cyc_t (h := fun x => - h x) okg okf tb c⟩, fun ⟨a, b⟩ => ⟨a, b.imp id fun c => cyc_t okf okg t c⟩⟩
  have z : ∀ x, x ∈ an → h x = 0 ∧ f x = g x := fun x hx => by
    obtain ⟨hn, hq⟩ := (hf x).mp hx
    have h0 : h x = 0 := by
      rcases hq with q | q
      · exact lf.1.pin x q
      · exact lf.1.cyc x q
    have := lf.2 x hn
    have := okf.tri x hn
    have := okg.tri x hn
    exact ⟨h0, by omega⟩
  unfold sgF
  congr 1
  · refine List.map_congr_left fun c hc => ?_
    obtain ⟨w, a, h1, h2⟩ := basis_ok gok l c hc
    have := psum_lift okf okg t w h1 h2
    show psum f c / 3 = psum g c / 3
    rw [show psum f c = psum g c from by omega]
  · refine flat_congr fun c hc => ?_
    obtain ⟨r, hr, rfl⟩ := (compsF_ok gok l).of c hc
    unfold sgC
    rw [← ownS_congr (c := comp es r) aa]
    refine flat_congr fun x hx => ?_
    have hd := ownS_head hx
    generalize (ownS an (comp es r)).headD Str.empty = a at hd ⊢
    obtain ⟨x1, x2⟩ := ownS_mem.mp hx
    obtain ⟨a1, a2⟩ := ownS_mem.mp hd
    have := pnS_lift gok l okf okg t ((hf a).mp a2).1 (own_con gok l hr a1 x1)
    rw [(z x x2).1, (z a a2).1] at this
    rw [(z x x2).2, show pnS es f a x = pnS es g a x from by omega]
/-- equal signatures: there is a lift -/
theorem lft_of_sg (gok : GrOk ns es) (l : ns.length ≤ 1000) (okf : EsOk ns es f) (okg : EsOk ns es g) (pin : ∀ x ∈ pn, x ∈ ns) {an an2 : List Str} (hf : ∀ x, x ∈ an ↔ x ∈ ns ∧ (x ∈ pn ∨ Cyc es f x)) (hg : ∀ x, x ∈ an2 ↔ x ∈ ns ∧ (x ∈ pn ∨ Cyc es g x)) (e : sgF ns es f an = sgF ns es g an2) : ∃ h, Lft ns es f g pn h := by
  unfold sgF at e
  obtain ⟨e1, e2⟩ := List.append_inj e (by rw [List.length_map, List.length_map])
  have psE : ∀ c ∈ basisF es (kpF ns es), psum f c = psum g c := fun c hc => by
    obtain ⟨w, a, h1, h2⟩ := basis_ok gok l c hc
    have p1 := psum_mod okf w h1 h2
    have p2 := psum_mod okg w h1 h2
    have : psum f c / 3 = psum g c / 3 := List.map_inj_left.mp e1 c hc
    omega
  have t := ln_edge gok l okf okg psE
  have m0 : ∀ x ∈ ns, (f x - LnF ns es f g x - g x) % 3 = 0 := fun x hx => ln_mod gok l okf okg hx
  generalize LnF ns es f g = L at t m0
  have tb : ∀ e ∈ es, slp g e.1 e.2 - slp f e.1 e.2 = 2 * ((fun x => - L x) e.1 - (fun x => - L x) e.2) := fun e he => by
    have := t e he
    show _ = 2 * (- L e.1 - - L e.2)
    omega
  have aa : ∀ x, x ∈ an ↔ x ∈ an2 := fun x => by
    rw [hf, hg]
    exact ⟨fun ⟨a, b⟩ => ⟨a, b.imp id fun c => cyc_t (h := fun x => - L x) okg okf tb c⟩, fun ⟨a, b⟩ => ⟨a, b.imp id fun c => cyc_t okf okg t c⟩⟩
  have ee : ∀ c, sgC es g an2 c = sgC es g an c := fun c => by
    unfold sgC
    rw [ownS_congr aa]
  have two : ∀ (g : Str → Int) (own : List Str) (a : Str), (own.flatMap fun x => [g x, pnS es g a x]).length = 2 * own.length := fun g own a => by
    induction own with
    | nil => rfl
    | cons x r ih =>
      rw [List.flatMap_cons, List.length_append, ih, List.length_cons]
      simp only [List.length_cons, List.length_nil]
      omega
  have pc : ∀ c ∈ compsF ns es, sgC es f an c = sgC es g an c := fun c hc => by
    rw [← ee]
    refine flat_inj (fun c _ => ?_) e2 c hc
    rw [ee]
    unfold sgC
    rw [two, two]
  have key : ∀ r ∈ ns, comp es r ∈ compsF ns es → ∀ x ∈ ownS an (comp es r), f x = g x ∧ L x = L ((ownS an (comp es r)).headD Str.empty) := fun r hr hc x hx => by
    have q := pc _ hc
    unfold sgC at q
    have q := flat_inj (F := fun x => [f x, pnS es f ((ownS an (comp es r)).headD Str.empty) x]) (G := fun x => [g x, pnS es g ((ownS an (comp es r)).headD Str.empty) x]) (fun _ _ => rfl) q x hx
    obtain ⟨q1, q2⟩ := List.cons.inj q
    have q2 := (List.cons.inj q2).1
    refine ⟨q1, ?_⟩
    have hd := ownS_head hx
    generalize (ownS an (comp es r)).headD Str.empty = a at hd q2 ⊢
    obtain ⟨x1, x2⟩ := ownS_mem.mp hx
    obtain ⟨a1, a2⟩ := ownS_mem.mp hd
    have := pnS_lift gok l okf okg t ((hf a).mp a2).1 (own_con gok l hr a1 x1)
    omega
  have co := compsF_ok gok l
  have cin : ∀ x ∈ ns, comp es x ∈ compsF ns es ∧ x ∈ comp es x := fun x hx => by
    obtain ⟨c, hc, hxc⟩ := List.mem_flatten.mp (co.all x hx)
    obtain ⟨r, hr, rfl⟩ := co.of c hc
    have xx := (comp_mem gok l hx).mpr .refl
    rw [comp_same gok l hx hr xx hxc .refl]
    exact ⟨hc, hxc⟩
  let kk : Str → Int := fun x => if ownS an (comp es x) = [] then 0 else L ((ownS an (comp es x)).headD Str.empty)
  have k0 : ∀ x, x ∈ ns → x ∈ an → L x = kk x := fun x hx ha => by
    have ow : x ∈ ownS an (comp es x) := ownS_mem.mpr ⟨(cin x hx).2, ha⟩
    show L x = if _ then _ else _
    rw [if_neg fun z => by rw [z] at ow; cases ow]
    exact (key x hx (cin x hx).1 x ow).2
  have k3 : ∀ x ∈ ns, kk x % 3 = 0 := fun x hx => by
    show (if _ then _ else _ : Int) % 3 = 0
    by_cases z : ownS an (comp es x) = []
    · rw [if_pos z]; rfl
    · rw [if_neg z]
      have hd : (ownS an (comp es x)).headD Str.empty ∈ ownS an (comp es x) := by
        cases hc : ownS an (comp es x) with
        | nil => exact absurd hc z
        | cons a r => exact List.mem_cons_self
      have q := (key x hx (cin x hx).1 _ hd).1
      have hn := ((hf _).mp (ownS_mem.mp hd).2).1
      have := m0 _ hn
      omega
  have t2 : ∀ e ∈ es, slp f e.1 e.2 - slp g e.1 e.2 = 2 * ((L e.1 - kk e.1) - (L e.2 - kk e.2)) := fun e he => by
    have a := t e he
    obtain ⟨i1, i2⟩ := gok.mem e he
    have : comp es e.1 = comp es e.2 := comp_same gok l i1 i2 (cin _ i1).2 (cin _ i2).2 (.step .refl (nbS_mem.mpr (.inl he)) rfl)
    have : kk e.1 = kk e.2 := by
      show (if _ then _ else _) = if _ then _ else _
      rw [this]
    omega
  refine ⟨fun x => L x - kk x, ⟨fun e he => ?_, fun x hx => ?_, fun x hx => ?_⟩, fun x hx => ?_⟩
  · have a := t2 e he
    have b := slp_pm g e.1 e.2
    rw [fit_pm]
    show slp f e.1 e.2 - 2 * ((L e.1 - kk e.1) - (L e.2 - kk e.2)) = 1 ∨ _
    omega
  · have := k0 x (pin x hx) ((hf x).mpr ⟨pin x hx, .inl hx⟩)
    show L x - kk x = 0
    omega
  · have xn : x ∈ ns := by
      obtain ⟨y, k, _⟩ := hx
      first | exact (adj_in okf k).1 | exact (adj_in okf k).2.1
    have := k0 x xn ((hf x).mpr ⟨xn, .inr hx⟩)
    show L x - kk x = 0
    omega
  · have := m0 x hx
    have := k3 x hx
    show (f x - (L x - kk x) - g x) % 3 = 0
    omega
end
end U

/-! xs += ys, lists -/
namespace U
open PySem PySem.Spec PyProof.Rows L2
section
variable {M : Model} {A : Around} {E : Value → Shared → Prop} {s : Shared}
theorem iadd_lookup : typeLookup (.type "list") (dunderI "add") = pure (some (.builtin "list.__iadd__")) := F.slot_list_iadd.lookup
theorem inplaceOp_lists {a b : Value} {Q : Value → Shared → Prop} (ha : s.TypeIs a "list") (hb : s.TypeIs b "list") (hfill : fillsNumberSlot (.type "list") "add" = pure false)
    (hc : wpAny M A (call (.builtin "list.__iadd__") [a, b]) Q E s) : wpAny M A (inplaceOp .Add a b) Q E s := by
  unfold inplaceOp
  refine wpAny_holding ?_
  have hs : isSeqSlot (some (.builtin "list.__iadd__")) = true := by decide +kernel
  have hfi : fillsInplaceSlot (.type "list") "add" (Operator.Add == .Add) = pure false := by
    unfold fillsInplaceSlot
    show (typeLookup (.type "list") (dunderI "add") >>= fun fi => pure (fi.isSome && !isSeqSlot fi)) = pure false
    rw [iadd_lookup, pure_bind, hs]
    rfl
  have hsi : seqSlot? (.type "list") (dunderI "add") = pure (some (.builtin "list.__iadd__")) := PySem.seqSlot_of iadd_lookup hs
  refine wpAny_bind (wpAny_typeOf ha (wpAny_bind (wpAny_of_eq hfi ?_)))
  show wpAny M A (if false = true then _ else _) Q E s
  rw [if_neg Bool.false_ne_true]
  refine wpAny_bind (binaryOp1_none (nm := "add") ha hb hfill ?_)
  refine wpAny_bind (wpAny_of_eq hsi ?_)
  exact wpAny_bind (wpAny_rule hc)
end
def ipL : TIp := fun x y H Q => ∃ l b xs ys, x = .ref l ∧ y = .ref b ∧ H l = some (.lst xs) ∧ H b = some (.lst ys) ∧ xs.length + ys.length ≤ 100000 ∧ Q (.ref l) (upd H l (.lst (xs ++ ys)))
theorem ip_addL {X : Cx} : PIp X .Add ipL := by
  intro pins s σ H x y v u Q I r1 r2 h
  obtain ⟨l, b, xs, zs, rfl, rfl, hH, hB, hz, q⟩ := h
  cases r1
  cases r2
  obtain ⟨z, its, n, r, hl, e⟩ := I.lstM hH
  obtain ⟨z2, its2, n2, r2, hl2, e2⟩ := I.lstM hB
  have hz : xs.length + zs.length ≤ sizeLine := Nat.le_trans hz (by decide)
  have hsz : its.toArray.size + its2.toArray.size ≤ sizeLine := by rw [List.size_toArray, List.size_toArray]; omega
  have hlong : ¬ (!its.toArray.isEmpty && Builtin.List.listTooLong (its.toArray.size + its2.toArray.size)) = true := by
    rw [notLongL hsz, Bool.and_false]
    exact Bool.false_ne_true
  refine inplaceOp_lists ⟨_, e, rfl⟩ ⟨_, e2, rfl⟩ ?_ ?_
  · exact PySem.noFill_list_add
  refine call_meets F.slot_list_iadd ⟨_, e, rfl⟩ F.entry_list_iadd (F.args_list_iadd_2 _ _)
    (AutoSeq1.list___iadd___list_list_0 l its.toArray n b its2.toArray n2 hlong (by rw [List.size_toArray]; omega) (by omega)) ⟨e, e2, ?_⟩
  refine ⟨.ref l, _, I.lset (its' := its ++ its2) hH e (by simp) (r.append r2) ?_, rfl, q⟩
  rw [List.length_append]
  omega
theorem rd_augL {n : Nat} {te : TE} {D : Ends} {σ : L2.St} {H : Hp} {l : Addr} (hv : σ[n]? = some (some (.ref l))) (h : te σ H fun y H1 => ipL (.ref l) y H1 fun z H2 => D.nx (σ.set n (some z)) H2) : tAug n te ipL D σ H := by
  refine ⟨_, hv, ?_⟩
  exact h
theorem rd_ipL {l b : Addr} {xs ys : List V} {H : Hp} {Q : VK} (h1 : H l = some (.lst xs)) (h2 : H b = some (.lst ys)) (hz : xs.length + ys.length ≤ 100000) (h : Q (.ref l) (upd H l (.lst (xs ++ ys)))) : ipL (.ref l) (.ref b) H Q := ⟨l, b, xs, ys, rfl, rfl, h1, h2, hz, h⟩
end U

/-! signature -/
namespace Law
open PySem PySem.Spec PyProof.Rows L2 U LamX


noncomputable def sigF (ns : List Str) (es : List (Str × Str)) (f : Str → Int) (pn : List Str) : List Int := sgF ns es f (ancF ns es f pn)
def spSig (K : PySem.W.Frag) (T : List (Addr × Str)) : Sp := fun vs H Q _ => ∃ (g n e st ps : Addr) (ns ord pn : List Str) (es : List (Addr × Str × Str)) (f : Str → Int), vs = [.ref g, .ref st, .ref ps] ∧ GSt H g n e st ns ord es f ∧ SqT K H ps (pn.map V.str) ∧ Tabs T H ∧ ns.length ≤ 60 ∧
  ∀ (t : Addr) (H' : Hp), ExtN H H' → Tabs T H' → H' t = some (.tup ((sigF ns (es.map (·.2)) f pn).map V.int)) → Q (.ref t) H'
section
variable {P : Program} {w : World} {K : PySem.W.Frag} {mg : Str → Option Value} {base : Heap}
structure SGa (P : Program) (w : World) (K : PySem.W.Frag) (mg : Str → Option Value) (base : Heap) (T : List (Addr × Str)) : Prop where
  windings : Cal P w K mg base CX0 6 "windings" spWind
  find_anchors : Cal P w K mg base CX0 6 "find_anchors" (spFindAnchO K T)
  components : Cal P w K mg base CX0 3 "components" spComps
  path_sum : Cal P w K mg base CX0 2 "path_sum" (spPsum K)
  shortest_path : Cal P w K mg base CX0 3 "shortest_path" spSP
theorem ok_sig {f : Addr} {fd : FuncData} {T : List (Addr × Str)} (F : Fun K "signature" "signature" s_signature f fd) (B : Bt mg) (C : SGa P w K mg base T) : FnG P w K mg base CX0 7 f fd ["graph", "state", "pinned"] (spSig K T) := by
  refine fnG0 F sc_signature (fun vs H Q E h => ?_) (fun cdv A outer s H vs Q E hr h => ?_)
  · obtain ⟨g, n, e, st, ps, ns, ord, pn, es, f, rfl, _⟩ := h
    rfl
  · obtain ⟨g, n, e, st, ps, ns, ord, pn, es, f, rfl, gs, hps, tabs, n60, q⟩ := h
    have nd := sc_signature.nd
    have hu := hr.u1
    refine ⟨_, (pss_cons (ps_set (i := 3) nd rfl (by first | exact Or.inl rfl | exact Or.inr rfl) (pe_c C.windings hr (by decide) rfl (pa_cons (pv 0) (pa_cons (pv 1) pa_nil))))
  (pss_cons (ps_set (i := 4) nd rfl (by first | exact Or.inl rfl | exact Or.inr rfl) (pe_c C.find_anchors hr (by decide) rfl (pa_cons (pv 0) (pa_cons (pv 1) (pa_cons (pv 2) pa_nil)))))
  (pss_cons (ps_for PassesOwn.never rfl (ki_list K rfl (pe_c C.components hr (by decide) rfl (pa_cons (pv 0) pa_nil))) (pg_name (i := 5) nd rfl (by first | exact Or.inl rfl | exact Or.inr rfl)) (pss_cons (ps_setLc (i := 6) (own := [("node", 7)]) rfl nd rfl rfl (sw_true rfl rfl rfl (by decide +kernel)) (ki_list K rfl (pv 5)) (blkOk_by (own := [("node", 7)]) (N := nN_signature) (sc := defScope s_signature) (by decide +kernel)) (fun _ _ _ _ _ => (pg_name (i := 7) nd rfl (by first | exact Or.inl rfl | exact Or.inr rfl))) (fun _ _ _ _ _ => (pts_one (pt_cmpR (kIn K rfl) (pv 7) (pv 4) rfl))) (fun _ _ _ _ _ => (pv 7)))
  (pss_one (ps_for PassesOwn.never rfl (ki_list K rfl (pv 6)) (pg_name (i := 7) nd rfl (by first | exact Or.inl rfl | exact Or.inr rfl)) (pss_one (ps_aug (i := 3) nd rfl (Or.inl rfl) (pe_lst (pa_cons (pe_dget hu (pv 1) (pv 7) (fun _ _ => rfl)) (pa_cons (pe_c C.path_sum hr (by decide) rfl (pa_cons (pv 1) (pa_cons (pe_c C.shortest_path hr (by decide) rfl (pa_cons (pv 0) (pa_cons (pe_ix (kIx K rfl) (pv 6) pe_int (fun _ _ => rfl)) (pa_cons (pv 7) pa_nil)))) pa_nil))) pa_nil))) ip_addL))))))
  (pss_one (ps_ret (pe_callTy (kTuple K rfl) (by rfl) B.tuple bb_tuple (pa_cons (pv 3) pa_nil))))))), ?_⟩
    have l1 : ns.length ≤ 1000 := by omega
    wtm_at "rd"
    refine ⟨g, n, e, st, ns, ord, es, f, rfl, gs, n60, fun l0 H1 s1 fl0 hl0 => ?_⟩
    have tb1 := tabs.ext fun b o h => s1 b o h
    wtm_at "rd"
    refine ⟨g, n, e, st, ps, ns, ord, pn, es, f, rfl, gs.same s1, Same.seqT s1 hps, tb1, fun al H2 x2 tb2 nal hal => ?_⟩
    have x02 : ExtN H H2 := (ExtN.of fun b o h => s1 b o h).trans x2
    have nal : l0 ≠ al := nal _ _ hl0 (fun _ z => nomatch z)
    have hl0 := ExtN.li x2 hl0
    wtm_at "rd"
    refine ⟨g, n, e, ns, es, rfl, (gs.ext x02).grs, n60, fun cl cs H3 s3 fcl fcs la ecs => ?_⟩
    have x03 : ExtN H H3 := x02.trans (ExtN.of fun b o h => s3 b o h)
    have tb3 := tb2.ext fun b o h => s3 b o h
    have ncl : cl ≠ l0 := Ne.symm (ne_of_none hl0 fcl)
    have ncs : ∀ c ∈ cs, c.1 ≠ l0 := fun c hc => Ne.symm (ne_of_none hl0 (fcs c hc))
    have hl0 := s3 _ _ hl0
    have hal := s3 _ _ hal
    have anI : ∀ x, x ∈ ancF ns (es.map (·.2)) f pn ↔ x ∈ ns ∧ (x ∈ pn ∨ Cyc (es.map (·.2)) f x) := fun x => ancF_mem
    unfold sigF at *
    generalize ancF ns (es.map (·.2)) f pn = an at *
    have co := compsF_ok gs.ok l1
    have l3 := gs.l3
    have csl : cs.length ≤ 60 := by
      have key : ∀ (xs : List (List Str)), (∀ c ∈ xs, 0 < c.length) → xs.length ≤ xs.flatten.length := by
        intro xs
        induction xs with
        | nil => exact fun _ => Nat.le_refl _
        | cons c r ih =>
          intro h
          have a := h c List.mem_cons_self
          have b := ih fun d hd => h d (List.mem_cons_of_mem _ hd)
          rw [List.flatten_cons, List.length_append, List.length_cons]
          omega
      have a := key (compsF ns (es.map (·.2))) fun c hc => by
        obtain ⟨r, _, rfl⟩ := co.of c hc
        exact comp_pos
      have b := co.len gs.ok
      have c := congrArg List.length ecs
      rw [List.length_map] at c
      omega
    wtm_at "rd"
    refine rd_forL (SqL.of la.li) ?_
    refine turnsL (K := K) (xs := cs.map fun c => V.ref c.1) (fun i σ H' => ∃ (u5 u6 u7 : Option V) (N : List Int), σ = [some (.ref g), some (.ref st), some (.ref ps), some (.ref l0), some (.ref al), u5, u6, u7] ∧ ExtN H H' ∧ Tabs T H' ∧ But l0 H3 H' ∧ H' l0 = some (.lst (N.map V.int)) ∧ N.length ≤ 10000 + 200 * i ∧ N = (bsF ns (es.map (·.2))).map (fun c => psum f c / 3) ++ (((cs.map (·.2)).take i).flatMap (sgC (es.map (·.2)) f an))) ⟨_, _, _, _, rfl, x03, tb3, But.refl, hl0, ?_, by rw [List.take_zero, List.flatMap_nil, List.append_nil]⟩ ?_ ?_ ?_
    · rw [List.length_map]
      have : (bsF ns (es.map (·.2))).length ≤ es.length := by
        show (basisF _ _).length ≤ _
        unfold basisF
        rw [List.length_map]
        exact Nat.le_trans (List.length_filter_le _ _) (by rw [List.length_map]; exact Nat.le_refl _)
      omega
    · rintro i σ H' hi ⟨_, _, _, _, rfl, _, _, bt, _⟩
      exact SqL.of (bt _ _ ncl la.li)
    · rintro i y σ H' hy ⟨u5, u6, u7, N, rfl, x, tb, bt, hl0, nl, eN⟩
      obtain ⟨hi, rfl⟩ := map_at hy
      have hm := List.getElem_mem hi
      have hcl := bt _ _ (ncs _ hm) (la.at_ _ hm)
      obtain ⟨r, hr, er⟩ := co.of _ (by rw [← ecs]; exact List.mem_map_of_mem (f := fun c : Addr × List Str => c.2) hm)
      have tk : ((cs.map (·.2)).take (i + 1)).flatMap (sgC (es.map (·.2)) f an) = ((cs.map (·.2)).take i).flatMap (sgC (es.map (·.2)) f an) ++ sgC (es.map (·.2)) f an cs[i].2 := by
        rw [take_snoc (by rw [List.length_map]; exact hi), List.flatMap_append, List.getElem_map]
        simp only [List.flatMap_cons, List.flatMap_nil, List.append_nil]
      rw [tk, ← List.append_assoc, ← eN]
      have clen : cs[i].2.length ≤ 60 := by
        rw [er]
        exact Nat.le_trans (comp_len gs.ok hr) n60
      have cin : ∀ x ∈ cs[i].2, x ∈ ns := fun x hx => by
        rw [er] at hx
        exact pt_in gs.ok hr ((sortS_perm _).mem_iff.mp hx)
      have ccon : ∀ x ∈ cs[i].2, ∀ y ∈ cs[i].2, Con (es.map (·.2)) x y := fun x hx y hy => by
        rw [er] at hx hy
        exact own_con gs.ok l1 hr hx hy
      clear er eN tk
      generalize cs[i] = c at *
      wtm_at "rd"
      refine rd_forL (SqL.of hcl) ?_
      intro D fD
      refine lcL (K := K) (xs := c.2.map V.str) (fun j H2 => Same H' H2 ∧ H2 D = some (.lst (((c.2.take j).filter fun x => decide (x ∈ an)).map V.str))) ⟨Same.new fD, upd_same⟩ ?_ ?_ ?_
      · rintro j H2 hj ⟨sb, _⟩
        exact SqL.of (sb _ _ hcl)
      · rintro j y H2 hy ⟨sb, hD⟩
        obtain ⟨hj, rfl⟩ := map_at hy
        have len : ((c.2.take j).filter fun x => decide (x ∈ an)).length ≤ 1000 := Nat.le_trans (List.length_filter_le _ _) (by rw [List.length_take]; omega)
        rw [take_snoc hj, List.filter_append, List.map_append]
        generalize c.2[j] = x at *
        wtm_at "rd"
        refine rd_inSL (SqL.of (sb _ _ (bt _ _ (Ne.symm nal) hal))) ?_
        wtm_at "rd"
        refine rd_split (fun c1 => ?_) (fun c1 => ?_)
        · wtm_at "rd"
          refine rd_acc hD (by rw [List.length_map]; omega) ?_
          refine ⟨same_put sb fD, ?_⟩
          rw [upd_same, List.filter_cons, decide_eq_true c1]
          rfl
        · refine ⟨sb, ?_⟩
          rw [show ([x].filter fun x => decide (x ∈ an)) = [] from by rw [List.filter_cons, decide_eq_false c1]; rfl, List.map_nil, List.append_nil]
          exact hD
      rintro H8 ⟨s8, hD⟩
      rw [List.length_map, List.take_length] at hD
      have hD : H8 D = some (.lst ((ownS an c.2).map V.str)) := hD
      have ol : (ownS an c.2).length ≤ 60 := Nat.le_trans (List.length_filter_le _ _) clen
      have oin : ∀ x ∈ ownS an c.2, x ∈ c.2 := fun x hx => (ownS_mem.mp hx).1
      unfold sgC
      generalize ownS an c.2 = own at *
      have nD : D ≠ l0 := Ne.symm (ne_of_none hl0 fD)
      have x := x.trans (ExtN.of fun b o h => s8 b o h)
      have tb := tb.ext fun b o h => s8 b o h
      have hl0 := s8 _ _ hl0
      have bt := bt.trans (But.of_same s8)
      clear s8 fD hcl
      wtm_at "rd"
      refine rd_forL (SqL.of hD) ?_
      refine turnsL (K := K) (xs := own.map V.str) (fun j σ H2 => ∃ u7 : Option V, σ = [some (.ref g), some (.ref st), some (.ref ps), some (.ref l0), some (.ref al), some (.ref c.1), some (.ref D), u7] ∧ ExtN H H2 ∧ Tabs T H2 ∧ But l0 H8 H2 ∧ H2 l0 = some (.lst ((N ++ (own.take j).flatMap fun x => [f x, pnS (es.map (·.2)) f (own.headD Str.empty) x]).map V.int)) ∧ (N ++ (own.take j).flatMap fun x => [f x, pnS (es.map (·.2)) f (own.headD Str.empty) x]).length ≤ 10000 + 200 * i + 2 * j) ⟨_, rfl, x, tb, But.refl, by rw [List.take_zero, List.flatMap_nil, List.append_nil]; exact hl0, by rw [List.take_zero, List.flatMap_nil, List.append_nil]; exact nl⟩ ?_ ?_ ?_
      · rintro j σ H2 hj ⟨_, rfl, _, _, b8, _⟩
        exact SqL.of (b8 _ _ nD hD)
      · rintro j y σ H2 hy ⟨u7, rfl, x, tb, b8, hl0, nl⟩
        obtain ⟨hj, rfl⟩ := map_at hy
        have zo := List.getElem_mem hj
        have tk := take_snoc hj
        rw [tk, List.flatMap_append, ← List.append_assoc]
        have a0 : 0 < own.length := by omega
        have ea : own.headD Str.empty = own[0] := by
          cases own with
          | nil => cases a0
          | cons a r => rfl
        rw [ea] at hl0 nl ⊢
        have ao := List.getElem_mem a0
        have hix : (own.map V.str)[0]? = some (V.str own[0]) := by rw [List.getElem?_map, List.getElem?_eq_getElem a0]; rfl
        generalize own[j] = z at *
        generalize own[0] = a at *
        generalize (own.take j).flatMap (fun x => [f x, pnS (es.map (·.2)) f a x]) = M at *
        have zin := cin _ (oin _ zo)
        have ain := cin _ (oin _ ao)
        have con := ccon _ (oin _ ao) _ (oin _ zo)
        have gs2 := gs.ext x
        wtm_at "rd"
        refine rd_augL rfl ?_
        wtm_at "rd"
        refine rd_dat (.inl gs2.st) (kvF_val (gs.inO _ zin)) rfl ?_
        wtm_at "rd"
        refine rd_ixL (SqL.of (b8 _ _ nD hD)) (v := .str a) (atI_nat (j := 0) hix) ?_
        wtm_at "rd"
        refine ⟨g, n, e, a, z, ns, es, rfl, gs2.grs, ain, zin, fun sp p H5 s5 fsp hsp hp => ?_, fun nc => absurd con nc⟩
        have cl' : ∀ a ∈ ns, ∀ b ∈ nbS (es.map (·.2)) a, b ∈ ns := fun a _ b hb => nbS_in gs.ok hb
        have ed := stF_done (adj := nbS (es.map (·.2))) (ok := fun _ _ => true) (root := a) (i := ns.length) (stF_len cl' ain ns.length) l1
        have hp' : (z, p) ∈ pathsF (nbS (es.map (·.2))) (fun _ _ => true) a := hp
        rw [← ed] at hp'
        have plen := stF_plen _ _ hp'
        have ppt := stF_path _ _ hp'
        have ppt : PathTo (nbS (es.map (·.2))) (fun _ _ => true) a z p := ppt
        have pin := path_inG gs.ok ain ppt
        have plen : p.length ≤ ns.length + 1 := plen
        have epn := pnS_of (f := f) hp
        clear hp hp' ed ppt
        wtm_at "rd"
        refine ⟨st, sp, ord, p, f, rfl, (gs2.same s5).st, SqL.of hsp, fun y hy => gs.inO _ (pin y hy), by omega, fun H6 s6 => ?_⟩
        have s56 := s5.trans s6
        have x6 := x.trans (ExtN.of fun b o h => s56 b o h)
        have tb6 := tb.ext fun b o h => s56 b o h
        have hl6 := s56 _ _ hl0
        wtm_at "rd"
        intro b fb
        have kb := Same.new (o := .lst [.int (f z), .int (psum f p)]) fb
        have hb := @upd_same H6 b (.lst [.int (f z), .int (psum f p)])
        have x7 := x6.trans (ExtN.of fun b o h => kb b o h)
        have tb7 := tb6.ext fun b o h => kb b o h
        have hl7 := kb _ _ hl6
        have b7 := (b8.trans (But.of_same s56)).trans (But.of_same kb)
        generalize upd H6 b (.lst [.int (f z), .int (psum f p)]) = H7 at hb x7 tb7 hl7 b7
        clear kb fb
        refine rd_ipL hl7 hb (by rw [List.length_map]; simp only [List.length_cons, List.length_nil]; omega) ?_
        wtm_at "rd"
        refine ⟨_, rfl, extN_put x7 fl0, tabs_but tb7 hl7 But.upd, b7.trans But.upd, ?_, ?_⟩
        · rw [upd_same, ← epn]
          simp only [List.map_append, List.flatMap_cons, List.flatMap_nil, List.append_nil, List.map_cons, List.map_nil]
        · rw [List.length_append]
          show _ + 2 ≤ _
          omega
      · rintro σ H2 ⟨u7, rfl, x, tb, b8, hl0, nl⟩
        rw [List.length_map, List.take_length] at hl0 nl
        wtm_at "rd"
        exact ⟨_, _, _, _, rfl, x, tb, bt.trans b8, hl0, by omega, rfl⟩
    · rintro σ H' ⟨u5, u6, u7, N, rfl, x, tb, bt, hl0, nl, eN⟩
      rw [List.length_map, List.take_of_length_le (by rw [List.length_map]; exact Nat.le_refl _), ecs] at eN
      wtm_at "rd"
      refine rd_tupleL (SqL.of hl0) ?_
      intro t ft
      have k := Same.new (o := .tup (N.map V.int)) ft
      wtm_at "rd"
      refine q t _ (x.trans (ExtN.of fun b o h => k b o h)) (tb.ext fun b o h => k b o h) ?_
      rw [upd_same, eN]
      rfl
end
end Law

/-! a tuple of anything == () -/
namespace U
open PySem PySem.Spec PyProof.Rows L2
end U

/-! is_obstruction of an obstruction: nothing is raised -/
namespace Law
open PySem PySem.Spec PyProof.Rows L2 U LamX


section
variable {P : Program} {w : World} {K : PySem.W.Frag} {mg : Str → Option Value} {base : Heap}
theorem ok_edgeO {f : Addr} {fd : FuncData} (F : Fun K "edge_of" "edge_of" s_edge_of f fd) (B : Bt mg) : FnG P w K mg base CX0 1 f fd ["first", "second"] spEdgeOf := by
  refine fnG0 F sc_edge_of (fun vs H Q E h => ?_) (fun cdv A outer s H vs Q E hr h => ?_)
  · obtain ⟨x, y, rfl, _⟩ := h
    rfl
  · obtain ⟨x, y, rfl, q⟩ := h
    have nd := sc_edge_of.nd
    refine ⟨_, (pss_one (ps_ret (pe_ifExp (pt_cmpR uLt (pv 0) (pv 1) (nomark _)) (pe_tup (pa_cons (pv 0) (pa_cons (pv 1) pa_nil))) (pe_tup (pa_cons (pv 1) (pa_cons (pv 0) pa_nil)))))), ?_⟩
    wtm_at "rd"
    refine rd_split (fun c => ?_) (fun c => ?_)
    · have c : sLt x y := c
      rw [if_pos c] at q
      wtm_at "rd"
      exact fun t ft => q t ft
    · have c : ¬ sLt x y := c
      rw [if_neg c] at q
      wtm_at "rd"
      exact fun t ft => q t ft
end
end Law

/-! tuples of numbers compared; a pair in a tuple of pairs; numbers == [] -/
namespace U
open PySem PySem.Spec PyProof.Rows L2
def rInT (K : PySem.W.Frag) : R2 := fun x y H Q => ∃ (d : PyData) (ds : List PyData), Dp K H x d ∧ Dp K H y (.tuple ds) ∧ SeqAt.shaped d = true ∧ SeqAt.shaped (.tuple ds) = true ∧ Q (.bl (ds.any fun z => PyData.eqv z d)) H
theorem kInT {X : Cx} (K : PySem.W.Frag) (hK : X.K = K) (hu : X.A.units + 65 < cLine) : OpR X (compareOp .In) (rInT K) := by
  subst hK
  intro pins s σ H x y v u Q I rx ry ⟨d, ds, hd, he, sd, se, q⟩
  obtain ⟨_, r1⟩ := Dp.reads I _ _ _ hd rx
  obtain ⟨_, r2⟩ := Dp.reads I _ _ _ he ry
  exact SeqAt.in_tuple_reads r2 r1 (SeqAt.canLay_of_shaped se) (SeqAt.canLay_of_shaped sd) (room_in_shaped sd hu) ⟨.bl _, H, I, rfl, q⟩
theorem rd_inTE {K : PySem.W.Frag} {H : Hp} {Q : VK} {p q : Addr} {e : Str × Str} {es : List (Addr × Str × Str)} (hp : SqT K H p [.str e.1, .str e.2]) (hq : SqT K H q (es.map fun x => V.ref x.1)) (pr : ∀ x ∈ es, SqT K H x.1 [.str x.2.1, .str x.2.2])
    (o1 : PyData.strOk e.1 = true ∧ PyData.strOk e.2 = true) (o2 : ∀ x ∈ es.map (·.2), PyData.strOk x.1 = true ∧ PyData.strOk x.2 = true) (h : Q (.bl (decide (e ∈ es.map (·.2)))) H) : rInT K (.ref p) (.ref q) H Q := by
  refine ⟨dE e, _, .tup hp (.cons (.str _) (.cons (.str _) .nil)), .tup hq (dp_edges pr), shaped_edge o1, shaped_edgesT o2, ?_⟩
  rw [any_dE]
  exact h
theorem canI : ∀ xs : List Int, PyData.canLayAll0 (xs.map PyData.int) = true ∧ PyData.depthAll (xs.map PyData.int) = 0
  | [] => by simp [PyData.canLayAll0, PyData.depthAll]
  | x :: r => by simp [PyData.canLayAll0, PyData.depthAll, PyData.canLay0, PyData.depth, (canI r).1, (canI r).2]
theorem shapedIT (xs : List Int) : SeqAt.shaped (.tuple (xs.map PyData.int)) = true := by
  unfold SeqAt.shaped
  rw [PyData.canLay0, (canI xs).1, PyData.depth, (canI xs).2]
  rfl
theorem dpI {K : PySem.W.Frag} {H : Hp} : ∀ xs : List Int, DpAll K H (xs.map V.int) (xs.map PyData.int)
  | [] => .nil
  | x :: r => .cons (.int x) (dpI r)
theorem eqvAll_ints : ∀ (xs ys : List Int), PyData.eqvAll (xs.map PyData.int) (ys.map PyData.int) = decide (xs = ys)
  | [], [] => by simp [PyData.eqvAll]
  | [], y :: ys => by simp [PyData.eqvAll]
  | x :: xs, [] => by simp [PyData.eqvAll]
  | x :: xs, y :: ys => by
    rw [List.map_cons, List.map_cons, PyData.eqvAll, eqvAll_ints xs ys, Bool.eq_iff_iff]
    simp [PyData.eqv]
section
variable {K : PySem.W.Frag} {H : Hp} {Q : VK} {p q : Addr} {xs ys : List Int}
theorem rd_neIT (hp : SqT K H p (xs.map V.int)) (hq : SqT K H q (ys.map V.int)) (h : Q (.bl (!decide (xs = ys))) H) : rNeU K (.ref p) (.ref q) H Q := by
  refine ⟨_, _, .tup hp (dpI _), .tup hq (dpI _), shapedIT _, shapedIT _, ?_⟩
  rw [PyData.eqv, eqvAll_ints]
  exact h
end
end U

/-! sorted(d) where d's keys are tuples of numbers -/
namespace U
open PySem PySem.Spec PyProof.Rows L2
section
variable {X : Cx}
end
end U

/-! d.setdefault(k, x) with tuples as keys; list(d.values()) of such a dict -/
namespace U
open PySem PySem.Spec PyProof.Rows L2 L2.DX
section
variable {X : Cx}
end
end U

/-! sorted(a tuple of texts) -/
namespace U
open PySem PySem.Spec PyProof.Rows L2
section
variable {X : Cx}
end
section
variable {X : Cx} (K : PySem.W.Frag) (hK : X.K = K)
include hK
end
end U

/-! sorted(a tuple of texts, or of pairs of texts); two tuples joined -/
namespace U
open PySem PySem.Spec PyProof.Rows L2
section
variable {X : Cx}
end
section
variable {X : Cx} (K : PySem.W.Frag) (hK : X.K = K)
include hK
end
section
variable {K : PySem.W.Frag} {H : Hp} {Q : VK} {p : Addr}
end
end U

/-! all states that can be reached, found breadth-first: the plain law -/
namespace U
open PySem PySem.Spec PyProof.Rows L2
section
variable {ns : List Str} {es : List (Str × Str)} {f g h : Str → Int} {pn : List Str}
/-- the states found so far, the first at of them done -/
structure RchS (ns : List Str) (es : List (Str × Str)) (pn : List Str) (f : Str → Int) (ss : List (List Int × Nat)) (at_ : Nat) : Prop where
  nd : (ss.map (·.1)).Nodup
  ok : ∀ s ∈ ss, ∃ ms f', Plays ns es pn f ms f' ∧ ms.length = s.2 ∧ s.1 = ns.map f'
  z : ∃ r, ss = (ns.map f, 0) :: r
  mono : ∀ i j (hi : i ≤ j) (hj : j < ss.length), (ss[i]'(Nat.lt_of_le_of_lt hi hj)).2 ≤ ss[j].2
  top : ∀ (h : at_ < ss.length) j (hj : j < ss.length), ss[j].2 ≤ ss[at_].2 + 1
  cl : ∀ i (h : i < ss.length), i < at_ → ∀ f1, EsOk ns es f1 → ss[i].1 = ns.map f1 → ∀ m, Legal ns es f1 pn m → ∃ k, k ≤ ss[i].2 + 1 ∧ (ns.map (updf f1 m.1 m.2), k) ∈ ss
theorem RchS.start : RchS ns es pn f [(ns.map f, 0)] 0 := by
  refine ⟨by simp, fun s hs => ?_, ⟨[], rfl⟩, fun i j hi hj => ?_, fun h j hj => ?_, fun i h hi => absurd hi (Nat.not_lt_zero _)⟩
  · rw [List.mem_singleton.mp hs]
    exact ⟨[], f, .nil, rfl, rfl⟩
  · have : j = 0 := by
      have : j < 1 := hj
      omega
    subst this
    have : i = 0 := by omega
    subst this
    exact Nat.le_refl _
  · have : j = 0 := by
      have : j < 1 := hj
      omega
    subst this
    exact Nat.zero_le _
/-- one more -/
theorem RchS.add {ss : List (List Int × Nat)} {a : Nat} (r : RchS ns es pn f ss a) (ha : a < ss.length) {f1 : Str → Int} (e1 : ss[a].1 = ns.map f1) (ok1 : EsOk ns es f1) {m : Str × Int} (lg : Legal ns es f1 pn m) (new : ns.map (updf f1 m.1 m.2) ∉ ss.map (·.1)) :
    RchS ns es pn f (ss ++ [(ns.map (updf f1 m.1 m.2), ss[a].2 + 1)]) a := by
  have at1 : ∀ j (hj : j < ss.length) (hj2 : j < (ss ++ [(ns.map (updf f1 m.1 m.2), ss[a].2 + 1)]).length), (ss ++ [(ns.map (updf f1 m.1 m.2), ss[a].2 + 1)])[j] = ss[j] := fun j hj _ => List.getElem_append_left hj
  have at2 : ∀ j (hj2 : j < (ss ++ [(ns.map (updf f1 m.1 m.2), ss[a].2 + 1)]).length), ¬ j < ss.length → (ss ++ [(ns.map (updf f1 m.1 m.2), ss[a].2 + 1)])[j] = (ns.map (updf f1 m.1 m.2), ss[a].2 + 1) := fun j hj2 hn => by
    rw [List.length_append, List.length_singleton] at hj2
    have : j = ss.length := by omega
    subst this
    rw [List.getElem_append_right (Nat.le_refl _)]
    simp
  obtain ⟨r0, ez⟩ := r.z
  refine ⟨?_, fun s hs => ?_, ⟨r0 ++ [(ns.map (updf f1 m.1 m.2), ss[a].2 + 1)], congrArg (fun l => l ++ [(ns.map (updf f1 m.1 m.2), ss[a].2 + 1)]) ez⟩, fun i j hi hj => ?_, fun h j hj => ?_, fun i h hi g1 og eg m' lm => ?_⟩
  · rw [List.map_append, List.nodup_append]
    refine ⟨r.nd, by simp, fun x hx y hy e => ?_⟩
    rw [List.map_cons, List.map_nil, List.mem_singleton] at hy
    rw [e, hy] at hx
    exact new hx
  · rcases List.mem_append.mp hs with hs | hs
    · exact r.ok s hs
    · rw [List.mem_singleton.mp hs]
      obtain ⟨ms, f', p, l, e⟩ := r.ok _ (List.getElem_mem ha)
      have ag := e.symm.trans e1
      rw [List.map_inj_left] at ag
      have lg' : Legal ns es f' pn m := ⟨lg.mem, lg.pin, lg.val, by rw [ag _ lg.mem]; exact lg.own, fun z hz => by
        have : z ∈ ns := by
          rcases hz with hz | hz
          · exact (ok1.mem _ hz).2
          · exact (ok1.mem _ hz).1
        rw [ag z this]
        exact lg.nbr z hz⟩
      refine ⟨_, _, p.snoc lg', by rw [List.length_append, l]; rfl, ?_⟩
      show ns.map (updf f1 m.1 m.2) = ns.map (updf f' m.1 m.2)
      have ee := e.symm.trans e1
      rw [List.map_inj_left] at ee
      refine List.map_congr_left fun x hx => ?_
      unfold updf
      rw [ee x hx]
  · by_cases q : j < ss.length
    · rw [at1 j q hj, at1 i (by omega) (by omega)]
      exact r.mono i j hi q
    · rw [at2 j hj q]
      by_cases q2 : i < ss.length
      · rw [at1 i q2 (by omega)]
        exact r.top ha i q2
      · rw [at2 i (by omega) q2]
        exact Nat.le_refl _
  · rw [at1 a ha h]
    by_cases q : j < ss.length
    · rw [at1 j q hj]
      exact r.top ha j q
    · rw [at2 j hj q]
      exact Nat.le_refl _
  · have q : i < ss.length := by omega
    rw [at1 i q h] at eg ⊢
    obtain ⟨k, k1, k2⟩ := r.cl i q hi g1 og eg m' lm
    exact ⟨k, k1, List.mem_append_left _ k2⟩
/-- one is done -/
theorem RchS.done {ss : List (List Int × Nat)} {a : Nat} (r : RchS ns es pn f ss a) (ha : a < ss.length) (all : ∀ f1, EsOk ns es f1 → ss[a].1 = ns.map f1 → ∀ m, Legal ns es f1 pn m → ∃ k, k ≤ ss[a].2 + 1 ∧ (ns.map (updf f1 m.1 m.2), k) ∈ ss) : RchS ns es pn f ss (a + 1) :=
  ⟨r.nd, r.ok, r.z, r.mono, fun h j hj => Nat.le_trans (r.top ha j hj) (Nat.add_le_add_right (r.mono a (a + 1) (Nat.le_succ _) h) 1), fun i h hi f1 o1 e1 m lm => by
    by_cases q : i = a
    · subst q
      exact all f1 o1 e1 m lm
    · exact r.cl i h (by omega) f1 o1 e1 m lm⟩
/-- all that moves reach is found, at its distance -/
theorem RchS.all {ss : List (List Int × Nat)} (r : RchS ns es pn f ss ss.length) (okf : EsOk ns es f) (nd : ns.Nodup) {ms : List (Str × Int)} {f' : Str → Int} (p : Plays ns es pn f ms f') : ∃ k, k ≤ ms.length ∧ (ns.map f', k) ∈ ss := by
  induction p with
  | nil =>
    obtain ⟨r0, e⟩ := r.z
    exact ⟨0, Nat.le_refl _, by rw [e]; exact List.mem_cons_self⟩
  | @snoc ms f1 m p lg ih =>
    obtain ⟨k, k1, k2⟩ := ih
    obtain ⟨ok1, _⟩ := plays_lift okf nd p
    obtain ⟨i, hi, e⟩ := List.mem_iff_getElem.mp k2
    obtain ⟨k', q1, q2⟩ := r.cl i hi hi f1 ok1 (by rw [e]) m lg
    rw [e] at q1
    refine ⟨k', ?_, q2⟩
    rw [List.length_append, List.length_singleton]
    have : k' ≤ k + 1 := q1
    omega
end
end U

/-! dicts whose keys are tuples of numbers; tuples of three values -/
namespace U
open PySem PySem.Spec PyProof.Rows L2
def allT : Nat → List (List Int)
  | 0 => [[]]
  | n + 1 => (allT n).flatMap fun s => [0 :: s, 1 :: s, 2 :: s]
theorem allT_len : ∀ n, (allT n).length = 3 ^ n
  | 0 => rfl
  | n + 1 => by
    have key : ∀ xs : List (List Int), (xs.flatMap fun s => [0 :: s, 1 :: s, 2 :: s]).length = 3 * xs.length := by
      intro xs
      induction xs with
      | nil => rfl
      | cons x r ih =>
        rw [List.flatMap_cons, List.length_append, ih, List.length_cons]
        simp only [List.length_cons, List.length_nil]
        omega
    rw [allT, key, allT_len n, Nat.pow_succ, Nat.mul_comm]
theorem allT_mem : ∀ {n : Nat} {s : List Int}, s.length = n → (∀ v ∈ s, 0 ≤ v ∧ v < 3) → s ∈ allT n
  | 0, [], _, _ => List.mem_singleton.mpr rfl
  | n + 1, v :: s, h, b => by
    have ih := allT_mem (s := s) (Nat.succ.inj h) fun w hw => b w (List.mem_cons_of_mem _ hw)
    refine List.mem_flatMap.mpr ⟨s, ih, ?_⟩
    have := b v List.mem_cons_self
    have : v = 0 ∨ v = 1 ∨ v = 2 := by omega
    rcases this with rfl | rfl | rfl <;> simp
/-- few states -/
theorem RchS.few {ns : List Str} {es : List (Str × Str)} {pn : List Str} {f : Str → Int} {ss : List (List Int × Nat)} {a : Nat} (r : RchS ns es pn f ss a) (okf : EsOk ns es f) (nd : ns.Nodup) (n7 : ns.length ≤ 7) : ss.length ≤ 2187 := by
  have := nodup_len (ys := allT ns.length) r.nd fun s hs => by
    obtain ⟨t, ht, rfl⟩ := List.mem_map.mp hs
    obtain ⟨ms, f', p, _, e⟩ := r.ok t ht
    obtain ⟨ok', _⟩ := plays_lift okf nd p
    rw [e]
    refine allT_mem (List.length_map _) fun v hv => ?_
    obtain ⟨x, hx, rfl⟩ := List.mem_map.mp hv
    exact ok'.tri x hx
  rw [List.length_map, allT_len] at this
  have : 3 ^ ns.length ≤ 3 ^ 7 := Nat.pow_le_pow_right (by decide) n7
  omega
end U

/-! slices and sums of tuples, the tuple itself told -/
namespace Law
open PySem PySem.Spec PyProof.Rows L2 U
end Law

/-! a random problem: the graph, the state, the pins -/
namespace U
open PySem PySem.Spec PyProof.Rows L2
abbrev dP (e : Int × Int) : PyData := .tuple [.int e.1, .int e.2]
theorem eqv_dP {a b : Int × Int} : PyData.eqv (dP a) (dP b) = decide (a = b) := by
  obtain ⟨a1, a2⟩ := a
  obtain ⟨b1, b2⟩ := b
  rw [Bool.eq_iff_iff]
  simp [dP, PyData.eqv, PyData.eqvAll]
theorem any_dP {es : List (Int × Int)} {e : Int × Int} : ((es.map dP).any fun z => PyData.eqv z (dP e)) = decide (e ∈ es) := by
  rw [Bool.eq_iff_iff, List.any_eq_true, decide_eq_true_iff]
  constructor
  · rintro ⟨z, hz, h⟩
    obtain ⟨y, hy, rfl⟩ := List.mem_map.mp hz
    rw [eqv_dP, decide_eq_true_iff] at h
    rw [← h]
    exact hy
  · intro h
    exact ⟨_, List.mem_map_of_mem h, by rw [eqv_dP]; exact decide_eq_true rfl⟩
theorem dp_prs {K : PySem.W.Frag} {H : Hp} : ∀ {es : List (Addr × Int × Int)}, (∀ x ∈ es, SqT K H x.1 [.int x.2.1, .int x.2.2]) → DpAll K H (es.map fun x => V.ref x.1) ((es.map (·.2)).map dP)
  | [], _ => .nil
  | x :: r, h => .cons (.tup (h x List.mem_cons_self) (.cons (.int _) (.cons (.int _) .nil))) (dp_prs fun y hy => h y (List.mem_cons_of_mem _ hy))
theorem can_prs : ∀ {es : List (Int × Int)}, PyData.canLayAll0 (es.map dP) = true ∧ PyData.depthAll (es.map dP) ≤ 1
  | [] => by simp [PyData.canLayAll0, PyData.depthAll]
  | e :: r => by
    obtain ⟨a, b⟩ := can_prs (es := r)
    have c : (dP e).canLay0 = true := by simp [dP, PyData.canLay0, PyData.canLayAll0]
    have d : (dP e).depth = 1 := by simp [dP, PyData.depth, PyData.depthAll]
    rw [List.map_cons, PyData.canLayAll0, PyData.depthAll, a, c, d]
    exact ⟨rfl, by omega⟩
theorem rd_ninLP {K : PySem.W.Frag} {H : Hp} {Q : VK} {p q : Addr} {e : Int × Int} {es : List (Addr × Int × Int)} (hp : SqT K H p [.int e.1, .int e.2]) (hq : SqL K H q (es.map fun x => V.ref x.1)) (pr : ∀ x ∈ es, SqT K H x.1 [.int x.2.1, .int x.2.2])
    (h : Q (.bl (!decide (e ∈ es.map (·.2)))) H) : rNotInD K (.ref p) (.ref q) H Q := by
  refine ⟨dP e, _, .tup hp (.cons (.int _) (.cons (.int _) .nil)), .lst hq (dp_prs pr), ?_, ?_, ?_⟩
  · unfold SeqAt.shaped
    simp [dP, PyData.canLay0, PyData.canLayAll0, PyData.depth, PyData.depthAll]
  · obtain ⟨a, b⟩ := can_prs (es := es.map (·.2))
    unfold SeqAt.shaped
    rw [PyData.canLay0, a, PyData.depth, decide_eq_true (by omega)]
    rfl
  · rw [any_dP]
    exact h
/-- values by names -/
def fV : List Str → List Int → Str → Int
  | w :: ws, v :: vs, x => if x = w then v else fV ws vs x
  | _, _, _ => 0
theorem fV_at : ∀ {ws : List Str} {vs : List Int}, ws.Nodup → ∀ (j : Nat) (h : j < ws.length) (h2 : j < vs.length), fV ws vs ws[j] = vs[j]
  | w :: ws, v :: vs, nd, 0, _, _ => if_pos rfl
  | w :: ws, v :: vs, nd, j + 1, h, h2 => by
    have nd' := List.nodup_cons.mp nd
    have h' : j < ws.length := by simpa using h
    have h2' : j < vs.length := by simpa using h2
    have ne : ws[j] ≠ w := fun z => nd'.1 (z ▸ List.getElem_mem h')
    show (if ws[j] = w then v else fV ws vs ws[j]) = vs[j]
    rw [if_neg ne]
    exact fV_at nd'.2 j h' h2'
theorem getD_l {xs ys : List Int} {i : Nat} (h : i < xs.length) : (xs ++ ys).getD i 0 = xs.getD i 0 := by
  rw [List.getD_eq_getElem?_getD, List.getD_eq_getElem?_getD, List.getElem?_append_left h]
theorem getD_end {xs : List Int} {v : Int} : (xs ++ [v]).getD xs.length 0 = v := by
  rw [List.getD_eq_getElem?_getD, List.getElem?_append_right (Nat.le_refl _), Nat.sub_self]
  rfl
/-- pairs of places, each once, with other values -/
structure PrOk (vals : List Int) (prs : List (Nat × Nat)) : Prop where
  nd : prs.Nodup
  ok : ∀ x ∈ prs, x.1 < x.2 ∧ x.2 < vals.length ∧ vals.getD x.1 0 ≠ vals.getD x.2 0
theorem PrOk.nil {vals : List Int} : PrOk vals [] := ⟨List.nodup_nil, fun x h => nomatch h⟩
theorem PrOk.val {vals : List Int} {prs : List (Nat × Nat)} {v : Int} (h : PrOk vals prs) : PrOk (vals ++ [v]) prs := ⟨h.nd, fun x hx => by
  obtain ⟨a, b, c⟩ := h.ok x hx
  refine ⟨a, by rw [List.length_append]; omega, ?_⟩
  rw [getD_l (by omega), getD_l b]
  exact c⟩
theorem PrOk.add {vals : List Int} {prs : List (Nat × Nat)} {a b : Nat} (h : PrOk vals prs) (n : (a, b) ∉ prs) (h1 : a < b) (h2 : b < vals.length) (h3 : vals.getD a 0 ≠ vals.getD b 0) : PrOk vals (prs ++ [(a, b)]) := by
  refine ⟨?_, fun x hx => ?_⟩
  · rw [List.nodup_append]
    refine ⟨h.nd, by simp, fun x hx y hy e => ?_⟩
    rw [List.mem_singleton] at hy
    subst hy
    subst e
    exact n hx
  · rcases List.mem_append.mp hx with hx | hx
    · exact h.ok x hx
    · rw [List.mem_singleton] at hx
      subst hx
      exact ⟨h1, h2, h3⟩
theorem sort2 {a b : Str} {ys : List Str} (n : a ≠ b) (p : ys.Perm [a, b]) (s : ys.Pairwise fun a b => ¬ sLt b a) : ys = [(eOf a b).1, (eOf a b).2] := by
  have l := p.length_eq
  match ys, l with
  | [y1, y2], _ =>
    have m1 : y1 ∈ [a, b] := p.mem_iff.mp List.mem_cons_self
    have m2 : y2 ∈ [a, b] := p.mem_iff.mp (List.mem_cons_of_mem _ List.mem_cons_self)
    have ndp : [y1, y2].Nodup := p.nodup_iff.mpr (by simp [n])
    have ne : y1 ≠ y2 := by simpa using ndp
    have ns : ¬ sLt y2 y1 := by
      rw [List.pairwise_cons] at s
      exact s.1 y2 (List.mem_singleton.mpr rfl)
    simp only [List.mem_cons, List.not_mem_nil, or_false] at m1 m2
    unfold eOf
    rcases m1 with rfl | rfl <;> rcases m2 with rfl | rfl
    · exact absurd rfl ne
    · rw [if_pos (sLt_total ns ne)]
    · rw [if_neg ns]
    · exact absurd rfl ne
theorem nodup_ix {xs : List Str} (nd : xs.Nodup) {i j : Nat} {hi : i < xs.length} {hj : j < xs.length} (e : xs[i] = xs[j]) : i = j := by
  have h := List.pairwise_iff_getElem.mp (List.nodup_iff_pairwise_ne.mp nd)
  rcases Nat.lt_trichotomy i j with z | z | z
  · exact absurd e (h i j hi hj z)
  · exact z
  · exact absurd e.symm (h j i hj hi z)
theorem getDU {α : Type} {xs : List α} {i : Nat} {d : α} (h : i < xs.length) : xs.getD i d = xs[i] := by
  rw [List.getD_eq_getElem?_getD, List.getElem?_eq_getElem h]
  rfl
end U
namespace Law
open PySem PySem.Spec PyProof.Rows L2 U


abbrev iP (x : Nat × Nat) : Int × Int := ((x.1 : Int), (x.2 : Int))
/-- values and pairs being made -/
structure BK (H0 : Hp) (p vA pA : Addr) (vals : List Int) (prs : List (Addr × Nat × Nat)) (H : Hp) : Prop where
  go : Go p H0 H
  hv : H vA = some (.lst (vals.map V.int))
  hp : H pA = some (.lst (prs.map fun x => V.ref x.1))
  tp : ∀ x ∈ prs, H x.1 = some (.tup [.int (x.2.1 : Nat), .int (x.2.2 : Nat)])
structure BN (H0 : Hp) (p vA pA : Addr) : Prop where
  fv : H0 vA = none
  fp : H0 pA = none
  vp : vA ≠ p
  pp : pA ≠ p
  vq : vA ≠ pA
section
variable {H0 H H2 : Hp} {p vA pA : Addr} {vals : List Int} {prs : List (Addr × Nat × Nat)}
theorem PoolAt.offTB {q : Addr} {xs : List V} (h : PoolAt H p) (hq : H q = some (.tup xs)) : q ≠ p := by
  rintro rfl
  obtain ⟨ys, h⟩ := h.isL
  rw [hq] at h
  cases h
theorem BK.new (b : BK H0 p vA pA vals prs H) {t : Addr} {o : HO} (f : H t = none) : BK H0 p vA pA vals prs (upd H t o) :=
  ⟨b.go.new f, at_upd (ne_of_none b.hv f) b.hv, at_upd (ne_of_none b.hp f) b.hp, fun x hx => at_upd (ne_of_none (b.tp x hx) f) (b.tp x hx)⟩
theorem BK.step (b : BK H0 p vA pA vals prs H) (n : BN H0 p vA pA) (g : Go p H H2) : BK H0 p vA pA vals prs H2 :=
  ⟨b.go.trans g, g.at b.hv n.vp, g.at b.hp n.pp, fun x hx => g.at (b.tp x hx) (b.go.pool.offTB (b.tp x hx))⟩
theorem BK.val (b : BK H0 p vA pA vals prs H) (n : BN H0 p vA pA) {v : Int} : BK H0 p vA pA (vals ++ [v]) prs (upd H vA (.lst (vals.map V.int ++ [.int v]))) :=
  ⟨b.go.put n.fv (Ne.symm n.vp), by rw [upd_same, List.map_append]; rfl, at_upd (Ne.symm n.vq) b.hp, fun x hx => at_upd (ne_of (b.tp x hx) b.hv (by intro z; cases z)) (b.tp x hx)⟩
theorem BK.pair (b : BK H0 p vA pA vals prs H) (n : BN H0 p vA pA) {t : Addr} {x y : Nat} (ht : H t = some (.tup [.int (x : Nat), .int (y : Nat)])) : BK H0 p vA pA vals (prs ++ [(t, x, y)]) (upd H pA (.lst ((prs.map fun x => V.ref x.1) ++ [.ref t]))) :=
  ⟨b.go.put n.fp (Ne.symm n.pp), at_upd n.vq b.hv, by rw [upd_same, List.map_append]; rfl, fun z hz => by
    rcases List.mem_append.mp hz with hz | hz
    · exact at_upd (ne_of (b.tp z hz) b.hp (by intro z; cases z)) (b.tp z hz)
    · rw [List.mem_singleton] at hz
      subst hz
      exact at_upd (ne_of ht b.hp (by intro z; cases z)) ht⟩
end
theorem Go.same {p : Addr} {H H1 H2 : Hp} (a : Go p H H1) (s : Same H1 H2) : Go p H H2 := a.trans (Go.of_same a.pool s)
def PrsAt (H : Hp) (es : List (Addr × Str × Str)) : Prop := ∀ x ∈ es, H x.1 = some (.tup [.str x.2.1, .str x.2.2])
theorem PrsAt.same {H H' : Hp} {es : List (Addr × Str × Str)} (h : PrsAt H es) (s : Same H H') : PrsAt H' es := fun x hx => s _ _ (h x hx)
theorem PrsAt.go {p : Addr} {H H' : Hp} {es : List (Addr × Str × Str)} (h : PrsAt H es) (hp : PoolAt H p) (g : Go p H H') : PrsAt H' es := fun x hx => g.at (h x hx) (hp.offTB (h x hx))
/-- a random problem -/
def spProblem : Sp := fun vs H Q _ => ∃ (p : Addr) (most : Int), vs = [.ref p, .int most] ∧ PoolAt H p ∧ 0 ≤ most ∧ most ≤ 25 ∧
  ∀ (t g n e st ps : Addr) (ns ord pn : List Str) (es : List (Addr × Str × Str)) (f : Str → Int) (H' : Hp), Go p H H' → H t = none → H g = none → H st = none → H ps = none → H' t = some (.tup [.ref g, .ref st, .ref ps]) → GrAt H' g n e ns es → GrOk ns (es.map (·.2)) → ord.Perm ns → (ns.length : Int) ≤ most → es.length ≤ 1000 →
    H' st = some (.dK (kvF ord f)) → (∀ x ∈ ns, 0 ≤ f x ∧ f x < 3) → (∀ x ∈ es, f x.2.1 ≠ f x.2.2) → H' ps = some (.tup (pn.map V.str)) → (∀ x ∈ pn, x ∈ ns) → pn.length ≤ ns.length → Asc pn → Q (.ref t) H'
section
variable {P : Program} {w : World} {K : PySem.W.Frag} {mg : Str → Option Value} {base : Heap}
structure B3a (P : Program) (w : World) (K : PySem.W.Frag) (mg : Str → Option Value) (base : Heap) : Prop where
  _law_draw : Cal P w K mg base CX0 1 "_law_draw" spDraw
  _law_random_names : Cal P w K mg base CX0 3 "_law_random_names" spNamesB
theorem ok_problem {f : Addr} {fd : FuncData} (F : Fun K "_law_random_problem" "_law_random_problem" s__law_random_problem f fd) (B : Bt mg) (C : B3a P w K mg base) : FnG P w K mg base CX0 4 f fd ["_law_source", "_law_most"] spProblem := by
  refine fnG0 F sc__law_random_problem (fun vs H Q E h => ?_) (fun cdv A outer s H vs Q E hr h => ?_)
  · obtain ⟨p, most, rfl, _⟩ := h
    rfl
  · obtain ⟨p, most, rfl, hp0, m0, m1, q⟩ := h
    have nd := sc__law_random_problem.nd
    have hu := hr.u1
    have hu65 : (A.deeper (envOfC "_law_random_problem" (defScope s__law_random_problem) s.heap.objs.size f cdv)).units + 65 < cLine := by
      have := hr.u100
      omega
    refine ⟨_, (pss_cons (ps_set (i := 2) nd rfl (by first | exact Or.inl rfl | exact Or.inr rfl) (pe_lst pa_nil))
  (pss_cons (ps_set (i := 3) nd rfl (by first | exact Or.inl rfl | exact Or.inr rfl) (pe_lst pa_nil))
  (pss_cons (ps_for PassesOwn.never rfl (pi_range1 rfl B.range (pa_cons (pe_c C._law_draw hr (by decide) rfl (pa_cons (pv 0) (pa_cons (pe_op (kAdd K rfl) (pv 1) pe_int) pa_nil))) pa_nil)) (pg_name (i := 4) nd rfl (by first | exact Or.inl rfl | exact Or.inr rfl)) (pss_cons (ps_set (i := 5) nd rfl (by first | exact Or.inl rfl | exact Or.inr rfl) (pe_c C._law_draw hr (by decide) rfl (pa_cons (pv 0) (pa_cons pe_int pa_nil))))
  (pss_cons (ps_set (i := 6) nd rfl (by first | exact Or.inl rfl | exact Or.inr rfl) (pe_c C._law_draw hr (by decide) rfl (pa_cons (pv 0) (pa_cons pe_int pa_nil))))
  (C8.pss_cut (ps_if (PW.pt (pw_and (pt_cmpR uGt (pv 4) pe_int (nomark _)) (pw_and1 (pt_cmpR uGt (pv 6) pe_int (nomark _))))) (C8.pss_cut (ps_set (i := 7) nd rfl (by first | exact Or.inl rfl | exact Or.inr rfl) (pe_ifExp (pt_cmpR uLt (pv 6) pe_int (nomark _)) (pe_op uSub (pv 4) pe_int) (pe_c C._law_draw hr (by decide) rfl (pa_cons (pv 0) (pa_cons (pv 4) pa_nil)))))
  (pss_cons (ps_set (i := 5) nd rfl (by first | exact Or.inl rfl | exact Or.inr rfl) (pe_op uMod (pe_op (kAdd K rfl) (pe_op (kAdd K rfl) (pe_ix (kIx K rfl) (pv 2) (pv 7) (fun _ _ => rfl)) pe_int) (pe_op uMod (pv 5) pe_int)) pe_int))
  (pss_one (ps_expr (pe_bm PySem.F.plainAttrs_list PySem.F.slot_list_append PySem.F.type_list_append mt_append (pv 3) (pa_cons (pe_tup (pa_cons (pv 7) (pa_cons (pv 4) pa_nil))) pa_nil)))))) pss_nil)
  (pss_one (ps_expr (pe_bm PySem.F.plainAttrs_list PySem.F.slot_list_append PySem.F.type_list_append mt_append (pv 2) (pa_cons (pv 5) pa_nil))))))))
  (pss_cons (ps_set (i := 8) nd rfl (by first | exact Or.inl rfl | exact Or.inr rfl) (pe_c C._law_draw hr (by decide) rfl (pa_cons (pv 0) (pa_cons pe_int pa_nil))))
  (pss_cons (ps_for PassesOwn.never rfl (pi_range1 rfl B.range (pa_cons (pe_callB (kLen K rfl) (by rfl) B.len bb_len (pa_cons (pv 2) pa_nil)) pa_nil)) (pg_name (i := 4) nd rfl (by first | exact Or.inl rfl | exact Or.inr rfl)) (pss_one (ps_for PassesOwn.never rfl (pi_range1 rfl B.range (pa_cons (pv 4) pa_nil)) (pg_name (i := 7) nd rfl (by first | exact Or.inl rfl | exact Or.inr rfl)) (pss_one (ps_if (PW.pt (pw_and (pt_cmpR (kNinL K rfl hu65) (pe_tup (pa_cons (pv 7) (pa_cons (pv 4) pa_nil))) (pv 3) rfl) (pw_and (pt_cmpR (kNe K rfl hr.u64) (pe_ix (kIx K rfl) (pv 2) (pv 7) (fun _ _ => rfl)) (pe_ix (kIx K rfl) (pv 2) (pv 4) (fun _ _ => rfl)) (nomark _)) (pw_and1 (pt_cmpR uLt (pe_c C._law_draw hr (by decide) rfl (pa_cons (pv 0) (pa_cons pe_int pa_nil))) (pv 8) (nomark _)))))) (pss_one (ps_expr (pe_bm PySem.F.plainAttrs_list PySem.F.slot_list_append PySem.F.type_list_append mt_append (pv 3) (pa_cons (pe_tup (pa_cons (pv 7) (pa_cons (pv 4) pa_nil))) pa_nil)))) pss_nil)))))
  (pss_cons (ps_set (i := 9) nd rfl (by first | exact Or.inl rfl | exact Or.inr rfl) (pe_c C._law_random_names hr (by decide) rfl (pa_cons (pv 0) (pa_cons (pe_callB (kLen K rfl) (by rfl) B.len bb_len (pa_cons (pv 2) pa_nil)) pa_nil))))
  (pss_cons (ps_set (i := 10) nd rfl (by first | exact Or.inl rfl | exact Or.inr rfl) (pe_callB (kSorted K rfl hr.u64) (by rfl) B.sorted bb_sorted (pa_cons (pe_lc (own := [("_law_one", 11), ("_law_other", 12)]) rfl nd (ki_list K rfl (pv 3)) (blkOk_by (own := [("_law_one", 11), ("_law_other", 12)]) (N := nN__law_random_problem) (sc := defScope s__law_random_problem) (by decide +kernel)) (fun _ _ _ _ _ => (kg_tup (n := 2) K rfl rfl (pgs_cons (pg_name (i := 11) nd rfl (by first | exact Or.inl rfl | exact Or.inr rfl)) (pgs_cons (pg_name (i := 12) nd rfl (by first | exact Or.inl rfl | exact Or.inr rfl)) pgs_nil)))) (fun _ _ _ _ _ => pts_nil) (fun _ _ _ _ _ => (pe_callTy (kTuple K rfl) (by rfl) B.tuple bb_tuple (pa_cons (pe_callB (kSorted K rfl hr.u64) (by rfl) B.sorted bb_sorted (pa_cons (pe_lst (pa_cons (pe_ix (kIx K rfl) (pv 9) (pv 11) (fun _ _ => rfl)) (pa_cons (pe_ix (kIx K rfl) (pv 9) (pv 12) (fun _ _ => rfl)) pa_nil))) pa_nil)) pa_nil)))) pa_nil)))
  (pss_cons (ps_set (i := 13) nd rfl (by first | exact Or.inl rfl | exact Or.inr rfl) pe_dnewK)
  (pss_cons (ps_for PassesOwn.never rfl (pi_range1 rfl B.range (pa_cons (pe_callB (kLen K rfl) (by rfl) B.len bb_len (pa_cons (pv 9) pa_nil)) pa_nil)) (pg_name (i := 4) nd rfl (by first | exact Or.inl rfl | exact Or.inr rfl)) (pss_one (ps_dput hu (pv 13) (pe_ix (kIx K rfl) (pv 9) (pv 4) (fun _ _ => rfl)) (pe_ix (kIx K rfl) (pv 2) (pv 4) (fun _ _ => rfl)) rfl)))
  (pss_cons (ps_set (i := 14) nd rfl (by first | exact Or.inl rfl | exact Or.inr rfl) (pe_c C._law_draw hr (by decide) rfl (pa_cons (pv 0) (pa_cons pe_int pa_nil))))
  (pss_cons (ps_setLc (i := 15) (own := [("_law_word", 16)]) rfl nd rfl rfl (sw_true rfl rfl rfl (by decide +kernel)) (ki_list K rfl (pe_callB (kSorted K rfl hr.u64) (by rfl) B.sorted bb_sorted (pa_cons (pv 9) pa_nil))) (blkOk_by (own := [("_law_word", 16)]) (N := nN__law_random_problem) (sc := defScope s__law_random_problem) (by decide +kernel)) (fun _ _ _ _ _ => (pg_name (i := 16) nd rfl (by first | exact Or.inl rfl | exact Or.inr rfl))) (fun _ _ _ _ _ => (pts_one (PW.pt (pw_and (pt_cmpR uGt (pv 14) pe_int (nomark _)) (pw_and1 (pt_cmpR (kEq K rfl hr.u64) (pe_c C._law_draw hr (by decide) rfl (pa_cons (pv 0) (pa_cons pe_int pa_nil))) pe_int (nomark _))))))) (fun _ _ _ _ _ => (pv 16)))
  (pss_one (ps_ret (pe_tup (pa_cons (pe_tup (pa_cons (pe_callTy (kTuple K rfl) (by rfl) B.tuple bb_tuple (pa_cons (pe_callB (kSorted K rfl hr.u64) (by rfl) B.sorted bb_sorted (pa_cons (pv 9) pa_nil)) pa_nil)) (pa_cons (pe_callTy (kTuple K rfl) (by rfl) B.tuple bb_tuple (pa_cons (pv 10) pa_nil)) pa_nil))) (pa_cons (pv 13) (pa_cons (pe_callTy (kTuple K rfl) (by rfl) B.tuple bb_tuple (pa_cons (pv 15) pa_nil)) pa_nil))))))))))))))))), ?_⟩
    wtm_at "rd"
    intro vA fvA
    have g1 := (Go.refl hp0).new (o := .lst []) fvA
    have hvA := @upd_same H vA (.lst [])
    have nvp := hp0.ne fvA
    generalize upd H vA (.lst []) = H1 at g1 hvA
    wtm_at "rd"
    intro pA fpA
    have bn : BN H p vA pA := ⟨fvA, g1.free _ fpA, Ne.symm nvp, Ne.symm (g1.pool.ne fpA), ne_of_none hvA fpA⟩
    have b2 : BK H p vA pA [] [] (upd H1 pA (.lst [])) := ⟨g1.new fpA, at_upd (ne_of_none hvA fpA) hvA, upd_same, fun x h => nomatch h⟩
    generalize upd H1 pA (.lst []) = H2 at b2
    clear fpA hvA g1 fvA
    wtm_at "rd"
    refine use_draw b2.go.pool (by omega) (by omega) fun many H3 c0 c1 g => ?_
    have b3 := b2.step bn g
    clear b2 g
    wtm_at "rd"
    refine turnsR (fun i σ H' => ∃ (vals : List Int) (prs : List (Addr × Nat × Nat)) (us : List (Option V)), us.length = 13 ∧ σ = some (.ref p) :: some (.int most) :: some (.ref vA) :: some (.ref pA) :: us ∧ BK H p vA pA vals prs H' ∧ vals.length = i ∧ (∀ v ∈ vals, 0 ≤ v ∧ v < 3) ∧ PrOk vals (prs.map (·.2)) ∧ prs.length ≤ i) ⟨[], [], _, by decide, rfl, b3, rfl, (fun v h => nomatch h), .nil, Nat.le_refl _⟩ ?_ ?_
    · rintro i σ H' hi ⟨vals, prs, us, lu, rfl, bk, hvl, v3, po, pl⟩
      obtain ⟨u4, u5, u6, u7, u8, u9, u10, u11, u12, u13, u14, u15, u16, rfl⟩ : ∃ u4 u5 u6 u7 u8 u9 u10 u11 u12 u13 u14 u15 u16, us = [u4, u5, u6, u7, u8, u9, u10, u11, u12, u13, u14, u15, u16] := by
        match us, lu with
        | [u4, u5, u6, u7, u8, u9, u10, u11, u12, u13, u14, u15, u16], _ => exact ⟨_, _, _, _, _, _, _, _, _, _, _, _, _, rfl⟩
      wtm_at "rd"
      refine use_draw bk.go.pool (by decide) (by decide) fun v Ha v0 v1 g => ?_
      have bk := bk.step bn g
      wtm_at "rd"
      refine use_draw bk.go.pool (by decide) (by decide) fun d Hb d0 d1 g => ?_
      have bk := bk.step bn g
      wtm_at "rd"
      refine ⟨fun σ' H2 => ∃ (v' : Int) (u7 : Option V) (prs' : List (Addr × Nat × Nat)), σ' = [some (.ref p), some (.int most), some (.ref vA), some (.ref pA), some (.int (0 + (i : Int))), some (.int v'), some (.int d), u7, u8, u9, u10, u11, u12, u13, u14, u15, u16] ∧ BK H p vA pA vals prs' H2 ∧ 0 ≤ v' ∧ v' < 3 ∧ PrOk (vals ++ [v']) (prs'.map (·.2)) ∧ prs'.length ≤ i + 1, ?_, ?_⟩
      · wtm_at "rd"
        refine rd_split (fun c1 => ?_) (fun c1 => ?_)
        · wtm_at "rd"
          refine rd_split (fun c2 => ?_) (fun c2 => ?_)
          · wtm_at "rd"
            refine ⟨fun σ' H2 => ∃ j : Nat, j < i ∧ σ' = [some (.ref p), some (.int most), some (.ref vA), some (.ref pA), some (.int (0 + (i : Int))), some (.int v), some (.int d), some (.int j), u8, u9, u10, u11, u12, u13, u14, u15, u16] ∧ BK H p vA pA vals prs H2, ?_, ?_⟩
            · wtm_at "rd"
              refine rd_split (fun c3 => ?_) (fun c3 => ?_)
              · wtm_at "rd"
                exact ⟨i - 1, by omega, by rw [show (0 + (i : Int) - 1) = ((i - 1 : Nat) : Int) from by omega]; rfl, bk⟩
              · wtm_at "rd"
                refine use_draw bk.go.pool (by omega) (by omega) fun r Hc r0 r1 g => ?_
                exact ⟨r.toNat, by omega, by rw [show r = (r.toNat : Int) from by omega]; rfl, bk.step bn g⟩
            rintro σ' Hc ⟨j, hj, rfl, bk⟩
            have hjv : j < vals.length := by omega
            wtm_at "rd"
            refine rd_ixL (SqL.of bk.hv) (v := .int vals[j]) (atI_nat (by rw [List.getElem?_map, List.getElem?_eq_getElem hjv]; rfl)) ?_
            have vj := v3 _ (List.getElem_mem hjv)
            have eg : vals.getD j 0 = vals[j] := getDU hjv
            generalize vals[j] = x at *
            wtm_at "rd"
            refine rd_tyL bk.hp ?_
            wtm_at "rd"
            intro t ft
            have e0 : (0 + (i : Int)) = (i : Int) := Int.zero_add _
            rw [e0]
            have bk := bk.new (o := .tup [.int (j : Nat), .int (i : Nat)]) ft
            have ht := @upd_same Hc t (.tup [.int (j : Nat), .int (i : Nat)])
            generalize upd Hc t (.tup [.int (j : Nat), .int (i : Nat)]) = Hd at bk ht
            wtm_at "rd"
            refine rd_append bk.hp (by rw [List.length_map]; omega) ?_
            refine ⟨_, _, prs ++ [(t, j, i)], rfl, bk.pair bn ht, by omega, by omega, ?_, by rw [List.length_append]; exact Nat.add_le_add_right pl 1⟩
            rw [List.map_append]
            refine po.val.add (fun z => ?_) hj (by rw [List.length_append, hvl]; exact Nat.lt_succ_self _) ?_
            · obtain ⟨_, z2, _⟩ := po.ok _ z
              omega
            · rw [getD_l hjv, eg, ← hvl, getD_end]
              omega
          · wtm_at "rd"
            exact ⟨_, _, _, rfl, bk, v0, v1, po.val, by omega⟩
        · wtm_at "rd"
          exact ⟨_, _, _, rfl, bk, v0, v1, po.val, by omega⟩
      rintro σ' Hc ⟨v', u7, prs', rfl, bk, v0', v1', po', pl'⟩
      wtm_at "rd"
      refine rd_tyL bk.hv ?_
      wtm_at "rd"
      refine rd_append bk.hv (by rw [List.length_map]; omega) ?_
      refine ⟨vals ++ [v'], prs', _, by rfl, rfl, bk.val bn, by rw [List.length_append, hvl]; rfl, fun z hz => ?_, po', pl'⟩
      rcases List.mem_append.mp hz with hz | hz
      · exact v3 z hz
      · rw [List.mem_singleton] at hz
        omega
    rintro σ H4 ⟨vals, prs, us, lu, rfl, bk, hvl, v3, po, pl⟩
    obtain ⟨u4, u5, u6, u7, u8, u9, u10, u11, u12, u13, u14, u15, u16, rfl⟩ : ∃ u4 u5 u6 u7 u8 u9 u10 u11 u12 u13 u14 u15 u16, us = [u4, u5, u6, u7, u8, u9, u10, u11, u12, u13, u14, u15, u16] := by
      match us, lu with
      | [u4, u5, u6, u7, u8, u9, u10, u11, u12, u13, u14, u15, u16], _ => exact ⟨_, _, _, _, _, _, _, _, _, _, _, _, _, rfl⟩
    have vl25 : vals.length ≤ 25 := by omega
    wtm_at "rd"
    refine use_draw bk.go.pool (by decide) (by decide) fun dens Ha _ _ g => ?_
    have bk := bk.step bn g
    wtm_at "rd"
    refine rd_lenL (SqL.of bk.hv) ?_
    rw [List.length_map]
    wtm_at "rd"
    refine turnsR (fun i σ H' => ∃ (prs : List (Addr × Nat × Nat)) (u4 u7 : Option V), σ = [some (.ref p), some (.int most), some (.ref vA), some (.ref pA), u4, u5, u6, u7, some (.int dens), u9, u10, u11, u12, u13, u14, u15, u16] ∧ BK H p vA pA vals prs H' ∧ PrOk vals (prs.map (·.2)) ∧ prs.length ≤ 25 + 25 * i) ⟨prs, _, _, rfl, bk, po, by omega⟩ ?_ ?_
    · rintro i σ H' hi ⟨prs, u4, u7, rfl, bk, po, pl⟩
      have hi : i < vals.length := by omega
      wtm_at "rd"
      refine turnsR (fun j σ H' => ∃ (prs : List (Addr × Nat × Nat)) (u7 : Option V), σ = [some (.ref p), some (.int most), some (.ref vA), some (.ref pA), some (.int (0 + (i : Int))), u5, u6, u7, some (.int dens), u9, u10, u11, u12, u13, u14, u15, u16] ∧ BK H p vA pA vals prs H' ∧ PrOk vals (prs.map (·.2)) ∧ prs.length ≤ 25 + 25 * i + j) ⟨prs, _, rfl, bk, po, by omega⟩ ?_ ?_
      · rintro j σ H' hj ⟨prs, u7, rfl, bk, po, pl⟩
        have hj : j < i := by omega
        have hjv : j < vals.length := by omega
        have e0 : (0 + (i : Int)) = (i : Int) := Int.zero_add _
        have e1 : (0 + (j : Int)) = (j : Int) := Int.zero_add _
        rw [e0, e1]
        wtm_at "rd"
        intro t ft
        have bk := bk.new (o := .tup [.int (j : Nat), .int (i : Nat)]) ft
        have ht := @upd_same H' t (.tup [.int (j : Nat), .int (i : Nat)])
        generalize upd H' t (.tup [.int (j : Nat), .int (i : Nat)]) = Hb at bk ht
        wtm_at "rd"
        refine rd_ninLP (K := K) (e := ((j : Int), (i : Int))) (es := prs.map fun x => (x.1, iP x.2)) (SqT.of ht) (SqL.of (by rw [List.map_map]; exact bk.hp)) (fun x hx => by
          obtain ⟨y, hy, rfl⟩ := List.mem_map.mp hx
          exact SqT.of (bk.tp y hy)) ?_
        have emem : (((j : Int), (i : Int)) ∈ (prs.map fun x => (x.1, iP x.2)).map (·.2)) ↔ (j, i) ∈ prs.map (·.2) := by
          rw [List.map_map]
          constructor
          · intro z
            obtain ⟨y, hy, e⟩ := List.mem_map.mp z
            have e' : iP y.2 = ((j : Int), (i : Int)) := e
            have a1 := congrArg Prod.fst e'
            have a2 := congrArg Prod.snd e'
            have b1 : y.2.1 = j := by have : (y.2.1 : Int) = (j : Int) := a1; omega
            have b2 : y.2.2 = i := by have : (y.2.2 : Int) = (i : Int) := a2; omega
            exact List.mem_map.mpr ⟨y, hy, Prod.ext b1 b2⟩
          · intro z
            obtain ⟨y, hy, e⟩ := List.mem_map.mp z
            refine List.mem_map.mpr ⟨y, hy, ?_⟩
            show iP y.2 = _
            rw [e]
        wtm_at "rd"
        refine rd_nsplit (fun c1 => ?_) (fun c1 => ?_)
        · wtm_at "rd"
          refine rd_ixL (SqL.of bk.hv) (v := .int vals[j]) (atI_nat (by rw [List.getElem?_map, List.getElem?_eq_getElem hjv]; rfl)) ?_
          wtm_at "rd"
          refine rd_ixL (SqL.of bk.hv) (v := .int vals[i]) (atI_nat (by rw [List.getElem?_map, List.getElem?_eq_getElem hi]; rfl)) ?_
          wtm_at "rd"
          refine rd_nsplit (fun c2 => ?_) (fun c2 => ?_)
          · wtm_at "rd"
            refine use_draw bk.go.pool (by decide) (by decide) fun r Hc _ _ g => ?_
            have bk2 := bk.step bn g
            have ht2 := g.at ht (bk.go.pool.offTB ht)
            wtm_at "rd"
            refine rd_split (fun c3 => ?_) (fun c3 => ?_)
            · wtm_at "rd"
              refine rd_tyL bk2.hp ?_
              wtm_at "rd"
              intro t2 ft2
              have bk3 := bk2.new (o := .tup [.int (j : Nat), .int (i : Nat)]) ft2
              have ht3 := @upd_same Hc t2 (.tup [.int (j : Nat), .int (i : Nat)])
              generalize upd Hc t2 (.tup [.int (j : Nat), .int (i : Nat)]) = Hd at bk3 ht3
              wtm_at "rd"
              refine rd_append bk3.hp (by rw [List.length_map]; omega) ?_
              refine ⟨prs ++ [(t2, j, i)], _, rfl, bk3.pair bn ht3, ?_, by rw [List.length_append, List.length_singleton]; omega⟩
              rw [List.map_append]
              refine po.add (fun z => c1 (emem.mpr z)) hj hi ?_
              rw [getDU hjv, getDU hi]
              exact c2
            · wtm_at "rd"
              exact ⟨_, _, rfl, bk2, po, by omega⟩
          · wtm_at "rd"
            exact ⟨_, _, rfl, bk, po, by omega⟩
        · wtm_at "rd"
          exact ⟨_, _, rfl, bk, po, by omega⟩
      · rintro σ H' ⟨prs, u7, rfl, bk, po, pl⟩
        exact ⟨prs, _, _, rfl, bk, po, by omega⟩
    rintro σ H5 ⟨prs, u4, u7, rfl, bk, po, pl⟩
    have pl : prs.length ≤ 700 := by omega
    wtm_at "rd"
    refine rd_lenL (SqL.of bk.hv) ?_
    rw [List.length_map]
    wtm_at "rd"
    refine ⟨p, _, rfl, by omega, by omega, bk.go.pool, fun wA ws H6 g fwA hwA nu lw => ?_⟩
    have nwp := (bk.go.pool.ne fwA).symm
    have bk := bk.step bn g
    have lw : ws.length = vals.length := by omega
    clear g fwA
    wtm_at "rd"
    refine rd_forL (SqL.of bk.hp) ?_
    intro D fD
    refine lcL (K := K) (xs := prs.map fun x => V.ref x.1) (fun i H' => ∃ es : List (Addr × Str × Str), Same H6 H' ∧ H' D = some (.lst (es.map fun x => V.ref x.1)) ∧ PrsAt H' es ∧ es.map (·.2) = ((prs.take i).map fun x => eOf (ws.getD x.2.1 "") (ws.getD x.2.2 ""))) ⟨[], Same.new fD, upd_same, (fun x h => nomatch h), rfl⟩ ?_ ?_ ?_
    · rintro i H' hi ⟨es, sb, _⟩
      exact SqL.of (sb _ _ bk.hp)
    · rintro i y H' hy ⟨es, sb, hD, tp, em⟩
      obtain ⟨hi, rfl⟩ := map_at hy
      have pin := List.getElem_mem hi
      have ht := sb _ _ (bk.tp _ pin)
      have tk : prs.take (i + 1) = prs.take i ++ [prs[i]] := by
        rw [List.take_succ, List.getElem?_eq_getElem hi]
        rfl
      have le : es.length ≤ 700 := by
        have := congrArg List.length em
        rw [List.length_map, List.length_map, List.length_take] at this
        omega
      obtain ⟨x1, x2, x3⟩ := po.ok _ (List.mem_map_of_mem (f := fun x : Addr × Nat × Nat => x.2) pin)
      rcases hx : prs[i] with ⟨xa, a, b⟩
      rw [hx] at ht x1 x2 x3 tk
      dsimp only at ht x1 x2 x3 ⊢
      have ha : a < ws.length := by rw [lw]; exact Nat.lt_trans x1 x2
      have hb : b < ws.length := by rw [lw]; exact x2
      have ne : ws[a] ≠ ws[b] := fun z => by
        have := nodup_ix nu.nd z
        have x1 : a < b := x1
        omega
      refine rd_unp (SqT.of (xs := [.int (a : Nat), .int (b : Nat)]) ht) rfl ?_
      wtm_at "rd"
      refine rd_ixL (SqL.of (sb _ _ hwA)) (v := .str ws[a]) (atI_nat (by rw [List.getElem?_map, List.getElem?_eq_getElem ha]; rfl)) ?_
      wtm_at "rd"
      refine rd_ixL (SqL.of (sb _ _ hwA)) (v := .str ws[b]) (atI_nat (by rw [List.getElem?_map, List.getElem?_eq_getElem hb]; rfl)) ?_
      wtm_at "rd"
      intro t1 ft1
      have k1 := Same.new (o := .lst [.str ws[a], .str ws[b]]) ft1
      wtm_at "rd"
      refine rd_sortS (xs := [ws[a], ws[b]]) (SqL.of upd_same) (by show 2 ≤ 100000; decide) ?_
      intro ys py sy t2 ft2
      have k2 := Same.new (o := .lst (ys.map V.str)) ft2
      wtm_at "rd"
      refine rd_tupleL (SqL.of upd_same) ?_
      intro t3 ft3
      have k3 := Same.new (o := .tup (ys.map V.str)) ft3
      have sA := (k1.trans k2).trans k3
      have h3 := @upd_same (upd (upd H' t1 (.lst [.str ws[a], .str ws[b]])) t2 (.lst (ys.map V.str))) t3 (.tup (ys.map V.str))
      generalize upd (upd (upd H' t1 (.lst [.str ws[a], .str ws[b]])) t2 (.lst (ys.map V.str))) t3 (.tup (ys.map V.str)) = Ha at sA h3
      rw [sort2 ne py sy] at h3
      refine rd_acc (sA _ _ hD) (by rw [List.length_map]; omega) ?_
      have hDa := sA _ _ hD
      refine ⟨es ++ [(t3, eOf ws[a] ws[b])], same_put (sb.trans sA) fD, by rw [upd_same, List.map_append]; rfl, fun z hz => ?_, ?_⟩
      · rcases List.mem_append.mp hz with hz | hz
        · exact at_upd (ne_of (sA _ _ (tp z hz)) hDa (by intro z; cases z)) (sA _ _ (tp z hz))
        · rw [List.mem_singleton] at hz
          subst hz
          exact at_upd (ne_of h3 hDa (by intro z; cases z)) h3
      · rw [tk, List.map_append, List.map_append, em]
        show _ = _ ++ [eOf (ws.getD a "") (ws.getD b "")]
        rw [getDU ha, getDU hb]
        rfl
    rintro H7 ⟨es, s7, hD, tp, em⟩
    rw [List.length_map, List.take_length] at em
    have el : es.length ≤ 700 := by
      have := congrArg List.length em
      rw [List.length_map, List.length_map] at this
      omega
    have g7 := bk.go.same s7
    have hw := s7 _ _ hwA
    have hv := s7 _ _ bk.hv
    clear hwA bk s7 fD
    wtm_at "rd"
    refine rd_sortE (SqL.of hD) (fun x hx => SqT.of (tp x hx)) (by omega) ?_
    intro es2 pe se
    have tp : PrsAt H7 es2 := fun x hx => tp x (pe.mem_iff.mp hx)
    intro eA feA
    have nep := (g7.pool.ne feA).symm
    have k := Same.new (o := .lst (es2.map fun x => V.ref x.1)) feA
    have he := @upd_same H7 eA (.lst (es2.map fun x => V.ref x.1))
    have hw := k _ _ hw
    have hv := k _ _ hv
    have tp := tp.same k
    have g7 := g7.same k
    generalize upd H7 eA (.lst (es2.map fun x => V.ref x.1)) = H8 at he hw hv tp g7
    clear k feA hD
    wtm_at "rd"
    intro stA fst
    have nsp := (g7.pool.ne fst).symm
    have nws := ne_of_none hw fst
    have nvs := ne_of_none hv fst
    have nes := ne_of_none he fst
    have fst0 := g7.free _ fst
    have k := Same.new (o := .dK []) fst
    have hs := @upd_same H8 stA (.dK [])
    have hw := k _ _ hw
    have hv := k _ _ hv
    have he := k _ _ he
    have tp := tp.same k
    have g7 := g7.same k
    generalize upd H8 stA (.dK []) = H9 at he hw hv tp g7 hs
    clear k fst
    wtm_at "rd"
    refine rd_lenL (SqL.of hw) ?_
    rw [List.length_map]
    wtm_at "rd"
    refine turnsR (fun i σ H' => ∃ u4 : Option V, σ = [some (.ref p), some (.int most), some (.ref vA), some (.ref pA), u4, u5, u6, u7, some (.int dens), some (.ref wA), some (.ref eA), u11, u12, some (.ref stA), u14, u15, u16] ∧ Go p H H' ∧ But stA H9 H' ∧ H' stA = some (.dK (kvF (ws.take i) (fV ws vals)))) ⟨_, rfl, g7, But.refl, hs⟩ ?_ ?_
    · rintro i σ H' hi ⟨u4, rfl, g, bt, hs⟩
      have hi : i < ws.length := by omega
      have hiv : i < vals.length := by omega
      have e0 : (0 + (i : Int)) = (i : Int) := Int.zero_add _
      rw [e0]
      wtm_at "rd"
      refine rd_ixL (SqL.of (bt _ _ nvs hv)) (v := .int vals[i]) (atI_nat (by rw [List.getElem?_map, List.getElem?_eq_getElem hiv]; rfl)) ?_
      wtm_at "rd"
      refine rd_ixL (SqL.of (bt _ _ nws hw)) (v := .str ws[i]) (atI_nat (by rw [List.getElem?_map, List.getElem?_eq_getElem hi]; rfl)) ?_
      refine rd_dset hs (k := .inr ws[i]) rfl (by rw [List.length_map, List.length_take]; omega) ?_
      refine ⟨_, rfl, g.put fst0 (Ne.symm nsp), bt.trans But.upd, ?_⟩
      have nin : ws[i] ∉ ws.take i := fun z => by
        obtain ⟨j, hj, e⟩ := List.mem_iff_getElem.mp z
        rw [List.getElem_take] at e
        rw [List.length_take] at hj
        have := nodup_ix nu.nd e
        omega
      rw [upd_same, kvF_new nin, show ws.take (i + 1) = ws.take i ++ [ws[i]] from by rw [List.take_succ, List.getElem?_eq_getElem hi]; rfl]
      congr 2
      refine kvF_congr fun x hx => ?_
      unfold updf
      split
      · rename_i c
        rw [c]
        exact (fV_at nu.nd i hi hiv).symm
      · rfl
    rintro σ H10 ⟨u4, rfl, g, bt, hs⟩
    rw [show ((ws.length : Int)).toNat = ws.length from rfl, List.take_length] at hs
    have hw := bt _ _ nws hw
    have he := bt _ _ nes he
    have tp : PrsAt H10 es2 := fun x hx => bt _ _ (ne_of (tp x hx) (by assumption) (by intro z; cases z)) (tp x hx)
    clear bt hv
    wtm_at "rd"
    refine use_draw g.pool (by decide) (by decide) fun share H11 _ _ gd => ?_
    have hw := gd.at hw nwp
    have he := gd.at he nep
    have hs := gd.at hs nsp
    have tp := tp.go g.pool gd
    have g := g.trans gd
    clear gd
    wtm_at "rd"
    refine rd_sortS (SqL.of hw) (by omega) ?_
    intro ns1 pn1 sn1 l1 fl1
    have nl1 := (g.pool.ne fl1).symm
    have k := Same.new (o := .lst (ns1.map V.str)) fl1
    have hl1 := @upd_same H11 l1 (.lst (ns1.map V.str))
    have hw := k _ _ hw
    have he := k _ _ he
    have hs := k _ _ hs
    have tp := tp.same k
    have g := g.same k
    generalize upd H11 l1 (.lst (ns1.map V.str)) = H12 at hl1 hw he hs tp g
    clear k fl1
    wtm_at "rd"
    refine rd_forL (SqL.of hl1) ?_
    intro D2 fD2
    have nD2p := g.pool.ne fD2
    refine lcL (K := K) (xs := ns1.map V.str) (fun i H' => ∃ pn : List Str, pn.Sublist (ns1.take i) ∧ Go p H12 H' ∧ H' D2 = some (.lst (pn.map V.str))) ⟨[], .slnil, (Go.refl g.pool).new fD2, upd_same⟩ ?_ ?_ ?_
    · rintro i H' hi ⟨pn, _, ga, _⟩
      exact SqL.of (ga.at hl1 nl1)
    · rintro i y H' hy ⟨pn, sl, ga, hD2⟩
      obtain ⟨hi, rfl⟩ := map_at hy
      have lp := sl.length_le
      rw [List.length_take] at lp
      have ln1 := pn1.length_eq
      have tk : ns1.take (i + 1) = ns1.take i ++ [ns1[i]] := by
        rw [List.take_succ, List.getElem?_eq_getElem hi]
        rfl
      have skip : pn.Sublist (ns1.take (i + 1)) := by
        rw [tk]
        exact sl.trans (List.sublist_append_left _ _)
      wtm_at "rd"
      refine rd_split (fun c1 => ?_) (fun c1 => ?_)
      · wtm_at "rd"
        refine use_draw ga.pool (by decide) (by decide) fun r Hb _ _ gb => ?_
        have hD3 := gb.at hD2 (Ne.symm nD2p)
        have gc := ga.trans gb
        wtm_at "rd"
        refine rd_split (fun c2 => ?_) (fun c2 => ?_)
        · wtm_at "rd"
          refine rd_acc hD3 (by rw [List.length_map]; omega) ?_
          refine ⟨pn ++ [ns1[i]], ?_, gc.put fD2 nD2p, by rw [upd_same, List.map_append]; rfl⟩
          rw [tk]
          exact sl.append (List.Sublist.refl _)
        · exact ⟨pn, skip, gc, hD3⟩
      · wtm_at "rd"
        exact ⟨pn, skip, ga, hD2⟩
    rintro H13 ⟨pn, sl, ga, hD2⟩
    rw [List.length_map, List.take_length] at sl
    have hw := ga.at hw nwp
    have he := ga.at he nep
    have hs := ga.at hs nsp
    have tp := tp.go g.pool ga
    have g := g.trans ga
    clear ga hl1 fD2
    wtm_at "rd"
    refine rd_sortS (SqL.of hw) (by omega) ?_
    intro ns pn2 sn
    intro l2 fl2
    have kl2 := Same.new (o := .lst (ns.map V.str)) fl2
    have hl2 := @upd_same H13 l2 (.lst (ns.map V.str))
    have he := kl2 _ _ he
    have hs := kl2 _ _ hs
    have hD2 := kl2 _ _ hD2
    have tp := tp.same kl2
    have g := g.same kl2
    generalize upd H13 l2 (.lst (ns.map V.str)) = H14 at hl2 he hs hD2 tp g
    clear kl2 fl2
    wtm_at "rd"
    refine rd_tupleL (SqL.of hl2) ?_
    intro n fn
    have kn := Same.new (o := .tup (ns.map V.str)) fn
    have hn := @upd_same H14 n (.tup (ns.map V.str))
    have he := kn _ _ he
    have hs := kn _ _ hs
    have hD2 := kn _ _ hD2
    have tp := tp.same kn
    have g := g.same kn
    generalize upd H14 n (.tup (ns.map V.str)) = H15 at hn he hs hD2 tp g
    clear kn fn
    wtm_at "rd"
    refine rd_tupleL (SqL.of he) ?_
    intro e fe
    have ke := Same.new (o := .tup (es2.map fun x => V.ref x.1)) fe
    have he := @upd_same H15 e (.tup (es2.map fun x => V.ref x.1))
    have hn := ke _ _ hn
    have hs := ke _ _ hs
    have hD2 := ke _ _ hD2
    have tp := tp.same ke
    have g := g.same ke
    generalize upd H15 e (.tup (es2.map fun x => V.ref x.1)) = H16 at he hn hs hD2 tp g
    clear ke fe
    wtm_at "rd"
    intro gr fgr
    have fgr0 := g.free _ fgr
    have k := Same.new (o := .tup [.ref n, .ref e]) fgr
    have hgr := @upd_same H16 gr (.tup [.ref n, .ref e])
    have hn := k _ _ hn
    have he := k _ _ he
    have hs := k _ _ hs
    have hD2 := k _ _ hD2
    have tp := tp.same k
    have g := g.same k
    generalize upd H16 gr (.tup [.ref n, .ref e]) = H17 at hgr hn he hs hD2 tp g
    clear k fgr
    wtm_at "rd"
    refine rd_tupleL (SqL.of hD2) ?_
    intro ps fps
    have fps0 := g.free _ fps
    have k := Same.new (o := .tup (pn.map V.str)) fps
    have hps := @upd_same H17 ps (.tup (pn.map V.str))
    have hn := k _ _ hn
    have he := k _ _ he
    have hs := k _ _ hs
    have hgr := k _ _ hgr
    have tp := tp.same k
    have g := g.same k
    generalize upd H17 ps (.tup (pn.map V.str)) = H18 at hps hgr hn he hs tp g
    clear k fps
    wtm_at "rd"
    intro t ft
    have ft0 := g.free _ ft
    have k := Same.new (o := .tup [.ref gr, .ref stA, .ref ps]) ft
    have ht := @upd_same H18 t (.tup [.ref gr, .ref stA, .ref ps])
    have hn := k _ _ hn
    have he := k _ _ he
    have hs := k _ _ hs
    have hgr := k _ _ hgr
    have hps := k _ _ hps
    have tp := tp.same k
    have g := g.same k
    generalize upd H18 t (.tup [.ref gr, .ref stA, .ref ps]) = H19 at ht hps hgr hn he hs tp g
    clear k ft
    have nn := nu.perm pn2
    have nn1 := nu.perm pn1
    have inE : ∀ x ∈ es2, ∃ a b, ∃ (ha : a < ws.length) (hb : b < ws.length), a < b ∧ x.2 = eOf ws[a] ws[b] ∧ fV ws vals ws[a] ≠ fV ws vals ws[b] := fun x hx => by
      have m := List.mem_map_of_mem (f := fun x : Addr × Str × Str => x.2) (pe.mem_iff.mp hx)
      rw [em] at m
      obtain ⟨y, hy, e⟩ := List.mem_map.mp m
      obtain ⟨x1, x2, x3⟩ := po.ok _ (List.mem_map_of_mem (f := fun x : Addr × Nat × Nat => x.2) hy)
      have ha : y.2.1 < ws.length := by rw [lw]; exact Nat.lt_trans x1 x2
      have hb : y.2.2 < ws.length := by rw [lw]; exact x2
      refine ⟨y.2.1, y.2.2, ha, hb, x1, ?_, ?_⟩
      · have e' : eOf (ws.getD y.2.1 "") (ws.getD y.2.2 "") = x.2 := e
        rw [getDU ha, getDU hb] at e'
        exact e'.symm
      · rw [fV_at nu.nd _ ha (by omega), fV_at nu.nd _ hb x2, ← getDU (d := (0 : Int)) (by omega : y.2.1 < vals.length), ← getDU (d := (0 : Int)) x2]
        exact x3
    have pe2 : (es2.map (·.2)).Perm (es.map (·.2)) := pe.map _
    have ndE : (es.map (·.2)).Nodup := by
      rw [em, List.nodup_iff_pairwise_ne, List.pairwise_map]
      have h := po.nd
      rw [List.nodup_iff_pairwise_ne, List.pairwise_map] at h
      refine (List.Pairwise.and_mem.mp h).imp ?_
      intro x y ⟨hx, hy, ne⟩ e
      obtain ⟨x1, x2, x3⟩ := po.ok _ (List.mem_map_of_mem (f := fun x : Addr × Nat × Nat => x.2) hx)
      obtain ⟨y1, y2, y3⟩ := po.ok _ (List.mem_map_of_mem (f := fun x : Addr × Nat × Nat => x.2) hy)
      have hxa : x.2.1 < ws.length := by rw [lw]; exact Nat.lt_trans x1 x2
      have hxb : x.2.2 < ws.length := by rw [lw]; exact x2
      have hya : y.2.1 < ws.length := by rw [lw]; exact Nat.lt_trans y1 y2
      have hyb : y.2.2 < ws.length := by rw [lw]; exact y2
      rw [getDU hxa, getDU hxb, getDU hya, getDU hyb] at e
      rcases eOf_inj e with ⟨e1, e2⟩ | ⟨e1, e2⟩
      · have a1 := nodup_ix nu.nd e1
        have a2 := nodup_ix nu.nd e2
        exact ne (Prod.ext a1 a2)
      · have a1 := nodup_ix nu.nd e1
        have a2 := nodup_ix nu.nd e2
        omega
    have asc2 : Asc ns := asc_of_sorted sn nn.nd
    have asc1 : Asc ns1 := asc_of_sorted sn1 nn1.nd
    refine q t gr n e stA ps ns ws pn es2 (fV ws vals) _ g ft0 fgr0 fst0 fps0 ht ⟨hgr, hn, he, tp⟩ ⟨⟨asc2, nn.ok⟩, ?_, ?_, ?_⟩ pn2.symm (by rw [pn2.length_eq]; omega) (by rw [pe.length_eq]; omega) hs (fun x hx => ?_) (fun x hx => ?_) hps (fun x hx => pn2.mem_iff.mpr (pn1.mem_iff.mp (sl.mem hx))) (by have := sl.length_le; rw [pn1.length_eq] at this; rw [pn2.length_eq]; exact this) (asc1.sublist sl)
    · refine ascE_of_sorted ?_ (pe2.nodup_iff.mpr ndE)
      rw [List.pairwise_map]
      exact se
    · intro y hy
      obtain ⟨x, hx, rfl⟩ := List.mem_map.mp hy
      obtain ⟨a, b, ha, hb, h1, h2, h3⟩ := inE x hx
      rw [h2]
      exact eOf_lt fun z => h3 (by rw [z])
    · intro y hy
      obtain ⟨x, hx, rfl⟩ := List.mem_map.mp hy
      obtain ⟨a, b, ha, hb, h1, h2, h3⟩ := inE x hx
      rw [h2]
      have m1 := pn2.mem_iff.mpr (List.getElem_mem ha)
      have m2 := pn2.mem_iff.mpr (List.getElem_mem hb)
      rcases eOf_cases ws[a] ws[b] with z | z <;> rw [z]
      · exact ⟨m1, m2⟩
      · exact ⟨m2, m1⟩
    · obtain ⟨j, hj, rfl⟩ := List.mem_iff_getElem.mp (pn2.mem_iff.mp hx)
      rw [fV_at nu.nd j hj (by omega)]
      exact v3 _ (List.getElem_mem _)
    · obtain ⟨a, b, ha, hb, h1, h2, h3⟩ := inE x hx
      rw [h2]
      rcases eOf_cases ws[a] ws[b] with z | z <;> rw [z]
      · exact h3
      · exact Ne.symm h3
end
end Law

/-! random problems as they are used; neighbors, possible values, a random lift -/
namespace U
open PySem PySem.Spec PyProof.Rows L2
end U
namespace Law
open PySem PySem.Spec PyProof.Rows L2 U


theorem use_problem {H : Hp} {p : Addr} {most : Int} {Q : VK} {E : XK} (h : PoolAt H p) (m0 : 0 ≤ most) (m1 : most ≤ 25)
    (k : ∀ (t g n e st ps : Addr) (ns ord pn : List Str) (es : List (Addr × Str × Str)) (f : Str → Int) (H' : Hp), Go p H H' → H t = none → H g = none → H st = none → H ps = none → H' t = some (.tup [.ref g, .ref st, .ref ps]) → GSt H' g n e st ns ord es f → H' ps = some (.tup (pn.map V.str)) → (∀ x ∈ pn, x ∈ ns) → pn.length ≤ ns.length → Asc pn → (ns.length : Int) ≤ most → Q (.ref t) H') : spProblem [.ref p, .int most] H Q E :=
  ⟨p, most, rfl, h, m0, m1, fun t g n e st ps ns ord pn es f H' go f1 f2 f3 f4 ht gr ok pm ln le hs tri pro hps pin pl asc => k t g n e st ps ns ord pn es f H' go f1 f2 f3 f4 ht ⟨gr, ok, pm, by omega, le, hs, tri, pro⟩ hps pin pl asc ln⟩
theorem GSt.cur {H : Hp} {g n e st c : Addr} {ns ord : List Str} {es : List (Addr × Str × Str)} {f f' : Str → Int} (gs : GSt H g n e st ns ord es f) (hc : H c = some (.dK (kvF ord f'))) (ok : EsOk ns (es.map (·.2)) f') : GSt H g n e c ns ord es f' := ⟨gs.gr, gs.ok, gs.pm, gs.l2, gs.l3, hc, ok.tri, fun x hx => ok.pro _ (List.mem_map_of_mem hx)⟩
section
variable {P : Program} {w : World} {K : PySem.W.Frag} {mg : Str → Option Value} {base : Heap}
end
end Law

/-! a random round of moves -/
namespace Law
open PySem PySem.Spec PyProof.Rows L2 U LamX


theorem rd_neNoT {K : PySem.W.Frag} {H : Hp} {Q : VK} {p q : Addr} {xs : List Str} (hp : SqT K H p (xs.map V.str)) (hq : SqT K H q []) (ok : ∀ x ∈ xs, PyData.strOk x = true) (h : Q (.bl (!xs.isEmpty)) H) : rNeU K (.ref p) (.ref q) H Q := by
  refine ⟨_, _, .tup hp (dp_strs _), .tup hq .nil, ?_, by decide, ?_⟩
  · unfold SeqAt.shaped
    rw [PyData.canLay0, can_strs ok, PyData.depth, dep_strs]
    rfl
  · have : PyData.eqv (.tuple (xs.map PyData.str)) (.tuple []) = xs.isEmpty := by
      cases xs with
      | nil => simp [PyData.eqv, PyData.eqvAll]
      | cons _ _ => simp [PyData.eqv, PyData.eqvAll]
    rw [this]
    exact h
section
variable {P : Program} {w : World} {K : PySem.W.Frag} {mg : Str → Option Value} {base : Heap}
end
end Law

/-! a local name that holds one of two defs, called with keywords; moves sorted -/
namespace U
open PySem PySem.Spec PyProof.Rows L2
/-! ### moves sorted -/
section
variable {K : PySem.W.Frag} {H : Hp} {Q : VK} {p : Addr}
end
/-! ### the moves of a system of two parts -/
end U

/-! plain: positions grouped by a key; a graph with one more edge -/
namespace U
open PySem PySem.Spec PyProof.Rows L2
section
variable {κ : Type} [DecidableEq κ]
def addG (gs : List (κ × List Nat)) (k : κ) (i : Nat) : List (κ × List Nat) := if k ∈ gs.map (·.1) then gs.map (fun g => if g.1 = k then (g.1, g.2 ++ [i]) else g) else gs ++ [(k, [i])]
/-- the groups of the positions below n that are kept -/
def gsF (keep : Nat → Bool) (sg : Nat → κ) : Nat → List (κ × List Nat)
  | 0 => []
  | n + 1 => if keep n then addG (gsF keep sg n) (sg n) n else gsF keep sg n
end
/-- the edges with one more -/
def insE (e : Str × Str) : List (Str × Str) → List (Str × Str)
  | [] => [e]
  | x :: r => if eLt e x then e :: x :: r else x :: insE e r
theorem insE_perm {e : Str × Str} : ∀ {es : List (Str × Str)}, (insE e es).Perm (e :: es)
  | [] => .refl _
  | x :: r => by
    unfold insE
    split
    · exact .refl _
    · exact ((insE_perm (es := r)).cons x).trans (.swap ..)
theorem insE_mem {e y : Str × Str} {es : List (Str × Str)} : y ∈ insE e es ↔ y = e ∨ y ∈ es := by
  rw [insE_perm.mem_iff, List.mem_cons]
theorem insE_asc {e : Str × Str} : ∀ {es : List (Str × Str)}, AscE es → e ∉ es → AscE (insE e es)
  | [], _, _ => List.pairwise_singleton _ _
  | x :: r, h, n => by
    have h' := List.pairwise_cons.mp h
    unfold insE
    split
    · rename_i c
      refine List.pairwise_cons.mpr ⟨fun y hy => ?_, h⟩
      rcases List.mem_cons.mp hy with rfl | hy
      · exact c
      · exact eLt_trans c (h'.1 _ hy)
    · rename_i c
      refine List.pairwise_cons.mpr ⟨fun y hy => ?_, insE_asc h'.2 fun z => n (List.mem_cons_of_mem _ z)⟩
      rcases insE_mem.mp hy with rfl | hy
      · exact eLt_total c fun z => n (by rw [z]; exact List.mem_cons_self)
      · exact h'.1 _ hy
theorem insE_ok {ns : List Str} {es : List (Str × Str)} {e : Str × Str} (ok : GrOk ns es) (lt : sLt e.1 e.2) (h1 : e.1 ∈ ns) (h2 : e.2 ∈ ns) (n : e ∉ es) : GrOk ns (insE e es) :=
  ⟨ok.names, insE_asc ok.asc n, fun x hx => (insE_mem.mp hx).elim (fun z => by rw [z]; exact lt) (ok.lt x), fun x hx => (insE_mem.mp hx).elim (fun z => by rw [z]; exact ⟨h1, h2⟩) (ok.mem x)⟩
theorem insE_eok {ns : List Str} {es : List (Str × Str)} {e : Str × Str} {f : Str → Int} (ok : EsOk ns es f) (h1 : e.1 ∈ ns) (h2 : e.2 ∈ ns) (ne : f e.1 ≠ f e.2) : EsOk ns (insE e es) f :=
  ⟨fun x hx => (insE_mem.mp hx).elim (fun z => by rw [z]; exact fun q => ne (by rw [q])) (ok.ne x), fun x hx => (insE_mem.mp hx).elim (fun z => by rw [z]; exact ⟨h1, h2⟩) (ok.mem x), ok.tri, fun x hx => (insE_mem.mp hx).elim (fun z => by rw [z]; exact ne) (ok.pro x)⟩
/-- an edge in order -/
def eO (x y : Str) : Str × Str := if sLt x y then (x, y) else (y, x)
theorem eO_lt {x y : Str} (n : x ≠ y) : sLt (eO x y).1 (eO x y).2 := by
  unfold eO
  split
  · assumption
  · rename_i h
    rcases sLt_tri x y with z | z | z
    · exact absurd z h
    · exact absurd z n
    · exact z
theorem eO_or (x y : Str) : (eO x y = (x, y)) ∨ eO x y = (y, x) := by
  unfold eO
  split
  · exact .inl rfl
  · exact .inr rfl
theorem eO_mem {ns : List Str} {x y : Str} (hx : x ∈ ns) (hy : y ∈ ns) : (eO x y).1 ∈ ns ∧ (eO x y).2 ∈ ns := by
  rcases eO_or x y with e | e <;> rw [e]
  · exact ⟨hx, hy⟩
  · exact ⟨hy, hx⟩
theorem eO_ne {f : Str → Int} {x y : Str} (h : f x ≠ f y) : f (eO x y).1 ≠ f (eO x y).2 := by
  rcases eO_or x y with e | e <;> rw [e]
  · exact h
  · exact Ne.symm h
def keepE (ed : Option (Str × Str)) (f : Str → Int) : Bool := match ed with
  | none => true
  | some e => !decide (f e.1 = f e.2)
def esE (es : List (Str × Str)) (ed : Option (Str × Str)) : List (Str × Str) := match ed with
  | none => es
  | some e => insE (eO e.1 e.2) es
/-- what may be added -/
def ExOk (ns : List Str) (es : List (Str × Str)) (pn : List Str) (np : Option Str) (ed : Option (Str × Str)) : Prop := (∀ x, np = some x → x ∈ ns ∧ x ∉ pn) ∧ ∀ e, ed = some e → e.1 ∈ ns ∧ e.2 ∈ ns ∧ e.1 ≠ e.2 ∧ eO e.1 e.2 ∉ es
theorem ExOk.gr {ns : List Str} {es : List (Str × Str)} {pn : List Str} {np : Option Str} {ed : Option (Str × Str)} (x : ExOk ns es pn np ed) (ok : GrOk ns es) : GrOk ns (esE es ed) := by
  cases ed with
  | none => exact ok
  | some e =>
    obtain ⟨a, b, c, d⟩ := x.2 e rfl
    exact insE_ok ok (eO_lt c) (eO_mem a b).1 (eO_mem a b).2 d
theorem ExOk.eok {ns : List Str} {es : List (Str × Str)} {pn : List Str} {np : Option Str} {ed : Option (Str × Str)} {f : Str → Int} (x : ExOk ns es pn np ed) (ok : EsOk ns es f) (k : keepE ed f = true) : EsOk ns (esE es ed) f := by
  cases ed with
  | none => exact ok
  | some e =>
    obtain ⟨a, b, c, d⟩ := x.2 e rfl
    refine insE_eok ok (eO_mem a b).1 (eO_mem a b).2 (eO_ne fun z => ?_)
    have k : (!decide (f e.1 = f e.2)) = true := k
    rw [decide_eq_true z] at k
    cases k
end U

/-! f(e, .., k = v, ..): keywords in any order, keyword-only defaults fill the rest -/
namespace U
open PySem PySem.Spec PyProof.Rows L2
end U

/-! split_classes -/
namespace Law
open PySem PySem.Spec PyProof.Rows L2 U LamX


def StsAt (H : Hp) (g n e : Addr) (ns : List Str) (es : List (Addr × Str × Str)) (ss : List (Addr × List Str × (Str → Int))) : Prop := ∀ s ∈ ss, GSt H g n e s.1 ns s.2.1 es s.2.2
theorem StsAt.same {H H' : Hp} {g n e : Addr} {ns : List Str} {es : List (Addr × Str × Str)} {ss : List (Addr × List Str × (Str → Int))} (h : StsAt H g n e ns es ss) (s : Same H H') : StsAt H' g n e ns es ss := fun x hx => (h x hx).same s
theorem StsAt.ext {H H' : Hp} {g n e : Addr} {ns : List Str} {es : List (Addr × Str × Str)} {ss : List (Addr × List Str × (Str → Int))} (h : StsAt H g n e ns es ss) (s : ExtN H H') : StsAt H' g n e ns es ss := fun x hx => (h x hx).ext s
/-- no object of old stands there -/
def NewL (H : Hp) (a : Addr) : Prop := ∀ b o, H b = some o → (∀ ps, o ≠ .tbl ps) → b ≠ a
theorem NewL.of {H : Hp} {a : Addr} (h : H a = none) : NewL H a := fun b o hb _ e => by
  rw [e, h] at hb
  cases hb
theorem NewL.back {H H' : Hp} {a : Addr} (h : NewL H' a) (x : ExtN H H') : NewL H a := fun b o hb n => h b o (x b o hb n) n
theorem NewL.put {H H' : Hp} {a : Addr} {o : HO} (h : NewL H a) (x : ExtN H H') : ExtN H (upd H' a o) := fun b u hb n => at_upd (h b u hb n) (x b u hb n)
noncomputable def sgOf (ns : List Str) (es : List (Str × Str)) (pn : List Str) (ss : List (Addr × List Str × (Str → Int))) (k : Nat) : List Int := match ss[k]? with
  | some s => sigF ns es s.2.2 pn
  | none => []
def EdAt (H : Hp) (v : V) : Option (Str × Str) → Prop
  | none => v = .non
  | some e => ∃ a, v = .ref a ∧ H a = some (.tup [.str e.1, .str e.2])
theorem EdAt.ext {H H' : Hp} {v : V} : ∀ {ed : Option (Str × Str)}, EdAt H v ed → ExtN H H' → EdAt H' v ed
  | none, h, _ => h
  | some e, ⟨a, h1, h2⟩, x => ⟨a, h1, ExtN.tu x h2⟩
theorem EdAt.same {H H' : Hp} {v : V} : ∀ {ed : Option (Str × Str)}, EdAt H v ed → Same H H' → EdAt H' v ed
  | none, h, _ => h
  | some e, ⟨a, h1, h2⟩, x => ⟨a, h1, x _ _ h2⟩
section
variable {P : Program} {w : World} {K : PySem.W.Frag} {mg : Str → Option Value} {base : Heap}
end
end Law

/-! own exceptions with two fields -/
namespace U
open PySem PySem.Spec PyProof.Rows L2
/-- __init__(self, v1, v2): the fields f1 and f2 -/
def spInit2 (C : Addr) (f1 f2 : Str) : Sp := fun vs H Q _ => ∃ (a : Addr) (v1 v2 : V), vs = [.ref a, v1, v2] ∧ H a = some (exo a C none) ∧
  ∀ (dx : Addr) (H' : Hp), H dx = none → dx ≠ a → H' a = some (exo a C (some dx)) → H' dx = some (exd dx [(f2, v2), (f1, v1)]) → (∀ b, b ≠ a → b ≠ dx → H' b = H b) → Q .non H'
theorem rd_mk2 {C : Addr} {f1 f2 : Str} {v1 v2 : V} {H : Hp} {Q : XK} (h : ∀ (dd : Addr) (H' : Hp), Same H H' → H dd = none → H' dd = some (.xd [(f2, v2), (f1, v1)]) → Q (.ref C) (some dd) H') :
    [v1, v2].length ≤ 1000 ∧ ∀ a, H a = none → spInit2 C f1 f2 (.ref a :: ([v1, v2] ++ [])) (upd H a (exo a C none)) (fun w H2 => w = .non ∧ ∃ (d : Addr) (fs : List (Str × V)), H2 a = some (exo a C (some d)) ∧ H2 d = some (exd d fs) ∧ H d = none ∧ Q (.ref C) (some d) (upd (del H2 a) d (.xd fs))) (fun _ _ _ => False) := by
  refine ⟨(by show 2 ≤ 1000; decide), fun a na => ⟨a, v1, v2, rfl, upd_same, fun dx H' ndx nda e1 e2 e3 => ?_⟩⟩
  have nd0 : H dx = none := by
    rw [upd_ne nda] at ndx
    exact ndx
  refine ⟨rfl, dx, [(f2, v2), (f1, v1)], e1, e2, nd0, ?_⟩
  refine h dx _ (fun b o e => ?_) nd0 upd_same
  have n1 : b ≠ dx := ne_of_none e nd0
  have n2 : b ≠ a := ne_of_none e na
  rw [upd_ne n1, del_ne n2, e3 b n2 n1, upd_ne n2]
  exact e
structure ErrX2 (P : Program) (w : World) (K : PySem.W.Frag) (mg : Str → Option Value) (base : Heap) (x f1 f2 : Str) (C CB : Addr) : Prop where
  ex : ∃ (fI : Addr) (fd : FuncData), OwnX K mg x f1 C CB fI ∧ FnOk P w K mg base CX0 1 fI fd ["self", f1, f2] (spInit2 C f1 f2) ∧ Binds K fd ["self", f1, f2] []
  no2 : PySem.W.findIn K (.ref C) f2 = some none
theorem ErrX2.ow {P : Program} {w : World} {K : PySem.W.Frag} {mg : Str → Option Value} {base : Heap} {x f1 f2 : Str} {C CB : Addr} (h : ErrX2 P w K mg base x f1 f2 C CB) : ∃ fI, OwnX K mg x f1 C CB fI := by
  obtain ⟨fI, fd, o, _⟩ := h.ex
  exact ⟨fI, o⟩
/-- raise X(e1, e2): reading rd_rz2, the two's, rd_mk2 -/
def tRz2 (C : Addr) (f1 f2 : Str) (t1 t2 : TE) (W : WX) : TS := fun _ σ H => tMkO C (spInit2 C f1 f2) [] (tCons t1 (tCons t2 tNil)) σ H fun cls d H' => W cls d σ H'
theorem ps_rz2 {X : Cx} {W : WX} {j : Nat} {x f1 f2 : Str} {C CB : Addr} {e1 e2 : Expr} {t1 t2 : TE} {p p2 pos : Pos} (T : ErrX2 X.prog X.w X.K X.mg X.base x f1 f2 C CB) (hr : Rm j X.A) (hk : 2 ≤ j) (hc : X.calm = true) (tk : Takes X W) (hg : Gl X x) (h1 : PE X e1 t1) (h2 : PE X e2 t2)
    (hdb : (x == ("__debug__" : Str)) = false := by decide) (hs : starEach [e1, e2] X.env = (false, eval e1 X.env) :: starEach [e2] X.env := by rfl) (hs2 : starEach [e2] X.env = (false, eval e2 X.env) :: starEach [] X.env := by rfl) (hpl : (backTo p2 (starEach [e2] X.env)).any (·.1) = false := by rfl) :
    PS X (.Raise (some (.Call (.Name x p) [e1, e2] [] p2)) none pos) (tRz2 C f1 f2 t1 t2 W) := by
  obtain ⟨fI, fd, T1, F1, b⟩ := T.ex
  exact ps_raise (pos := pos) hc tk (pmk_oex (p := p) (pos := p2) (dvs := []) T1.ox T1.iC T1.tI F1 (hr.r.mono hk) b .nil pass0 hg T1.gC (pa_cons h1 (pa_cons h2 pa_nil (hs := hs2)) (hs := hs)) hdb hs hpl)
theorem rd_rz2 {C : Addr} {f1 f2 : Str} {t1 t2 : TE} {W : WX} {D : Ends} {σ : L2.St} {H : Hp} (h : tCons t1 (tCons t2 tNil) σ H fun vs H1 => vs.length ≤ 1000 ∧ ∀ a, H1 a = none → spInit2 C f1 f2 (.ref a :: (vs ++ [])) (upd H1 a (exo a C none))
  (fun v H2 => v = .non ∧ ∃ (d : Addr) (fs : List (Str × V)), H2 a = some (exo a C (some d)) ∧ H2 d = some (exd d fs) ∧ H1 d = none ∧ W (.ref C) (some d) σ (upd (del H2 a) d (.xd fs))) (fun _ _ _ => False)) : tRz2 C f1 f2 t1 t2 W D σ H := h
end U

/-! check_state as it raises -/
namespace Law
open PySem PySem.Spec PyProof.Rows L2 U


/-- InvalidState(part, pos) -/
def ErrS (C : Addr) (H : Hp) (E : XK) (part : Str) (pos : V) : Prop := ∀ (dd : Addr) (H' : Hp), Same H H' → H' dd = some (.xd [("position", pos), ("part", .str part)]) → E (.ref C) (some dd) H'
def ErrT (C : Addr) (H : Hp) (E : XK) (e : Str × Str) : Prop := ∀ (dd t : Addr) (H' : Hp), Same H H' → H' t = some (.tup [.str e.1, .str e.2]) → H' dd = some (.xd [("position", .ref t), ("part", .str "edge")]) → E (.ref C) (some dd) H'
def VBad (v : V) : Prop := v = .non ∨ (∃ b, v = .bl b) ∨ ∃ i : Int, v = .int i ∧ ¬ (0 ≤ i ∧ i ≤ 2)
def intOf : V → Int
  | .int i => i
  | _ => 0
def VOk (v : V) : Prop := ∃ i : Int, v = .int i ∧ 0 ≤ i ∧ i ≤ 2
def spCkSt (C : Addr) : Sp := fun vs H Q E => ∃ (g n e : Addr) (v : V) (ns : List Str) (es : List (Addr × Str × Str)), vs = [.ref g, v] ∧ GrS H g n e ns es ∧
  ((v = .non ∧ ErrS C H E "form" .non) ∨
   (∃ (d : Addr) (ord : List Str) (F : Str → V), v = .ref d ∧ H d = some (.dK (kvG ord F)) ∧ ord.length ≠ ns.length ∧ ErrS C H E "form" .non) ∨
   ∃ (d : Addr) (ord : List Str) (F : Str → V), v = .ref d ∧ H d = some (.dK (kvG ord F)) ∧ ord.Perm ns ∧ (∀ y ∈ ns, VOk (F y) ∨ VBad (F y)) ∧
     (∀ i (hi : i < ns.length), VBad (F ns[i]) → (∀ y ∈ ns.take i, VOk (F y)) → ErrS C H E "value" (.str ns[i])) ∧
     ∀ f : Str → Int, (∀ y ∈ ns, F y = .int (f y) ∧ 0 ≤ f y ∧ f y ≤ 2) →
       (∀ i (hi : i < es.length), f es[i].2.1 = f es[i].2.2 → (∀ e ∈ es.take i, f e.2.1 ≠ f e.2.2) → ErrT C H E es[i].2) ∧
       ((∀ e ∈ es, f e.2.1 ≠ f e.2.2) → ∀ H' : Hp, Same H H' → Q .non H'))
section
variable {P : Program} {w : World} {K : PySem.W.Frag} {mg : Str → Option Value} {base : Heap}
theorem ok_initIS {f : Addr} {fd : FuncData} {C CB : Addr} {x : Str} (F : Fun K "__init__" "InvalidState.__init__" s_InvalidState_init f fd) (T : OwnX K mg x "part" C CB f) (no2 : PySem.W.findIn K (.ref C) "position" = some none) : FnOk P w K mg base CX0 1 f fd ["self", "part", "position"] (spInit2 C "part" "position") := by
  refine F.ok sc_InvalidState_init (fun vs H Q E h => ?_) (fun cdv A outer s H vs Q E hr h => ?_)
  · obtain ⟨a, v1, v2, rfl, _⟩ := h
    rfl
  · obtain ⟨a, v1, v2, rfl, ha, q⟩ := h
    refine ⟨_, pss_cons (ps_expr (pe_binit (x := "InputError") rfl T.gB T.bi (pa_cons (pv 0) (pa_cons pe_str pa_nil)))) (pss_cons (ps_ost (pv 0) (pv 1)) (pss_one (ps_ost (pv 0) (pv 2)))), ?_⟩
    wtm_at "rd"
    refine rd_vei (v := v1) ?_
    wtm_at "rd"
    refine ⟨a, C, _, rfl, by decide, T.ox, ha, ?_⟩
    dsimp only
    refine rd_ost ?_
    wtm_at "rd"
    refine ⟨a, C, rfl, T.ox, T.no, .inl ⟨ha, fun dx n1 n2 => ?_⟩⟩
    dsimp only
    wtm_at "rd"
    refine rd_ost ?_
    wtm_at "rd"
    refine ⟨a, C, rfl, T.ox, no2, .inr ⟨dx, _, upd_same, by rw [upd_ne n2]; exact upd_same, (by show 1 ≤ 900; decide), ?_⟩⟩
    refine q dx _ n1 n2 ?_ upd_same fun b b1 b2 => ?_
    · rw [upd_ne (Ne.symm n2)]
      exact upd_same
    · rw [upd_ne b2, upd_ne b1, upd_ne b2]
structure VHa (P : Program) (w : World) (K : PySem.W.Frag) (mg : Str → Option Value) (base : Heap) : Prop where
  is_value : Cal P w K mg base CX0 2 "is_value" (spIsValV K)
theorem ok_ckSt {f : Addr} {fd : FuncData} {CE CB : Addr} (F : Fun K "check_state" "check_state" s_check_state f fd) (B : Bt mg) (C : VHa P w K mg base) (T : ErrX2 P w K mg base "InvalidState" "part" "position" CE CB) : FnG P w K mg base (L2.CX P w) 3 f fd ["graph", "candidate"] (spCkSt CE) := by
  refine fnG F sc_check_state (fun vs H Q E h => ?_) (fun cdv A outer s H vs Q E hr h => ?_)
  · obtain ⟨g, n, e, v, ns, es, rfl, _⟩ := h
    rfl
  · obtain ⟨g, n, e, v, ns, es, rfl, gs, alt⟩ := h
    have nd := sc_check_state.nd
    have hu := hr.u1
    refine ⟨_, (pss_cons (ps_asg (pv 0) (kg_tup (n := 2) K rfl rfl (pgs_cons (pg_name (i := 2) nd rfl (by first | exact Or.inl rfl | exact Or.inr rfl)) (pgs_cons (pg_name (i := 3) nd rfl (by first | exact Or.inl rfl | exact Or.inr rfl)) pgs_nil))))
  (pss_cons (ps_if (PW.pt (pw_or (pt_not (pt_val (pe_callB (kIsi K rfl) (by rfl) B.isinstance bb_isinstance (pa_cons (pv 1) (pa_cons (pe_ty rfl B.dict bb_dict) pa_nil))))) (pw_or1 (pt_cmpR (kNe K rfl hr.u64) (pe_callB (kLen K rfl) (by rfl) B.len bb_len (pa_cons (pv 1) pa_nil)) (pe_callB (kLen K rfl) (by rfl) B.len bb_len (pa_cons (pv 2) pa_nil)) (nomark _))))) (pss_one (ps_rz2 T hr (by decide) rfl (takes_of rfl rfl rfl rfl) rfl pe_str pe_non)) pss_nil)
  (pss_cons (ps_if (pt_not (pt_val (pe_callB (kAll K rfl rfl) (by rfl) B.all bb_all (pa_cons (pe_lc (own := [("node", 4)]) rfl nd (ki_tup K rfl (pv 2)) (blkOk_by (own := [("node", 4)]) (N := nN_check_state) (sc := defScope s_check_state) (by decide +kernel)) (fun _ _ _ _ _ => (pg_name (i := 4) nd rfl (by first | exact Or.inl rfl | exact Or.inr rfl))) (fun _ _ _ _ _ => pts_nil) (fun _ _ _ _ _ => (pe_cmp (pc_din hu (pv 4) (pv 1))))) pa_nil)))) (pss_one (ps_rz2 T hr (by decide) rfl (takes_of rfl rfl rfl rfl) rfl pe_str pe_non)) pss_nil)
  (pss_cons (ps_for (passes_of rfl) rfl (ki_tup K rfl (pv 2)) (pg_name (i := 4) nd rfl (by first | exact Or.inl rfl | exact Or.inr rfl)) (pss_one (ps_if (pt_not (pt_val (pe_c C.is_value hr (by decide) rfl (pa_cons (pe_dget hu (pv 1) (pv 4) (fun _ _ => rfl)) pa_nil)))) (pss_one (ps_rz2 T hr (by decide) rfl (takes_of rfl rfl rfl rfl) rfl pe_str (pv 4))) pss_nil)))
  (pss_one (ps_for (passes_of rfl) rfl (ki_tup K rfl (pv 3)) (kg_tup (n := 2) K rfl rfl (pgs_cons (pg_name (i := 5) nd rfl (by first | exact Or.inl rfl | exact Or.inr rfl)) (pgs_cons (pg_name (i := 6) nd rfl (by first | exact Or.inl rfl | exact Or.inr rfl)) pgs_nil))) (pss_one (ps_if (pt_cmpR (kEq K rfl hr.u64) (pe_dget hu (pv 1) (pv 5) (fun _ _ => rfl)) (pe_dget hu (pv 1) (pv 6) (fun _ _ => rfl)) (nomark _)) (pss_one (ps_rz2 T hr (by decide) rfl (takes_of rfl rfl rfl rfl) rfl pe_str (pe_tup (pa_cons (pv 5) (pa_cons (pv 6) pa_nil))))) pss_nil)))))))), ?_⟩
    wtm_at "rd"
    refine rd_unp (SqT.of gs.gr.top) rfl ?_
    wtm_at "rd"
    rcases alt with ⟨rfl, er⟩ | ⟨d, ord, F, rfl, hd, ln, er⟩ | ⟨d, ord, F, rfl, hd, pm, all, er, fin⟩
    · refine rd_isi (t := .dct) ty_non (by decide +kernel) ?_
      rw [show isT .non .dct = false from by decide +kernel]
      wtm_at "rd"
      refine rd_rz2 ?_
      wtm_at "rd"
      exact rd_mk2 fun dd H' s' nd' hd => er dd H' s' hd
    · refine rd_isi (ty_dK hd) (t := .dct) (by decide +kernel) ?_
      rw [show isT .dct .dct = true from by decide +kernel]
      wtm_at "rd"
      refine rd_lenD hd ?_
      wtm_at "rd"
      refine rd_lenT (SqT.of gs.gr.nodes) ?_
      rw [List.length_map, List.length_map]
      wtm_at "rd"
      refine rd_nyes (fun z => ln (by omega)) ?_
      wtm_at "rd"
      refine rd_rz2 ?_
      wtm_at "rd"
      exact rd_mk2 fun dd H' s' nd' hd => er dd H' s' hd
    refine rd_isi (ty_dK hd) (t := .dct) (by decide +kernel) ?_
    rw [show isT .dct .dct = true from by decide +kernel]
    wtm_at "rd"
    refine rd_lenD hd ?_
    wtm_at "rd"
    refine rd_lenT (SqT.of gs.gr.nodes) ?_
    rw [List.length_map, List.length_map, pm.length_eq]
    wtm_at "rd"
    refine rd_nno rfl ?_
    have inO : ∀ y ∈ ns, y ∈ ord := fun y hy => pm.mem_iff.mpr hy
    wtm_at "rd"
    refine rd_forT (SqT.of gs.gr.nodes) ?_
    intro D fD
    refine lcT (K := K) (xs := ns.map V.str) (fun i H' => Same H H' ∧ H' D = some (.lst ((List.replicate i true).map V.bl))) ⟨Same.new fD, upd_same⟩ ?_ ?_ ?_
    · rintro i H' hi ⟨s, _⟩
      exact SqT.of (s _ _ gs.gr.nodes)
    · rintro i y H' hy ⟨s, hD⟩
      obtain ⟨hi, rfl⟩ := map_at hy
      have hm := List.getElem_mem hi
      wtm_at "rd"
      refine rd_din1 (.inl (s _ _ hd)) (k := .inr ns[i]) rfl ?_
      rw [kvG_val (inO _ hm)]
      refine rd_acc hD (by rw [List.length_map, List.length_replicate]; have := gs.l2; omega) ?_
      refine ⟨same_put s fD, ?_⟩
      rw [upd_same, List.replicate_succ', List.map_append]
      rfl
    rintro H1 ⟨s1, hD⟩
    wtm_at "rd"
    refine rd_allL (SqL.of hD) ?_
    have : (List.replicate (ns.map V.str).length true).all id = true := by
      rw [List.all_eq_true]
      intro b hb
      exact List.eq_of_mem_replicate hb
    rw [this]
    wtm_at "rd"
    refine rd_forT (SqT.of (s1 _ _ gs.gr.nodes)) ?_
    refine turnsT (K := K) (xs := ns.map V.str) (fun i σ H' => ∃ u4 u5 u6 : Option V, σ = [some (.ref g), some (.ref d), some (.ref n), some (.ref e), u4, u5, u6] ∧ Same H H' ∧ ∀ y ∈ ns.take i, VOk (F y)) ⟨_, _, _, rfl, s1, fun y hy => nomatch hy⟩ ?_ ?_ ?_
    · rintro i σ H' hi ⟨u4, u5, u6, rfl, s, _⟩
      exact SqT.of (s _ _ gs.gr.nodes)
    · rintro i y σ H' hy ⟨u4, u5, u6, rfl, s, oks⟩
      obtain ⟨hi, rfl⟩ := map_at hy
      have hm := List.getElem_mem hi
      have ai := all _ hm
      have eri := er i hi
      rw [take_snoc hi]
      generalize ns[i] = y at *
      have bad : VBad (F y) → ∃ (t : Ty), (TyIs K H' (F y) t ∧ t ≠ .int) ∨ ∃ v : Int, F y = .int v ∧ ¬ (0 ≤ v ∧ v ≤ 2) := fun b => by
        rcases b with b | ⟨b, e⟩ | ⟨v, e, nv⟩
        · exact ⟨.non, .inl ⟨by rw [b]; exact ty_non, by decide⟩⟩
        · exact ⟨.bl, .inl ⟨by rw [e]; exact ty_bl, by decide⟩⟩
        · exact ⟨.int, .inr ⟨v, e, nv⟩⟩
      wtm_at "rd"
      refine rd_dat (.inl (s _ _ hd)) (kvG_val (inO _ hm)) rfl ?_
      wtm_at "rd"
      rcases ai with ⟨v, ev, v0, v2⟩ | b
      · refine ⟨_, .int, rfl, .inr ⟨v, ev, ?_⟩⟩
        rw [decide_eq_true v0, decide_eq_true v2, Bool.and_self]
        wtm_at "rd"
        refine ⟨_, _, _, rfl, s, fun z hz => ?_⟩
        rcases List.mem_append.mp hz with hz | hz
        · exact oks z hz
        · rw [List.mem_singleton.mp hz]
          exact ⟨v, ev, v0, v2⟩
      · have er0 := eri b oks
        obtain ⟨t, alt⟩ := bad b
        have leave : ∀ {Q0 : VK}, True := fun {_} => trivial
        rcases alt with ⟨ty, nt⟩ | ⟨v, ev, nv⟩
        · refine ⟨_, t, rfl, .inl ⟨ty, nt, ?_⟩⟩
          wtm_at "rd"
          refine rd_rz2 ?_
          wtm_at "rd"
          exact rd_mk2 fun dd H2 s' nd' hd => er0 dd H2 (s.trans s') hd
        · refine ⟨_, t, rfl, .inr ⟨v, ev, ?_⟩⟩
          rw [show (decide (0 ≤ v) && decide (v ≤ 2)) = false from by
            rw [Bool.and_eq_false_iff, decide_eq_false_iff_not, decide_eq_false_iff_not]
            omega]
          wtm_at "rd"
          refine rd_rz2 ?_
          wtm_at "rd"
          exact rd_mk2 fun dd H2 s' nd' hd => er0 dd H2 (s.trans s') hd
    rintro σ H2 ⟨u4, u5, u6, rfl, s2, oks⟩
    rw [List.length_map, List.take_length] at oks
    obtain ⟨f, hf⟩ : ∃ f : Str → Int, ∀ y ∈ ns, F y = .int (f y) ∧ 0 ≤ f y ∧ f y ≤ 2 := by
      refine ⟨fun y => intOf (F y), fun y hy => ?_⟩
      obtain ⟨i, e, a, b⟩ := oks y hy
      show F y = .int (intOf (F y)) ∧ 0 ≤ intOf (F y) ∧ intOf (F y) ≤ 2
      rw [e]
      exact ⟨rfl, a, b⟩
    obtain ⟨erE, good⟩ := fin f hf
    wtm_at "rd"
    refine rd_forT (SqT.of (s2 _ _ gs.gr.edges)) ?_
    refine turnsT (K := K) (xs := es.map fun x => V.ref x.1) (fun i σ H' => ∃ u4 u5 u6 : Option V, σ = [some (.ref g), some (.ref d), some (.ref n), some (.ref e), u4, u5, u6] ∧ Same H H' ∧ ∀ e ∈ es.take i, f e.2.1 ≠ f e.2.2) ⟨_, _, _, rfl, s2, fun y hy => nomatch hy⟩ ?_ ?_ ?_
    · rintro i σ H' hi ⟨u4, u5, u6, rfl, s, _⟩
      exact SqT.of (s _ _ gs.gr.edges)
    · rintro i y σ H' hy ⟨u4, u5, u6, rfl, s, oks⟩
      obtain ⟨hi, rfl⟩ := map_at hy
      have hm := List.getElem_mem hi
      obtain ⟨m1, m2⟩ := gs.ok.mem _ (List.mem_map_of_mem (f := (·.2)) hm)
      have eri := erE i hi
      rw [take_snoc hi]
      generalize es[i] = x at *
      refine rd_unp (SqT.of (s _ _ (gs.gr.pairs _ hm))) rfl ?_
      wtm_at "rd"
      refine rd_dat (.inl (s _ _ hd)) (kvG_val (inO _ m1)) rfl ?_
      wtm_at "rd"
      refine rd_dat (.inl (s _ _ hd)) (kvG_val (inO _ m2)) rfl ?_
      rw [(hf _ m1).1, (hf _ m2).1]
      wtm_at "rd"
      refine rd_split (fun c => ?_) (fun c => ?_)
      · have c : f x.2.1 = f x.2.2 := c
        wtm_at "rd"
        refine rd_rz2 ?_
        wtm_at "rd"
        intro t ft
        have kt := Same.new (o := .tup [.str x.2.1, .str x.2.2]) ft
        wtm_at "rd"
        exact rd_mk2 fun dd H2 s' nd' hd => eri c oks dd t H2 ((s.trans kt).trans s') (s' _ _ upd_same) hd
      · wtm_at "rd"
        refine ⟨_, _, _, rfl, s, fun z hz => ?_⟩
        rcases List.mem_append.mp hz with hz | hz
        · exact oks z hz
        · rw [List.mem_singleton.mp hz]
          exact c
    rintro σ H3 ⟨u4, u5, u6, rfl, s3, oks⟩
    rw [List.length_map, List.take_length] at oks
    exact good oks H3 s3
end
end Law

/-! in how many orders the moves of a lift can be performed: on the tuples of what remains -/
namespace U
open PySem PySem.Spec PyProof.Rows L2
def hOf (ns : List Str) (k : List Int) (x : Str) : Int := (k[ns.idxOf x]?).getD 0
theorem hOf_map {ns : List Str} {h : Str → Int} {x : Str} (hx : x ∈ ns) : hOf ns (ns.map h) x = h x := by
  have hi : ns.idxOf x < ns.length := List.idxOf_lt_length_iff.mpr hx
  unfold hOf
  rw [List.getElem?_map, List.getElem?_eq_getElem hi, List.getElem_idxOf hi]
  rfl
def sOf (ns : List Str) (b : Str → Int) (k : List Int) (x : Str) : Int := (b x + hOf ns k x) % 3
section
variable {ns : List Str} {es : List (Str × Str)} {pn : List Str} {b : Str → Int}
/-- what may remain after one more progress move -/
def nxtK (ns : List Str) (es : List (Str × Str)) (pn : List Str) (b : Str → Int) (k : List Int) : List (List Int) := (progF ns es (sOf ns b k) (hOf ns k) pn).map fun m => ns.map (redU (hOf ns k) m.1)
def cN (ns : List Str) (es : List (Str × Str)) (pn : List Str) (b : Str → Int) : Nat → List Int → Int
  | 0, _ => 1
  | n + 1, k => ((nxtK ns es pn b k).map (cN ns es pn b n)).sum
def sK (ns : List Str) (k : List Int) : Int := sz ns (hOf ns k)
def cnt (ns : List Str) (es : List (Str × Str)) (pn : List Str) (b : Str → Int) (k : List Int) : Int := cN ns es pn b (sK ns k).toNat k
/-- what remains of a feasible lift -/
structure RemK (ns : List Str) (es : List (Str × Str)) (pn : List Str) (b : Str → Int) (k : List Int) : Prop where
  len : k.length = ns.length
  ok : EsOk ns es (sOf ns b k)
  fe : Feas ns es (sOf ns b k) (hOf ns k) pn
theorem eok_congr {f f' : Str → Int} (ok : EsOk ns es f) (e : ∀ x ∈ ns, f' x = f x) : EsOk ns es f' :=
  ⟨ok.ne, ok.mem, (fun x hx => by rw [e x hx]; exact ok.tri x hx), fun y hy => by
    obtain ⟨h1, h2⟩ := ok.mem y hy
    rw [e _ h1, e _ h2]
    exact ok.pro y hy⟩
theorem slp_congr {f f' : Str → Int} {x y : Str} (h1 : f' x = f x) (h2 : f' y = f y) : slp f' x y = slp f x y := by
  unfold slp
  rw [h1, h2]
theorem rr_congr {f f' : Str → Int} (ok : EsOk ns es f) (e : ∀ x ∈ ns, f' x = f x) {dir : Int} {x y : Str} (r : Rr es f' dir x y) : Rr es f dir x y := by
  induction r with
  | refl => exact .refl
  | step r h k ih =>
    obtain ⟨h1, h2, _⟩ := adj_in ok (nbS_mem.mp h)
    refine .step ih h ?_
    have k' := of_decide_eq_true k
    rw [slp_congr (e _ h1) (e _ h2)] at k'
    exact decide_eq_true k'
theorem cyc_congr {f f' : Str → Int} (ok : EsOk ns es f) (e : ∀ x ∈ ns, f' x = f x) {x : Str} (c : Cyc es f' x) : Cyc es f x ∧ x ∈ ns := by
  obtain ⟨y, a, s, r⟩ := c
  obtain ⟨h1, h2, _⟩ := adj_in ok a
  rw [slp_congr (e _ h1) (e _ h2)] at s
  exact ⟨⟨y, a, s, rr_congr ok e r⟩, h2⟩
theorem feas_congr {f f' h h' : Str → Int} (ok : EsOk ns es f) (pin : ∀ x ∈ pn, x ∈ ns) (e : ∀ x ∈ ns, f' x = f x) (eh : ∀ x ∈ ns, h' x = h x) (fe : Feas ns es f h pn) : Feas ns es f' h' pn := by
  refine ⟨fun y hy => ?_, fun x hx => ?_, fun x hx => ?_⟩
  · obtain ⟨h1, h2⟩ := ok.mem y hy
    have := fe.fit y hy
    rw [fit_iff] at this ⊢
    rw [slp_congr (e _ h1) (e _ h2), eh _ h1, eh _ h2]
    exact this
  · rw [eh x (pin x hx)]
    exact fe.pin x hx
  · obtain ⟨c, hn⟩ := cyc_congr ok e hx
    rw [eh x hn]
    exact fe.cyc x c
/-- from a state and a lift to what remains -/
theorem RemK.of {f h : Str → Int} (ok : EsOk ns es f) (pin : ∀ x ∈ pn, x ∈ ns) (fe : Feas ns es f h pn) (e : ∀ x ∈ ns, (b x + h x) % 3 = f x) : RemK ns es pn b (ns.map h) := by
  have eh : ∀ x ∈ ns, hOf ns (ns.map h) x = h x := fun x hx => hOf_map hx
  have ef : ∀ x ∈ ns, sOf ns b (ns.map h) x = f x := fun x hx => by
    unfold sOf
    rw [eh x hx]
    exact e x hx
  exact ⟨List.length_map _, eok_congr ok ef, feas_congr ok pin ef eh fe⟩
/-- one more move -/
theorem RemK.step {k : List Int} (r : RemK ns es pn b k) (nd : ns.Nodup) (pin : ∀ x ∈ pn, x ∈ ns) {m : Str × Int} (hm : m ∈ progF ns es (sOf ns b k) (hOf ns k) pn) :
    RemK ns es pn b (ns.map (redU (hOf ns k) m.1)) ∧ (∀ x ∈ ns, sOf ns b (ns.map (redU (hOf ns k) m.1)) x = updf (sOf ns b k) m.1 m.2 x) ∧ sK ns (ns.map (redU (hOf ns k) m.1)) = sK ns k - 1 := by
  obtain ⟨ok', fe', sz', md⟩ := prog_step r.ok nd r.fe hm
  have e : ∀ x ∈ ns, (b x + redU (hOf ns k) m.1 x) % 3 = updf (sOf ns b k) m.1 m.2 x := fun x hx => by
    have h1 := md x hx
    have h2 := ok'.tri x hx
    have h3 : sOf ns b k x = (b x + hOf ns k x) % 3 := rfl
    omega
  refine ⟨RemK.of ok' pin fe' e, fun x hx => ?_, ?_⟩
  · unfold sOf
    rw [hOf_map hx]
    exact e x hx
  · unfold sK
    rw [← sz', sz_congr fun x hx => hOf_map hx]
/-- rows of the table: keys once, of the right length, small -/
structure Rows (ns : List Str) (rows : List (List Int × Int)) : Prop where
  nd : (rows.map (·.1)).Nodup
  len : ∀ r ∈ rows, r.1.length = ns.length ∧ ∀ v ∈ r.1, -12 ≤ v ∧ v ≤ 12
def boxL : Nat → List (List Int)
  | 0 => [[]]
  | n + 1 => (boxL n).flatMap fun s => (List.range 25).map fun j : Nat => ((j : Int) - 12) :: s
theorem boxL_len : ∀ n, (boxL n).length = 25 ^ n
  | 0 => rfl
  | n + 1 => by
    have key : ∀ xs : List (List Int), (xs.flatMap fun s => (List.range 25).map fun j : Nat => ((j : Int) - 12) :: s).length = 25 * xs.length := by
      intro xs
      induction xs with
      | nil => rfl
      | cons x r ih =>
        rw [List.flatMap_cons, List.length_append, ih, List.length_cons, List.length_map, List.length_range]
        omega
    rw [boxL, key, boxL_len n, Nat.pow_succ, Nat.mul_comm]
theorem boxL_mem : ∀ {n : Nat} {s : List Int}, s.length = n → (∀ v ∈ s, -12 ≤ v ∧ v ≤ 12) → s ∈ boxL n
  | 0, [], _, _ => List.mem_singleton.mpr rfl
  | n + 1, v :: s, h, bd => by
    have ih := boxL_mem (s := s) (Nat.succ.inj h) fun w hw => bd w (List.mem_cons_of_mem _ hw)
    have hv := bd v List.mem_cons_self
    refine List.mem_flatMap.mpr ⟨s, ih, List.mem_map.mpr ⟨(v + 12).toNat, List.mem_range.mpr (by omega), ?_⟩⟩
    congr 1
    omega
theorem Rows.few {rows : List (List Int × Int)} (r : Rows ns rows) (n5 : ns.length ≤ 5) : rows.length ≤ 9765625 := by
  have h := nodup_len (xs := rows.map (·.1)) (ys := boxL ns.length) r.nd fun k hk => by
    obtain ⟨x, hx, rfl⟩ := List.mem_map.mp hk
    obtain ⟨h1, h2⟩ := r.len x hx
    exact boxL_mem h1 h2
  rw [List.length_map, boxL_len] at h
  exact Nat.le_trans h (Nat.le_trans (Nat.pow_le_pow_right (by decide) n5) (by decide))
end
end U

/-! sorted(d.items()), d a dict of numbers by names -/
namespace U
open PySem PySem.Spec PyProof.Rows L2 L2.DX
section
variable {X : Cx}
end
end U

/-! a def that calls itself -/
namespace Law
open PySem PySem.Spec PyProof.Rows L2 U
end Law

/-! count_from -/
namespace U
open PySem PySem.Spec PyProof.Rows L2
section
variable {ns : List Str} {es : List (Str × Str)} {pn : List Str} {b : Str → Int}
end
end U
namespace Law
open PySem PySem.Spec PyProof.Rows L2 U LamX


section
variable {P : Program} {w : World} {K : PySem.W.Frag} {mg : Str → Option Value} {base : Heap}
end
end Law

/-! lifts whose keys stand in any order -/
namespace Law
open PySem PySem.Spec PyProof.Rows L2 U LamX


section
variable {P : Program} {w : World} {K : PySem.W.Frag} {mg : Str → Option Value} {base : Heap}
end
end Law

/-! the facts of an own error class, gathered from the fragment -/
namespace U
open PySem PySem.Spec PyProof.Rows L2
theorem exm_sub {K : PySem.W.Frag} {S T : Addr} (h1 : PySem.W.subIn K (.ref S) (.type "BaseException") = some true) (b1 : PySem.W.subIn K (.ref T) (.type "BaseException") = some true) (h2 : PySem.W.isClsIn K T = true) (h3 : PySem.W.typeIn K (.ref T) = some (.type "type")) (h4 : PySem.W.subIn K (.ref S) (.ref T) = some true) :
    PySem.W.exmOne K (.ref S) (.ref T) = some true := by
  have e1 : (PySem.W.subIn K (.ref T) (.type "BaseException") == some true) = true := by rw [b1] <;> rfl
  have e2 : ((PySem.W.clsIn K T).isSome && PySem.W.typeIn K (.ref T) == some (.type "type")) = true := by
    have h2' : (PySem.W.clsIn K T).isSome = true := h2
    rw [h2', h3] <;> rfl
  show (if (PySem.W.subIn K (.ref T) (.type "BaseException") == some true) = true then (if ((PySem.W.clsIn K T).isSome && PySem.W.typeIn K (.ref T) == some (.type "type")) = true then PySem.W.subIn K (.ref S) (.ref T) else none) else none) = some true
  rw [if_pos e1, if_pos e2]
  exact h4
theorem own_mk {K : PySem.W.Frag} {mg : Str → Option Value} {x f : Str} {C CB fI : Addr} {nm q : Str} {N : Addr} {bs : List Value} {sn : List Str} {sub : List Value} {ab : Bool} {col : Option Bool} {dd : Option Addr} {m0 m1 m2 m3 m5 : Option Value}
    (gC : mg x = some (.ref C)) (gB : mg "InputError" = some (.ref CB))
    (xL : K.lookup C = some (excClassObj nm q C N bs [.ref CB, .type "ValueError", .type "Exception", .type "BaseException", .type "object"] true sn sub ab col dd m0 m1 m2 m3 m5 "ValueError.__new__"))
    (sa : PySem.W.findIn K (.ref C) "__setattr__" = some (some (.builtin "object.__setattr__"))) (ga : PySem.W.findIn K (.ref C) "__getattribute__" = some (some (.builtin "BaseException.__getattribute__"))) (gg : PySem.W.findIn K (.ref C) "__getattr__" = some none) (nb : PySem.W.findIn K (.ref C) f = some none)
    (a1 : PySem.W.findIn K (.ref C) "__init__" = some (some (.ref fI))) (t1 : PySem.W.typeIn K (.ref fI) = some (.type "function"))
    (kC : PySem.W.keepIn K (.ref C) = true) (eC : PySem.W.subIn K (.ref C) (.type "BaseException") = some true) (tC : PySem.W.typeIn K (.ref C) = some (.type "type")) (hC : PySem.W.hasDictIn K C = true) (iC : PySem.W.isClsIn K C = true) (sC : PySem.W.subIn K (.ref C) (.ref C) = some true)
    (kB : PySem.W.keepIn K (.ref CB) = true) (eB : PySem.W.subIn K (.ref CB) (.type "BaseException") = some true) (tB : PySem.W.typeIn K (.ref CB) = some (.type "type")) (iB : PySem.W.isClsIn K CB = true) (sB : PySem.W.subIn K (.ref C) (.ref CB) = some true)
    (gB2 : PySem.W.specialIn K (.ref CB) "__getattribute__" = some (some (.builtin "type.__getattribute__"))) (rB : PySem.W.readsIn K CB (.type "type") = true) (aB : PySem.W.findCls K (.ref CB) (.type "type") "__init__" = some (.val (.builtin "ValueError.__init__"))) : OwnX K mg x f C CB fI where
  gC := gC
  ox := ⟨⟨nm, q, N, bs, _, sn, sub, ab, col, dd, m0, m1, m2, m3, m5, xL, by first | rfl | decide +kernel⟩, sa, eC, tC, kC⟩
  no := nb
  iC := a1
  tI := t1
  xf := ⟨ga, gg, eC, hC⟩
  gB := gB
  bi := ⟨kB, gB2, rB, aB⟩
  ex := exm_sub eC eC iC tC sC
  eb := exm_sub eC eB iB tB sB
end U

/-! lifts performed, or InvalidLift -/
namespace Law
open PySem PySem.Spec PyProof.Rows L2 U LamX


/-- an error with one field f, told to the caller; the tables of code objects may grow -/
def FldT (T : List (Addr × Str)) (f : Str) (C : Addr) (v : V) (H : Hp) (E : XK) : Prop := ∀ (d : Addr) (H' : Hp), ExtN H H' → Tabs T H' → H' d = some (.xd [(f, v)]) → E (.ref C) (some d) H'
section
variable {P : Program} {w : World} {K : PySem.W.Frag} {mg : Str → Option Value} {base : Heap}
end
end Law

/-! own exceptions with one field over any built-in class of the plain kind -/
namespace U
open PySem PySem.Spec PyProof.Rows L2
/-- the call of an own class over such a base, its __init__ a def -/
def CallOwn (newId : String) (bmB : List Value) : Prop := ∀ (P : Program) (w : World) (A : Around) (R : Result → Shared → Prop) (h : Heap) (g : Array GenState) (d : Drawn) (t : Nat) (os : OsState) (nm q : Str) (C N : Addr) (bs bm : List Value) (hdct : Bool) (sn : List Str) (sub : List Value) (ab : Bool) (col : Option Bool) (dd : Option Addr)
    (k0 k1 k2 k3 k5 : Option Value) (us : List Value) (fI : Addr), (∀ X : String, bm.contains (.type X) = bmB.contains (.type X)) → h.get? C = some (excClassObj nm q C N bs bm hdct sn sub ab col dd k0 k1 k2 k3 k5 newId) →
    PySem.W.Looks (model P w) h (typeLookup (.ref C) "__init__") (some (.ref fI)) → (∀ self, PySem.W.Looks (model P w) h (bindSpecial (.ref fI) self) (.ref fI, [self])) → us.length ≤ sizeLine →
    codeAny (model P w) (A.under (.builtin "type.__call__" ⟨.ref C :: us, []⟩)) (.call (.ref fI) ⟨.ref (h.objs.size + 1) :: us, []⟩) (PySem.W.InitBack (h.objs.size + 1) R) ⟨(h.push (PySem.W.kdv_tup us)).push (PySem.HandSPX.excO C h.objs.size), g, d, t, os⟩ →
    codeAny (model P w) A (.call (.ref C) ⟨us, []⟩) R ⟨h, g, d, t, os⟩
/-- the base's own __init__, called within it -/
def InitOwn (initId newId : String) (bmB : List Value) : Prop := ∀ (P : Program) (w : World) (A : Around) (R : Result → Shared → Prop) (h : Heap) (g : Array GenState) (d : Drawn) (t : Nat) (os : OsState) (nm q : Str) (C N : Addr) (bs bm : List Value) (hdct : Bool) (sn : List Str) (sub : List Value) (ab : Bool) (col : Option Bool) (dd : Option Addr)
    (k0 k1 k2 k3 k5 : Option Value) (us : List Value) (e t0 : Addr), (∀ X : String, bm.contains (.type X) = bmB.contains (.type X)) → h.get? C = some (excClassObj nm q C N bs bm hdct sn sub ab col dd k0 k1 k2 k3 k5 newId) → h.get? e = some (PySem.HandSPX.excO C t0) → us.length ≤ sizeLine →
    (∀ h' t1, (∀ b o, b ≠ e → h.get? b = some o → h'.get? b = some o) → h'.get? e = some (PySem.HandSPX.excO C t1) → R (.ok (.ret .none)) ⟨h', g, d, t, os⟩) → codeAny (model P w) A (.call (.builtin initId) ⟨.ref e :: us, []⟩) R ⟨h, g, d, t, os⟩
/-- what is asked of the built-in class -/
structure BasF (B newId initId : String) (bmB : List Value) : Prop where
  call : CallOwn newId bmB
  init : InitOwn initId newId bmB
  pass : ∀ self : Value, refuseLoop self "__setattr__" bmB = pure ()
  obj : bmB.contains (.type "object") = true
  typ : typeOf (.type B) = pure (.type "type")
  stub : Manifest.isStub B = false
  blt : bootBuiltins (Str.ofString B) = some (.type B)
  nam : Str.ofString B ≠ "__name__"
  dbg : (Str.ofString B == ("__debug__" : Str)) = false
  hin : PySem.W.handedIn (.builtin initId) = true
  ne : bmB ≠ []
abbrev bmOE : List Value := [.type "OverflowError", .type "ArithmeticError", .type "Exception", .type "BaseException", .type "object"]
theorem bas_OE : BasF "OverflowError" "OverflowError.__new__" "OverflowError.__init__" bmOE where
  call := fun P w A R h g d t os nm q C N bs bm hdct sn sub ab col dd k0 k1 k2 k3 k5 us fI h1 h2 h3 h4 h5 h6 => PySem.HandSPX.call_own F.excBase_OverflowError h1 h2 h3 h4 h5 h6
  init := fun P w A R h g d t os nm q C N bs bm hdct sn sub ab col dd k0 k1 k2 k3 k5 us e t0 h1 h2 h3 h4 h5 => PySem.HandSPX.init_base F.excBase_OverflowError h1 h2 h3 h4 h5
  pass := F.store_OverflowError.passes
  obj := by decide +kernel
  typ := by kernel_rfl
  stub := by decide +kernel
  blt := PyProof.Rows.Boot.«OverflowError»
  nam := by decide +kernel
  dbg := by decide +kernel
  hin := by decide +kernel
  ne := fun z => nomatch z
/-- what the written part says of the own class -/
structure OexB (K : PySem.W.Frag) (C : Addr) (newId : String) (bmB : List Value) : Prop where
  cls : ∃ nm q N bs bm sn sub ab col dd k0 k1 k2 k3 k5, K.lookup C = some (excClassObj nm q C N bs bm true sn sub ab col dd k0 k1 k2 k3 k5 newId) ∧ PySem.W.excTail bmB bm = true
  sa : PySem.W.findIn K (.ref C) "__setattr__" = some (some (.builtin "object.__setattr__"))
  exC : PySem.W.subIn K (.ref C) (.type "BaseException") = some true
  tyC : PySem.W.typeIn K (.ref C) = some (.type "type")
  kC : PySem.W.keepIn K (.ref C) = true
theorem tail_ne {bmB : List Value} (nb : bmB ≠ []) {l : List Value} (h : PySem.W.excTail bmB l = true) : l.isEmpty = false := by
  cases l with
  | nil => exact absurd (beq_iff_eq.mp h : ([] : List Value) = bmB).symm nb
  | cons _ _ => rfl
section
variable {P : Program} {w : World} {A : Around} {R : Result → Shared → Prop} {hp : Heap} {g : Array GenState} {d : Drawn} {t : Nat} {os : OsState} {B newId initId : String} {bmB : List Value}
/-- the first field -/
theorem osa_first {K : PySem.W.Frag} {f : Str} {tk : Tok} {v : Value} {a C : Addr} {fv : Array Value} {cd : ClassData} (BF : BasF B newId initId bmB) (X : K.In hp) (ha : hp.get? a = some { cls := .ref C, data := .fields fv }) (hcd : PySem.W.clsIn K C = some cd) (hm : PySem.W.excTail bmB cd.mro = true)
    (hh : cd.hasDict = true) (no : PySem.W.findIn K (.ref C) f = some none)
    (hq : ∀ h' tk' dx, (∀ b o, b ≠ a → hp.get? b = some o → h'.get? b = some o) → hp.objs.size ≤ dx → dx ≠ a → h'.get? a = some { cls := .ref C, dict := some dx, data := .fields fv } → h'.Ns1 dx (fun y => if y = f then some v else none) → R (.ok (.ret .none)) ⟨h', g, d, tk', os⟩) :
    codeAny (model P w) A (.call (.builtin "object.__setattr__") ⟨[.ref a, .str f tk, v], []⟩) R ⟨hp, g, d, t, os⟩ := by
  have I1 : PySem.W.InstAt hp a { cls := .ref C, data := .fields fv } C none := ⟨ha, rfl, rfl, trivial⟩
  have na : a ≠ hp.objs.size := Nat.ne_of_lt (Heap.lt_size ha)
  have ob := (PySem.W.excTail_contains "object" _ hm).trans BF.obj
  have inst : PySem.W.Looks (model P w) hp (isInstance (.ref a) (.type "object")) true := by
    refine I1.type.andThen (PySem.W.looks_mroIn X ?_)
    unfold PySem.W.mroIn
    rw [hcd, Option.bind_some, if_neg (by rw [tail_ne BF.ne hm]; decide), ob]
  have cl : PySem.W.Looks (model P w) hp (classData C) cd := PySem.W.looks_clsIn X hcd
  have mr : PySem.W.Looks (model P w) hp (mroOf (.ref C)) cd.mro := cl.andThen .now
  have tk0 : PySem.W.Looks (model P w) hp (Builtin.ObjectAttr.storeTaker? none) none := .now
  refine codeAny_call_builtin F.store_object.slot.plain F.store_object.entry (@PySem.W.check_slot (model P w) _ _ ⟨hp, g, d, t, os⟩ "object.__setattr__" "object" "__setattr__" (.ref a) [.str f tk, v] [] _ F.store_object.kind F.store_object.split inst (F.store_object.args (.ref a) (.str f tk) v) ?_)
  rw [PySem.W.osa_eq, refuse_eq]
  refine wpAny_bind ?_
  refine wpAny_bind (I1.type.at ?_)
  refine wpAny_bind (mr.at ?_)
  rw [PySem.W.excTail_pass _ (BF.pass _) _ hm]
  refine wpAny_pure ?_
  refine wpAny_bind (I1.type.at ?_)
  refine wpAny_bind ((PySem.W.looks_findIn X no).at ?_)
  refine wpAny_bind (tk0.at ?_)
  show wpAny _ _ (Builtin.ObjectAttr.storeInOwnDict (.ref a) (.ref C) (.str f tk) f v false) _ _ _
  obtain ⟨_, _, _, _, _, hd, _, _, _, _, _⟩ := cd
  obtain rfl : hd = true := hh
  unfold Builtin.ObjectAttr.storeInOwnDict Builtin.ObjectAttr.ownDictForStores
  repeat (first | with_reducible refine PySem.HandSPX.store_in_new ?_ ?_ | with_reducible refine wpAny_loadPart_at ha ?_ | with_reducible refine cl.at ?_ | wp_step)
  · exact ⟨_, #[], _, Eq.trans (Heap.get?_update_ne _ _ _ _ na.symm) (Heap.get?_push_at rfl rfl), rfl, (fun e he => absurd he (by simp)), fun _ => rfl⟩
  · intro h2 tk2 hn2 hs
    have old : (hp.push { cls := .type "dict", data := .dict #[] }).get? a = some { cls := .ref C, data := .fields fv } := Heap.get?_push_of_some _ ha
    refine hq h2 tk2 hp.objs.size (fun b o nb hb => ?_) (Nat.le_refl _) na.symm ?_ hn2
    · rw [hs.2 b (Nat.ne_of_lt (Heap.lt_size hb)), Heap.get?_update_ne _ _ _ _ nb]
      exact Heap.get?_push_of_some _ hb
    · rw [hs.2 a na]
      exact Heap.get?_update_self _ old rfl
end
section
variable {X : Cx} {pins : List (Addr × Obj)} {σ : L2.St} {H : Hp} {s : Shared} {a C dx : Addr} {f : Str} {y : V} {u : Value} {B newId initId : String} {bmB : List Value}
theorem ost_first {Q : Unit → Shared → Prop} {E : Value → Shared → Prop} {A : Around} (BF : BasF B newId initId bmB) (T : OexB X.K C newId bmB) (I : Inv X pins σ H s) (e : H a = some (exo a C none)) (no : PySem.W.findIn X.K (.ref C) f = some none) (ry : RelV y u)
    (h : ∀ dx s', H dx = none → dx ≠ a → Inv X pins σ (upd (upd H dx (exd dx [(f, y)])) a (exo a C (some dx))) s' → Q () s') : wpAny (model X.prog X.w) A (setAttr (.ref a) f u) Q E s := by
  obtain ⟨nm, q, N, bs, bm, sn, sub, ab, col, dd, k0, k1, k2, k3, k5, hC, hbm⟩ := T.cls
  have hcl : PySem.W.clsIn X.K C = some { name := nm, bases := bs, mro := .ref C :: bm, ns := N, qualname := q, hasDict := true, slotNames := sn, subclasses := sub, abstract := ab, collection := col, hasDel := false } := by
    unfold PySem.W.clsIn
    rw [hC] <;> rfl
  obtain ⟨t1, ho⟩ := exo_at I.hok e
  obtain ⟨hp, g, d, t, os⟩ := s
  refine PySem.W.set_plain I.kIn (od := none) (ox := { cls := .ref C, dict := none, data := .fields #[.ref t1, .none, .none, .none, .bool false, .none] }) ⟨ho, rfl, rfl, trivial⟩ T.sa ?_
  refine osa_first BF I.kIn ho hcl (show PySem.W.excTail bmB (.ref C :: bm) = true from hbm) rfl no fun h' tk' dx k dn dne hx hn => ?_
  have hnd : H dx = none := I.hok.fresh dn
  have nd : ∀ {b : Addr} {o : Obj}, hp.get? b = some o → b ≠ dx := fun {b o} q => Nat.ne_of_lt (Nat.lt_of_lt_of_le (Heap.lt_size q) dn)
  have na : ∀ {b : Addr}, H b = none → b ≠ a := fun {b} n z => by
    rw [z, e] at n
    cases n
  have old : ∀ {b : Addr} {o : HO}, H b = some o → exo a C none ≠ o → upd (upd H dx (exd dx [(f, y)])) a (exo a C (some dx)) b = some o := fun {b o} q ne => at_upd (at_ne e q ne) (at_upd (ne_of_none q hnd) q)
  have U : Un X.fs [] H (upd (upd H dx (exd dx [(f, y)])) a (exo a C (some dx))) hp h' := {
    keep := fun b o q n _ _ => k b o (na n) q
    slot := fun b o q n _ _ => ⟨_, k b o (na n) q⟩
    free := fun b o q n _ => no_upd (na n) (no_upd (nd q) n)
    there := fun b o q _ => Classical.byCases (fun hb : b = a => ⟨_, hb ▸ hx⟩) fun hb => ⟨o, k b o hb q⟩
    tups := fun b xs q => old q exo_tup
    frzs := fun b o v q => old q exo_frz
    tbls := fun b ps q => ⟨#[], by rw [old q exo_tbl]; simp⟩ }
  refine h dx _ hnd dne (I.un (t' := tk') U fun b o q => ?_)
  by_cases hb : b = a
  · subst hb
    rw [upd_same] at q
    cases q
    exact exo_ok hx
  rw [upd_ne hb] at q
  by_cases hd : b = dx
  · subst hd
    rw [upd_same] at q
    cases q
    exact exd_ok hn (relO_put (fs := []) ry fun g => True.intro)
  rw [upd_ne hd] at q
  refine (I.hok b o q).stay (fun c v hc z => k c v ?_ z) (fun c hc => old hc exo_own) fun c xs hc => old hc exo_tup
  rcases hc with rfl | hc
  · exact hb
  · exact at_ne e hc exo_own
theorem oinit_b {us : List Value} {Q : Value → Shared → Prop} {E : Value → Shared → Prop} {A : Around} (BF : BasF B newId initId bmB) (T : OexB X.K C newId bmB) (I : Inv X pins σ H s) (e : H a = some (exo a C none)) (hl : us.length ≤ sizeLine) (h : ∀ s', Inv X pins σ H s' → Q .none s') :
    wpAny (model X.prog X.w) A (call (.builtin initId) (.ref a :: us)) Q E s := by
  obtain ⟨nm, q, N, bs, bm, sn, sub, ab, col, dd, k0, k1, k2, k3, k5, hC, hbm⟩ := T.cls
  obtain ⟨t1, ho⟩ := exo_at I.hok e
  obtain ⟨hp, g, d, t, os⟩ := s
  refine wpAny_call (BF.init _ _ _ _ _ _ _ _ _ _ _ _ _ _ _ _ _ _ _ _ _ _ _ _ _ _ _ _ _ (fun Y => PySem.W.excTail_contains Y bm hbm) (I.kIn _ _ hC) ho hl fun h' t2 k hx => ?_)
  have J := I.write (t' := t) (x := a) (e := a) (o := exo a C none) (by rw [e]; exact True.intro) (.inl rfl) k ⟨_, hx⟩ (exo_ok hx)
  rw [show upd H a (exo a C none) = H from funext fun b => by
    by_cases hb : b = a
    · rw [hb, upd_same, e]
    · exact upd_ne hb] at J
  exact h _ J
/-- B.__init__(self, ..) -/
def tBtI (K : PySem.W.Frag) (newId : String) (bmB : List Value) (ta : TA) : TE := fun σ H Q => ta σ H fun vs H1 => ∃ (a C : Addr) (ws : List V), vs = .ref a :: ws ∧ ws.length ≤ 1000 ∧ OexB K C newId bmB ∧ H1 a = some (exo a C none) ∧ Q .non H1
/-- self.f = e, the first field -/
def tOstB (K : PySem.W.Frag) (newId : String) (bmB : List Value) (f : Str) (to te : TE) : TS := fun D σ H => te σ H fun y H1 => to σ H1 fun x H2 => ∃ a C : Addr, x = .ref a ∧ OexB K C newId bmB ∧ PySem.W.findIn K (.ref C) f = some none ∧
  H2 a = some (exo a C none) ∧ ∀ dx, H2 dx = none → dx ≠ a → D.nx σ (upd (upd H2 dx (exd dx [(f, y)])) a (exo a C (some dx)))
variable {o e : Expr} {es : List Expr} {to te : TE} {ta : TA} {p p' p1 p2 pos : Pos}
theorem pe_btinit (BF : BasF B newId initId bmB) {pl : Sem Bool} (hg : Gl X (Str.ofString B)) (hm : X.mg (Str.ofString B) = none) (vV : PySem.W.findCls X.K (.type B) (.type "type") "__init__" = some (.val (.builtin initId))) (ha : PA X (e :: es) ta)
    (hc : eval (.Call (.Attribute (.Name (Str.ofString B) p1) "__init__" p2) (e :: es) [] pos) X.env = (do
      let ov ← eval (.Name (Str.ofString B) p1) X.env
      standAt p2.atName
      let (f, first) ← holding [ov] (getMethod ov "__init__" pl)
      callWith pos f first (backTo pos (starEach (e :: es) X.env)) (backToKw pos (keywordEach [] X.env))) := by rfl)
    (he : starEach (e :: es) X.env = (false, eval e X.env) :: starEach es X.env := by rfl) (hpl : (backTo pos (starEach es X.env)).any (·.1) = false := by rfl) :
    PE X (.Call (.Attribute (.Name (Str.ofString B) p1) "__init__" p2) (e :: es) [] pos) (tBtI X.K newId bmB ta) := by
  refine ⟨fun pins s σ H Q I h => PySem.W.methodCall_KW (ld_blt I hg hm BF.blt ?_ BF.nam BF.dbg) hc⟩
  obtain ⟨m, fr⟩ := I.fr
  refine PySem.W.method_type fr I.ok.mod.kin BF.typ BF.stub vV BF.hin ?_
  show wpAny _ _ (callWith pos (Value.builtin initId) [] (backTo pos (starEach (e :: es) X.env)) []) _ _ _
  refine PyProof.Rows.callWith_method1 (thn (ha.run pos pins _ σ H _ (I.tok _) h) fun us s1 ⟨vs, H1, I1, r1, a, C, ws, ev, hl, T, ea, q⟩ => ?_) he hpl
  subst ev
  cases r1 with
  | @cons _ u0 _ ur ra rw' =>
    obtain rfl : u0 = Value.ref a := ra
    exact oinit_b BF T I1 ea (by rw [← Paired.length rw', sizeLine_eq]; omega) fun s' J => ⟨.non, H1, J, rfl, q⟩
theorem ps_ostB (BF : BasF B newId initId bmB) (ho : PE X o to) (he : PE X e te) (hs : swapsWith e (some (.Attribute o f p')) pos.line X.env = pure false := by rfl) : PS X (.Assign [.Attribute o f p'] e pos) (tOstB X.K newId bmB f to te) := by
  refine ⟨fun pins s σ H D I h => plainObj_wpAny_Assign_Attribute (thn (he.run pins s σ H _ I h) fun v s1 ⟨y, H1, I1, r1, q1⟩ => ?_) hs⟩
  refine thn (ho.run pins s1 σ H1 _ I1 q1) fun u s2 ⟨x, H2, I2, r2, a, C, ex, T, hno, ea, q⟩ => ?_
  subst ex
  obtain rfl : u = Value.ref a := r2
  exact ost_first BF T I2 ea hno r1 fun dx s' n ne J => ⟨σ, _, J, q dx n ne⟩
theorem pmk_b (BF : BasF B newId initId bmB) {CX : CXT} {x : Str} {fI : Addr} {k : Nat} {fd : FuncData} {ps : List Str} {sp : Sp} {ds : List Value} {dvs : List V} (T : OexB X.K C newId bmB) (iC : PySem.W.findIn X.K (.ref C) "__init__" = some (some (.ref fI))) (tI : PySem.W.typeIn X.K (.ref fI) = some (.type "function"))
    (F1 : FnOk X.prog X.w X.K X.mg X.base CX k fI fd ps sp) (hr : Room (k + 1) X.A) (hb : Binds X.K fd ps ds) (hd : Vals dvs ds) (hx : Passes CX X (fun _ _ _ => False)) (hg : Gl X x) (hm : X.mg x = some (.ref C)) (ha : PA X (e :: es) ta)
    (hdb : (x == ("__debug__" : Str)) = false := by decide) (he : starEach (e :: es) X.env = (false, eval e X.env) :: starEach es X.env := by rfl) (hpl : (backTo pos (starEach es X.env)).any (·.1) = false := by rfl) :
    PMk X (.Call (.Name x p) (e :: es) [] pos) (tMkO C sp dvs ta) := by
  intro pins s σ H Q I h
  obtain ⟨nm, q, N, bs, bm, sn, sub, ab, col, dd, k0, k1, k2, k3, k5, hC, hbm⟩ := T.cls
  refine wpAny_Call_Name_kw (ld_glob I hg hm ?_ hdb)
  refine PySem.W.callWith_K (h₀ := X.base) I.ok.mod.kin T.kC (thn (ha.run pos pins s σ H _ I h) fun us s1 ⟨vs, H1, I1, r1, hz, q1⟩ => ⟨I1.kIn, ?_⟩) he hpl
  obtain ⟨hp, g, dr, tk, os⟩ := s1
  show wpAny _ _ (call (.ref C) us) _ _ _
  have le : hp.objs.size ≤ hp.objs.size + 1 := Nat.le_succ _
  have want := q1 (hp.objs.size + 1) (I1.hok.fresh le)
  generalize hG : (hp.push (PySem.W.kdv_tup us)).push (PySem.HandSPX.excO C hp.objs.size) = G
  have kk : ∀ b o, hp.get? b = some o → G.get? b = some o := fun b o z => by
    rw [← hG]
    exact Heap.get?_push_of_some _ (Heap.get?_push_of_some _ z)
  have at1 : G.get? (hp.objs.size + 1) = some (PySem.HandSPX.excO C hp.objs.size) := by
    rw [← hG]
    heap_get
  have I2 : Inv X pins σ (upd H1 (hp.objs.size + 1) (exo (hp.objs.size + 1) C none)) ⟨G, g, dr, tk, os⟩ := I1.laid (a := hp.objs.size + 1) (o := exo (hp.objs.size + 1) C none) (t' := tk) (h' := G) kk le (exo_ok at1)
  have r2 : Vals (V.ref (hp.objs.size + 1) :: (vs ++ dvs)) (Value.ref (hp.objs.size + 1) :: (us ++ ds)) := .cons rfl (r1.append hd)
  have cnt : (Value.ref (hp.objs.size + 1) :: us ++ ds).length = ps.length := by
    rw [← F1.len _ _ _ _ want]
    exact r2.length.symm
  have small : us.length ≤ sizeLine := by
    rw [← Paired.length r1, sizeLine_eq]
    omega
  have run := F1.run _ X.stack _ _ ⟨Value.ref (hp.objs.size + 1) :: us, []⟩ (Value.ref (hp.objs.size + 1) :: (us ++ ds)) _ _ (fun _ _ _ => False) (hr.make C us []) (I2.env0.make C us []) (hb _ (Value.ref (hp.objs.size + 1) :: us) I2.kIn cnt) r2 want
  refine wpAny_call (BF.call _ _ _ _ _ _ _ _ _ _ _ _ _ _ _ _ _ _ _ _ _ _ _ _ _ _ _ fI (fun Y => PySem.W.excTail_contains Y bm hbm) (I1.kIn _ _ hC) (PySem.W.looks_findIn I1.kIn iC) (fun self => PySem.W.bind_fn I1.kIn self tI) small ?_)
  rw [hG]
  refine codeAny_mono run fun r s' hq' => ?_
  match r, hq' with
  | .error er, hq' => exact hx pins σ _ _ er s' I2 hq'
  | .ok (.ret u), ⟨v, H2, os2, bare2, un2, hok2, rv, ev, d, fs, ea, ed, hd1, q2⟩ =>
    subst ev
    exact ⟨rv, mk_end (raises_own T.exC T.tyC) I1 le kk un2 hok2 os2 bare2 ea ed hd1 q2⟩
end
/-- the class's facts, gathered -/
structure OwnB (K : PySem.W.Frag) (mg : Str → Option Value) (x f : Str) (B newId initId : String) (bmB : List Value) (C fI : Addr) : Prop where
  gC : mg x = some (.ref C)
  ox : OexB K C newId bmB
  no : PySem.W.findIn K (.ref C) f = some none
  iC : PySem.W.findIn K (.ref C) "__init__" = some (some (.ref fI))
  tI : PySem.W.typeIn K (.ref fI) = some (.type "function")
  xf : XfC K C
  gB : mg (Str.ofString B) = none
  vV : PySem.W.findCls K (.type B) (.type "type") "__init__" = some (.val (.builtin initId))
  ex : PySem.W.exmOne K (.ref C) (.ref C) = some true
/-- an own error with one field, its __init__ done -/
structure ErrB (P : Program) (w : World) (K : PySem.W.Frag) (mg : Str → Option Value) (base : Heap) (x f : Str) (B newId initId : String) (bmB : List Value) (C : Addr) : Prop where
  bf : BasF B newId initId bmB
  ex : ∃ (fI : Addr) (fd : FuncData), OwnB K mg x f B newId initId bmB C fI ∧ FnOk P w K mg base CX0 1 fI fd ["self", f] (spInit1 C f) ∧ Binds K fd ["self", f] []
section
variable {X : Cx} {W : WX} {j : Nat} {x f : Str} {B newId initId : String} {bmB : List Value} {C : Addr} {e : Expr} {te : TE} {p p2 pos : Pos}
theorem ps_rzB (T : ErrB X.prog X.w X.K X.mg X.base x f B newId initId bmB C) (hr : Rm j X.A) (hk : 2 ≤ j) (hc : X.calm = true) (tk : Takes X W) (hg : Gl X x) (he : PE X e te)
    (hdb : (x == ("__debug__" : Str)) = false := by decide) (hs : starEach [e] X.env = (false, eval e X.env) :: starEach [] X.env := by rfl) (hpl : (backTo p2 (starEach [] X.env)).any (·.1) = false := by rfl) :
    PS X (.Raise (some (.Call (.Name x p) [e] [] p2)) none pos) (tRz C f te W) := by
  obtain ⟨fI, fd, T1, F1, b⟩ := T.ex
  exact ps_raise (pos := pos) hc tk (pmk_b T.bf (p := p) (pos := p2) (dvs := []) T1.ox T1.iC T1.tI F1 (hr.r.mono hk) b .nil pass0 hg T1.gC (pa_cons he pa_nil (hs := hs)) hdb hs hpl)
end
section
variable {K : PySem.W.Frag} {H : Hp} {Q : VK} {D : Ends} {σ : L2.St} {newId : String} {bmB : List Value} {ta : TA} {te : TE}
theorem rd_bti {v : V} (h : ta σ H fun vs H1 => ∃ (a C : Addr) (ws : List V), vs = .ref a :: ws ∧ ws.length ≤ 1000 ∧ OexB K C newId bmB ∧ H1 a = some (exo a C none) ∧ Q .non H1) : tBtI K newId bmB ta σ H Q := h
theorem rd_ostB {f : Str} {to : TE} (h : te σ H fun y H1 => to σ H1 fun x H2 => ∃ a C : Addr, x = .ref a ∧ OexB K C newId bmB ∧ PySem.W.findIn K (.ref C) f = some none ∧
  H2 a = some (exo a C none) ∧ ∀ dx, H2 dx = none → dx ≠ a → D.nx σ (upd (upd H2 dx (exd dx [(f, y)])) a (exo a C (some dx)))) : tOstB K newId bmB f to te D σ H := h
end
theorem ownB_mk {K : PySem.W.Frag} {mg : Str → Option Value} {x f : Str} {B newId initId : String} {bmB : List Value} {C fI : Addr} {nm q : Str} {N : Addr} {bs bm : List Value} {sn : List Str} {sub : List Value} {ab : Bool} {col : Option Bool} {dd : Option Addr} {m0 m1 m2 m3 m5 : Option Value}
    (gC : mg x = some (.ref C)) (gB : mg (Str.ofString B) = none)
    (xL : K.lookup C = some (excClassObj nm q C N bs bm true sn sub ab col dd m0 m1 m2 m3 m5 newId)) (tl : PySem.W.excTail bmB bm = true)
    (sa : PySem.W.findIn K (.ref C) "__setattr__" = some (some (.builtin "object.__setattr__"))) (ga : PySem.W.findIn K (.ref C) "__getattribute__" = some (some (.builtin "BaseException.__getattribute__"))) (gg : PySem.W.findIn K (.ref C) "__getattr__" = some none) (nb : PySem.W.findIn K (.ref C) f = some none)
    (a1 : PySem.W.findIn K (.ref C) "__init__" = some (some (.ref fI))) (t1 : PySem.W.typeIn K (.ref fI) = some (.type "function"))
    (kC : PySem.W.keepIn K (.ref C) = true) (eC : PySem.W.subIn K (.ref C) (.type "BaseException") = some true) (tC : PySem.W.typeIn K (.ref C) = some (.type "type")) (hC : PySem.W.hasDictIn K C = true) (iC : PySem.W.isClsIn K C = true) (sC : PySem.W.subIn K (.ref C) (.ref C) = some true)
    (vV : PySem.W.findCls K (.type B) (.type "type") "__init__" = some (.val (.builtin initId))) : OwnB K mg x f B newId initId bmB C fI where
  gC := gC
  ox := ⟨⟨nm, q, N, bs, _, sn, sub, ab, col, dd, m0, m1, m2, m3, m5, xL, tl⟩, sa, eC, tC, kC⟩
  no := nb
  iC := a1
  tI := t1
  xf := ⟨ga, gg, eC, hC⟩
  gB := gB
  vV := vV
  ex := exm_sub eC eC iC tC sC
end U

/-! count_orders -/
namespace Law
open PySem PySem.Spec PyProof.Rows L2 U LamX


section
variable {P : Program} {w : World} {K : PySem.W.Frag} {mg : Str → Option Value} {base : Heap}
theorem ok_initTL {f : Addr} {fd : FuncData} {C : Addr} (F : Fun K "__init__" "TooLarge.__init__" s_TooLarge_init f fd) (T : OwnB K mg "TooLarge" "total" "OverflowError" "OverflowError.__new__" "OverflowError.__init__" bmOE C f) : FnOk P w K mg base CX0 1 f fd ["self", "total"] (spInit1 C "total") := by
  refine F.ok sc_TooLarge_init (fun vs H Q E h => ?_) (fun cdv A outer s H vs Q E hr h => ?_)
  · obtain ⟨a, v, rfl, _⟩ := h
    rfl
  · obtain ⟨a, v, rfl, ha, q⟩ := h
    refine ⟨_, pss_cons (ps_expr (pe_btinit bas_OE rfl T.gB T.vV (pa_cons (pv 0) (pa_cons pe_str pa_nil)))) (pss_one (ps_ostB bas_OE (pv 0) (pv 1))), ?_⟩
    wtm_at "rd"
    refine rd_bti (v := v) ?_
    wtm_at "rd"
    refine ⟨a, C, _, rfl, by decide, T.ox, ha, ?_⟩
    dsimp only
    refine rd_ostB ?_
    wtm_at "rd"
    exact ⟨a, C, rfl, T.ox, T.no, ha, fun dx n1 n2 => q dx n1 n2⟩
end
end Law

/-! check_class, check_extras, split_classes as they raise -/
namespace Law
open PySem PySem.Spec PyProof.Rows L2 U LamX


theorem spCkSt.mono {C : Addr} {vs : List V} {H : Hp} {Q Q2 : VK} {E : XK} (h : spCkSt C vs H Q E) (m : ∀ v H', Q v H' → Q2 v H') : spCkSt C vs H Q2 E := by
  obtain ⟨g, n, e, v, ns, es, ev, gs, alt⟩ := h
  refine ⟨g, n, e, v, ns, es, ev, gs, ?_⟩
  rcases alt with a | a | ⟨d, ord, F, e1, e2, e3, e4, e5, fin⟩
  · exact .inl a
  · exact .inr (.inl a)
  · exact .inr (.inr ⟨d, ord, F, e1, e2, e3, e4, e5, fun f hf => ⟨(fin f hf).1, fun k H' s => m _ _ ((fin f hf).2 k H' s)⟩⟩)
/-- a state passes -/
theorem ckSt_good {C : Addr} {g n e st : Addr} {ns ord : List Str} {es : List (Addr × Str × Str)} {f : Str → Int} {H : Hp} {Q : VK} {E : XK} (gs : GSt H g n e st ns ord es f) (q : ∀ H' : Hp, Same H H' → Q .non H') : spCkSt C [.ref g, .ref st] H Q E := by
  refine ⟨g, n, e, .ref st, ns, es, rfl, gs.grs, .inr (.inr ⟨st, ord, fun y => .int (f y), rfl, gs.st, gs.pm, fun y hy => .inl ⟨f y, rfl, (gs.tri y hy).1, by have := (gs.tri y hy).2; omega⟩, fun i hi b _ => ?_, fun f' hf => ⟨fun i hi c _ => ?_, fun _ H' s => q H' s⟩⟩)⟩
  · exfalso
    have := gs.tri _ (List.getElem_mem hi)
    rcases b with b | ⟨_, b⟩ | ⟨v, b, nv⟩
    · cases b
    · cases b
    · have : f ns[i] = v := by injection b
      omega
  · exfalso
    obtain ⟨m1, m2⟩ := gs.inE _ (List.getElem_mem hi)
    have e1 : f es[i].2.1 = f' es[i].2.1 := by
      have := (hf _ m1).1
      injection this
    have e2 : f es[i].2.2 = f' es[i].2.2 := by
      have := (hf _ m2).1
      injection this
    exact gs.pro _ (List.getElem_mem hi) (by rw [e1, e2, c])
abbrev Sts := List (Addr × List Str × (Str → Int))
/-- what check_class says of a list -/
def CkCase (T : List (Addr × Str)) (CT CS CN : Addr) (g n e sl : Addr) (ns pn : List Str) (es : List (Addr × Str × Str)) (H : Hp) (E : XK) (good : Hp → Prop) : Prop :=
  (∃ xs : List V, H sl = some (.lst xs) ∧ ¬ (1 ≤ xs.length ∧ xs.length ≤ 12) ∧ FldT T "total" CT (.int xs.length) H E) ∨
  (∃ (ss : Sts) (v : V) (rest : List V), H sl = some (.lst (ss.map (fun s => V.ref s.1) ++ v :: rest)) ∧ ss.length + rest.length ≤ 11 ∧ StsAt H g n e ns es ss ∧ ∀ H' : Hp, Same H H' → spCkSt CS [.ref g, v] H' (fun _ _ => False) E) ∨
  (∃ (ss : Sts) (i : Nat), i < ss.length ∧ H sl = some (.lst (ss.map fun s => V.ref s.1)) ∧ ss.length ≤ 12 ∧ StsAt H g n e ns es ss ∧ (∀ j, j < i → sgOf ns (es.map (·.2)) pn ss j = sgOf ns (es.map (·.2)) pn ss 0) ∧ sgOf ns (es.map (·.2)) pn ss i ≠ sgOf ns (es.map (·.2)) pn ss 0 ∧ FldT T "position" CN (.int i) H E) ∨
  ∃ ss : Sts, H sl = some (.lst (ss.map fun s => V.ref s.1)) ∧ 1 ≤ ss.length ∧ ss.length ≤ 12 ∧ StsAt H g n e ns es ss ∧ (∀ j, j < ss.length → sgOf ns (es.map (·.2)) pn ss j = sgOf ns (es.map (·.2)) pn ss 0) ∧ ∀ H' : Hp, ExtN H H' → Tabs T H' → good H'
theorem CkCase.mono {T : List (Addr × Str)} {CT CS CN : Addr} {g n e sl : Addr} {ns pn : List Str} {es : List (Addr × Str × Str)} {H : Hp} {E : XK} {good good2 : Hp → Prop} (h : CkCase T CT CS CN g n e sl ns pn es H E good) (m : ∀ H' : Hp, ExtN H H' → good H' → good2 H') : CkCase T CT CS CN g n e sl ns pn es H E good2 := by
  rcases h with a | a | a | ⟨ss, h1, h2, h3, h4, h5, k⟩
  · exact .inl a
  · exact .inr (.inl a)
  · exact .inr (.inr (.inl a))
  · exact .inr (.inr (.inr ⟨ss, h1, h2, h3, h4, h5, fun H' x t => m H' x (k H' x t)⟩))
def spCkClX (K : PySem.W.Frag) (T : List (Addr × Str)) (CT CS CN : Addr) : Sp := fun vs H Q E => ∃ (g n e sl ps : Addr) (ns pn : List Str) (es : List (Addr × Str × Str)), vs = [.ref g, .ref sl, .ref ps] ∧ SqT K H ps (pn.map V.str) ∧ Tabs T H ∧ ns.length ≤ 60 ∧ CkCase T CT CS CN g n e sl ns pn es H E fun H' => Q .non H'
section
variable {P : Program} {w : World} {K : PySem.W.Frag} {mg : Str → Option Value} {base : Heap}
structure VIa (P : Program) (w : World) (K : PySem.W.Frag) (mg : Str → Option Value) (base : Heap) (T : List (Addr × Str)) (CS : Addr) : Prop where
  check_state : Cal P w K mg base (L2.CX P w) 3 "check_state" (spCkSt CS)
  signature : CalK P w K mg base CX0 7 "signature" 2 ["pinned"] (spSig K T)
  MAX_SPLIT : ∃ u, mg "MAX_SPLIT" = some u ∧ RelV (.int 12) u
theorem ok_ckClX {f : Addr} {fd : FuncData} {T : List (Addr × Str)} {CT CS CN CB : Addr} (F : Fun K "check_class" "check_class" s_check_class f fd) (B : Bt mg) (C : VIa P w K mg base T CS) (TT : ErrB P w K mg base "TooLarge" "total" "OverflowError" "OverflowError.__new__" "OverflowError.__init__" bmOE CT) (TN : ErrX P w K mg base "NotReachable" "position" CN CB) : FnG P w K mg base (L2.CX P w) 8 f fd ["graph", "states", "pinned"] (spCkClX K T CT CS CN) := by
  refine fnG F sc_check_class (fun vs H Q E h => ?_) (fun cdv A outer s H vs Q E hr h => ?_)
  · obtain ⟨g, n, e, sl, ps, ns, pn, es, rfl, _⟩ := h
    rfl
  · obtain ⟨g, n, e, sl, ps, ns, pn, es, rfl, hps, tabs, n60, cs⟩ := h
    have nd := sc_check_class.nd
    have hu := hr.u1
    refine ⟨_, (pss_cons (ps_if (pt_not (pt_chain uLe uLe pe_int (pe_callB (kLen K rfl) (by rfl) B.len bb_len (pa_cons (pv 1) pa_nil)) (pe_gl rfl C.MAX_SPLIT))) (pss_one (ps_rzB TT hr (by decide) rfl (takes_of rfl rfl rfl rfl) rfl (pe_callB (kLen K rfl) (by rfl) B.len bb_len (pa_cons (pv 1) pa_nil)))) pss_nil)
  (pss_cons (ps_for (passes_of rfl) rfl (ki_list K rfl (pv 1)) (pg_name (i := 3) nd rfl (by first | exact Or.inl rfl | exact Or.inr rfl)) (pss_one (ps_expr (pe_cX C.check_state hr (by decide) rfl (takes_of rfl rfl rfl rfl) (pa_cons (pv 0) (pa_cons (pv 3) pa_nil))))))
  (pss_cons (ps_setLc (i := 4) (own := [("state", 3)]) rfl nd rfl rfl (sw_true rfl rfl rfl (by decide +kernel)) (ki_list K rfl (pv 1)) (blkOk_by (own := [("state", 3)]) (N := nN_check_class) (sc := defScope s_check_class) (by decide +kernel)) (fun _ _ _ _ _ => (pg_name (i := 3) nd rfl (by first | exact Or.inl rfl | exact Or.inr rfl))) (fun _ _ _ _ _ => pts_nil) (fun _ _ _ _ _ => (pe_cK C.signature hr (by decide) rfl pass0 (pa_cons (pv 0) (pa_cons (pv 3) pa_nil)) (pk_cons (pv 2) pk_nil))))
  (pss_one (ps_for (passes_of rfl) rfl (pi_enum (by rfl) B.enumerate (pa_cons (pv 4) pa_nil)) (kg_tup (n := 2) K rfl rfl (pgs_cons (pg_name (i := 5) nd rfl (by first | exact Or.inl rfl | exact Or.inr rfl)) (pgs_cons (pg_name (i := 6) nd rfl (by first | exact Or.inl rfl | exact Or.inr rfl)) pgs_nil))) (pss_one (ps_if (pt_cmpR (kNe K rfl hr.u64) (pv 6) (pe_ix (kIx K rfl) (pv 4) pe_int (fun _ _ => rfl)) (nomark _)) (pss_one (ps_rz TN hr (by decide) rfl (takes_of rfl rfl rfl rfl) rfl (pv 5))) pss_nil))))))), ?_⟩
    wtm_at "rd"
    rcases cs with ⟨xs, hsl, len, er⟩ | ⟨ss, v, rest, hsl, len, sts, bad⟩ | cs
    · refine rd_lenL (SqL.of hsl) ?_
      wtm_at "rd"
      have fin : ∀ {D0 : Ends} {σ0 : L2.St}, True := fun {_ _} => trivial
      by_cases c : 1 ≤ xs.length
      · refine rd_yes (show (1 : Int) ≤ (xs.length : Int) by omega) ?_
        wtm_at "rd"
        refine rd_nyes (show ¬ ((xs.length : Int) ≤ 12) by omega) ?_
        wtm_at "rd"
        refine rd_rz ?_
        wtm_at "rd"
        refine rd_lenL (SqL.of hsl) ?_
        wtm_at "rd"
        exact rd_mk1 fun dd H' s' nd' hd => er dd H' (ExtN.of fun b o h => s' b o h) (tabs.ext fun b o h => s' b o h) hd
      · refine rd_no (show ¬ ((1 : Int) ≤ (xs.length : Int)) by omega) ?_
        wtm_at "rd"
        refine rd_rz ?_
        wtm_at "rd"
        refine rd_lenL (SqL.of hsl) ?_
        wtm_at "rd"
        exact rd_mk1 fun dd H' s' nd' hd => er dd H' (ExtN.of fun b o h => s' b o h) (tabs.ext fun b o h => s' b o h) hd
    · refine rd_lenL (SqL.of hsl) ?_
      rw [List.length_append, List.length_map, List.length_cons]
      wtm_at "rd"
      refine rd_yes (show (1 : Int) ≤ ((ss.length + (rest.length + 1) : Nat) : Int) by omega) ?_
      wtm_at "rd"
      refine rd_nno (show ((ss.length + (rest.length + 1) : Nat) : Int) ≤ 12 by omega) ?_
      wtm_at "rd"
      refine rd_forL (SqL.of hsl) ?_
      refine turnsL (K := K) (xs := ss.map (fun s => V.ref s.1) ++ v :: rest) (fun i σ H' => ∃ u3 : Option V, σ = [some (.ref g), some (.ref sl), some (.ref ps), u3, none, none, none] ∧ Same H H' ∧ i ≤ ss.length) ⟨_, rfl, (fun _ _ h => h), Nat.zero_le _⟩ ?_ ?_ ?_
      · rintro i σ H' hi ⟨_, rfl, s1, _⟩
        exact SqL.of (s1 _ _ hsl)
      · rintro i y σ H' hy ⟨u3, rfl, s1, il⟩
        by_cases c : i < ss.length
        · have ey : y = .ref ss[i].1 := by
            rw [List.getElem?_append_left (by rw [List.length_map]; exact c), List.getElem?_map, List.getElem?_eq_getElem c] at hy
            exact (Option.some.inj hy).symm
          subst ey
          have sm := sts _ (List.getElem_mem c)
          wtm_at "rd"
          refine ckSt_good (sm.same s1) fun H2 s2 => ?_
          wtm_at "rd"
          exact ⟨_, rfl, s1.trans s2, by omega⟩
        · obtain rfl : i = ss.length := by omega
          have ey : y = v := by
            rw [List.getElem?_append_right (by rw [List.length_map]; exact Nat.le_refl _), List.length_map, Nat.sub_self] at hy
            exact (Option.some.inj hy).symm
          subst ey
          wtm_at "rd"
          exact spCkSt.mono (bad _ s1) fun _ _ z => z.elim
      · rintro σ H' ⟨u3, rfl, s1, il⟩
        exfalso
        rw [List.length_append, List.length_map, List.length_cons] at il
        omega
    obtain ⟨ss, hsl, l1, l12, sts, body⟩ : ∃ ss : Sts, H sl = some (.lst (ss.map fun s => V.ref s.1)) ∧ 1 ≤ ss.length ∧ ss.length ≤ 12 ∧ StsAt H g n e ns es ss ∧
        ((∃ i, i < ss.length ∧ (∀ j, j < i → sgOf ns (es.map (·.2)) pn ss j = sgOf ns (es.map (·.2)) pn ss 0) ∧ sgOf ns (es.map (·.2)) pn ss i ≠ sgOf ns (es.map (·.2)) pn ss 0 ∧ FldT T "position" CN (.int i) H E) ∨
          ((∀ j, j < ss.length → sgOf ns (es.map (·.2)) pn ss j = sgOf ns (es.map (·.2)) pn ss 0) ∧ ∀ H' : Hp, ExtN H H' → Tabs T H' → Q .non H')) := by
      rcases cs with ⟨ss, i, a, b, c, d, e1, e2, e3⟩ | ⟨ss, a, b, c, d, e1, e2⟩
      · exact ⟨ss, b, by omega, c, d, .inl ⟨i, a, e1, e2, e3⟩⟩
      · exact ⟨ss, a, b, c, d, .inr ⟨e1, e2⟩⟩
    clear cs
    refine rd_lenL (SqL.of hsl) ?_
    rw [List.length_map]
    wtm_at "rd"
    refine rd_yes (by omega) ?_
    wtm_at "rd"
    refine rd_nno (show ((ss.length : Nat) : Int) ≤ 12 by omega) ?_
    wtm_at "rd"
    refine rd_forL (SqL.of hsl) ?_
    refine turnsL (K := K) (xs := ss.map fun s => V.ref s.1) (fun i σ H' => ∃ u3 : Option V, σ = [some (.ref g), some (.ref sl), some (.ref ps), u3, none, none, none] ∧ Same H H') ⟨_, rfl, fun _ _ h => h⟩ ?_ ?_ ?_
    · rintro i σ H' hi ⟨_, rfl, s1⟩
      exact SqL.of (s1 _ _ hsl)
    · rintro i y σ H' hy ⟨u3, rfl, s1⟩
      obtain ⟨hi, rfl⟩ := map_at hy
      have sm := sts _ (List.getElem_mem hi)
      wtm_at "rd"
      refine ckSt_good (sm.same s1) fun H2 s2 => ?_
      wtm_at "rd"
      exact ⟨_, rfl, s1.trans s2⟩
    rintro σ H1 ⟨u3, rfl, s1⟩
    wtm_at "rd"
    have hsl1 := s1 _ _ hsl
    have sts1 := sts.same s1
    have hps1 := Same.seqT s1 hps
    have tabs1 := tabs.ext fun b o h => s1 b o h
    refine rd_forL (SqL.of hsl1) ?_
    intro D fD
    refine lcL (K := K) (xs := ss.map fun s => V.ref s.1) (fun i H' => ∃ ts : List (Addr × List Int), ExtN H1 H' ∧ Tabs T H' ∧ H' D = some (.lst (ts.map fun t => V.ref t.1)) ∧ (∀ t ∈ ts, H' t.1 = some (.tup (t.2.map V.int))) ∧ ts.map (·.2) = (ss.take i).map fun s => sigF ns (es.map (·.2)) s.2.2 pn) ⟨[], ExtN.of fun b o h => Same.new fD b o h, tabs1.ext fun b o h => Same.new fD b o h, upd_same, (fun _ h => nomatch h), rfl⟩ ?_ ?_ ?_
    · rintro i H' hi ⟨ts, x, _⟩
      exact SqL.of (ExtN.li x hsl1)
    · rintro i y H' hy ⟨ts, x, tb, hD, ta, te⟩
      obtain ⟨hi, rfl⟩ := map_at hy
      have sm := sts1 _ (List.getElem_mem hi)
      have tl : ts.length ≤ 12 := by
        have := congrArg List.length te
        rw [List.length_map, List.length_map, List.length_take] at this
        omega
      rw [take_snoc hi, List.map_append]
      generalize ss[i] = s at *
      wtm_at "rd"
      refine ⟨g, n, e, s.1, ps, ns, s.2.1, pn, es, s.2.2, rfl, sm.ext x, sqT_ext hps1 x, tb, n60, fun t H2 x2 tb2 ht => ?_⟩
      have hD2 := ExtN.li x2 hD
      refine rd_acc hD2 (by rw [List.length_map]; omega) ?_
      refine ⟨ts ++ [(t, sigF ns (es.map (·.2)) s.2.2 pn)], ext_put (x.trans x2) fD, tabs_put tb2 hD2, by rw [upd_same, List.map_append]; rfl, fun z hz => ?_, by rw [List.map_append, te]; rfl⟩
      rcases List.mem_append.mp hz with hz | hz
      · have h0 := ExtN.tu x2 (ta z hz)
        exact at_upd (ne_of h0 hD2 nofun) h0
      · rw [List.mem_singleton.mp hz]
        exact at_upd (ne_of ht hD2 nofun) ht
    rintro H2 ⟨ts, x2, tb2, hD, ta, te⟩
    rw [List.length_map, List.take_length] at te
    have tl : ts.length = ss.length := by
      have := congrArg List.length te
      rwa [List.length_map, List.length_map] at this
    have sgT : ∀ (i : Nat) (hi : i < ts.length), ts[i].2 = sgOf ns (es.map (·.2)) pn ss i := fun i hi => by
      have : (ts.map (·.2))[i]? = (ss.map fun s => sigF ns (es.map (·.2)) s.2.2 pn)[i]? := by rw [te]
      rw [List.getElem?_map, List.getElem?_map, List.getElem?_eq_getElem hi, List.getElem?_eq_getElem (by omega)] at this
      unfold sgOf
      rw [List.getElem?_eq_getElem (by omega)]
      exact Option.some.inj this
    have h0 : 0 < ts.length := by omega
    wtm_at "rd"
    refine rd_forE (SqL.of hD) ?_
    refine turnsW (walk_enum (K := K) (a := D) (xs := ts.map fun t => V.ref t.1)) (fun i σ H' => ∃ u3 u5 u6 : Option V, σ = [some (.ref g), some (.ref sl), some (.ref ps), u3, some (.ref D), u5, u6] ∧ Same H2 H' ∧ ∀ j, j < i → sgOf ns (es.map (·.2)) pn ss j = sgOf ns (es.map (·.2)) pn ss 0) ⟨_, _, _, rfl, (fun _ _ h => h), fun j hj => absurd hj (Nat.not_lt_zero _)⟩ ?_ ?_ ?_
    · rintro i σ H' hi ⟨_, _, _, rfl, s, _⟩
      exact SqL.of (s _ _ hD)
    · rintro i y σ H4 H5 hi ⟨u3, u5, u6, rfl, s, eqs⟩ ⟨tt, x1, y1, rfl, fT, rfl, e1, e2⟩
      obtain rfl := Option.some.inj e1
      obtain ⟨hi2, rfl⟩ := map_at e2
      have kT := Same.new (o := .tup [.int (i : Int), .ref ts[i].1]) fT
      have hT := @upd_same H4 tt (.tup [.int (i : Int), .ref ts[i].1])
      have s := s.trans kT
      generalize upd H4 tt (.tup [.int (i : Int), .ref ts[i].1]) = H5 at *
      refine rd_unp (SqT.of hT) rfl ?_
      wtm_at "rd"
      refine rd_ixL (SqL.of (s _ _ hD)) (v := .ref ts[0].1) (atI_nat (j := 0) (by rw [List.getElem?_map, List.getElem?_eq_getElem h0]; rfl)) ?_
      refine rd_neIT (SqT.of (s _ _ (ta _ (List.getElem_mem hi2)))) (SqT.of (s _ _ (ta _ (List.getElem_mem h0)))) ?_
      rw [sgT i hi2, sgT 0 h0]
      wtm_at "rd"
      refine rd_nsplit (fun c => ?_) (fun c => ?_)
      · wtm_at "rd"
        rcases body with ⟨k, k1, k2, k3, er⟩ | ⟨k1, _⟩
        · obtain rfl : k = i := by
            rcases Nat.lt_trichotomy k i with z | z | z
            · exact absurd (eqs k z) k3
            · exact z
            · exact absurd (k2 i z) c
          refine rd_rz ?_
          wtm_at "rd"
          have x05 : ExtN H H5 := ((ExtN.of fun b o h => s1 b o h).trans x2).trans (ExtN.of fun b o h => s b o h)
          have tb5 := tb2.ext fun b o h => s b o h
          exact rd_mk1 fun dd H' s' nd' hd => er dd H' (x05.trans (ExtN.of fun b o h => s' b o h)) (tb5.ext fun b o h => s' b o h) hd
        · exact absurd (k1 i (by omega)) c
      · wtm_at "rd"
        refine ⟨_, _, _, rfl, s, fun j hj => ?_⟩
        by_cases z : j = i
        · rw [z]
          exact c
        · exact eqs j (by omega)
    · rintro σ H' ⟨u3, u5, u6, rfl, s, eqs⟩
      rcases body with ⟨k, k1, k2, k3, er⟩ | ⟨k1, good⟩
      · exact absurd (eqs k (by rw [List.length_map]; omega)) k3
      · exact good H' (((ExtN.of fun b o h => s1 b o h).trans x2).trans (ExtN.of fun b o h => s b o h)) (tb2.ext fun b o h => s b o h)
end
end Law

/-! check_extras, split_classes as they raise -/
namespace Law
open PySem PySem.Spec PyProof.Rows L2 U LamX


def FldS (f : Str) (C : Addr) (v : V) (H : Hp) (E : XK) : Prop := ∀ (d : Addr) (H' : Hp), Same H H' → H' d = some (.xd [(f, v)]) → E (.ref C) (some d) H'
/-- no new pin -/
def PBad (K : PySem.W.Frag) (H : Hp) (ns pn : List Str) (v : V) : Prop := v ≠ .non ∧ ((∃ t, TyIs K H v t ∧ isT t .str = false) ∨ ∃ s, v = .str s ∧ (s ∉ ns ∨ s ∈ pn))
/-- no new edge -/
def EBad (K : PySem.W.Frag) (H : Hp) (ns : List Str) (es : List (Str × Str)) (v : V) : Prop := v ≠ .non ∧ ((∃ t, TyIs K H v t ∧ isT t .tup = false) ∨ (∃ a xs, v = .ref a ∧ H a = some (.tup xs) ∧ xs.length ≠ 2) ∨ ∃ a x y, v = .ref a ∧ H a = some (.tup [.str x, y]) ∧ x ∈ ns ∧ (y = .non ∨ ∃ s, y = .str s ∧ (s ∉ ns ∨ (s ∈ ns ∧ (s = x ∨ eO x s ∈ es)))))
def spCkExX (K : PySem.W.Frag) (CP CX : Addr) : Sp := fun vs H _ E => ∃ (g n e ps : Addr) (np ev : V) (ns pn : List Str) (es : List (Addr × Str × Str)), vs = [.ref g, .ref ps, np, ev] ∧ GrS H g n e ns es ∧ SqT K H ps (pn.map V.str) ∧
  ((PBad K H ns pn np ∧ FldS "node" CP np H E) ∨ (np = .non ∧ EBad K H ns (es.map (·.2)) ev ∧ FldS "edge" CX ev H E))
def spSplitX (K : PySem.W.Frag) (T : List (Addr × Str)) (CT CS CN CP CX : Addr) : Sp := fun vs H Q E => ∃ (g n e sl ps : Addr) (np ev : V) (ns pn : List Str) (es : List (Addr × Str × Str)), vs = [.ref g, .ref sl, .ref ps, np, ev] ∧ SqT K H ps (pn.map V.str) ∧ Tabs T H ∧ ns.length ≤ 60 ∧ CkCase T CT CS CN g n e sl ns pn es H E fun H' => spCkExX K CP CX [.ref g, .ref ps, np, ev] H' Q E
section
variable {P : Program} {w : World} {K : PySem.W.Frag} {mg : Str → Option Value} {base : Heap}
theorem ok_initNR {f : Addr} {fd : FuncData} {C CB : Addr} {x : Str} (F : Fun K "__init__" "NotReachable.__init__" s_NotReachable_init f fd) (T : OwnX K mg x "position" C CB f) : FnOk P w K mg base CX0 1 f fd ["self", "position"] (spInit1 C "position") := by
  refine F.ok sc_NotReachable_init (fun vs H Q E h => ?_) (fun cdv A outer s H vs Q E hr h => ?_)
  · obtain ⟨a, v, rfl, _⟩ := h
    rfl
  · obtain ⟨a, v, rfl, ha, q⟩ := h
    refine ⟨_, pss_cons (ps_expr (pe_binit (x := "InputError") rfl T.gB T.bi (pa_cons (pv 0) (pa_cons pe_str pa_nil)))) (pss_one (ps_ost (pv 0) (pv 1))), ?_⟩
    wtm_at "rd"
    refine rd_vei (v := v) ?_
    wtm_at "rd"
    refine ⟨a, C, _, rfl, by decide, T.ox, ha, ?_⟩
    dsimp only
    refine rd_ost ?_
    wtm_at "rd"
    exact ⟨a, C, rfl, T.ox, T.no, .inl ⟨ha, fun dx n1 n2 => q dx n1 n2⟩⟩
theorem ok_initIPn {f : Addr} {fd : FuncData} {C CB : Addr} {x : Str} (F : Fun K "__init__" "InvalidPin.__init__" s_InvalidPin_init f fd) (T : OwnX K mg x "node" C CB f) : FnOk P w K mg base CX0 1 f fd ["self", "node"] (spInit1 C "node") := by
  refine F.ok sc_InvalidPin_init (fun vs H Q E h => ?_) (fun cdv A outer s H vs Q E hr h => ?_)
  · obtain ⟨a, v, rfl, _⟩ := h
    rfl
  · obtain ⟨a, v, rfl, ha, q⟩ := h
    refine ⟨_, pss_cons (ps_expr (pe_binit (x := "InputError") rfl T.gB T.bi (pa_cons (pv 0) (pa_cons pe_str pa_nil)))) (pss_one (ps_ost (pv 0) (pv 1))), ?_⟩
    wtm_at "rd"
    refine rd_vei (v := v) ?_
    wtm_at "rd"
    refine ⟨a, C, _, rfl, by decide, T.ox, ha, ?_⟩
    dsimp only
    refine rd_ost ?_
    wtm_at "rd"
    exact ⟨a, C, rfl, T.ox, T.no, .inl ⟨ha, fun dx n1 n2 => q dx n1 n2⟩⟩
theorem ok_initIEd {f : Addr} {fd : FuncData} {C CB : Addr} {x : Str} (F : Fun K "__init__" "InvalidEdge.__init__" s_InvalidEdge_init f fd) (T : OwnX K mg x "edge" C CB f) : FnOk P w K mg base CX0 1 f fd ["self", "edge"] (spInit1 C "edge") := by
  refine F.ok sc_InvalidEdge_init (fun vs H Q E h => ?_) (fun cdv A outer s H vs Q E hr h => ?_)
  · obtain ⟨a, v, rfl, _⟩ := h
    rfl
  · obtain ⟨a, v, rfl, ha, q⟩ := h
    refine ⟨_, pss_cons (ps_expr (pe_binit (x := "InputError") rfl T.gB T.bi (pa_cons (pv 0) (pa_cons pe_str pa_nil)))) (pss_one (ps_ost (pv 0) (pv 1))), ?_⟩
    wtm_at "rd"
    refine rd_vei (v := v) ?_
    wtm_at "rd"
    refine ⟨a, C, _, rfl, by decide, T.ox, ha, ?_⟩
    dsimp only
    refine rd_ost ?_
    wtm_at "rd"
    exact ⟨a, C, rfl, T.ox, T.no, .inl ⟨ha, fun dx n1 n2 => q dx n1 n2⟩⟩
structure VJa (P : Program) (w : World) (K : PySem.W.Frag) (mg : Str → Option Value) (base : Heap) : Prop where
  has_node : Cal P w K mg base CX0 1 "has_node" (spHasV K)
  edge_of : Cal P w K mg base CX0 1 "edge_of" spEdgeOf
theorem ok_ckExX {f : Addr} {fd : FuncData} {CP CX CB CB2 : Addr} (F : Fun K "check_extras" "check_extras" s_check_extras f fd) (B : Bt mg) (C : VJa P w K mg base) (TP : ErrX P w K mg base "InvalidPin" "node" CP CB) (TE : ErrX P w K mg base "InvalidEdge" "edge" CX CB2) : FnG P w K mg base (L2.CX P w) 3 f fd ["graph", "pinned", "extra_pin", "extra_edge"] (spCkExX K CP CX) := by
  refine fnG F sc_check_extras (fun vs H Q E h => ?_) (fun cdv A outer s H vs Q E hr h => ?_)
  · obtain ⟨g, n, e, ps, np, ev, ns, pn, es, rfl, _⟩ := h
    rfl
  · have hu65 : (A.deeper (envOfC "check_extras" (defScope s_check_extras) s.heap.objs.size f cdv)).units + 65 < cLine := by
      have := hr.u100
      omega
    obtain ⟨g, n, e, ps, np, ev, ns, pn, es, rfl, gs, hps, alt⟩ := h
    have nd := sc_check_extras.nd
    have hu := hr.u1
    refine ⟨_, (pss_cons (ps_if (PW.pt (pw_and (pt_cmpR uIsNot (pv 2) pe_non (nomark _)) (pw_and1 (PW.pt (pw_or (pt_not (pt_val (pe_c C.has_node hr (by decide) rfl (pa_cons (pv 0) (pa_cons (pv 2) pa_nil))))) (pw_or1 (pt_cmpR (kIn K rfl) (pv 2) (pv 1) rfl))))))) (pss_one (ps_rz TP hr (by decide) rfl (takes_of rfl rfl rfl rfl) rfl (pv 2))) pss_nil)
  (pss_cons (ps_if (pt_cmpR uIs (pv 3) pe_non (nomark _)) (pss_one ps_retN) pss_nil)
  (pss_cons (ps_if (PW.pt (pw_or (pt_not (pt_val (pe_callB (kIsi K rfl) (by rfl) B.isinstance bb_isinstance (pa_cons (pv 3) (pa_cons (pe_ty rfl B.tuple bb_tuple) pa_nil))))) (pw_or1 (pt_cmpR (kNe K rfl hr.u64) (pe_callB (kLen K rfl) (by rfl) B.len bb_len (pa_cons (pv 3) pa_nil)) pe_int (nomark _))))) (pss_one (ps_rz TE hr (by decide) rfl (takes_of rfl rfl rfl rfl) rfl (pv 3))) pss_nil)
  (pss_cons (ps_asg (pv 3) (kg_tup (n := 2) K rfl rfl (pgs_cons (pg_name (i := 4) nd rfl (by first | exact Or.inl rfl | exact Or.inr rfl)) (pgs_cons (pg_name (i := 5) nd rfl (by first | exact Or.inl rfl | exact Or.inr rfl)) pgs_nil))))
  (pss_cons (ps_if (PW.pt (pw_or (pt_not (pt_val (pe_c C.has_node hr (by decide) rfl (pa_cons (pv 0) (pa_cons (pv 4) pa_nil))))) (pw_or (pt_not (pt_val (pe_c C.has_node hr (by decide) rfl (pa_cons (pv 0) (pa_cons (pv 5) pa_nil))))) (pw_or1 (pt_cmpR (kEq K rfl hr.u64) (pv 4) (pv 5) (nomark _)))))) (pss_one (ps_rz TE hr (by decide) rfl (takes_of rfl rfl rfl rfl) rfl (pv 3))) pss_nil)
  (pss_one (ps_if (pt_cmpR (kInT K rfl hu65) (pe_c C.edge_of hr (by decide) rfl (pa_cons (pv 4) (pa_cons (pv 5) pa_nil))) (pe_ix (kIx K rfl) (pv 0) pe_int (fun _ _ => rfl)) rfl) (pss_one (ps_rz TE hr (by decide) rfl (takes_of rfl rfl rfl rfl) rfl (pv 3))) pss_nil))))))), ?_⟩
    have sok : ∀ x ∈ ns, PyData.strOk x = true := fun x hx => (gs.ok.names.ok x hx).sok
    wtm_at "rd"
    rcases alt with ⟨⟨nn, bad⟩, er⟩ | ⟨rfl, ⟨nn, bad⟩, er⟩
    · refine rd_nyes nn ?_
      wtm_at "rd"
      rcases bad with ⟨t, ty, nt⟩ | ⟨s, rfl, bad⟩
      · refine ⟨g, n, e, np, t, ns, es, rfl, gs.gr, .inl ⟨ty, nt, ?_⟩⟩
        wtm_at "rd"
        refine rd_rz ?_
        wtm_at "rd"
        exact rd_mk1 fun dd H' s' nd' hd => er dd H' s' hd
      · refine ⟨g, n, e, .str s, .str, ns, es, rfl, gs.gr, .inr ⟨s, rfl, ?_⟩⟩
        wtm_at "rd"
        by_cases c : s ∈ ns
        · refine rd_nno c ?_
          wtm_at "rd"
          refine rd_inST hps ?_
          wtm_at "rd"
          refine rd_yes (bad.elim (fun z => absurd c z) id) ?_
          wtm_at "rd"
          refine rd_rz ?_
          wtm_at "rd"
          exact rd_mk1 fun dd H' s' nd' hd => er dd H' s' hd
        · refine rd_nyes c ?_
          wtm_at "rd"
          refine rd_rz ?_
          wtm_at "rd"
          exact rd_mk1 fun dd H' s' nd' hd => er dd H' s' hd
    refine rd_nno rfl ?_
    wtm_at "rd"
    refine rd_no nn ?_
    wtm_at "rd"
    rcases bad with ⟨t, ty, nt⟩ | ⟨a, xs, rfl, ha, len⟩ | ⟨a, x, y, rfl, ha, xin, bad⟩
    · refine rd_isi ty (t := .tup) (by decide +kernel) ?_
      rw [nt]
      wtm_at "rd"
      refine rd_rz ?_
      wtm_at "rd"
      exact rd_mk1 fun dd H' s' nd' hd => er dd H' s' hd
    · refine rd_isi (ty_tup ha) rfl ?_
      rw [show isT Ty.tup Ty.tup = true from rfl]
      wtm_at "rd"
      refine rd_lenT (SqT.of ha) ?_
      wtm_at "rd"
      refine rd_nyes (fun z => len (by omega)) ?_
      wtm_at "rd"
      refine rd_rz ?_
      wtm_at "rd"
      exact rd_mk1 fun dd H' s' nd' hd => er dd H' s' hd
    refine rd_isi (ty_tup ha) rfl ?_
    rw [show isT Ty.tup Ty.tup = true from rfl]
    wtm_at "rd"
    refine rd_lenT (SqT.of ha) ?_
    wtm_at "rd"
    refine rd_nno rfl ?_
    wtm_at "rd"
    refine rd_unp (SqT.of ha) rfl ?_
    wtm_at "rd"
    refine ⟨g, n, e, .str x, .str, ns, es, rfl, gs.gr, .inr ⟨x, rfl, ?_⟩⟩
    wtm_at "rd"
    refine rd_nno xin ?_
    wtm_at "rd"
    rcases bad with rfl | ⟨s, rfl, bad⟩
    · refine ⟨g, n, e, .non, .non, ns, es, rfl, gs.gr, .inl ⟨ty_non, by decide +kernel, ?_⟩⟩
      wtm_at "rd"
      refine rd_rz ?_
      wtm_at "rd"
      exact rd_mk1 fun dd H' s' nd' hd => er dd H' s' hd
    refine ⟨g, n, e, .str s, .str, ns, es, rfl, gs.gr, .inr ⟨s, rfl, ?_⟩⟩
    wtm_at "rd"
    rcases bad with nin | ⟨sin, bad⟩
    · refine rd_nyes nin ?_
      wtm_at "rd"
      refine rd_rz ?_
      wtm_at "rd"
      exact rd_mk1 fun dd H' s' nd' hd => er dd H' s' hd
    refine rd_nno sin ?_
    wtm_at "rd"
    by_cases c : x = s
    · refine rd_yes c ?_
      wtm_at "rd"
      refine rd_rz ?_
      wtm_at "rd"
      exact rd_mk1 fun dd H' s' nd' hd => er dd H' s' hd
    refine rd_no c ?_
    wtm_at "rd"
    have inE : eO x s ∈ es.map (·.2) := bad.elim (fun z => absurd z.symm c) id
    refine ⟨x, s, rfl, fun t ft => ?_⟩
    rw [show (if sLt x s then [V.str x, .str s] else [.str s, .str x]) = [V.str (eO x s).1, .str (eO x s).2] from by unfold eO; split <;> rfl]
    have kt := Same.new (o := .tup [.str (eO x s).1, .str (eO x s).2]) ft
    have ht := @upd_same H t (.tup [.str (eO x s).1, .str (eO x s).2])
    have gs1 := gs.same kt
    generalize upd H t (.tup [.str (eO x s).1, .str (eO x s).2]) = H1 at *
    wtm_at "rd"
    refine rd_ixT (SqT.of gs1.gr.top) (v := .ref e) rfl ?_
    have sokE : ∀ x ∈ es.map (·.2), PyData.strOk x.1 = true ∧ PyData.strOk x.2 = true := fun x hx => ⟨sok _ (gs.ok.mem _ hx).1, sok _ (gs.ok.mem _ hx).2⟩
    have eom := eO_mem xin sin
    refine rd_inTE (SqT.of ht) (SqT.of gs1.gr.edges) (fun x hx => SqT.of (gs1.gr.pairs x hx)) ⟨sok _ eom.1, sok _ eom.2⟩ sokE ?_
    wtm_at "rd"
    refine rd_yes inE ?_
    wtm_at "rd"
    refine rd_rz ?_
    wtm_at "rd"
    exact rd_mk1 fun dd H' s' nd' hd => er dd H' (kt.trans s') hd
structure VJb (P : Program) (w : World) (K : PySem.W.Frag) (mg : Str → Option Value) (base : Heap) (T : List (Addr × Str)) (CT CS CN CP CX : Addr) : Prop where
  check_class : Cal P w K mg base (L2.CX P w) 8 "check_class" (spCkClX K T CT CS CN)
  check_extras : Cal P w K mg base (L2.CX P w) 3 "check_extras" (spCkExX K CP CX)
theorem ok_splitX {f : Addr} {fd : FuncData} {T : List (Addr × Str)} {CT CS CN CP CX : Addr} (F : Fun K "split_classes" "split_classes" s_split_classes f fd) (B : Bt mg) (C : VJb P w K mg base T CT CS CN CP CX) : FnG P w K mg base (L2.CX P w) 9 f fd ["graph", "states", "pinned", "extra_pin", "extra_edge"] (spSplitX K T CT CS CN CP CX) := by
  refine fnG F sc_split_classes (fun vs H Q E h => ?_) (fun cdv A outer s H vs Q E hr h => ?_)
  · obtain ⟨g, n, e, sl, ps, np, ev, ns, pn, es, rfl, _⟩ := h
    rfl
  · obtain ⟨g, n, e, sl, ps, np, ev, ns, pn, es, rfl, hps, tabs, n60, cs⟩ := h
    have nd := sc_split_classes.nd
    have hu := hr.u1
    refine ⟨_, pss_cons (ps_expr (pe_cX C.check_class hr (by decide) rfl (takes_of rfl rfl rfl rfl) (pa_cons (pv 0) (pa_cons (pv 1) (pa_cons (pv 2) pa_nil))))) (pss_cons (ps_expr (pe_cX C.check_extras hr (by decide) rfl (takes_of rfl rfl rfl rfl) (pa_cons (pv 0) (pa_cons (pv 2) (pa_cons (pv 3) (pa_cons (pv 4) pa_nil)))))) (pss_cons ps_dead (pss_cons ps_dead (pss_cons ps_dead (pss_cons ps_dead (pss_one ps_dead)))))), ?_⟩
    wtm_at "rd"
    refine ⟨g, n, e, sl, ps, ns, pn, es, rfl, hps, tabs, n60, cs.mono fun H1 x1 k => ?_⟩
    wtm_at "rd"
    exact k
end
end Law

/-! try with any number of handlers, all of one name, the exception kept -/
namespace U
open PySem PySem.Spec PyProof.Rows L2
def wK1 (K : PySem.W.Frag) (c : Value) (i : Nat) (ts : TS) (more : WX) (D : Ends) : WX := fun cls d σ H =>
  ∃ b, PySem.W.exmOne K cls c = some b ∧ (b = false → more cls d σ H) ∧
    (b = true → ∀ a, H a = none → ts { nx := fun σ1 H1 => D.nx (σ1.set i none) H1, rt := D.rt, bk := fun σ1 H1 => D.bk (σ1.set i none) H1, ct := fun σ1 H1 => D.ct (σ1.set i none) H1 } (σ.set i (some (.ref a))) (upd H a (exk a cls d)))
/-- the handlers, and what they wish -/
inductive Hds (X : Cx) (n : Str) (i : Nat) (Wout : WX) : List ExceptHandler → (Ends → WX) → Prop where
  | nil : Hds X n i Wout [] (fun _ => Wout)
  | cons {x : Str} {c : Value} {np pos' : Pos} {b₀ : Stmt} {suite : List Stmt} {ts : TS} {hs : List ExceptHandler} {w : Ends → WX} (hc : L2.Names X x c) (hsu : ∀ (a : Addr) (pn : List (Addr × Obj)), PSs (X.suite a pn) (b₀ :: suite) ts) (r : Hds X n i Wout hs w) :
      Hds X n i Wout (.ExceptHandler (some (.Name x np)) (some n) (b₀ :: suite) pos' :: hs) (fun D => wK1 X.K c i ts (w D) D)
section
variable {X : Cx} {n : Str} {i : Nat} {body : List Stmt} {pos : Pos} {tb : WX → TS} {Wout : WX}
theorem ps_try_keepN {h₀ : ExceptHandler} {hs : List ExceptHandler} {w : Ends → WX} (hst : X.stack = X.env :: X.outer) (hf : X.env.frame = some X.env.locals) (hN : X.N.Nodup) (hi : X.N[i]? = some n) (hln : X.env.kindOf n = some .local) (tk : Takes X Wout)
    (hb : ∀ (W : WX) (pn : List (Addr × Obj)) (xe : Value → Shared → Prop), Takes (X.tr pn xe) W → PassesOwn (model X.prog X.w) X.A X.env xe → PSs (X.tr pn xe) body (tb W))
    (hds : Hds X n i Wout (h₀ :: hs) w) :
    PS X (.Try body (h₀ :: hs) [] [] pos) (fun D σ H => tb (w D) D σ H) := by
  refine ⟨fun pins s σ H D I want => ?_⟩
  have okX := I.ok
  have frX : X.A.frames = some (X.env :: X.outer) := by rw [okX.frames, hst]
  refine wpAny_Try_except ?_
  have run := (hb (w D) (X.pn ++ pins) (fun e t1 => wpAny (model X.prog X.w) X.A (noteFrame e X.env) (fun _ t2 => wpAny (model X.prog X.w) X.A (setFlight e none) (fun _ t3 =>
    wpAny (model X.prog X.w) X.A (handleBy e X.env (h₀ :: hs)) (SP X pins D) X.xe t3) X.xe t2) X.xe t1) ?_ PassesOwn.looking).run [] s σ H D (I.toTry _) want
  · refine wpAny_mono run (fun f t1 h => ?_) fun _ _ z => z
    cases f with
    | next =>
      obtain ⟨σ1, H1, J, q⟩ := h
      exact wpAny_execs_nil ⟨σ1, H1, J.ofTry okX, q⟩
    | brk =>
      obtain ⟨σ1, H1, J, q⟩ := h
      exact ⟨σ1, H1, J.ofTry okX, q⟩
    | cont =>
      obtain ⟨σ1, H1, J, q⟩ := h
      exact ⟨σ1, H1, J.ofTry okX, q⟩
    | ret v =>
      obtain ⟨v1, σ1, H1, J, r, q⟩ := h
      exact ⟨v1, σ1, H1, J.ofTry okX, r, q⟩
  · intro u t0 xx
    obtain ⟨a, B, sI, pins1, σ1, H1, cls, d, rfl, J1, nb, up, sky, na, os, ag, wish⟩ := xx
    have J : Inv X pins σ1 H1 sI := J1.ofTry okX
    have sky1 : Sky B (X.env :: X.outer) a (Zc cls d) X.env.locals t0.heap := by rw [← hst]; exact sky
    show wpAny (model X.prog X.w) X.A (noteFrame (.ref a) X.env) _ _ _
    refine Sky.land Zc.steady frX hf sky1 fun h3 fl3 up3 => ?_
    have J3 : Inv X pins σ1 H1 { t0 with heap := h3 } := J.landed nb fl3.1 (up.trans up3) os ag
    obtain ⟨oe3, vs3, he3, hz3, hd3⟩ := fl3.there
    have off : ∀ {h : Heap} {o : Obj} {vs : Array Value}, h.FunFrames B (X.env :: X.outer) → h.get? a = some o → o.data = .fields vs → a ∉ frs (X.env :: X.outer) := by
      intro h o vs ff e dd hm
      obtain ⟨_, o1, e1, hnf⟩ := ff.mem hm
      rw [e] at e1
      cases e1
      exact hnf _ dd
    have nfr := off fl3.2.2.1 he3 hd3
    have nL : a ≠ X.env.locals := fun z => nfr (List.mem_filterMap.mpr ⟨X.env, List.mem_cons_self, by rw [hf, z]⟩)
    have nF : a ∉ X.fs := by
      intro hm
      obtain ⟨e, he, q⟩ := List.mem_filterMap.mp hm
      exact nfr (List.mem_filterMap.mpr ⟨e, List.mem_cons_of_mem _ he, q⟩)
    have S3 := J3.suite he3 hd3 na nL nF
    have LT : PySem.W.Looks (model X.prog X.w) h3 (typeOf (.ref a)) cls := fun A Q E s k q => wpAny_typeOf_ref (k _ _ he3) (by rw [hz3.1]; exact q)
    -- by the handlers
    have all : ∀ {hs : List ExceptHandler} {w : Ends → WX}, Hds X n i Wout hs w → w D cls d σ1 H1 → wpAny (model X.prog X.w) X.A (handleBy (.ref a) X.env hs) (SP X pins D) X.xe { t0 with heap := h3 } := by
      intro hs w hds
      induction hds with
      | nil =>
        intro wish
        refine wpAny_handleBy_nil ?_
        obtain ⟨k1, k2, k3, oe, vs, T, oT, ts1, he, hz, hd, h1, hr⟩ := id fl3
        unfold PySem.passOn
        refine wpAny_bind (wpAny_field he hd h1 ?_)
        rw [if_neg (show ¬ ((Value.ref T == Value.none) = true) from by simp)]
        have onward : wpAny (model X.prog X.w) X.A (setFlight (.ref a) X.env.frame) (fun _ s4 => wpAny (model X.prog X.w) X.A (throw (.ref a) : Sem Flow) (SP X pins D) X.xe s4) X.xe { t0 with heap := h3 } := by
          rw [hf]
          refine HandSPX.setFlight_upZ fl3 fun h4 hh4 up4 => wpAny_throw (tk _ _ ?_)
          exact ⟨a, B, sI, pins, σ1, H1, cls, d, rfl, J, nb, (up.trans up3).trans up4, .inr (.inr (by rw [hst]; exact hh4)), na, os, ag, wish⟩
        first
          | exact wpAny_bind (wpAny_pure (wpAny_bind onward))
          | exact wpAny_bind onward
      | @cons x c np pos' b₀ suite ts hs w hc hsu r ih =>
        rintro ⟨b, hb1, hno, hyes⟩
        refine wpAny_handleBy_cons (codeAny_handlers_test ?_) (by intro q; cases q)
        have LM := PySem.W.exm_one (M := model X.prog X.w) (J3.kIn) LT hb1
        have named : ∀ {Q E : Value → Shared → Prop}, Q c { t0 with heap := h3 } → wpAny (model X.prog X.w) (X.A.mark (some (.ref a))) (eval (.Name x np) X.env) Q E { t0 with heap := h3 } := by
          intro Q E q
          obtain ⟨hg, hdbg, hm | ⟨hm, hv, hnn⟩⟩ := hc
          · exact ld_glob (X := X.suite a ((a, oe3) :: (X.pn ++ pins))) S3 hg hm q hdbg
          · exact ld_blt (X := X.suite a ((a, oe3) :: (X.pn ++ pins))) S3 hg hm hv q hnn hdbg
        refine named (LM.here ?_)
        cases b with
        | false =>
          show wpAny _ X.A (handleBy (.ref a) X.env hs) _ _ _
          exact ih (hno rfl)
        | true =>
          refine codeAny_handlers_suite_as ?_
          refine HandSPX.lands_againZ fl3 fun h4 fl4 up4 => ?_
          obtain ⟨oe4, vs4, he4, hz4, hd4⟩ := fl4.there
          have J4 : Inv X pins σ1 (upd H1 a (exk a cls d)) { t0 with heap := h4 } := landed_k J nb fl4.1 ((up.trans up3).trans up4) os ag fl4.2.1 (by rw [hst]; exact nfr) na he4 hz4 hd4
          have S4 : Inv (X.suite a (X.pn ++ pins)) [] σ1 (upd H1 a (exk a cls d)) { t0 with heap := h4 } :=
            ⟨J4.ok.suite _ _, J4.os, J4.bare, J4.base, J4.loc, J4.cell, J4.free, J4.freeC, fun p hp => J4.pin p (by rw [List.append_nil] at hp; exact hp), J4.hok, J4.len⟩
          refine store_ok (X := X.suite a (X.pn ++ pins)) (v := .ref a) S4 hN hi (.inl hln) rfl (fun s5 S5 => ?_) (.inr hln)
          refine wpAny_mono ((hsu a (X.pn ++ pins)).run [] s5 _ _ _ S5 (hyes rfl a na)) (fun f s6 hsp => ?_) (fun _ _ z => False.elim z)
          have back : ∀ {σ6 : L2.St} {H6 : Hp}, Inv (X.suite a (X.pn ++ pins)) [] σ6 H6 s6 → Inv X pins σ6 H6 s6 := fun S =>
            ⟨okX, S.os, S.bare, S.base, S.loc, S.cell, S.free, S.freeC, fun p hp => S.pin p (List.mem_append_left _ hp), S.hok, S.len⟩
          have over : ∀ {σ6 : L2.St} {H6 : Hp} {Q : Shared → Prop}, Inv (X.suite a (X.pn ++ pins)) [] σ6 H6 s6 → (∀ s7, Inv X pins (σ6.set i none) H6 s7 → Q s7) →
              wpAny (model X.prog X.w) X.A (do bindName X.env n .none; unbindBehindTheSuite X.env n pos') (fun _ s7 => Q s7) X.xe s6 := fun S6 hq => gone_ok (back S6) hN hi hln hq
          cases f with
          | next =>
            obtain ⟨σ6, H6, S6, q6⟩ := hsp
            exact over S6 fun s7 J7 => ⟨_, _, J7, q6⟩
          | brk =>
            obtain ⟨σ6, H6, S6, q6⟩ := hsp
            exact over S6 fun s7 J7 => ⟨_, _, J7, q6⟩
          | cont =>
            obtain ⟨σ6, H6, S6, q6⟩ := hsp
            exact over S6 fun s7 J7 => ⟨_, _, J7, q6⟩
          | ret v =>
            obtain ⟨v6, σ6, H6, S6, r6, q6⟩ := hsp
            exact over S6 fun s7 J7 => ⟨_, _, _, J7, r6, q6⟩
    exact all hds wish
end
end U

/-! isinstance of a kept exception, its dict known -/
namespace U
open PySem PySem.Spec PyProof.Rows L2
section
variable {P : Program} {w : World} {A : Around} {E : Value → Shared → Prop} {K : PySem.W.Frag} {x D : Addr} {ox : Obj} {od : Option Obj}
theorem find_class (C : ExcC K D) : PySem.W.findObj K D od "__class__" = some (.bind (.builtin "getset_descriptor.__get__") (.builtin "object.__class__")) := by
  obtain ⟨cd, hc, _⟩ := PySem.W.any_some C.hd
  unfold PySem.W.findObj
  rw [hc, Option.bind_some, C.ha, Option.bind_some]
  simp [C.hn, C.ht]
theorem class_of_exc {Q : Option Value → Shared → Prop} {s : Shared} (C : ExcC K D) (X : K.In s.heap) (I : PySem.W.InstAt s.heap x ox D od) (h : Q (some (.ref D)) { s with toks := s.toks + 1 }) : wpAny (model P w) A (getAttr? (.ref x) "__class__") Q E s := by
  obtain ⟨hp, g, d, t, os⟩ := s
  have lt := I.type (M := model P w)
  have l1 := PySem.W.looks_findIn (M := model P w) X C.hg
  have l2 := PySem.W.looks_findIn (M := model P w) X C.hk
  have l3 := PySem.W.looks_find (M := model P w) X I (find_class C)
  have isB : PySem.W.Looks (model P w) hp (isInstance (.ref x) (.type "BaseException")) true := lt.andThen (PySem.W.looks_subIn X C.hs)
  have q1 : (Value.builtin "BaseException.__getattribute__" == Value.builtin "object.__getattribute__") = false := by decide +kernel
  have q2 : (onTheHeap (Value.ref D) && Value.builtin "BaseException.__getattribute__" == Value.builtin "object.__getattribute__") = false := by rw [q1] <;> rfl
  have q3 : (false && onTheHeap (Value.builtin "BaseException.__getattribute__")) = false := rfl
  unfold getAttr? getAttrBy? getAttrBy
  refine wpAny_bind (wpAny_mkText (wpAny_bind (wpAny_attempt ?_)))
  refine wpAny_holding (wpAny_bind (lt.at (wpAny_bind (l1.at ?_))))
  show wpAny _ _ (if (onTheHeap (Value.ref D) && Value.builtin "BaseException.__getattribute__" == Value.builtin "object.__getattribute__") = true then _ else _) _ _ _
  rw [q2, if_neg Bool.false_ne_true]
  unfold getAttrByItsOwn hookBefore
  refine wpAny_bind ?_
  rw [if_pos (show onTheHeap (Value.ref D) = true from rfl)]
  refine l2.at (wpAny_bind (wpAny_attempt (wpAny_holding ?_)))
  unfold callGetattribute
  rw [q3, if_neg Bool.false_ne_true]
  unfold boundAndCalled
  rw [PySem.F.excAttr_ValueError.ga.bind (.ref x)]
  refine wpAny_bind (wpAny_pure ?_)
  show wpAny _ _ (call (.builtin "BaseException.__getattribute__") [.ref x, .str "__class__" t]) _ _ _
  refine wpAny_call (PySem.codeAny_call_builtin PySem.F.excAttr_ValueError.ga.plain PySem.F.entry_bexc_ga ?_)
  have args := PySem.F.args_bexc_ga (.ref x) (.str "__class__" t)
  refine @PySem.W.check_slot (model P w) _ _ ⟨hp, g, d, t + 1, os⟩ "BaseException.__getattribute__" "BaseException" "__getattribute__" (.ref x) [.str "__class__" t] [] _ (by decide +kernel) (by decide +kernel) isB args ?_
  unfold Builtin.«object.__getattribute__»
  refine wpAny_bind (wpAny_of_eq (a := ((Value.ref x : Value), [Value.str "__class__" t])) (by first | rfl | (simp only [slotArgs]; rfl)) ?_)
  refine wpAny_bind (wpAny_pure ?_)
  refine wpAny_bind (lt.at (wpAny_bind (l3.at ?_)))
  show wpAny _ _ (holding [Value.builtin "object.__class__"] (call (.builtin "getset_descriptor.__get__") [.builtin "object.__class__", .ref x, .ref D]) >>= ret) _ _ _
  refine wpAny_bind (wpAny_holding (wpAny_call ?_))
  refine PySem.W.class_get (s := ⟨hp, g, d, t + 1, os⟩) (ox := ox) (od := od) X I C.hm ?_
  refine wpAny_pure ?_
  show wpAny _ _ (handedOut (.ref D)) _ _ _
  rw [PySem.W.handedOut_of (v := .ref D) rfl]
  first
    | exact wpAny_pure (wpAny_pure h)
    | exact wpAny_pure h
    | exact wpAny_pure (wpAny_bind (wpAny_pure (wpAny_pure h)))
theorem kitx_exc (C : ExcC K D) : PySem.W.KitX K (.ref x) (.ref D) (fun h => ∃ ox od, PySem.W.InstAt h x ox D od) where
  ty := fun _ _ _ ⟨_, _, I⟩ => I.type
  it := fun M h X _ => by
    obtain ⟨cd, hcD, _⟩ := PySem.W.any_some C.hd
    unfold PySem.W.clsIn at hcD
    split at hcD
    · rename_i ho
      intro A' Q' E' s' k q
      unfold isType loadHead
      refine wpAny_bind (wpAny_loadPart (k _ _ (X _ _ ho)) ?_)
      exact wpAny_pure q
    · cases hcD
  ne := fun h tp dd its n sl X htp => (PySem.W.handS_kitx_exc (x := x) (ox := default) C.hg C.hk C.hs C.hd C.ha C.hn C.ht C.hm).ne h tp dd its n sl X htp
  ca := fun X ⟨_, _, I⟩ k => class_of_exc C X I k
end
/-- isinstance(e, c), e kept -/
def rIsK (K : PySem.W.Frag) : List V → Hp → VK → Prop := fun xs H Q => ∃ (a C dd : Addr) (fs : List (Str × V)) (c : V) (cv : Value) (b : Bool), xs = [.ref a, c] ∧ H a = some (exk a (.ref C) (some dd)) ∧ H dd = some (.xd fs) ∧ ExcC K C ∧ (∀ u, RelV c u → u = cv) ∧ PySem.W.kitOne K (.ref C) cv = some b ∧ Q (.bl b) H
theorem kIsK {X : Cx} (K : PySem.W.Frag) (hK : X.K = K) : CallR X (.builtin "isinstance") (rIsK K) := by
  subst hK
  intro pins s σ H xs us Q I r h
  obtain ⟨a, C, dd, fs, c, cv, b, rfl, hk, hdd, T, hcv, e, q⟩ := h
  match us, r with
  | [_, u], .cons rx (.cons rt .nil) =>
    cases rx
    have ec := hcv _ rt
    subst ec
    obtain ⟨oe, vs, h1, hz, hd⟩ := exk_at I.hok hk
    have hx : ObjOk X.prog X.w H s.heap dd (.xd fs) := I.hok dd _ hdd
    obtain ⟨mA, hns, hr⟩ := hx
    obtain ⟨od, ho, hl2⟩ := lookIn_ns hns
    have J : PySem.W.InstAt s.heap a oe C (some od) := by
      refine ⟨h1, hz.1, ?_, ?_⟩
      · unfold PySem.W.notCls
        rw [hd] <;> rfl
      · rw [hz.2]
        exact ho
    exact PySem.W.kia_one (kitx_exc T) I.kIn ⟨_, _, J⟩ e (fun z => nomatch z) fun tk => ⟨.bl b, H, I.kept (t' := tk) fun _ _ z => z, rfl, q⟩
theorem rd_isK {K : PySem.W.Frag} {H : Hp} {Q : VK} {a C dd : Addr} {fs : List (Str × V)} {c : V} {cv : Value} {b : Bool} (hk : H a = some (exk a (.ref C) (some dd))) (hd : H dd = some (.xd fs)) (T : ExcC K C) (hc : ∀ u, RelV c u → u = cv) (e : PySem.W.kitOne K (.ref C) cv = some b) (h : Q (.bl b) H) : rIsK K [.ref a, c] H Q :=
  ⟨a, C, dd, fs, c, cv, b, rfl, hk, hd, T, hc, e, h⟩
end U
namespace U
open PySem PySem.Spec PyProof.Rows L2
theorem kit_ref {K : PySem.W.Frag} {D C : Addr} (h1 : PySem.W.isClsIn K C = true) (h2 : PySem.W.typeIn K (.ref C) = some (.type "type")) (h3 : PySem.W.subIn K (.ref D) (.ref C) = some false) (h4 : PySem.W.subIn K (.ref D) (.ref D) = some true) : PySem.W.kitOne K (.ref D) (.ref C) = some false := by
  have ne : (Value.ref D == Value.ref C) = false := by
    refine Bool.eq_false_iff.mpr fun z => ?_
    have e : D = C := Value.ref.inj (beq_iff_eq.mp z)
    rw [e] at h3 h4
    rw [h3] at h4
    cases h4
  have h1' : (PySem.W.clsIn K C).isSome = true := h1
  unfold PySem.W.kitOne PySem.W.kitCls
  rw [if_neg (by rw [ne]; exact Bool.false_ne_true)]
  show (if ((PySem.W.clsIn K C).isSome && PySem.W.typeIn K (.ref C) == some (.type "type")) = true then PySem.W.subIn K (.ref D) (.ref C) else none) = some false
  rw [if_pos (by rw [h1', h2] <;> rfl)]
  exact h3
theorem kit_refT {K : PySem.W.Frag} {D C : Addr} (h1 : PySem.W.isClsIn K C = true) (h2 : PySem.W.typeIn K (.ref C) = some (.type "type")) (h3 : PySem.W.subIn K (.ref D) (.ref C) = some true) : PySem.W.kitOne K (.ref D) (.ref C) = some true := by
  have h1' : (PySem.W.clsIn K C).isSome = true := h1
  unfold PySem.W.kitOne PySem.W.kitCls
  split
  · rfl
  · show (if ((PySem.W.clsIn K C).isSome && PySem.W.typeIn K (.ref C) == some (.type "type")) = true then PySem.W.subIn K (.ref D) (.ref C) else none) = some true
    rw [if_pos (by rw [h1', h2] <;> rfl)]
    exact h3
theorem kit_ty {K : PySem.W.Frag} {D : Addr} {T : String} {b : Bool} (h1 : PySem.W.kitMeta T = true) (h3 : PySem.W.subIn K (.ref D) (.type T) = some b) : PySem.W.kitOne K (.ref D) (.type T) = some b := by
  unfold PySem.W.kitOne PySem.W.kitCls
  show (if (Value.ref D == Value.type T) = true then some true else if PySem.W.kitMeta T = true then PySem.W.subIn K (.ref D) (.type T) else none) = some b
  rw [if_neg (fun z => nomatch (beq_iff_eq.mp z : Value.ref D = Value.type T)), if_pos h1]
  exact h3
end U

/-! own exceptions over KeyError: made by LookupError's __new__ -/
namespace U
open PySem PySem.Spec PyProof.Rows L2
section
variable {M : Model} {A : Around} {E : Value → Shared → Prop} {h : Heap} {g : Array GenState} {d : Drawn} {t : Nat} {os : OsState}
variable {nm q : Str} {C N : Addr} {bs bm bmN : List Value} {hdct : Bool} {sn : List Str} {sub : List Value} {ab : Bool} {col : Option Bool} {dd : Option Addr} {k0 k1 k2 k3 k5 : Option Value} {NB newId iI : String}
end
section
variable {P : Program} {w : World} {A : Around} {R : Result → Shared → Prop} {h : Heap} {g : Array GenState} {d : Drawn} {t : Nat} {os : OsState}
variable {nm q : Str} {C N : Addr} {bs bm bmN : List Value} {hdct : Bool} {sn : List Str} {sub : List Value} {ab : Bool} {col : Option Bool} {dd : Option Addr} {k0 k1 k2 k3 k5 : Option Value} {NB newId iI : String}
end
end U

/-! k65: _law_call -/
namespace Law
open PySem PySem.Spec PyProof.Rows L2 U LamX


theorem spCkSt.monoE {C : Addr} {vs : List V} {H : Hp} {Q : VK} {E E2 : XK} (h : spCkSt C vs H Q E) (m : ∀ c d H', E c d H' → E2 c d H') : spCkSt C vs H Q E2 := by
  obtain ⟨g, n, e, v, ns, es, ev, gs, alt⟩ := h
  refine ⟨g, n, e, v, ns, es, ev, gs, ?_⟩
  rcases alt with ⟨a, b⟩ | ⟨d, ord, F, e1, e2, e3, b⟩ | ⟨d, ord, F, e1, e2, e3, e4, e5, fin⟩
  · exact .inl ⟨a, fun dd H' s hd => m _ _ _ (b dd H' s hd)⟩
  · exact .inr (.inl ⟨d, ord, F, e1, e2, e3, fun dd H' s hd => m _ _ _ (b dd H' s hd)⟩)
  · exact .inr (.inr ⟨d, ord, F, e1, e2, e3, e4, fun i hi b1 b2 dd H' s hd => m _ _ _ (e5 i hi b1 b2 dd H' s hd), fun f hf => ⟨fun i hi b1 b2 dd t H' s ht hd => m _ _ _ ((fin f hf).1 i hi b1 b2 dd t H' s ht hd), (fin f hf).2⟩⟩)
theorem spCkExX.monoE {K : PySem.W.Frag} {CP CX : Addr} {vs : List V} {H : Hp} {Q Q2 : VK} {E E2 : XK} (h : spCkExX K CP CX vs H Q E) (m : ∀ c d H', E c d H' → E2 c d H') : spCkExX K CP CX vs H Q2 E2 := by
  obtain ⟨g, n, e, ps, np, ev, ns, pn, es, e1, e2, e3, alt⟩ := h
  refine ⟨g, n, e, ps, np, ev, ns, pn, es, e1, e2, e3, ?_⟩
  rcases alt with ⟨a, b⟩ | ⟨a, a2, b⟩
  · exact .inl ⟨a, fun d H' s hd => m _ _ _ (b d H' s hd)⟩
  · exact .inr ⟨a, a2, fun d H' s hd => m _ _ _ (b d H' s hd)⟩
theorem spSplitX.monoE {K : PySem.W.Frag} {T : List (Addr × Str)} {CT CS CN CP CX : Addr} {vs : List V} {H : Hp} {Q Q2 : VK} {E E2 : XK} (h : spSplitX K T CT CS CN CP CX vs H Q E) (m : ∀ c d H', E c d H' → E2 c d H') : spSplitX K T CT CS CN CP CX vs H Q2 E2 := by
  obtain ⟨g, n, e, sl, ps, np, ev, ns, pn, es, e1, e2, e3, e4, cs⟩ := h
  refine ⟨g, n, e, sl, ps, np, ev, ns, pn, es, e1, e2, e3, e4, ?_⟩
  rcases cs with ⟨xs, a, b, er⟩ | ⟨ss, v, rest, a, b, c, er⟩ | ⟨ss, i, a, b, c, d, e5, e6, er⟩ | ⟨ss, a, b, c, d, e5, er⟩
  · exact .inl ⟨xs, a, b, fun d H' x t hd => m _ _ _ (er d H' x t hd)⟩
  · exact .inr (.inl ⟨ss, v, rest, a, b, c, fun H' s => (er H' s).monoE m⟩)
  · exact .inr (.inr (.inl ⟨ss, i, a, b, c, d, e5, e6, fun d H' x t hd => m _ _ _ (er d H' x t hd)⟩))
  · exact .inr (.inr (.inr ⟨ss, a, b, c, d, e5, fun H' x t => (er H' x t).monoE m⟩))
/-- what is told of an error -/
def Nx (Q : VK) (H : Hp) (xs : List V) : Prop := ∀ (t : Addr) (H' : Hp), Same H H' → H' t = some (.tup xs) → Q (.ref t) H'
def ER65 (CT CS CN CP CX : Addr) (Q : VK) : XK := fun cls dd H' => ∃ d, dd = some d ∧
  ((cls = .ref CT ∧ ∃ v, H' d = some (.xd [("total", v)]) ∧ Nx Q H' [.str "total", v, .bl false]) ∨
   (cls = .ref CS ∧ ∃ p q, H' d = some (.xd [("position", q), ("part", p)]) ∧ Nx Q H' [.str "state", p, q, .bl true, .bl false]) ∨
   (cls = .ref CN ∧ ∃ v, H' d = some (.xd [("position", v)]) ∧ Nx Q H' [.str "class", v, .bl true, .bl false]) ∨
   (cls = .ref CP ∧ ∃ v, H' d = some (.xd [("node", v)]) ∧ Nx Q H' [.str "pin", v, .bl true, .bl false]) ∨
   (cls = .ref CX ∧ ∃ v, H' d = some (.xd [("edge", v)]) ∧ Nx Q H' [.str "edge", v, .bl true, .bl false]))
def spCall65 (K : PySem.W.Frag) (T : List (Addr × Str)) (CT CS CN CP CX : Addr) : Sp := fun vs H Q _ => spSplitX K T CT CS CN CP CX vs H (fun _ _ => False) (ER65 CT CS CN CP CX Q)
/-- the classes of k65's errors -/
structure Is65 (K : PySem.W.Frag) (mg : Str → Option Value) (CT CS CN CP CX CB : Addr) : Prop where
  cT : ExcC K CT
  cS : ExcC K CS
  cN : ExcC K CN
  cP : ExcC K CP
  cX : ExcC K CX
  gT : mg "TooLarge" = some (.ref CT)
  gS : mg "InvalidState" = some (.ref CS)
  gN : mg "NotReachable" = some (.ref CN)
  gP : mg "InvalidPin" = some (.ref CP)
  gX : mg "InvalidEdge" = some (.ref CX)
  gI : mg "InputError" = some (.ref CB)
  eTT : PySem.W.exmOne K (.ref CT) (.ref CT) = some true
  eST : PySem.W.exmOne K (.ref CS) (.ref CT) = some false
  eSS : PySem.W.exmOne K (.ref CS) (.ref CS) = some true
  eNT : PySem.W.exmOne K (.ref CN) (.ref CT) = some false
  eNS : PySem.W.exmOne K (.ref CN) (.ref CS) = some false
  eNN : PySem.W.exmOne K (.ref CN) (.ref CN) = some true
  ePT : PySem.W.exmOne K (.ref CP) (.ref CT) = some false
  ePS : PySem.W.exmOne K (.ref CP) (.ref CS) = some false
  ePN : PySem.W.exmOne K (.ref CP) (.ref CN) = some false
  ePP : PySem.W.exmOne K (.ref CP) (.ref CP) = some true
  eXT : PySem.W.exmOne K (.ref CX) (.ref CT) = some false
  eXS : PySem.W.exmOne K (.ref CX) (.ref CS) = some false
  eXN : PySem.W.exmOne K (.ref CX) (.ref CN) = some false
  eXP : PySem.W.exmOne K (.ref CX) (.ref CP) = some false
  eXX : PySem.W.exmOne K (.ref CX) (.ref CX) = some true
  kTB : PySem.W.kitOne K (.ref CT) (.ref CB) = some false
  kSB : PySem.W.kitOne K (.ref CS) (.ref CB) = some true
  kSN : PySem.W.kitOne K (.ref CS) (.ref CN) = some false
  kNB : PySem.W.kitOne K (.ref CN) (.ref CB) = some true
  kNS : PySem.W.kitOne K (.ref CN) (.ref CS) = some false
  kPB : PySem.W.kitOne K (.ref CP) (.ref CB) = some true
  kPX : PySem.W.kitOne K (.ref CP) (.ref CX) = some false
  kXB : PySem.W.kitOne K (.ref CX) (.ref CB) = some true
  kXP : PySem.W.kitOne K (.ref CX) (.ref CP) = some false
theorem rd_tXk3 {K : PySem.W.Frag} {f : Str} {te : TE} {σ : L2.St} {H : Hp} {Q : VK} (h : te σ H fun x H1 => ∃ (a C dd : Addr) (fs : List (Str × V)) (v : V), x = .ref a ∧ H1 a = some (exk a (.ref C) (some dd)) ∧ XfC K C ∧ PySem.W.findIn K (.ref C) f = some none ∧ H1 dd = some (.xd fs) ∧ fs.lookup f = some v ∧ Q v H1) : tXk K f te σ H Q := h
theorem lk_3 {k : Str} {v : V} : List.lookup k [(k, v)] = some v := by
  have e : (k == k) = true := beq_self_eq_true k
  simp only [List.lookup, e]
theorem lk_a {p q : V} : List.lookup ("position" : Str) [("position", q), ("part", p)] = some q := by
  have e : (("position" : Str) == ("position" : Str)) = true := beq_self_eq_true _
  simp only [List.lookup, e]
theorem lk_b {p q : V} : List.lookup ("part" : Str) [("position", q), ("part", p)] = some p := by
  have e1 : (("part" : Str) == ("position" : Str)) = false := by decide
  have e : (("part" : Str) == ("part" : Str)) = true := beq_self_eq_true _
  simp only [List.lookup, e1, e]
theorem rd_cK2 {sp : Sp} {np nk : Nat} {W : WX} {t tk : TA} {σ : L2.St} {H : Hp} {Q : VK} (h : t σ H fun vs H1 => vs.length = np ∧ tk σ H1 fun zs H2 => zs.length = nk ∧ sp (vs ++ zs) H2 Q fun cls d H' => W cls d σ H') : tCK2 sp np nk W t tk σ H Q := h
theorem pe_xkK {X : Cx} {K : PySem.W.Frag} (hK : X.K = K) {e : Expr} {te : TE} {pos : Pos} {n : Str} (he : PE X e te) (hb : attributeBase e n X.env (eval e X.env) = eval e X.env := by rfl) : PE X (.Attribute e n pos) (tXk K n te) := by
  subst hK
  exact pe_xk he hb
section
variable {P : Program} {w : World} {K : PySem.W.Frag} {mg : Str → Option Value} {base : Heap}
structure VKa (P : Program) (w : World) (K : PySem.W.Frag) (mg : Str → Option Value) (base : Heap) (T : List (Addr × Str)) (CT CS CN CP CX : Addr) : Prop where
  split_classes : CalK P w K mg base (L2.CX P w) 9 "split_classes" 2 ["pinned", "extra_pin", "extra_edge"] (spSplitX K T CT CS CN CP CX)
theorem ok_call65 {f : Addr} {fd : FuncData} {T : List (Addr × Str)} {CT CS CN CP CX CB fT fS fN fP fX : Addr} (F : Fun K "_law_call" "_law_call" s__law_call f fd) (B : Bt mg) (C : VKa P w K mg base T CT CS CN CP CX) (TT : OwnB K mg "TooLarge" "total" "OverflowError" "OverflowError.__new__" "OverflowError.__init__" bmOE CT fT) (TS : OwnX K mg "InvalidState" "part" CS CB fS) (no2 : PySem.W.findIn K (.ref CS) "position" = some none) (TN : OwnX K mg "NotReachable" "position" CN CB fN) (TP : OwnX K mg "InvalidPin" "node" CP CB fP) (TX : OwnX K mg "InvalidEdge" "edge" CX CB fX) (IS : Is65 K mg CT CS CN CP CX CB) : FnG P w K mg base CX0 10 f fd ["_law_graph", "_law_some", "_law_pins", "_law_new_pin", "_law_edge"] (spCall65 K T CT CS CN CP CX) := by
  refine fnG0 F sc__law_call (fun vs H Q E h => ?_) (fun cdv A outer s H vs Q E hr h => ?_)
  · obtain ⟨g, n, e, sl, ps, np, ev, ns, pn, es, rfl, _⟩ := h
    rfl
  · have hv : ∃ v0 v1 v2 v3 v4, vs = [v0, v1, v2, v3, v4] := by
      obtain ⟨g, n, e, sl, ps, np, ev, ns, pn, es, rfl, _⟩ := h
      exact ⟨_, _, _, _, _, rfl⟩
    obtain ⟨v0, v1, v2, v3, v4, rfl⟩ := hv
    have nd := sc__law_call.nd
    have hu := hr.u1
    have gI : ∃ u, mg "InputError" = some u ∧ RelV (.ref CB) u := ⟨_, IS.gI, rfl⟩
    have gS : ∃ u, mg "InvalidState" = some u ∧ RelV (.ref CS) u := ⟨_, IS.gS, rfl⟩
    have gN : ∃ u, mg "NotReachable" = some u ∧ RelV (.ref CN) u := ⟨_, IS.gN, rfl⟩
    have gP : ∃ u, mg "InvalidPin" = some u ∧ RelV (.ref CP) u := ⟨_, IS.gP, rfl⟩
    have gX : ∃ u, mg "InvalidEdge" = some u ∧ RelV (.ref CX) u := ⟨_, IS.gX, rfl⟩
    refine ⟨_, (pss_cons (ps_set (i := 5) nd rfl (by first | exact Or.inl rfl | exact Or.inr rfl) pe_str)
  (pss_cons (ps_try_keepN (i := 6) (Wout := fun _ _ _ _ => False) rfl rfl nd rfl rfl L2.takes0 (fun W pn xe tk _ => pss_one (ps_expr (pe_cKX C.split_classes hr (by decide) rfl tk (pa_cons (pv 0) (pa_cons (pv 1) pa_nil)) (pk_cons (pv 2) (pk_cons (pv 3) (pk_cons (pv 4) pk_nil)))))) (.cons ⟨rfl, by decide, Or.inl IS.gT⟩ (fun a pn => pss_one (ps_set (i := 5) nd rfl (Or.inl rfl) (pe_tup (pa_cons pe_str (pa_cons (pe_xkK (K := K) rfl (pv 6)) (pa_cons (pe_callB (kIsK K rfl) (by rfl) B.isinstance bb_isinstance (pa_cons (pv 6) (pa_cons (pe_gl rfl gI) pa_nil))) pa_nil)))))) (.cons ⟨rfl, by decide, Or.inl IS.gS⟩ (fun a pn => pss_one (ps_set (i := 5) nd rfl (Or.inl rfl) (pe_tup (pa_cons pe_str (pa_cons (pe_xkK (K := K) rfl (pv 6)) (pa_cons (pe_xkK (K := K) rfl (pv 6)) (pa_cons (pe_callB (kIsK K rfl) (by rfl) B.isinstance bb_isinstance (pa_cons (pv 6) (pa_cons (pe_gl rfl gI) pa_nil))) (pa_cons (pe_callB (kIsK K rfl) (by rfl) B.isinstance bb_isinstance (pa_cons (pv 6) (pa_cons (pe_gl rfl gN) pa_nil))) pa_nil)))))))) (.cons ⟨rfl, by decide, Or.inl IS.gN⟩ (fun a pn => pss_one (ps_set (i := 5) nd rfl (Or.inl rfl) (pe_tup (pa_cons pe_str (pa_cons (pe_xkK (K := K) rfl (pv 6)) (pa_cons (pe_callB (kIsK K rfl) (by rfl) B.isinstance bb_isinstance (pa_cons (pv 6) (pa_cons (pe_gl rfl gI) pa_nil))) (pa_cons (pe_callB (kIsK K rfl) (by rfl) B.isinstance bb_isinstance (pa_cons (pv 6) (pa_cons (pe_gl rfl gS) pa_nil))) pa_nil))))))) (.cons ⟨rfl, by decide, Or.inl IS.gP⟩ (fun a pn => pss_one (ps_set (i := 5) nd rfl (Or.inl rfl) (pe_tup (pa_cons pe_str (pa_cons (pe_xkK (K := K) rfl (pv 6)) (pa_cons (pe_callB (kIsK K rfl) (by rfl) B.isinstance bb_isinstance (pa_cons (pv 6) (pa_cons (pe_gl rfl gI) pa_nil))) (pa_cons (pe_callB (kIsK K rfl) (by rfl) B.isinstance bb_isinstance (pa_cons (pv 6) (pa_cons (pe_gl rfl gX) pa_nil))) pa_nil))))))) (.cons ⟨rfl, by decide, Or.inl IS.gX⟩ (fun a pn => pss_one (ps_set (i := 5) nd rfl (Or.inl rfl) (pe_tup (pa_cons pe_str (pa_cons (pe_xkK (K := K) rfl (pv 6)) (pa_cons (pe_callB (kIsK K rfl) (by rfl) B.isinstance bb_isinstance (pa_cons (pv 6) (pa_cons (pe_gl rfl gI) pa_nil))) (pa_cons (pe_callB (kIsK K rfl) (by rfl) B.isinstance bb_isinstance (pa_cons (pv 6) (pa_cons (pe_gl rfl gP) pa_nil))) pa_nil))))))) .nil))))))
  (pss_one (ps_ret (pv 5))))), ?_⟩
    wtm_at "rd"
    refine rd_cK2 ?_
    wtm_at "rd"
    refine h.monoE fun cls dd H1 er => ?_
    obtain ⟨d, rfl, er⟩ := er
    rcases er with ⟨rfl, v, hd, nx⟩ | ⟨rfl, p, q_, hd, nx⟩ | ⟨rfl, v, hd, nx⟩ | ⟨rfl, v, hd, nx⟩ | ⟨rfl, v, hd, nx⟩
    · refine ⟨true, IS.eTT, (fun z => nomatch z), fun _ a na => ?_⟩
      have k := Same.new (o := exk a (.ref CT) (some d)) na
      have ha := @upd_same H1 a (exk a (.ref CT) (some d))
      have hd2 := k _ _ hd
      generalize upd H1 a (exk a (.ref CT) (some d)) = H2 at ha hd2 k
      wtm_at "rd"
      refine rd_tXk3 ?_
      wtm_at "rd"
      refine ⟨a, CT, d, _, v, rfl, ha, TT.xf, TT.no, hd2, lk_3, ?_⟩
      wtm_at "rd"
      refine rd_isK ha hd2 IS.cT (fun u hu => hu) IS.kTB ?_
      wtm_at "rd"
      intro t ft
      wtm_at "rd"
      exact nx t _ (k.trans (Same.new ft)) upd_same
    · refine ⟨false, IS.eST, (fun _ => ⟨true, IS.eSS, (fun z => nomatch z), fun _ a na => ?_⟩), fun z => nomatch z⟩
      have k := Same.new (o := exk a (.ref CS) (some d)) na
      have ha := @upd_same H1 a (exk a (.ref CS) (some d))
      have hd2 := k _ _ hd
      generalize upd H1 a (exk a (.ref CS) (some d)) = H2 at ha hd2 k
      wtm_at "rd"
      refine rd_tXk3 ?_
      wtm_at "rd"
      refine ⟨a, CS, d, _, p, rfl, ha, TS.xf, TS.no, hd2, lk_b, ?_⟩
      wtm_at "rd"
      refine rd_tXk3 ?_
      wtm_at "rd"
      refine ⟨a, CS, d, _, q_, rfl, ha, TS.xf, no2, hd2, lk_a, ?_⟩
      wtm_at "rd"
      refine rd_isK ha hd2 IS.cS (fun u hu => hu) IS.kSB ?_
      wtm_at "rd"
      refine rd_isK ha hd2 IS.cS (fun u hu => hu) IS.kSN ?_
      wtm_at "rd"
      intro t ft
      wtm_at "rd"
      exact nx t _ (k.trans (Same.new ft)) upd_same
    · refine ⟨false, IS.eNT, (fun _ => ⟨false, IS.eNS, (fun _ => ⟨true, IS.eNN, (fun z => nomatch z), fun _ a na => ?_⟩), fun z => nomatch z⟩), fun z => nomatch z⟩
      have k := Same.new (o := exk a (.ref CN) (some d)) na
      have ha := @upd_same H1 a (exk a (.ref CN) (some d))
      have hd2 := k _ _ hd
      generalize upd H1 a (exk a (.ref CN) (some d)) = H2 at ha hd2 k
      wtm_at "rd"
      refine rd_tXk3 ?_
      wtm_at "rd"
      refine ⟨a, CN, d, _, v, rfl, ha, TN.xf, TN.no, hd2, lk_3, ?_⟩
      wtm_at "rd"
      refine rd_isK ha hd2 IS.cN (fun u hu => hu) IS.kNB ?_
      wtm_at "rd"
      refine rd_isK ha hd2 IS.cN (fun u hu => hu) IS.kNS ?_
      wtm_at "rd"
      intro t ft
      wtm_at "rd"
      exact nx t _ (k.trans (Same.new ft)) upd_same
    · refine ⟨false, IS.ePT, (fun _ => ⟨false, IS.ePS, (fun _ => ⟨false, IS.ePN, (fun _ => ⟨true, IS.ePP, (fun z => nomatch z), fun _ a na => ?_⟩), fun z => nomatch z⟩), fun z => nomatch z⟩), fun z => nomatch z⟩
      have k := Same.new (o := exk a (.ref CP) (some d)) na
      have ha := @upd_same H1 a (exk a (.ref CP) (some d))
      have hd2 := k _ _ hd
      generalize upd H1 a (exk a (.ref CP) (some d)) = H2 at ha hd2 k
      wtm_at "rd"
      refine rd_tXk3 ?_
      wtm_at "rd"
      refine ⟨a, CP, d, _, v, rfl, ha, TP.xf, TP.no, hd2, lk_3, ?_⟩
      wtm_at "rd"
      refine rd_isK ha hd2 IS.cP (fun u hu => hu) IS.kPB ?_
      wtm_at "rd"
      refine rd_isK ha hd2 IS.cP (fun u hu => hu) IS.kPX ?_
      wtm_at "rd"
      intro t ft
      wtm_at "rd"
      exact nx t _ (k.trans (Same.new ft)) upd_same
    · refine ⟨false, IS.eXT, (fun _ => ⟨false, IS.eXS, (fun _ => ⟨false, IS.eXN, (fun _ => ⟨false, IS.eXP, (fun _ => ⟨true, IS.eXX, (fun z => nomatch z), fun _ a na => ?_⟩), fun z => nomatch z⟩), fun z => nomatch z⟩), fun z => nomatch z⟩), fun z => nomatch z⟩
      have k := Same.new (o := exk a (.ref CX) (some d)) na
      have ha := @upd_same H1 a (exk a (.ref CX) (some d))
      have hd2 := k _ _ hd
      generalize upd H1 a (exk a (.ref CX) (some d)) = H2 at ha hd2 k
      wtm_at "rd"
      refine rd_tXk3 ?_
      wtm_at "rd"
      refine ⟨a, CX, d, _, v, rfl, ha, TX.xf, TX.no, hd2, lk_3, ?_⟩
      wtm_at "rd"
      refine rd_isK ha hd2 IS.cX (fun u hu => hu) IS.kXB ?_
      wtm_at "rd"
      refine rd_isK ha hd2 IS.cX (fun u hu => hu) IS.kXP ?_
      wtm_at "rd"
      intro t ft
      wtm_at "rd"
      exact nx t _ (k.trans (Same.new ft)) upd_same
end
end Law

/-! d.pop(k) of a dict with the key -/
namespace U
open PySem PySem.Spec PyProof.Rows L2
def rDPop : V → List V → Hp → VK → Prop := fun x xs H Q => ∃ (a : Addr) (kvs : List (Key × V)) (k : Key) (v : V), x = .ref a ∧ xs = [kV k] ∧ H a = some (.dK kvs) ∧ valV kvs k = some v ∧ Q v (upd H a (.dK (dropK kvs k)))
theorem mt_dpop {X : Cx} : MtR X "dict.pop" rDPop := by
  intro pins s σ H x vs v us Q I rx rv h
  obtain ⟨a, kvs, k, v0, rfl, rfl, ha, hv, q⟩ := h
  obtain rfl : v = Value.ref a := rx
  cases rv with
  | cons r rr =>
    cases rr
    exact d_pop I ha r hv (.inl rfl) fun w' s' I' rw => ⟨v0, _, I', rw, q⟩
theorem kvG_drop {ns : List Str} {F : Str → V} {x : Str} : dropK (kvG ns F) (.inr x) = kvG (ns.filter fun y => decide (y ≠ x)) F := by
  unfold dropK kvG
  rw [List.filter_map]
  congr 1
  refine List.filter_congr fun y _ => ?_
  show decide _ = decide _
  rw [decide_eq_decide]
  show (Sum.inr y : Key) ≠ Sum.inr x ↔ y ≠ x
  exact ⟨fun h z => h (by rw [z]), fun h z => h (Sum.inr.inj z)⟩
end U

/-! repr of whatever data -/
namespace U
open PySem PySem.Spec PyProof.Rows L2
section
variable {K : PySem.W.Frag} {H H' : Hp}
mutual
theorem dp_ext (l : ∀ a xs, SqL K H a xs → SqL K H' a xs) (t : ∀ a xs, SqT K H a xs → SqT K H' a xs) : ∀ (d : PyData) (v : V), Dp K H v d → Dp K H' v d
  | .none, _, h => by cases h; exact .non
  | .bool _, _, h => by cases h; exact .bl _
  | .int _, _, h => by cases h; exact .int _
  | .str _, _, h => by cases h; exact .str _
  | .list ds, _, h => by
    cases h with
    | lst h1 h2 => exact .lst (l _ _ h1) (dp_extA l t ds _ h2)
  | .tuple ds, _, h => by
    cases h with
    | tup h1 h2 => exact .tup (t _ _ h1) (dp_extA l t ds _ h2)
  | .dict _, _, h => by cases h
theorem dp_extA (l : ∀ a xs, SqL K H a xs → SqL K H' a xs) (t : ∀ a xs, SqT K H a xs → SqT K H' a xs) : ∀ (ds : List PyData) (vs : List V), DpAll K H vs ds → DpAll K H' vs ds
  | [], _, h => by cases h; exact .nil
  | d :: ds, _, h => by
    cases h with
    | cons h1 h2 => exact .cons (dp_ext l t d _ h1) (dp_extA l t ds _ h2)
end
end
/-- a value that repr may be asked of, and what repr says -/
inductive Rp (K : PySem.W.Frag) (H : Hp) : V → Str → Prop
  | non : Rp K H .non "None"
  | bl (b : Bool) : Rp K H (.bl b) (if b then "True" else "False")
  | int (i : Int) (h : i.natAbs.log2 < 1920) : Rp K H (.int i) (toString i)
  | str (x : Str) (h : (reprText x).length ≤ sizeLine) : Rp K H (.str x) (reprText x)
  | of {a : Addr} {d : PyData} : Dp K H (.ref a) d → d.hasDict = false → Shows d → Rp K H (.ref a) d.shown
  | dct {a : Addr} {ns : List Str} {f : Str → Int} : H a = some (.dK (kvF ns f)) → Shows (.dict (ns.map fun n => (.str n, .int (f n)))) → Rp K H (.ref a) (PyData.dict (ns.map fun n => (.str n, .int (f n)))).shown
theorem Rp.ext {K : PySem.W.Frag} {H H' : Hp} {v : V} {d : Str} (h : Rp K H v d) (l : ∀ a xs, SqL K H a xs → SqL K H' a xs) (t : ∀ a xs, SqT K H a xs → SqT K H' a xs) (k : ∀ a kvs, H a = some (.dK kvs) → H' a = some (.dK kvs)) : Rp K H' v d := by
  cases h with
  | non => exact .non
  | bl b => exact .bl b
  | int i h => exact .int i h
  | str x h => exact .str x h
  | of h1 h2 h3 => exact .of (dp_ext l t _ _ h1) h2 h3
  | dct h1 h2 => exact .dct (k _ _ h1) h2
theorem Rp.same {K : PySem.W.Frag} {H H' : Hp} {v : V} {d : Str} (h : Rp K H v d) (s : Same H H') : Rp K H' v d := h.ext
  (fun a xs q => by
    rcases q with (q | ⟨o, q⟩) | q
    · exact .inl (.inl (s _ _ q))
    · exact .inl (.inr ⟨o, s _ _ q⟩)
    · exact .inr q) (fun a xs q => Same.seqT s q) fun a kvs q => s _ _ q
end U

/-! repr of data that holds lists, tuples and dicts of atoms, to any depth -/
namespace U
open PySem PySem.Spec PyProof.Rows L2
/-- None, a truth value, a number, a text -/
def vD : V → PyData
  | .bl b => .bool b
  | .int i => .int i
  | .str s => .str s
  | _ => .none
def Atm (v : V) : Prop := v = .non ∨ (∃ b, v = .bl b) ∨ (∃ i, v = .int i) ∨ ∃ s, v = .str s
mutual
inductive Dg (H : Hp) : V → PyData → Prop
  | atm {v : V} : Atm v → Dg H v (vD v)
  | tup {a : Addr} {xs : List V} {ds : List PyData} : H a = some (.tup xs) → DgAll H xs ds → Dg H (.ref a) (.tuple ds)
  | lst {a : Addr} {xs : List V} {ds : List PyData} : H a = some (.lst xs) → DgAll H xs ds → Dg H (.ref a) (.list ds)
  | dct {a : Addr} {ns : List Str} {F : Str → V} : H a = some (.dK (kvG ns F)) → (∀ n ∈ ns, Atm (F n)) → Dg H (.ref a) (.dict (ns.map fun n => (.str n, vD (F n))))
inductive DgAll (H : Hp) : List V → List PyData → Prop
  | nil : DgAll H [] []
  | cons {v : V} {vs : List V} {d : PyData} {ds : List PyData} : Dg H v d → DgAll H vs ds → DgAll H (v :: vs) (d :: ds)
end
mutual
theorem Dg.ext {H H' : Hp} (s : ∀ b o, H b = some o → (∀ ps, o ≠ .tbl ps) → H' b = some o) : ∀ {v : V} {d : PyData}, Dg H v d → Dg H' v d
  | _, _, .atm h => .atm h
  | _, _, .tup h t => .tup (s _ _ h nofun) (DgAll.ext s t)
  | _, _, .lst h t => .lst (s _ _ h nofun) (DgAll.ext s t)
  | _, _, .dct h t => .dct (s _ _ h nofun) t
theorem DgAll.ext {H H' : Hp} (s : ∀ b o, H b = some o → (∀ ps, o ≠ .tbl ps) → H' b = some o) : ∀ {v : List V} {d : List PyData}, DgAll H v d → DgAll H' v d
  | _, _, .nil => .nil
  | _, _, .cons h t => .cons (Dg.ext s h) (DgAll.ext s t)
end
section
variable {X : Cx} {pins : List (Addr × Obj)} {σ : L2.St} {H : Hp} {s : Shared}
theorem atm_reads {h : Heap} {v : V} {u : Value} (a : Atm v) (r : RelV v u) : Reads h u (vD v) [] := by
  rcases a with rfl | ⟨b, rfl⟩ | ⟨i, rfl⟩ | ⟨x, rfl⟩
  · cases r
    exact .none
  · cases r
    exact .bool _
  · obtain ⟨t, rfl⟩ : ∃ t, u = Value.int i t := r
    exact .int _ _
  · obtain ⟨t, rfl⟩ : ∃ t, u = Value.str x t := r
    exact .str _ _
theorem kg_pairs {h : Heap} {F : Str → V} : ∀ {ns : List Str} {vs : List (Key × Value)}, (∀ n ∈ ns, Atm (F n)) → KV (kvG ns F) vs → PyProof.V.PairsRead h encK vs (ns.map fun n => (.str n, vD (F n))) []
  | [], vs, _, r => by
    cases r
    exact .nil
  | n :: ns, vs, a, r => by
    cases r with
    | @cons p q ps qs hpq t =>
      obtain ⟨h1, h2⟩ := hpq
      obtain ⟨k, v⟩ := q
      have h1' : (Sum.inr n : Key) = k := h1
      subst h1'
      exact .cons (k := .inr n) (as := []) (bs := []) (atm_reads (a n List.mem_cons_self) h2) (kg_pairs (fun m hm => a m (List.mem_cons_of_mem _ hm)) t)
/-- what repr says of a value, whatever lists lie in it -/
def Rk (P : Program) (w : World) (h : Heap) (u : Value) (d : PyData) : Prop := (∃ as, Reads h u d as) ∧ (d.shown.length ≤ sizeLine → ∃ bs, ReadAtMost h d.depth bs ∧ ReprK P w bs h d.depth u d.shown)
def RkAll (P : Program) (w : World) (h : Heap) (us : List Value) (ds : List PyData) : Prop := (∃ as, ReadsAll h us ds as) ∧ ((∀ t ∈ PyData.shownAll ds, t.length ≤ sizeLine) → ∃ bs, ReadAtMost h (PyData.depthAll ds) bs ∧ ReprAllK P w bs h (PyData.depthAll ds) us (PyData.shownAll ds))
theorem rk_of {P : Program} {w : World} {h : Heap} {u : Value} {d : PyData} {as : List Addr} (r : Reads h u d as) (hs : d.showable = true) (n : sysModules ∉ as) : Rk P w h u d := ⟨⟨_, r⟩, fun z => ReprK.of_reads r hs (fun _ => n) z⟩
theorem rk_nil {P : Program} {w : World} {h : Heap} : RkAll P w h [] [] := ⟨⟨_, .nil⟩, fun _ => ⟨[], (fun _ z => nomatch z), by simp only [PyData.shownAll]; exact .nil⟩⟩
theorem rk_cons {P : Program} {w : World} {h : Heap} {u : Value} {us : List Value} {d : PyData} {ds : List PyData} (h1 : Rk P w h u d) (h2 : RkAll P w h us ds) : RkAll P w h (u :: us) (d :: ds) := by
  obtain ⟨⟨as, r1⟩, k1⟩ := h1
  obtain ⟨⟨bs, r2⟩, k2⟩ := h2
  refine ⟨⟨_, .cons r1 r2⟩, fun z => ?_⟩
  obtain ⟨b1, hb1, q1⟩ := k1 (z _ (by simp only [PyData.shownAll]; exact List.mem_cons_self))
  obtain ⟨b2, hb2, q2⟩ := k2 fun t ht => z t (by simp only [PyData.shownAll]; exact List.mem_cons_of_mem _ ht)
  have e1 : d.depth ≤ PyData.depthAll (d :: ds) := by rw [PyData.depthAll]; omega
  have e2 : PyData.depthAll ds ≤ PyData.depthAll (d :: ds) := by rw [PyData.depthAll]; omega
  refine ⟨b1 ++ b2, (hb1.mono e1).append (hb2.mono e2), ?_⟩
  simp only [PyData.shownAll]
  exact .cons ((q1.more fun b hb => List.mem_append_left _ hb).level_le e1) (q2.more_le (fun b hb => List.mem_append_right _ hb) e2)
theorem rk_list {P : Program} {w : World} {h : Heap} {a : Addr} {o : Obj} {us : List Value} {n : Nat} {ds : List PyData} (h1 : h.get? a = some o) (h2 : o.cls = .type "list") (h3 : o.data = .seq us.toArray n) (k : RkAll P w h us ds) : Rk P w h (.ref a) (.list ds) := by
  obtain ⟨⟨as, r⟩, k⟩ := k
  have rd : Reads h (.ref a) (.list ds) (a :: as) := .list h1 h2 h3 (by simpa using r)
  refine ⟨⟨_, rd⟩, fun z => ?_⟩
  have z' : (listText (PyData.shownAll ds)).length ≤ sizeLine := by simpa only [PyData.shown] using z
  obtain ⟨bs, hb, hk⟩ := k fun t ht => Nat.le_trans (listText_mem_le ht) z'
  have hna : a ∉ bs := not_mem_of_deeper rd (by simp only [PyData.depth]; omega) hb
  refine ⟨a :: bs, ReadAtMost.cons rd (by simp only [PyData.depth]; omega) hb, ?_⟩
  simp only [PyData.depth, PyData.shown]
  cases us with
  | nil =>
    cases r
    simp only [PyData.shownAll, listText_nil]
    exact ReprK.listEmpty h1 h2 h3
  | cons x l => exact ReprK.list h1 h2 h3 hna (by simpa using hk.length_eq) fun i y e => hk.item i y (by simpa using e)
theorem rk_tup {P : Program} {w : World} {h : Heap} {a : Addr} {o : Obj} {us : List Value} {n : Nat} {ds : List PyData} (h1 : h.get? a = some o) (h2 : o.cls = .type "tuple") (h3 : o.data = .seq us.toArray n) (k : RkAll P w h us ds) : Rk P w h (.ref a) (.tuple ds) := by
  obtain ⟨⟨as, r⟩, k⟩ := k
  have rd : Reads h (.ref a) (.tuple ds) as := .tuple h1 h2 h3 (by simpa using r)
  refine ⟨⟨_, rd⟩, fun z => ?_⟩
  have z' : (tupleText (PyData.shownAll ds)).length ≤ sizeLine := by simpa only [PyData.shown] using z
  obtain ⟨bs, hb, hk⟩ := k fun t ht => Nat.le_trans (tupleText_mem_le ht) z'
  have hna : a ∉ bs := not_mem_of_deeper rd (by simp only [PyData.depth]; omega) hb
  refine ⟨a :: bs, ReadAtMost.cons rd (by simp only [PyData.depth]; omega) hb, ?_⟩
  simp only [PyData.depth, PyData.shown]
  exact ReprK.tuple h1 h2 h3 hna (by simpa using hk)
mutual
theorem Dg.rk (I : Inv X pins σ H s) : ∀ {v : V} {d : PyData} {u : Value}, Dg H v d → d.showable = true → RelV v u → Rk X.prog X.w s.heap u d
  | _, _, _, .atm a, hs, r => rk_of (atm_reads a r) hs List.not_mem_nil
  | _, _, _, .tup h t, hs, r => by
    cases r
    obtain ⟨its, rv, ⟨o, ho, hc, n, hdat⟩, _⟩ := I.tuple (SqT.of h)
    exact rk_tup ho hc hdat (DgAll.rk I t (by simpa [PyData.showable] using hs) rv)
  | _, _, _, .lst h t, hs, r => by
    cases r
    obtain ⟨its, rv, ⟨o, n, ho, hc, _, hdat⟩, _⟩ := I.list (SqL.of h)
    exact rk_list ho hc hdat (DgAll.rk I t (by simpa [PyData.showable] using hs) rv)
  | _, _, _, .dct h a, hs, r => by
    cases r
    obtain ⟨_, hd, vs, rel, dd⟩ := dk_of I.hok h
    refine rk_of (PyProof.V.reads_dictOf key_reads dd (kg_pairs a rel)) hs fun z => ?_
    rw [List.mem_singleton] at z
    rw [z] at hd
    simp at hd
theorem DgAll.rk (I : Inv X pins σ H s) : ∀ {v : List V} {d : List PyData} {u : List Value}, DgAll H v d → PyData.showableAll d = true → Vals v u → RkAll X.prog X.w s.heap u d
  | _, _, _, .nil, _, r => by
    cases r
    exact rk_nil
  | _, _, _, .cons (d := d) (ds := ds) h t, hs, r => by
    cases r with
    | cons r1 r2 =>
      have hs' : d.showable = true ∧ PyData.showableAll ds = true := by simpa [PyData.showableAll] using hs
      exact rk_cons (Dg.rk I h hs'.1 r1) (DgAll.rk I t hs'.2 r2)
end
/-- repr of a tuple -/
def rReprG : List V → Hp → VK → Prop := fun xs H Q => ∃ (a : Addr) (vs : List V) (ds : List PyData), xs = [.ref a] ∧ H a = some (.tup vs) ∧ DgAll H vs ds ∧ Shows (.tuple ds) ∧ Q (.str (PyData.tuple ds).shown) H
theorem kReprG (hg : X.A.guards = some []) (hu : X.A.units + 64 < cLine) : CallR X (.builtin "repr") rReprG := by
  intro pins s σ H xs us Q I r h
  obtain ⟨a, vs, ds, rfl, ha, hd, S, q⟩ := h
  obtain ⟨u, eu, rx⟩ := vals1 r
  subst eu
  cases rx
  obtain ⟨its, rv, ⟨o, ho, hc, n, hdat⟩, _⟩ := I.tuple (SqT.of ha)
  have hdp := S.dp
  have hsa : PyData.showableAll ds = true := by
    have := S.sh
    simpa [PyData.showable] using this
  obtain ⟨⟨as, r⟩, k⟩ := hd.rk I hsa rv
  have z : (PyData.tuple ds).shown.length ≤ sizeLine := PyData.shown_fits_bulk (by decide) (by decide) S.lv S.bk
  have z' : (tupleText (PyData.shownAll ds)).length ≤ sizeLine := by simpa only [PyData.shown] using z
  have rd : Reads s.heap (.ref a) (.tuple ds) as := .tuple ho hc hdat (by simpa using r)
  obtain ⟨bs, hb, hk⟩ := k fun t ht => Nat.le_trans (tupleText_mem_le ht) z'
  have hna : a ∉ bs := not_mem_of_deeper rd (by simp only [PyData.depth]; omega) hb
  have dd : PyData.depthAll ds + 1 ≤ 50 := by
    have := S.dp
    simp only [PyData.depth] at this
    omega
  refine call_repr_slot (by omega) ⟨o, ho, hc⟩ PySem.F.slot_tuple_repr (call_tuple_reprK ho hc hdat hna (by simpa using hk) (A := X.A.in1) hg (fun b _ => Clear.nil b) (by show X.A.units + 1 + (PyData.depthAll ds + 1) < cLine; omega) (fun b o e => e) (fun h' u tk hk => ⟨_, _, rfl, ?_⟩) z')
  refine ⟨.str (PyData.tuple ds).shown, H, I.kept (t' := tk) hk, ⟨u, ?_⟩, q⟩
  simp only [PyData.shown]
end
theorem rd_reprG {H : Hp} {Q : VK} {a : Addr} {vs : List V} {ds : List PyData} (h : H a = some (.tup vs)) (hd : DgAll H vs ds) (s : Shows (.tuple ds)) (q : Q (.str (PyData.tuple ds).shown) H) : rReprG [.ref a] H Q := ⟨a, vs, ds, rfl, h, hd, s, q⟩
end U

/-! frozen nodes: the plain law -/
namespace U
open PySem PySem.Spec PyProof.Rows L2
section
variable {ns : List Str} {es : List (Str × Str)} {f : Str → Int} {pn : List Str} {m : Str × Int}
end
end U

/-! cheapest paths: the plain law -/
namespace U
open PySem PySem.Spec PyProof.Rows L2 PySem.W
/-- what the steps of a path cost together -/
def ctF (w : Str → Str → Nat) : List Str → Nat
  | x :: y :: r => w x y + ctF w (y :: r)
  | _ => 0
section
variable {w : Str → Str → Nat}
theorem ctF_join : ∀ {p r : List Str} {x : Str}, p.getLast? = some x → ctF w (p ++ r) = ctF w p + ctF w (x :: r)
  | [], _, _, h => nomatch h
  | [a], r, x, h => by
    have : a = x := by simpa using h
    subst this
    show _ = 0 + _
    rw [Nat.zero_add]
    rfl
  | a :: b :: q, r, x, h => by
    have h' : (b :: q).getLast? = some x := by rw [List.getLast?_cons_cons] at h; exact h
    have ih := ctF_join (p := b :: q) (r := r) h'
    show w a b + ctF w (b :: q ++ r) = w a b + ctF w (b :: q) + _
    rw [ih]
    omega
theorem ctF_snoc {p : List Str} {x o : Str} (h : p.getLast? = some x) : ctF w (p ++ [o]) = ctF w p + w x o := by
  rw [ctF_join h]
  rfl
end
/-! ### ranks -/
def dRk (c : Nat) (p : List Str) : PyData := .tuple [.int c, .int p.length, .list (p.map PyData.str)]
def rl (w : Str → Str → Nat) (p q : List Str) : Bool := dataLt (dRk (ctF w p) p) (dRk (ctF w q) q)
section
variable {w : Str → Str → Nat} {p q r : List Str}
theorem rl_irrefl : rl w p p = false := lex_irrefl _
theorem rl_less (h : ctF w p < ctF w q ∨ (ctF w p = ctF w q ∧ p.length < q.length)) : rl w p q = true := by
  unfold rl dRk
  rw [dataLt_tuple]
  rcases h with h | ⟨e, h⟩
  · rw [dataLt_all_no (by simp [alike]) (by simp [PyData.eqv]; omega), dataLt_int]
    exact decide_eq_true (by omega)
  · rw [dataLt_all_yes (by simp [alike]) (by simp [PyData.eqv]; omega), dataLt_all_no (by simp [alike]) (by simp [PyData.eqv]; omega), dataLt_int]
    exact decide_eq_true (by omega)
theorem rl_cost (h : rl w p q = false) : ctF w q ≤ ctF w p := by
  by_cases z : ctF w p < ctF w q
  · rw [rl_less (.inl z)] at h
    cases h
  · omega
end
/-! ### all arrangements -/
/-! ### the paths found -/
structure ChS (ns : List Str) (es : List (Str × Str)) (w : Str → Str → Nat) (src ks : List Str) (P : Str → List Str) (qu : List Str) (pend : Str → Str → Prop) : Prop where
  nd : ks.Nodup
  inN : ∀ x ∈ ks, x ∈ ns
  sv : ∀ x ∈ src, x ∈ ks ∧ rl w [x] (P x) = false
  wk : ∀ x ∈ ks, Wk es (P x)
  hd : ∀ x ∈ ks, ∃ s ∈ src, (P x).head? = some s
  ls : ∀ x ∈ ks, (P x).getLast? = some x
  ndp : ∀ x ∈ ks, (P x).Nodup
  pin : ∀ x ∈ ks, ∀ y ∈ P x, y ∈ ns
  pre : ∀ x ∈ ks, ∀ a r, P x = a ++ r → ∀ z, a.getLast? = some z → z ∈ ks ∧ rl w a (P z) = false
  qin : ∀ x ∈ qu, x ∈ ks
  cl : ∀ x ∈ ks, ∀ o, Adj es x o → x ∈ qu ∨ pend x o ∨ (o ∈ ks ∧ rl w (P x ++ [o]) (P o) = false)
section
variable {ns : List Str} {es : List (Str × Str)} {f : Str → Int} {w : Str → Str → Nat} {src ks : List Str} {P : Str → List Str} {qu : List Str} {pend pend' : Str → Str → Prop}
theorem ChS.start (nd : src.Nodup) (hin : ∀ x ∈ src, x ∈ ns) : ChS ns es w src src (fun x => [x]) src (fun _ _ => False) := by
  refine ⟨nd, hin, fun x hx => ⟨hx, rl_irrefl⟩, fun _ _ => trivial, fun x hx => ⟨x, hx, rfl⟩, fun _ _ => rfl, fun x _ => by simp, fun x hx y hy => ?_, fun x hx a r e z hz => ?_, fun _ h => h, fun x hx o _ => .inl hx⟩
  · rw [List.mem_singleton.mp hy]
    exact hin x hx
  · cases a with
    | nil => cases hz
    | cons b a =>
      rw [List.cons_append] at e
      obtain ⟨rfl, e2⟩ := List.cons.inj e
      obtain ⟨rfl, rfl⟩ := List.append_eq_nil_iff.mp e2.symm
      cases hz
      exact ⟨hx, rl_irrefl⟩
theorem ChS.weak (c : ChS ns es w src ks P qu pend) {qu' : List Str} {pend' : Str → Str → Prop} (hq : ∀ x ∈ qu', x ∈ ks) (h : ∀ x ∈ ks, ∀ o, Adj es x o → (x ∈ qu ∨ pend x o) → x ∈ qu' ∨ pend' x o ∨ (o ∈ ks ∧ rl w (P x ++ [o]) (P o) = false)) : ChS ns es w src ks P qu' pend' :=
  ⟨c.nd, c.inN, c.sv, c.wk, c.hd, c.ls, c.ndp, c.pin, c.pre, hq, fun x hx o a => by
    rcases c.cl x hx o a with z | z | z
    · exact h x hx o a (.inl z)
    · exact h x hx o a (.inr z)
    · exact .inr (.inr z)⟩
/-- one is taken from the queue -/
theorem ChS.pop {x : Str} (c : ChS ns es w src ks P (x :: qu) pend) : ChS ns es w src ks P qu (fun y z => y = x ∨ pend y z) :=
  c.weak (fun y hy => c.qin y (List.mem_cons_of_mem _ hy)) fun y _ o _ h => by
    rcases h with h | h
    · rcases List.mem_cons.mp h with h | h
      · exact .inr (.inl (.inl h))
      · exact .inl h
    · exact .inr (.inl (.inr h))
/-- c is what the cheapest way from src to x costs -/
structure MinC (es : List (Str × Str)) (w : Str → Str → Nat) (src : List Str) (x : Str) (c : Nat) : Prop where
  ex : ∃ q, ∃ s ∈ src, Wk es q ∧ q.head? = some s ∧ q.getLast? = some x ∧ ctF w q = c
  le : ∀ q, ∀ s ∈ src, Wk es q → q.head? = some s → q.getLast? = some x → c ≤ ctF w q
/-- what is found at the end -/
theorem ChS.fin (c : ChS ns es w src ks P [] (fun _ _ => False)) : (∀ x ∈ ks, MinC es w src x (ctF w (P x))) ∧ ∀ q, ∀ s ∈ src, Wk es q → q.head? = some s → ∀ x, q.getLast? = some x → x ∈ ks := by
  have key : ∀ (r : List Str) (a : Str), a ∈ ks → Wk es (a :: r) → ∀ y, (a :: r).getLast? = some y → y ∈ ks ∧ ctF w (P y) ≤ ctF w (P a) + ctF w (a :: r) := by
    intro r
    induction r with
    | nil =>
      intro a ha _ y hy
      have : a = y := by simpa using hy
      subst this
      exact ⟨ha, Nat.le_add_right _ _⟩
    | cons b r ih =>
      intro a ha wk y hy
      rw [List.getLast?_cons_cons] at hy
      rcases c.cl a ha b wk.1 with h | h | ⟨h1, h2⟩
      · cases h
      · exact h.elim
      · obtain ⟨y1, y2⟩ := ih b h1 wk.2 y hy
        have k1 := rl_cost h2
        rw [ctF_snoc (c.ls a ha)] at k1
        refine ⟨y1, ?_⟩
        show _ ≤ ctF w (P a) + (w a b + ctF w (b :: r))
        omega
  have all : ∀ q, ∀ s ∈ src, Wk es q → q.head? = some s → ∀ x, q.getLast? = some x → x ∈ ks ∧ ctF w (P x) ≤ ctF w q := fun q s hs wk hq x hx => by
    cases q with
    | nil => cases hq
    | cons a r =>
      obtain rfl : a = s := Option.some.inj hq
      obtain ⟨s1, s2⟩ := c.sv a hs
      obtain ⟨y1, y2⟩ := key r a s1 wk x hx
      have := rl_cost s2
      have e0 : ctF w [a] = 0 := rfl
      exact ⟨y1, by omega⟩
  refine ⟨fun x hx => ⟨?_, fun q s hs wk hq hl => (all q s hs wk hq x hl).2⟩, fun q s hs wk hq x hl => (all q s hs wk hq x hl).1⟩
  obtain ⟨s, hs, e⟩ := c.hd x hx
  exact ⟨P x, s, hs, c.wk x hx, e, c.ls x hx, rfl⟩
end
end U

/-! data compared by <; kvG changed at a key; append to a long list -/
namespace U
open PySem PySem.Spec PyProof.Rows L2
theorem kvG_put {ns : List Str} {F : Str → V} {n : Str} {v : V} (h : n ∈ ns) : putK (kvG ns F) (.inr n) v = kvG ns (updV F n v) := by
  unfold putK
  rw [if_pos]
  · rw [kvG, kvG, List.map_map]
    refine List.map_congr_left fun m _ => ?_
    show (if (Sum.inr m : Key) = Sum.inr n then ((Sum.inr m : Key), v) else (Sum.inr m, F m)) = (Sum.inr m, updV F n v m)
    unfold updV
    by_cases e : m = n
    · rw [if_pos (by rw [e]), if_pos e]
    · rw [if_neg (fun z => e (Sum.inr.inj z)), if_neg e]
  · rw [valV_any, kvG_val h]
    rfl
end U

/-! sizes of shown data, put together from the parts -/
namespace U
open PySem PySem.Spec PyProof.Rows L2
/-- data that repr may be asked of: at most n of them, m deep -/
structure SmD (n m : Nat) (d : PyData) : Prop where
  lv : d.leavesShort 13 = true
  sh : d.showable = true
  bk : d.bulk ≤ n
  dp : d.depth ≤ m
  nd : d.hasDict = false
structure SmDs (n m : Nat) (ds : List PyData) : Prop where
  lv : PyData.leavesShortAll 13 ds = true
  sh : PyData.showableAll ds = true
  bk : PyData.bulkAll ds ≤ n
  dp : PyData.depthAll ds ≤ m
  nd : PyData.hasDictAll ds = false
theorem SmDs.nil : SmDs 0 0 [] := ⟨by simp [PyData.leavesShortAll], by simp [PyData.showableAll], by simp [PyData.bulkAll], by simp [PyData.depthAll], by simp [PyData.hasDictAll]⟩
theorem SmDs.cons {n m n2 m2 : Nat} {d : PyData} {ds : List PyData} (h : SmD n m d) (h2 : SmDs n2 m2 ds) : SmDs (n + 1 + n2) (m + m2) (d :: ds) := by
  obtain ⟨a1, a2, a3, a4, a5⟩ := h
  obtain ⟨b1, b2, b3, b4, b5⟩ := h2
  refine ⟨by rw [PyData.leavesShortAll, a1, b1]; rfl, by rw [PyData.showableAll, a2, b2]; rfl, ?_, ?_, by rw [PyData.hasDictAll, a5, b5]; rfl⟩
  · rw [PyData.bulkAll]
    omega
  · rw [PyData.depthAll]
    omega
theorem SmD.tup {n m : Nat} {ds : List PyData} (h : SmDs n m ds) : SmD n (m + 1) (.tuple ds) := by
  obtain ⟨b1, b2, b3, b4, b5⟩ := h
  exact ⟨by rw [PyData.leavesShort]; exact b1, by rw [PyData.showable]; exact b2, by rw [PyData.bulk]; exact b3, by rw [PyData.depth]; omega, by rw [PyData.hasDict]; exact b5⟩
theorem SmD.lst {n m : Nat} {ds : List PyData} (h : SmDs n m ds) : SmD n (m + 1) (.list ds) := by
  obtain ⟨b1, b2, b3, b4, b5⟩ := h
  exact ⟨by rw [PyData.leavesShort]; exact b1, by rw [PyData.showable]; exact b2, by rw [PyData.bulk]; exact b3, by rw [PyData.depth]; omega, by rw [PyData.hasDict]; exact b5⟩
theorem SmD.mono {n m n2 m2 : Nat} {d : PyData} (h : SmD n m d) (a : n ≤ n2) (b : m ≤ m2) : SmD n2 m2 d := ⟨h.lv, h.sh, Nat.le_trans h.bk a, Nat.le_trans h.dp b, h.nd⟩
theorem SmD.name {x : Str} (h : IsName x) : SmD 8 0 (.str x) := ⟨h.lv, by simp [PyData.showable], h.bk, by simp [PyData.depth], by simp [PyData.hasDict]⟩
theorem SmDs.names : ∀ {xs : List Str}, (∀ x ∈ xs, IsName x) → SmDs (9 * xs.length) 0 (xs.map PyData.str)
  | [], _ => SmDs.nil
  | x :: r, h => by
    have a := SmDs.cons (SmD.name (h x List.mem_cons_self)) (SmDs.names fun y hy => h y (List.mem_cons_of_mem _ hy))
    rw [List.map_cons, List.length_cons]
    exact ⟨a.lv, a.sh, by have := a.bk; omega, a.dp, a.nd⟩
theorem SmDs.of {n m : Nat} : ∀ {ds : List PyData}, (∀ d ∈ ds, SmD n m d) → SmDs ((n + 1) * ds.length) m ds
  | [], _ => ⟨SmDs.nil.lv, SmDs.nil.sh, by simp [PyData.bulkAll], by simp [PyData.depthAll], SmDs.nil.nd⟩
  | d :: ds, h => by
    obtain ⟨a1, a2, a3, a4, a5⟩ := h d List.mem_cons_self
    obtain ⟨b1, b2, b3, b4, b5⟩ := SmDs.of (n := n) (m := m) fun y hy => h y (List.mem_cons_of_mem _ hy)
    refine ⟨by rw [PyData.leavesShortAll, a1, b1]; rfl, by rw [PyData.showableAll, a2, b2]; rfl, ?_, ?_, by rw [PyData.hasDictAll, a5, b5]; rfl⟩
    · rw [PyData.bulkAll, List.length_cons, Nat.mul_succ]
      omega
    · rw [PyData.depthAll]
      omega
theorem SmD.shows {n m : Nat} {d : PyData} (h : SmD n m d) (a : n ≤ 2 ^ 20) (b : m ≤ 50) : Shows d := ⟨h.sh, h.lv, Nat.le_trans h.bk a, Nat.le_trans h.dp b⟩
theorem Dp.same {K : PySem.W.Frag} {H H' : Hp} {v : V} {d : PyData} (h : Dp K H v d) (s : Same H H') : Dp K H' v d := dp_ext
  (fun a xs q => by
    rcases q with (q | ⟨o, q⟩) | q
    · exact .inl (.inl (s _ _ q))
    · exact .inl (.inr ⟨o, s _ _ q⟩)
    · exact .inr q) (fun a xs q => Same.seqT s q) _ _ h
end U

/-! plain: sizes of shown data, dicts among them; data of atoms -/
namespace U
open PySem PySem.Spec PyProof.Rows L2
structure Wz (n m : Nat) (d : PyData) : Prop where
  lv : d.leavesShort 13 = true
  sh : d.showable = true
  bk : d.bulk ≤ n
  dp : d.depth ≤ m
structure WzA (n m : Nat) (ds : List PyData) : Prop where
  lv : PyData.leavesShortAll 13 ds = true
  sh : PyData.showableAll ds = true
  bk : PyData.bulkAll ds ≤ n
  dp : PyData.depthAll ds ≤ m
theorem WzA.nil : WzA 0 0 [] := ⟨by simp [PyData.leavesShortAll], by simp [PyData.showableAll], by simp [PyData.bulkAll], by simp [PyData.depthAll]⟩
theorem WzA.cons {n m n2 m2 : Nat} {d : PyData} {ds : List PyData} (h : Wz n m d) (h2 : WzA n2 m2 ds) : WzA (n + 1 + n2) (m + m2) (d :: ds) := by
  have := h.bk
  have := h2.bk
  have := h.dp
  have := h2.dp
  refine ⟨?_, ?_, ?_, ?_⟩
  · rw [PyData.leavesShortAll, h.lv, h2.lv]; rfl
  · rw [PyData.showableAll, h.sh, h2.sh]; rfl
  · rw [PyData.bulkAll]; omega
  · rw [PyData.depthAll]; omega
theorem Wz.tup {n m : Nat} {ds : List PyData} (h : WzA n m ds) : Wz n (m + 1) (.tuple ds) := by
  have := h.bk
  have := h.dp
  exact ⟨by rw [PyData.leavesShort]; exact h.lv, by rw [PyData.showable]; exact h.sh, by rw [PyData.bulk]; omega, by rw [PyData.depth]; omega⟩
theorem Wz.lst {n m : Nat} {ds : List PyData} (h : WzA n m ds) : Wz n (m + 1) (.list ds) := by
  have := h.bk
  have := h.dp
  exact ⟨by rw [PyData.leavesShort]; exact h.lv, by rw [PyData.showable]; exact h.sh, by rw [PyData.bulk]; omega, by rw [PyData.depth]; omega⟩
theorem Wz.mono {n m n2 m2 : Nat} {d : PyData} (h : Wz n m d) (a : n ≤ n2) (b : m ≤ m2) : Wz n2 m2 d := ⟨h.lv, h.sh, Nat.le_trans h.bk a, Nat.le_trans h.dp b⟩
theorem Wz.shows {n m : Nat} {d : PyData} (h : Wz n m d) (a : n ≤ 2 ^ 20) (b : m ≤ 50) : Shows d := ⟨h.sh, h.lv, Nat.le_trans h.bk a, Nat.le_trans h.dp b⟩
theorem SmD.wz {n m : Nat} {d : PyData} (h : SmD n m d) : Wz n m d := ⟨h.lv, h.sh, h.bk, h.dp⟩
/-- a small atom -/
def AtmS (v : V) : Prop := v = .non ∨ (∃ b, v = .bl b) ∨ (∃ i : Int, v = .int i ∧ -1 ≤ i ∧ i ≤ 3) ∨ ∃ x : Str, v = .str x ∧ x.length ≤ 20 ∧ (PyData.str x).leavesShort 13 = true ∧ PyData.strOk x = true
theorem AtmS.atm {v : V} (h : AtmS v) : Atm v := by
  rcases h with h | h | ⟨i, h, _⟩ | ⟨x, h, _⟩
  · exact .inl h
  · exact .inr (.inl h)
  · exact .inr (.inr (.inl ⟨i, h⟩))
  · exact .inr (.inr (.inr ⟨x, h⟩))
theorem AtmS.wz {v : V} (h : AtmS v) : Wz 20 0 (vD v) := by
  rcases h with rfl | ⟨b, rfl⟩ | ⟨i, rfl, i0, i1⟩ | ⟨x, rfl, hx, lx, _⟩
  · exact ⟨by decide +kernel, by decide +kernel, by decide +kernel, by decide +kernel⟩
  · cases b
    · exact ⟨by decide +kernel, by decide +kernel, by decide +kernel, by decide +kernel⟩
    · exact ⟨by decide +kernel, by decide +kernel, by decide +kernel, by decide +kernel⟩
  · have : i = -1 ∨ i = 0 ∨ i = 1 ∨ i = 2 ∨ i = 3 := by omega
    rcases this with rfl | rfl | rfl | rfl | rfl <;> exact ⟨by decide +kernel, by decide +kernel, by decide +kernel, by decide +kernel⟩
  · refine ⟨lx, by show (PyData.str x).showable = true; simp [PyData.showable], ?_, by show (PyData.str x).depth ≤ 0; simp [PyData.depth]⟩
    show (PyData.str x).bulk ≤ 20
    rw [PyData.bulk]
    exact hx
theorem atmS_name {x : Str} (h : IsName x) : AtmS (.str x) := .inr (.inr (.inr ⟨x, rfl, by have := h.hi; omega, h.lv, h.sok⟩))
theorem wz_kv {F : Str → V} : ∀ {ns : List Str}, (∀ n ∈ ns, IsName n ∧ AtmS (F n)) → PyData.leavesShortKv 13 (ns.map fun n => (.str n, vD (F n))) = true ∧ PyData.showableKv (ns.map fun n => (.str n, vD (F n))) = true ∧
    PyData.bulkKv (ns.map fun n => (.str n, vD (F n))) ≤ 40 * ns.length ∧ PyData.depthKv (ns.map fun n => (.str n, vD (F n))) = 0
  | [], _ => by simp [PyData.leavesShortKv, PyData.showableKv, PyData.bulkKv, PyData.depthKv]
  | n :: ns, h => by
    obtain ⟨a, b, c, d⟩ := wz_kv (ns := ns) fun x hx => h x (List.mem_cons_of_mem _ hx)
    obtain ⟨h1, h2⟩ := h n List.mem_cons_self
    have k := SmD.name h1
    have w := h2.wz
    have wd := w.dp
    have wb := w.bk
    have kd := k.dp
    have kb := k.bk
    rw [List.map_cons, PyData.leavesShortKv, PyData.showableKv, PyData.bulkKv, PyData.depthKv, a, b, d, k.lv, k.sh, w.lv, w.sh, List.length_cons]
    refine ⟨rfl, rfl, ?_, ?_⟩
    · omega
    · omega
theorem Wz.dct {F : Str → V} {ns : List Str} (h : ∀ n ∈ ns, IsName n ∧ AtmS (F n)) : Wz (40 * ns.length) 1 (.dict (ns.map fun n => (.str n, vD (F n)))) := by
  obtain ⟨a, b, c, d⟩ := wz_kv h
  exact ⟨by rw [PyData.leavesShort]; exact a, by rw [PyData.showable]; exact b, by rw [PyData.bulk]; omega, by rw [PyData.depth]; omega⟩
/-- data of atoms as tuples and lists -/
theorem dp_atm {K : PySem.W.Frag} {H : Hp} {v : V} (h : Atm v) : Dp K H v (vD v) := by
  rcases h with rfl | ⟨b, rfl⟩ | ⟨i, rfl⟩ | ⟨x, rfl⟩
  · exact .non
  · exact .bl _
  · exact .int _
  · exact .str _
theorem dp_atms {K : PySem.W.Frag} {H : Hp} : ∀ {vs : List V}, (∀ v ∈ vs, Atm v) → DpAll K H vs (vs.map vD)
  | [], _ => .nil
  | v :: vs, h => .cons (dp_atm (h v List.mem_cons_self)) (dp_atms fun x hx => h x (List.mem_cons_of_mem _ hx))
theorem dg_atms {H : Hp} : ∀ {vs : List V}, (∀ v ∈ vs, Atm v) → DgAll H vs (vs.map vD)
  | [], _ => .nil
  | v :: vs, h => .cons (.atm (h v List.mem_cons_self)) (dg_atms fun x hx => h x (List.mem_cons_of_mem _ hx))
theorem wz_atms : ∀ {vs : List V}, (∀ v ∈ vs, AtmS v) → WzA (21 * vs.length) 0 (vs.map vD)
  | [], _ => WzA.nil
  | v :: vs, h => by
    have a := WzA.cons (h v List.mem_cons_self).wz (wz_atms (vs := vs) fun x hx => h x (List.mem_cons_of_mem _ hx))
    refine ⟨a.lv, a.sh, ?_, a.dp⟩
    have := a.bk
    rw [List.length_cons]
    exact Nat.le_trans this (by omega)
theorem lay_atm {v : V} (h : AtmS v) : (vD v).canLay0 = true ∧ (vD v).depth = 0 := by
  rcases h with rfl | ⟨b, rfl⟩ | ⟨i, rfl, _⟩ | ⟨x, rfl, _, _, ok⟩
  · exact ⟨by simp [vD, PyData.canLay0], by simp [vD, PyData.depth]⟩
  · exact ⟨by simp [vD, PyData.canLay0], by simp [vD, PyData.depth]⟩
  · exact ⟨by simp [vD, PyData.canLay0], by simp [vD, PyData.depth]⟩
  · exact ⟨by simp [vD, PyData.canLay0, ok], by simp [vD, PyData.depth]⟩
theorem lay_atms : ∀ {vs : List V}, (∀ v ∈ vs, AtmS v) → PyData.canLayAll0 (vs.map vD) = true ∧ PyData.depthAll (vs.map vD) = 0
  | [], _ => by simp [PyData.canLayAll0, PyData.depthAll]
  | v :: vs, h => by
    obtain ⟨a, b⟩ := lay_atm (h v List.mem_cons_self)
    obtain ⟨c, d⟩ := lay_atms (vs := vs) fun x hx => h x (List.mem_cons_of_mem _ hx)
    rw [List.map_cons, PyData.canLayAll0, PyData.depthAll, a, b, c, d]
    exact ⟨rfl, rfl⟩
end U

/-! k65: _law_changed -/
namespace Law
open PySem PySem.Spec PyProof.Rows L2 U LamX


theorem rd_tyD9 {K : PySem.W.Frag} {H : Hp} {p : Addr} {kvs : List (Key × V)} {P : Prop} (hs : H p = some (.dK kvs)) (h : P) : tyV K "dict" (.ref p) H ∧ P := ⟨.inr (.inr (.inl ⟨rfl, .inl ⟨kvs, hs⟩⟩)), h⟩
theorem rd_neNoE {K : PySem.W.Frag} {H : Hp} {Q : VK} {p q : Addr} {es : List (Addr × Str × Str)} (hp : SqT K H p (es.map fun x => V.ref x.1)) (pr : ∀ x ∈ es, SqT K H x.1 [.str x.2.1, .str x.2.2]) (hq : SqT K H q []) (ok : ∀ x ∈ es.map (·.2), PyData.strOk x.1 = true ∧ PyData.strOk x.2 = true) (h : Q (.bl (!es.isEmpty)) H) : rNeU K (.ref p) (.ref q) H Q := by
  obtain ⟨c1, c2⟩ := can_edges ok
  refine ⟨_, _, .tup hp (dp_edges pr), .tup hq .nil, ?_, by decide, ?_⟩
  · unfold SeqAt.shaped
    rw [PyData.canLay0, c1, PyData.depth]
    simp only [Bool.true_and, Bool.and_true, decide_eq_true_eq]
    omega
  · have : PyData.eqv (.tuple ((es.map (·.2)).map dE)) (.tuple []) = es.isEmpty := by
      cases es with
      | nil => simp [PyData.eqv, PyData.eqvAll]
      | cons _ _ => simp [PyData.eqv, PyData.eqvAll]
    rw [this]
    exact h
theorem filter_first {α : Type} {p : α → Bool} : ∀ {l : List α}, (∃ x ∈ l, p x = true) → ∃ i, ∃ hi : i < l.length, (l.filter p)[0]? = some l[i] ∧ p l[i] = true ∧ ∀ e ∈ l.take i, p e = false
  | [], h => by
    obtain ⟨x, hx, _⟩ := h
    cases hx
  | a :: r, h => by
    by_cases c : p a = true
    · refine ⟨0, by simp, ?_, c, fun e he => nomatch he⟩
      rw [List.filter_cons, if_pos c]
      rfl
    · obtain ⟨x, hx, px⟩ := h
      have hr : ∃ x ∈ r, p x = true := by
        rcases List.mem_cons.mp hx with rfl | hx
        · exact absurd px c
        · exact ⟨x, hx, px⟩
      obtain ⟨i, hi, h1, h2, h3⟩ := filter_first hr
      refine ⟨i + 1, by simpa using hi, ?_, h2, fun e he => ?_⟩
      · rw [List.filter_cons, if_neg c]
        exact h1
      · rw [List.take_succ_cons] at he
        rcases List.mem_cons.mp he with rfl | he
        · simpa using c
        · exact h3 e he
/-- what a changed state is refused with -/
def ChgOk (H : Hp) (ns : List Str) (es : List (Addr × Str × Str)) (cv : V) (part : Str) (pos : V) : Prop :=
  (cv = .non ∧ part = "form" ∧ pos = .non) ∨
  (∃ (d : Addr) (ord : List Str) (F : Str → V), cv = .ref d ∧ H d = some (.dK (kvG ord F)) ∧ ord.length < ns.length ∧ (∀ y ∈ ord, y ∈ ns ∧ VOk (F y)) ∧ part = "form" ∧ pos = .non) ∨
  (∃ (d : Addr) (ord : List Str) (F : Str → V) (x : Str), cv = .ref d ∧ H d = some (.dK (kvG ord F)) ∧ ord.Perm ns ∧ x ∈ ns ∧ VBad (F x) ∧ AtmS (F x) ∧ (∀ y ∈ ns, y ≠ x → VOk (F y)) ∧ part = "value" ∧ pos = .str x) ∨
  ∃ (d : Addr) (ord : List Str) (f : Str → Int) (i : Nat) (hi : i < es.length), cv = .ref d ∧ H d = some (.dK (kvF ord f)) ∧ ord.Perm ns ∧ (∀ y ∈ ns, 0 ≤ f y ∧ f y < 3) ∧ f es[i].2.1 = f es[i].2.2 ∧ (∀ e ∈ es.take i, f e.2.1 ≠ f e.2.2) ∧ part = "edge" ∧ pos = .ref es[i].1
def spChg : Sp := fun vs H Q _ => ∃ (p g n e st : Addr) (x : Str) (ns ord : List Str) (es : List (Addr × Str × Str)) (f : Str → Int), vs = [.ref p, .ref g, .ref st, .str x] ∧ PoolAt H p ∧ GSt H g n e st ns ord es f ∧ x ∈ ns ∧
  ∀ (t et : Addr) (cv pos : V) (part : Str) (H' : Hp), Go p H H' → H' t = some (.tup [cv, .ref et]) → H' et = some (.tup [.str "state", .str part, pos, .bl true, .bl false]) → ChgOk H' ns es cv part pos → Q (.ref t) H'
section
variable {P : Program} {w : World} {K : PySem.W.Frag} {mg : Str → Option Value} {base : Heap}
structure VLa (P : Program) (w : World) (K : PySem.W.Frag) (mg : Str → Option Value) (base : Heap) : Prop where
  _law_draw : Cal P w K mg base CX0 1 "_law_draw" spDraw
theorem ok_changed {f : Addr} {fd : FuncData} (F : Fun K "_law_changed" "_law_changed" s__law_changed f fd) (B : Bt mg) (C : VLa P w K mg base) : FnG P w K mg base CX0 2 f fd ["_law_source", "_law_graph", "_law_state", "_law_node"] spChg := by
  refine fnG0 F sc__law_changed (fun vs H Q E h => ?_) (fun cdv A outer s H vs Q E hr h => ?_)
  · obtain ⟨p, g, n, e, st, x, ns, ord, es, f, rfl, _⟩ := h
    rfl
  · obtain ⟨p, g, n, e, st, x, ns, ord, es, f, rfl, hp, gs, xin, q⟩ := h
    have nd := sc__law_changed.nd
    have hu := hr.u1
    refine ⟨_, (pss_cons (ps_set (i := 4) nd rfl (by first | exact Or.inl rfl | exact Or.inr rfl) (pe_callTy cDict (by rfl) B.dict bb_dict (pa_cons (pv 2) pa_nil)))
  (pss_cons (ps_set (i := 5) nd rfl (by first | exact Or.inl rfl | exact Or.inr rfl) (pe_c C._law_draw hr (by decide) rfl (pa_cons (pv 0) (pa_cons pe_int pa_nil))))
  (pss_cons (ps_if (pt_cmpR (kEq K rfl hr.u64) (pv 5) pe_int (nomark _)) (pss_cons (ps_expr (pe_bm PySem.F.plainAttrs_dict PySem.F.slot_dict_pop PySem.F.type_dict_pop mt_dpop (pv 4) (pa_cons (pv 3) pa_nil)))
  (pss_one (ps_ret (pe_tup (pa_cons (pv 4) (pa_cons (pe_tup (pa_cons pe_str (pa_cons pe_str (pa_cons pe_non (pa_cons pe_bl (pa_cons pe_bl pa_nil)))))) pa_nil)))))) pss_nil)
  (pss_cons (ps_if (pt_cmpR (kEq K rfl hr.u64) (pv 5) pe_int (nomark _)) (pss_cons (ps_dput hu (pv 4) (pv 3) (pe_ix (kIx K rfl) (pe_lst (pa_cons pe_int (pa_cons pe_bl (pa_cons (pe_op uSub pe_int pe_int) (pa_cons pe_non pa_nil))))) (pe_c C._law_draw hr (by decide) rfl (pa_cons (pv 0) (pa_cons pe_int pa_nil))) (fun _ _ => rfl)) rfl)
  (pss_one (ps_ret (pe_tup (pa_cons (pv 4) (pa_cons (pe_tup (pa_cons pe_str (pa_cons pe_str (pa_cons (pv 3) (pa_cons pe_bl (pa_cons pe_bl pa_nil)))))) pa_nil)))))) pss_nil)
  (pss_cons (ps_if (PW.pt (pw_and (pt_cmpR (kEq K rfl hr.u64) (pv 5) pe_int (nomark _)) (pw_and1 (pt_cmpR (kNe K rfl hr.u64) (pe_ix (kIx K rfl) (pv 1) pe_int (fun _ _ => rfl)) (pe_tup pa_nil) (nomark _))))) (pss_cons (ps_set (i := 6) nd rfl (by first | exact Or.inl rfl | exact Or.inr rfl) (pe_ix (kIx K rfl) (pe_ix (kIx K rfl) (pv 1) pe_int (fun _ _ => rfl)) (pe_c C._law_draw hr (by decide) rfl (pa_cons (pv 0) (pa_cons (pe_callB (kLen K rfl) (by rfl) B.len bb_len (pa_cons (pe_ix (kIx K rfl) (pv 1) pe_int (fun _ _ => rfl)) pa_nil)) pa_nil))) (fun _ _ => rfl)))
  (pss_cons (ps_dput hu (pv 4) (pe_ix (kIx K rfl) (pv 6) pe_int (fun _ _ => rfl)) (pe_dget hu (pv 4) (pe_ix (kIx K rfl) (pv 6) pe_int (fun _ _ => rfl)) (fun _ _ => rfl)) rfl)
  (pss_cons (ps_setLc (i := 7) (own := [("_law_one", 8)]) rfl nd rfl rfl (sw_true rfl rfl rfl (by decide +kernel)) (ki_tup K rfl (pe_ix (kIx K rfl) (pv 1) pe_int (fun _ _ => rfl))) (blkOk_by (own := [("_law_one", 8)]) (N := nN__law_changed) (sc := defScope s__law_changed) (by decide +kernel)) (fun _ _ _ _ _ => (pg_name (i := 8) nd rfl (by first | exact Or.inl rfl | exact Or.inr rfl))) (fun _ _ _ _ _ => (pts_one (pt_cmpR (kEq K rfl hr.u64) (pe_dget hu (pv 4) (pe_ix (kIx K rfl) (pv 8) pe_int (fun _ _ => rfl)) (fun _ _ => rfl)) (pe_dget hu (pv 4) (pe_ix (kIx K rfl) (pv 8) pe_int (fun _ _ => rfl)) (fun _ _ => rfl)) (nomark _)))) (fun _ _ _ _ _ => (pv 8)))
  (pss_one (ps_ret (pe_tup (pa_cons (pv 4) (pa_cons (pe_tup (pa_cons pe_str (pa_cons pe_str (pa_cons (pe_ix (kIx K rfl) (pv 7) pe_int (fun _ _ => rfl)) (pa_cons pe_bl (pa_cons pe_bl pa_nil)))))) pa_nil)))))))) pss_nil)
  (pss_one (ps_ret (pe_tup (pa_cons pe_non (pa_cons (pe_tup (pa_cons pe_str (pa_cons pe_str (pa_cons pe_non (pa_cons pe_bl (pa_cons pe_bl pa_nil)))))) pa_nil)))))))))), ?_⟩
    wtm_at "rd"
    refine ⟨_, .inl gs.st, fun c0 fc0 => ?_⟩
    have k0 := Same.new (o := .dK (kvF ord f)) fc0
    have hc0 := @upd_same H c0 (.dK (kvF ord f))
    generalize upd H c0 (.dK (kvF ord f)) = H1 at *
    have g1 := Go.of_same hp k0
    have ncp := Ne.symm (hp.ne fc0)
    wtm_at "rd"
    refine use_draw g1.pool (by decide) (by decide) fun r H2 r0 r1 g2 => ?_
    have g12 := g1.trans g2
    have hc2 := g2.dK g1.pool hc0
    have gs2 := gs.go hp g12
    clear g1 g2 hc0 k0
    wtm_at "rd"
    refine rd_split (fun c1 => ?_) (fun c1 => ?_)
    · wtm_at "rd"
      refine rd_tyD9 hc2 ?_
      wtm_at "rd"
      refine ⟨c0, kvF ord f, .inr x, .int (f x), rfl, rfl, hc2, kvF_val (gs.inO _ xin), ?_⟩
      have g3 := g12.put (o := .dK (dropK (kvF ord f) (.inr x))) fc0 (Ne.symm ncp)
      have hc3 := @upd_same H2 c0 (.dK (dropK (kvF ord f) (.inr x)))
      generalize upd H2 c0 (.dK (dropK (kvF ord f) (.inr x))) = H3 at *
      have ek : dropK (kvF ord f) (.inr x) = kvG (ord.filter fun y => decide (y ≠ x)) fun y => .int (f y) := kvG_drop (F := fun y => .int (f y))
      rw [ek] at hc3
      wtm_at "rd"
      intro et fet
      have k4 := Same.new (o := .tup [.str "state", .str "form", .non, .bl true, .bl false]) fet
      have het := @upd_same H3 et (.tup [.str "state", .str "form", .non, .bl true, .bl false])
      generalize upd H3 et (.tup [.str "state", .str "form", .non, .bl true, .bl false]) = H4 at *
      wtm_at "rd"
      intro t ft
      have k5 := Same.new (o := .tup [.ref c0, .ref et]) ft
      refine q t et (.ref c0) .non "form" _ ((g3.same k4).same k5) upd_same (k5 _ _ het) (.inr (.inl ⟨c0, _, _, rfl, k5 _ _ (k4 _ _ hc3), ?_, fun y hy => ?_, rfl, rfl⟩))
      · have lt : (ord.filter fun y => decide (y ≠ x)).length < ord.length := by
          refine List.length_filter_lt_length_iff_exists.mpr ⟨x, gs.inO _ xin, ?_⟩
          simp
        have := gs.pm.length_eq
        omega
      · have yin : y ∈ ns := gs.pm.mem_iff.mp (List.mem_filter.mp hy).1
        have := gs.tri y yin
        exact ⟨yin, f y, rfl, by omega, by omega⟩
    wtm_at "rd"
    refine rd_split (fun c2 => ?_) (fun c2 => ?_)
    · wtm_at "rd"
      intro li fli
      have k3 := Same.new (o := .lst [.int 3, .bl true, .int (0 - 1), .non]) fli
      have hli := @upd_same H2 li (.lst [.int 3, .bl true, .int (0 - 1), .non])
      have nlp := Ne.symm (g12.pool.ne fli)
      have g13 := g12.same k3
      have hc3 := k3 _ _ hc2
      generalize upd H2 li (.lst [.int 3, .bl true, .int (0 - 1), .non]) = H3 at *
      wtm_at "rd"
      refine use_draw g13.pool (by decide) (by decide) fun r2 H4 w0 w1 g4 => ?_
      have hli4 := g4.at hli nlp
      have hc4 := g4.dK g13.pool hc3
      have g14 := g13.trans g4
      obtain ⟨vv, ev, bad, sml⟩ : ∃ vv, atI [.int 3, .bl true, .int (0 - 1), V.non] r2 = some vv ∧ VBad vv ∧ AtmS vv := by
        obtain ⟨k, rfl⟩ : ∃ k : Nat, r2 = (k : Int) := ⟨r2.toNat, by omega⟩
        match k, w1 with
        | 0, _ => exact ⟨.int 3, rfl, .inr (.inr ⟨3, rfl, by omega⟩), .inr (.inr (.inl ⟨3, rfl, by omega, by omega⟩))⟩
        | 1, _ => exact ⟨.bl true, rfl, .inr (.inl ⟨true, rfl⟩), .inr (.inl ⟨true, rfl⟩)⟩
        | 2, _ => exact ⟨.int (0 - 1), rfl, .inr (.inr ⟨0 - 1, rfl, by omega⟩), .inr (.inr (.inl ⟨0 - 1, rfl, by omega, by omega⟩))⟩
        | 3, _ => exact ⟨.non, rfl, .inl rfl, .inl rfl⟩
        | k + 4, h => exact absurd h (by omega)
      refine rd_ixL (SqL.of hli4) ev ?_
      wtm_at "rd"
      refine rd_dset hc4 (k := .inr x) rfl (by rw [List.length_map, gs.pm.length_eq]; have := gs.l2; omega) ?_
      have ek : putK (kvF ord f) (.inr x) vv = kvG ord (updV (fun y => .int (f y)) x vv) := kvG_put (F := fun y => .int (f y)) (gs.inO _ xin)
      rw [ek]
      have g5 := g14.put (o := .dK (kvG ord (updV (fun y => .int (f y)) x vv))) fc0 (Ne.symm ncp)
      have hc5 := @upd_same H4 c0 (.dK (kvG ord (updV (fun y => .int (f y)) x vv)))
      generalize upd H4 c0 (.dK (kvG ord (updV (fun y => .int (f y)) x vv))) = H5 at *
      wtm_at "rd"
      intro et fet
      have k6 := Same.new (o := .tup [.str "state", .str "value", .str x, .bl true, .bl false]) fet
      have het := @upd_same H5 et (.tup [.str "state", .str "value", .str x, .bl true, .bl false])
      generalize upd H5 et (.tup [.str "state", .str "value", .str x, .bl true, .bl false]) = H6 at *
      wtm_at "rd"
      intro t ft
      have k7 := Same.new (o := .tup [.ref c0, .ref et]) ft
      refine q t et (.ref c0) (.str x) "value" _ ((g5.same k6).same k7) upd_same (k7 _ _ het) (.inr (.inr (.inl ⟨c0, ord, _, x, rfl, k7 _ _ (k6 _ _ hc5), gs.pm, xin, ?_, ?_, fun y yin ny => ?_, rfl, rfl⟩)))
      · show VBad (if x = x then vv else _)
        rw [if_pos rfl]
        exact bad
      · show AtmS (if x = x then vv else _)
        rw [if_pos rfl]
        exact sml
      · show VOk (if y = x then vv else .int (f y))
        rw [if_neg ny]
        have := gs.tri y yin
        exact ⟨f y, rfl, by omega, by omega⟩
    wtm_at "rd"
    have sokE : ∀ x ∈ es.map (·.2), PyData.strOk x.1 = true ∧ PyData.strOk x.2 = true := fun y hy => ⟨gs.sok _ (gs.ok.mem _ hy).1, gs.sok _ (gs.ok.mem _ hy).2⟩
    refine rd_split (fun c3 => ?_) (fun c3 => ?_)
    rotate_left
    · wtm_at "rd"
      intro et fet
      have k6 := Same.new (o := .tup [.str "state", .str "form", .non, .bl true, .bl false]) fet
      have het := @upd_same H2 et (.tup [.str "state", .str "form", .non, .bl true, .bl false])
      generalize upd H2 et (.tup [.str "state", .str "form", .non, .bl true, .bl false]) = H6 at *
      wtm_at "rd"
      intro t ft
      have k7 := Same.new (o := .tup [.non, .ref et]) ft
      exact q t et .non .non "form" _ ((g12.same k6).same k7) upd_same (k7 _ _ het) (.inl ⟨rfl, rfl, rfl⟩)
    wtm_at "rd"
    refine rd_ixT (SqT.of gs2.gr.top) (v := .ref e) rfl ?_
    wtm_at "rd"
    intro z fz
    have kz := Same.new (o := .tup []) fz
    have g13 := g12.same kz
    have gs3 := gs2.same kz
    have hc3 := kz _ _ hc2
    refine rd_neNoE (SqT.of gs3.gr.edges) (fun y hy => SqT.of (gs3.gr.pairs y hy)) (SqT.of upd_same) sokE ?_
    generalize upd H2 z (.tup []) = H3 at *
    clear gs2 hc2 g12 kz fz
    wtm_at "rd"
    refine rd_b (fun c => ?_) (fun c => ?_)
    rotate_left
    · wtm_at "rd"
      intro et fet
      have k6 := Same.new (o := .tup [.str "state", .str "form", .non, .bl true, .bl false]) fet
      have het := @upd_same H3 et (.tup [.str "state", .str "form", .non, .bl true, .bl false])
      generalize upd H3 et (.tup [.str "state", .str "form", .non, .bl true, .bl false]) = H6 at *
      wtm_at "rd"
      intro t ft
      have k7 := Same.new (o := .tup [.non, .ref et]) ft
      exact q t et .non .non "form" _ ((g13.same k6).same k7) upd_same (k7 _ _ het) (.inl ⟨rfl, rfl, rfl⟩)
    have e0 : 0 < es.length := by
      cases es with
      | nil => cases c
      | cons _ _ => simp
    have l3 := gs.l3
    wtm_at "rd"
    refine rd_ixT (SqT.of gs3.gr.top) (v := .ref e) rfl ?_
    wtm_at "rd"
    refine rd_ixT (SqT.of gs3.gr.top) (v := .ref e) rfl ?_
    wtm_at "rd"
    refine rd_lenT (SqT.of gs3.gr.edges) ?_
    rw [List.length_map]
    wtm_at "rd"
    refine use_draw g13.pool (by omega) (by omega) fun r2 H4 w0 w1 g4 => ?_
    obtain ⟨k, rfl⟩ : ∃ k : Nat, r2 = (k : Int) := ⟨r2.toNat, by omega⟩
    have hk : k < es.length := by omega
    have gs4 := gs3.go g13.pool g4
    have hc4 := g4.dK g13.pool hc3
    have g14 := g13.trans g4
    clear gs3 hc3 g13 g4
    refine rd_ixT (SqT.of gs4.gr.edges) (v := .ref es[k].1) (atI_nat (by rw [List.getElem?_map, List.getElem?_eq_getElem hk]; rfl)) ?_
    have em := List.getElem_mem hk
    have he := gs4.gr.pairs _ em
    obtain ⟨m1, m2⟩ := gs.inE _ em
    have ne := gs.pro _ em
    wtm_at "rd"
    refine rd_ixT (SqT.of he) (v := .str es[k].2.2) rfl ?_
    refine rd_dat (.inl hc4) (kvF_val (gs.inO _ m2)) rfl ?_
    wtm_at "rd"
    refine rd_ixT (SqT.of he) (v := .str es[k].2.1) rfl ?_
    refine rd_dset hc4 (k := .inr es[k].2.1) rfl (by rw [List.length_map, gs.pm.length_eq]; have := gs.l2; omega) ?_
    rw [kvF_put (gs.inO _ m1)]
    have g5 := g14.put (o := .dK (kvF ord (updf f es[k].2.1 (f es[k].2.2)))) fc0 (Ne.symm ncp)
    have hc5 := @upd_same H4 c0 (.dK (kvF ord (updf f es[k].2.1 (f es[k].2.2))))
    have gs5 := gs.go hp g5
    have u1 : updf f es[k].2.1 (f es[k].2.2) es[k].2.1 = updf f es[k].2.1 (f es[k].2.2) es[k].2.2 := by
      unfold updf
      rw [if_pos rfl, if_neg (fun z => ne (by rw [z]))]
    have tri : ∀ y ∈ ns, 0 ≤ updf f es[k].2.1 (f es[k].2.2) y ∧ updf f es[k].2.1 (f es[k].2.2) y < 3 := fun y hy => by
      unfold updf
      split
      · exact gs.tri _ m2
      · exact gs.tri _ hy
    generalize upd H4 c0 (.dK (kvF ord (updf f es[k].2.1 (f es[k].2.2)))) = H5 at *
    obtain ⟨i, hi, h0, pi, bef⟩ := filter_first (l := es) (p := fun e => decide (updf f es[k].2.1 (f es[k].2.2) e.2.1 = updf f es[k].2.1 (f es[k].2.2) e.2.2)) ⟨_, em, decide_eq_true u1⟩
    generalize updf f es[k].2.1 (f es[k].2.2) = f1 at *
    clear gs4 hc4 g14 he u1 em
    generalize es[k] = ee at *
    wtm_at "rd"
    refine rd_ixT (SqT.of gs5.gr.top) (v := .ref e) rfl ?_
    refine rd_forT (SqT.of gs5.gr.edges) ?_
    intro D fD
    refine lcT (K := K) (xs := es.map fun x => V.ref x.1) (fun j H' => Same H5 H' ∧ H' D = some (.lst (((es.take j).filter fun e => decide (f1 e.2.1 = f1 e.2.2)).map fun x => V.ref x.1))) ⟨Same.new fD, upd_same⟩ ?_ ?_ ?_
    · rintro j H' hj ⟨s, _⟩
      exact SqT.of (s _ _ gs5.gr.edges)
    · rintro j y H' hy ⟨s, hD⟩
      obtain ⟨hj, rfl⟩ := map_at hy
      have hm := List.getElem_mem hj
      have lt : ((es.take j).filter fun e => decide (f1 e.2.1 = f1 e.2.2)).length ≤ 1000 := Nat.le_trans (List.length_filter_le _ _) (by rw [List.length_take]; omega)
      rw [take_snoc hj, List.filter_append, List.map_append]
      generalize es[j] = y at *
      obtain ⟨y1, y2⟩ := gs.inE _ hm
      have hy := s _ _ (gs5.gr.pairs _ hm)
      have hcs := s _ _ hc5
      wtm_at "rd"
      refine rd_ixT (SqT.of hy) (v := .str y.2.1) rfl ?_
      refine rd_dat (.inl hcs) (kvF_val (gs.inO _ y1)) rfl ?_
      wtm_at "rd"
      refine rd_ixT (SqT.of hy) (v := .str y.2.2) rfl ?_
      refine rd_dat (.inl hcs) (kvF_val (gs.inO _ y2)) rfl ?_
      wtm_at "rd"
      refine rd_split (fun c => ?_) (fun c => ?_)
      · have c : f1 y.2.1 = f1 y.2.2 := c
        rw [List.filter_cons, if_pos (decide_eq_true c)]
        wtm_at "rd"
        refine rd_acc hD (by rw [List.length_map]; exact Nat.lt_of_le_of_lt lt (by decide)) ?_
        exact ⟨same_put s fD, upd_same⟩
      · have c : ¬ f1 y.2.1 = f1 y.2.2 := c
        rw [List.filter_cons, if_neg (by rw [decide_eq_false c]; exact Bool.false_ne_true)]
        exact ⟨s, by rw [hD]; simp⟩
    rintro H6 ⟨s6, hD⟩
    rw [List.length_map, List.take_length] at hD
    wtm_at "rd"
    refine rd_ixL (SqL.of hD) (v := .ref es[i].1) (atI_nat (j := 0) (by rw [List.getElem?_map, h0]; rfl)) ?_
    wtm_at "rd"
    intro et fet
    have k7 := Same.new (o := .tup [.str "state", .str "edge", .ref es[i].1, .bl true, .bl false]) fet
    have het := @upd_same H6 et (.tup [.str "state", .str "edge", .ref es[i].1, .bl true, .bl false])
    generalize upd H6 et (.tup [.str "state", .str "edge", .ref es[i].1, .bl true, .bl false]) = H7 at *
    wtm_at "rd"
    intro t ft
    have k8 := Same.new (o := .tup [.ref c0, .ref et]) ft
    exact q t et (.ref c0) (.ref es[i].1) "edge" _ (((g5.same s6).same k7).same k8) upd_same (k8 _ _ het) (.inr (.inr (.inr ⟨c0, ord, f1, i, hi, rfl, k8 _ _ (k7 _ _ (s6 _ _ hc5)), gs.pm, tri, of_decide_eq_true pi, fun e he => of_decide_eq_false (bef e he), rfl, rfl⟩)))
end
end Law

/-! k65: the values that are tried -/
namespace Law
open PySem PySem.Spec PyProof.Rows L2 U LamX
theorem rd_eqNoT {K : PySem.W.Frag} {H : Hp} {Q : VK} {p q : Addr} {xs : List Str} (hp : SqT K H p (xs.map V.str)) (hq : SqT K H q []) (ok : ∀ x ∈ xs, PyData.strOk x = true) (h : Q (.bl xs.isEmpty) H) : rEqU K (.ref p) (.ref q) H Q := by
  refine ⟨_, _, .tup hp (dp_strs _), .tup hq .nil, ?_, by decide, ?_⟩
  · unfold SeqAt.shaped
    rw [PyData.canLay0, can_strs ok, PyData.depth, dep_strs]
    rfl
  · have : PyData.eqv (.tuple (xs.map PyData.str)) (.tuple []) = xs.isEmpty := by
      cases xs with
      | nil => simp [PyData.eqv, PyData.eqvAll]
      | cons _ _ => simp [PyData.eqv, PyData.eqvAll]
    rw [this]
    exact h
/-- dicts and tuples stay -/
def KeepDT (H H' : Hp) : Prop := (∀ a k, H a = some (.dK k) → H' a = some (.dK k)) ∧ ∀ a xs, H a = some (.tup xs) → H' a = some (.tup xs)
theorem KeepDT.trans {H H1 H2 : Hp} (a : KeepDT H H1) (b : KeepDT H1 H2) : KeepDT H H2 := ⟨fun x k h => b.1 x k (a.1 x k h), fun x k h => b.2 x k (a.2 x k h)⟩
theorem keep_same {H H' : Hp} (s : Same H H') : KeepDT H H' := ⟨fun _ _ h => s _ _ h, fun _ _ h => s _ _ h⟩
theorem keep_ext {H H' : Hp} (s : ExtN H H') : KeepDT H H' := ⟨fun _ _ h => ExtN.dk s h, fun _ _ h => ExtN.tu s h⟩
theorem keep_go {H H' : Hp} {p : Addr} (hp : PoolAt H p) (g : Go p H H') : KeepDT H H' := ⟨fun _ _ h => g.dK hp h, fun _ _ h => g.tup hp h⟩
/-- an edge that is refused -/
def TB (ns : List Str) (es : List (Str × Str)) (xs : List V) : Prop := xs.length ≠ 2 ∨ ∃ x y, xs = [.str x, y] ∧ x ∈ ns ∧ (y = .non ∨ ∃ s, y = .str s ∧ (s ∉ ns ∨ (s ∈ ns ∧ (s = x ∨ eO x s ∈ es))))
def EvS (H : Hp) (p : Addr) (ns : List Str) (es : List (Str × Str)) (v : V) (d : PyData) : Prop :=
  ((v = .int 0 ∨ v = .str "") ∧ d = vD v) ∨
  (∃ a xs, v = .ref a ∧ H a = some (.tup xs) ∧ (∀ x ∈ xs, AtmS x) ∧ xs.length ≤ 4 ∧ TB ns es xs ∧ d = .tuple (xs.map vD)) ∨
  ∃ a xs, v = .ref a ∧ a ≠ p ∧ H a = some (.lst xs) ∧ (∀ x ∈ xs, AtmS x) ∧ xs.length ≤ 4 ∧ d = .list (xs.map vD)
theorem EvS.keep {H H' : Hp} {p : Addr} {ns : List Str} {es : List (Str × Str)} {v : V} {d : PyData} (h : EvS H p ns es v d) (k : KeepDT H H') (l : ∀ a xs, a ≠ p → H a = some (.lst xs) → H' a = some (.lst xs)) : EvS H' p ns es v d := by
  rcases h with h | ⟨a, xs, e, h1, h2⟩ | ⟨a, xs, e, np, h1, h2⟩
  · exact .inl h
  · exact .inr (.inl ⟨a, xs, e, k.2 _ _ h1, h2⟩)
  · exact .inr (.inr ⟨a, xs, e, np, l _ _ np h1, h2⟩)
theorem atmS_zero : AtmS (.int 0) := .inr (.inr (.inl ⟨0, rfl, by decide, by decide⟩))
theorem atmS_emp : AtmS (.str "") := .inr (.inr (.inr ⟨_, rfl, by decide +kernel, by decide +kernel, by decide +kernel⟩))
theorem EvS.bad {K : PySem.W.Frag} {H : Hp} {p : Addr} {ns : List Str} {es : List (Str × Str)} {v : V} {d : PyData} (h : EvS H p ns es v d) : EBad K H ns es v := by
  rcases h with ⟨rfl | rfl, _⟩ | ⟨a, xs, rfl, h1, _, _, tb, _⟩ | ⟨a, xs, rfl, _, h1, _⟩
  · exact ⟨nofun, .inl ⟨.int, ty_int, by decide +kernel⟩⟩
  · exact ⟨nofun, .inl ⟨.str, ty_str, by decide +kernel⟩⟩
  · rcases tb with tb | ⟨x, y, rfl, r⟩
    · exact ⟨nofun, .inr (.inl ⟨a, xs, rfl, h1, tb⟩)⟩
    · exact ⟨nofun, .inr (.inr ⟨a, x, y, rfl, h1, r⟩)⟩
  · exact ⟨nofun, .inl ⟨.lst, ty_lst h1, by decide +kernel⟩⟩
/-- a value's data -/
structure VDat (K : PySem.W.Frag) (H : Hp) (v : V) (d : PyData) : Prop where
  dp : Dp K H v d
  dg : Dg H v d
  wz : Wz 100 2 d
  lay : d.canLay0 = true
  dep : d.depth ≤ 2
theorem vdat_atm {K : PySem.W.Frag} {H : Hp} {v : V} (h : AtmS v) : VDat K H v (vD v) := ⟨dp_atm h.atm, .atm h.atm, h.wz.mono (by decide) (by decide), (lay_atm h).1, by rw [(lay_atm h).2]; decide⟩
theorem vdat_tup {K : PySem.W.Frag} {H : Hp} {a : Addr} {xs : List V} (h1 : H a = some (.tup xs)) (h2 : ∀ x ∈ xs, AtmS x) (h3 : xs.length ≤ 4) : VDat K H (.ref a) (.tuple (xs.map vD)) := by
  obtain ⟨l1, l2⟩ := lay_atms h2
  exact ⟨.tup (SqT.of h1) (dp_atms fun x hx => (h2 x hx).atm), .tup h1 (dg_atms fun x hx => (h2 x hx).atm), (Wz.tup (wz_atms h2)).mono (by omega) (by decide), by rw [PyData.canLay0]; exact l1, by rw [PyData.depth, l2]; decide⟩
theorem vdat_lst {K : PySem.W.Frag} {H : Hp} {a : Addr} {xs : List V} (h1 : H a = some (.lst xs)) (h2 : ∀ x ∈ xs, AtmS x) (h3 : xs.length ≤ 4) : VDat K H (.ref a) (.list (xs.map vD)) := by
  obtain ⟨l1, l2⟩ := lay_atms h2
  exact ⟨.lst (SqL.of h1) (dp_atms fun x hx => (h2 x hx).atm), .lst h1 (dg_atms fun x hx => (h2 x hx).atm), (Wz.lst (wz_atms h2)).mono (by omega) (by decide), by rw [PyData.canLay0]; exact l1, by rw [PyData.depth, l2]; decide⟩
theorem EvS.dat {K : PySem.W.Frag} {H : Hp} {p : Addr} {ns : List Str} {es : List (Str × Str)} {v : V} {d : PyData} (h : EvS H p ns es v d) : VDat K H v d := by
  rcases h with ⟨rfl | rfl, rfl⟩ | ⟨a, xs, rfl, h1, h2, h3, _, rfl⟩ | ⟨a, xs, rfl, _, h1, h2, h3, rfl⟩
  · exact vdat_atm atmS_zero
  · exact vdat_atm atmS_emp
  · exact vdat_tup h1 h2 h3
  · exact vdat_lst h1 h2 h3
/-- a pin that is refused -/
def PvS (H : Hp) (ns pn : List Str) (v : V) (d : PyData) : Prop :=
  (AtmS v ∧ v ≠ .non ∧ (∀ s, v = .str s → s ∉ ns ∨ s ∈ pn) ∧ d = vD v) ∨ ∃ a xs, v = .ref a ∧ H a = some (.tup xs) ∧ (∀ x ∈ xs, AtmS x) ∧ xs.length ≤ 4 ∧ d = .tuple (xs.map vD)
theorem PvS.keep {H H' : Hp} {ns pn : List Str} {v : V} {d : PyData} (h : PvS H ns pn v d) (k : KeepDT H H') : PvS H' ns pn v d := by
  rcases h with h | ⟨a, xs, e, h1, h2⟩
  · exact .inl h
  · exact .inr ⟨a, xs, e, k.2 _ _ h1, h2⟩
theorem PvS.bad {K : PySem.W.Frag} {H : Hp} {ns pn : List Str} {v : V} {d : PyData} (h : PvS H ns pn v d) : PBad K H ns pn v := by
  rcases h with ⟨at_, nn, hs, _⟩ | ⟨a, xs, rfl, h1, _⟩
  · refine ⟨nn, ?_⟩
    rcases at_ with rfl | ⟨b, rfl⟩ | ⟨i, rfl, _⟩ | ⟨x, rfl, _⟩
    · exact absurd rfl nn
    · exact .inl ⟨.bl, ty_bl, by decide +kernel⟩
    · exact .inl ⟨.int, ty_int, by decide +kernel⟩
    · exact .inr ⟨x, rfl, hs x rfl⟩
  · exact ⟨nofun, .inl ⟨.tup, ty_tup h1, by decide +kernel⟩⟩
theorem PvS.dat {K : PySem.W.Frag} {H : Hp} {ns pn : List Str} {v : V} {d : PyData} (h : PvS H ns pn v d) : VDat K H v d := by
  rcases h with ⟨at_, _, _, rfl⟩ | ⟨a, xs, rfl, h1, h2, h3, rfl⟩
  · exact vdat_atm at_
  · exact vdat_tup h1 h2 h3
/-- the changed state's data -/
def CvD (H : Hp) (cv : V) (d : PyData) : Prop := (cv = .non ∧ d = .none) ∨ ∃ (a : Addr) (ord : List Str) (F : Str → V), cv = .ref a ∧ H a = some (.dK (kvG ord F)) ∧ (∀ n ∈ ord, IsName n ∧ AtmS (F n)) ∧ ord.length ≤ 100 ∧ d = .dict (ord.map fun n => (.str n, vD (F n)))
theorem CvD.keep {H H' : Hp} {v : V} {d : PyData} (h : CvD H v d) (k : KeepDT H H') : CvD H' v d := by
  rcases h with h | ⟨a, ord, F, e, h1, h2⟩
  · exact .inl h
  · exact .inr ⟨a, ord, F, e, k.1 _ _ h1, h2⟩
theorem CvD.dg {H : Hp} {v : V} {d : PyData} (h : CvD H v d) : Dg H v d ∧ Wz 4000 1 d := by
  rcases h with ⟨rfl, rfl⟩ | ⟨a, ord, F, rfl, h1, h2, h3, rfl⟩
  · exact ⟨.atm (.inl rfl), ((AtmS.wz (.inl rfl)).mono (by decide) (by decide))⟩
  · exact ⟨.dct h1 fun n hn => (h2 n hn).2.atm, (Wz.dct h2).mono (by omega) (by decide)⟩
/-- where it is refused: the position as data -/
def PosD (H : Hp) (pos : V) (d : PyData) : Prop := (AtmS pos ∧ d = vD pos) ∨ ∃ a xs, pos = .ref a ∧ H a = some (.tup xs) ∧ (∀ x ∈ xs, AtmS x) ∧ xs.length ≤ 4 ∧ d = .tuple (xs.map vD)
theorem PosD.keep {H H' : Hp} {v : V} {d : PyData} (h : PosD H v d) (k : KeepDT H H') : PosD H' v d := by
  rcases h with h | ⟨a, xs, e, h1, h2⟩
  · exact .inl h
  · exact .inr ⟨a, xs, e, k.2 _ _ h1, h2⟩
theorem PosD.dat {K : PySem.W.Frag} {H : Hp} {v : V} {d : PyData} (h : PosD H v d) : VDat K H v d := by
  rcases h with ⟨at_, rfl⟩ | ⟨a, xs, rfl, h1, h2, h3, rfl⟩
  · exact vdat_atm at_
  · exact vdat_tup h1 h2 h3
theorem vok_atm {v : V} (h : VOk v) : AtmS v := by
  obtain ⟨i, rfl, a, b⟩ := h
  exact .inr (.inr (.inl ⟨i, rfl, by omega, by omega⟩))
theorem vok_nbad {v : V} (h : VOk v) (b : VBad v) : False := by
  obtain ⟨i, rfl, h1, h2⟩ := h
  rcases b with b | ⟨_, b⟩ | ⟨j, b, nb⟩
  · cases b
  · cases b
  · have : i = j := by injection b
    omega
def CkBad (C g n e : Addr) (ns : List Str) (es : List (Addr × Str × Str)) (cv : V) (part : Str) (dpos : PyData) (H : Hp) : Prop := ∀ (H' : Hp) (E : XK), KeepDT H H' → GrS H' g n e ns es →
  (∀ (dd : Addr) (H2 : Hp) (pos : V), Same H' H2 → H2 dd = some (.xd [("position", pos), ("part", .str part)]) → PosD H2 pos dpos → E (.ref C) (some dd) H2) → spCkSt C [.ref g, cv] H' (fun _ _ => False) E
theorem CkBad.keep {C g n e : Addr} {ns : List Str} {es : List (Addr × Str × Str)} {cv : V} {part : Str} {dpos : PyData} {H H1 : Hp} (h : CkBad C g n e ns es cv part dpos H) (k : KeepDT H H1) : CkBad C g n e ns es cv part dpos H1 := fun H' E k2 => h H' E (k.trans k2)
theorem chg_bad {C g n e : Addr} {ns : List Str} {es : List (Addr × Str × Str)} {cv pos : V} {part : Str} {H : Hp} (gr : GrS H g n e ns es) (c : ChgOk H ns es cv part pos) : ∃ d dpos, CvD H cv d ∧ PosD H pos dpos ∧ CkBad C g n e ns es cv part dpos H := by
  have nm := gr.ok.names.ok
  have l2 := gr.l2
  rcases c with ⟨rfl, rfl, rfl⟩ | ⟨d, ord, F, rfl, hd, ln, ok, rfl, rfl⟩ | ⟨d, ord, F, x, rfl, hd, pm, xin, bad, sml, ok, rfl, rfl⟩ | ⟨d, ord, f, i, hi, rfl, hd, pm, tri, eq, bef, rfl, rfl⟩
  · exact ⟨_, _, .inl ⟨rfl, rfl⟩, .inl ⟨.inl rfl, rfl⟩, fun H' E _ gs er => ⟨g, n, e, _, ns, es, rfl, gs, .inl ⟨rfl, fun dd H2 s hd => er dd H2 .non s hd (.inl ⟨.inl rfl, rfl⟩)⟩⟩⟩
  · refine ⟨_, _, .inr ⟨d, ord, F, rfl, hd, fun y hy => ⟨nm _ (ok y hy).1, vok_atm (ok y hy).2⟩, by omega, rfl⟩, .inl ⟨.inl rfl, rfl⟩, fun H' E k gs er => ⟨g, n, e, _, ns, es, rfl, gs, .inr (.inl ⟨d, ord, F, rfl, k.1 _ _ hd, by omega, fun dd H2 s hd => er dd H2 .non s hd (.inl ⟨.inl rfl, rfl⟩)⟩)⟩⟩
  · have inN : ∀ y ∈ ord, y ∈ ns := fun y hy => pm.mem_iff.mp hy
    have al : ∀ y ∈ ns, VOk (F y) ∨ VBad (F y) := fun y hy => by
      by_cases c : y = x
      · rw [c]
        exact .inr bad
      · exact .inl (ok y hy c)
    refine ⟨_, _, .inr ⟨d, ord, F, rfl, hd, fun y hy => ⟨nm _ (inN y hy), ?_⟩, by rw [pm.length_eq]; omega, rfl⟩, .inl ⟨atmS_name (nm x xin), rfl⟩, fun H' E k gs er => ⟨g, n, e, _, ns, es, rfl, gs, .inr (.inr ⟨d, ord, F, rfl, k.1 _ _ hd, pm, al, fun i hi b _ dd H2 s hdd => ?_, fun f hf => ?_⟩)⟩⟩
    · by_cases c : y = x
      · rw [c]
        exact sml
      · exact vok_atm (ok y (inN y hy) c)
    · have ex : ns[i] = x := by
        by_cases c : ns[i] = x
        · exact c
        · exact (vok_nbad (ok _ (List.getElem_mem hi) c) b).elim
      rw [ex] at hdd
      exact er dd H2 (.str x) s hdd (.inl ⟨atmS_name (nm x xin), rfl⟩)
    · exfalso
      obtain ⟨e1, e2, e3⟩ := hf x xin
      exact vok_nbad ⟨f x, e1, e2, e3⟩ bad
  · have inN : ∀ y ∈ ord, y ∈ ns := fun y hy => pm.mem_iff.mp hy
    have vok : ∀ y ∈ ns, VOk (.int (f y)) := fun y hy => ⟨f y, rfl, (tri y hy).1, by have := (tri y hy).2; omega⟩
    have em := List.getElem_mem hi
    obtain ⟨m1, m2⟩ := gr.ok.mem _ (List.mem_map_of_mem (f := (·.2)) em)
    have ats : ∀ x ∈ [V.str es[i].2.1, .str es[i].2.2], AtmS x := fun x hx => by
      rcases List.mem_cons.mp hx with rfl | hx
      · exact atmS_name (nm _ m1)
      · rw [List.mem_singleton.mp hx]
        exact atmS_name (nm _ m2)
    refine ⟨_, _, .inr ⟨d, ord, fun y => .int (f y), rfl, hd, fun y hy => ⟨nm _ (inN y hy), vok_atm (vok y (inN y hy))⟩, by rw [pm.length_eq]; omega, rfl⟩, .inr ⟨_, _, rfl, gr.gr.pairs _ em, ats, (by show 2 ≤ 4; decide), rfl⟩, fun H' E k gs er => ⟨g, n, e, _, ns, es, rfl, gs, .inr (.inr ⟨d, ord, fun y => .int (f y), rfl, k.1 _ _ hd, pm, fun y hy => .inl (vok y hy), fun j hj b _ => (vok_nbad (vok _ (List.getElem_mem hj)) b).elim, fun f' hf => ⟨fun j hj c bf dd t H2 s ht hdd => ?_, fun ne => ?_⟩⟩)⟩⟩
    · have ff : ∀ y ∈ ns, f' y = f y := fun y hy => by
        have := (hf y hy).1
        injection this with h
        exact h.symm
      have ein : ∀ e ∈ es, e.2.1 ∈ ns ∧ e.2.2 ∈ ns := fun e he => gr.ok.mem _ (List.mem_map_of_mem (f := (·.2)) he)
      have ij : j = i := by
        rcases Nat.lt_trichotomy j i with z | z | z
        · exfalso
          have hm : es[j] ∈ es.take i := List.mem_take_iff_getElem.mpr ⟨j, by omega, rfl⟩
          obtain ⟨a1, a2⟩ := ein _ (List.getElem_mem hj)
          exact bef _ hm (by rw [← ff _ a1, ← ff _ a2]; exact c)
        · exact z
        · exfalso
          have hm : es[i] ∈ es.take j := List.mem_take_iff_getElem.mpr ⟨i, by omega, rfl⟩
          exact bf _ hm (by rw [ff _ m1, ff _ m2]; exact eq)
      subst ij
      exact er dd H2 (.ref t) s hdd (.inr ⟨t, _, rfl, ht, ats, (by show 2 ≤ 4; decide), rfl⟩)
    · exfalso
      refine ne _ em ?_
      have e1 : f es[i].2.1 = f' es[i].2.1 := by
        have := (hf _ m1).1
        injection this
      have e2 : f es[i].2.2 = f' es[i].2.2 := by
        have := (hf _ m2).1
        injection this
      rw [← e1, ← e2]
      exact eq
theorem shaped_tupA {ds : List PyData} (lay : PyData.canLayAll0 ds = true) (dep : PyData.depthAll ds ≤ 10) : SeqAt.shaped (.tuple ds) = true := by
  unfold SeqAt.shaped
  rw [PyData.canLay0, lay, PyData.depth]
  simp only [Bool.true_and, decide_eq_true_eq]
  omega
theorem rd_neRes {K : PySem.W.Frag} {H : Hp} {Q : VK} {t t2 : Addr} {xs ys : List V} {ds : List PyData} (ht : H t = some (.tup xs)) (ht2 : H t2 = some (.tup ys)) (h1 : DpAll K H xs ds) (h2 : DpAll K H ys ds) (lay : PyData.canLayAll0 ds = true) (dep : PyData.depthAll ds ≤ 10) (h : Q (.bl false) H) : rNeU K (.ref t) (.ref t2) H Q :=
  rd_neSame (.tup (SqT.of ht) h1) (.tup (SqT.of ht2) h2) (shaped_tupA lay dep) h
theorem rd_eqRes {K : PySem.W.Frag} {H : Hp} {Q : VK} {t t2 : Addr} {xs ys : List V} {ds : List PyData} (ht : H t = some (.tup xs)) (ht2 : H t2 = some (.tup ys)) (h1 : DpAll K H xs ds) (h2 : DpAll K H ys ds) (lay : PyData.canLayAll0 ds = true) (dep : PyData.depthAll ds ≤ 10) (h : Q (.bl true) H) : rEqU K (.ref t) (.ref t2) H Q :=
  rd_eqSame (.tup (SqT.of ht) h1) (.tup (SqT.of ht2) h2) (shaped_tupA lay dep) h
theorem letters_ok {z : Str} (h : ∀ c ∈ z.cps.toList, 97 ≤ c ∧ c ≤ 122) : (PyData.str z).leavesShort 13 = true ∧ PyData.strOk z = true := by
  constructor
  · rw [PyData.leavesShort, List.all_eq_true]
    intro x hx
    have := h x hx
    rw [decide_eq_true_eq]
    omega
  · unfold PyData.strOk
    rw [Array.all_eq_true_iff_forall_mem]
    intro x hx
    have := h x (by simpa using hx)
    rw [decide_eq_true_eq]
    omega
theorem name_a8 {x : Str} (h : IsName x) : AtmS (.str (x ++ Str.ofString "aaaaaaaa")) ∧ ¬ IsName (x ++ Str.ofString "aaaaaaaa") := by
  have e : (x ++ Str.ofString "aaaaaaaa").length = x.length + 8 := strLen_append _ _
  constructor
  · have lt : ∀ c ∈ (x ++ Str.ofString "aaaaaaaa").cps.toList, 97 ≤ c ∧ c ≤ 122 := fun c hc => by
      have e2 : (x ++ Str.ofString "aaaaaaaa").cps.toList = x.cps.toList ++ (Str.ofString "aaaaaaaa").cps.toList := by
        show (x.cps ++ (Str.ofString "aaaaaaaa").cps).toList = _
        rw [Array.toList_append]
      rw [e2] at hc
      rcases List.mem_append.mp hc with hc | hc
      · exact h.ch c hc
      · have : ∀ c ∈ (Str.ofString "aaaaaaaa").cps.toList, 97 ≤ c ∧ c ≤ 122 := by decide +kernel
        exact this c hc
    obtain ⟨a, b⟩ := letters_ok lt
    exact .inr (.inr (.inr ⟨_, rfl, by have := h.hi; omega, a, b⟩))
  · intro n
    have := n.hi
    have := h.lo
    omega
theorem dg_rep {H : Hp} {v : V} {d : PyData} (h : Dg H v d) : ∀ m : Nat, DgAll H (List.replicate m v) (List.replicate m d)
  | 0 => .nil
  | m + 1 => .cons h (dg_rep h m)
theorem wz_rep {n k : Nat} {d : PyData} (h : Wz n k d) : ∀ m : Nat, WzA ((n + 1) * m) k (List.replicate m d)
  | 0 => ⟨WzA.nil.lv, WzA.nil.sh, Nat.le_trans WzA.nil.bk (Nat.zero_le _), Nat.le_trans WzA.nil.dp (Nat.zero_le _)⟩
  | m + 1 => by
    have r := wz_rep h m
    have a := WzA.cons h r
    have hb := h.bk
    have rb := r.bk
    have hd := h.dp
    have rd := r.dp
    refine ⟨a.lv, a.sh, ?_, ?_⟩
    · rw [List.replicate_succ, PyData.bulkAll, Nat.mul_succ]
      omega
    · rw [List.replicate_succ, PyData.depthAll]
      omega
abbrev dFour (m : Nat) (ord : List Str) (f : Str → Int) (dC dE dP : PyData) : PyData := .tuple [.list (List.replicate m (.dict (ord.map fun n => (.str n, vD (.int (f n)))))), dC, dE, dP]
theorem repr_four {K : PySem.W.Frag} {H : Hp} {Q : VK} {t D st : Addr} {cv ev np : V} {m : Nat} {ord : List Str} {f : Str → Int} {dC dE dP : PyData} (ht : H t = some (.tup [.ref D, cv, ev, np])) (hD : H D = some (.lst (List.replicate m (V.ref st)))) (hst : H st = some (.dK (kvF ord f))) (nm : ∀ n ∈ ord, IsName n ∧ 0 ≤ f n ∧ f n < 3) (lo : ord.length ≤ 100) (m4 : m ≤ 4)
    (c : CvD H cv dC) (e : VDat K H ev dE) (p : VDat K H np dP) (q : Q (.str (dFour m ord f dC dE dP).shown) H) : rReprG [.ref t] H Q := by
  have at_ : ∀ n ∈ ord, IsName n ∧ AtmS (.int (f n)) := fun n hn => by
    obtain ⟨a, b, c⟩ := nm n hn
    exact ⟨a, .inr (.inr (.inl ⟨f n, rfl, by omega, by omega⟩))⟩
  have ds : Dg H (.ref st) (.dict (ord.map fun n => (.str n, vD (.int (f n))))) := .dct (F := fun n => .int (f n)) hst fun n hn => (at_ n hn).2.atm
  obtain ⟨c1, c2⟩ := c.dg
  have w1 : Wz 16004 2 (.list (List.replicate m (.dict (ord.map fun n => (.str n, vD (.int (f n))))))) := (Wz.lst (wz_rep ((Wz.dct at_).mono (n2 := 4000) (by omega) (Nat.le_refl _)) m)).mono (by
    have := Nat.mul_le_mul_left (4000 + 1) m4
    omega) (Nat.le_refl _)
  refine rd_reprG ht (.cons (.lst hD (dg_rep ds m)) (.cons c1 (.cons e.dg (.cons p.dg .nil)))) ((Wz.tup (WzA.cons w1 (WzA.cons c2 (WzA.cons e.wz (WzA.cons p.wz WzA.nil))))).shows (by decide) (by decide)) q
end Law

/-! _law_random_state: another state of the graph -/
namespace U
open PySem PySem.Spec PyProof.Rows L2
end U
namespace Law
open PySem PySem.Spec PyProof.Rows L2 U


section
variable {P : Program} {w : World} {K : PySem.W.Frag} {mg : Str → Option Value} {base : Heap}
end
end Law

/-! _law_reachable: all states that can be reached -/
namespace Law
open PySem PySem.Spec PyProof.Rows L2 U


section
variable {P : Program} {w : World} {K : PySem.W.Frag} {mg : Str → Option Value} {base : Heap}
end
end Law

/-! signatures and lifts; small readings -/
namespace Law
open PySem PySem.Spec PyProof.Rows L2 U LamX
theorem tabs_dict {T : List (Addr × Str)} {H : Hp} {d : Addr} {kvs kvs2 : List (Key × V)} (t : Tabs T H) (hd : H d = some (.dK kvs)) : Tabs T (upd H d (.dK kvs2)) := fun q hq => by
  obtain ⟨ps, h1, h2, h3⟩ := t q hq
  refine ⟨ps, at_upd (ne_of h1 hd (by intro z; cases z)) h1, h2, fun pos cv hc => ?_⟩
  obtain ⟨c, e1, e2⟩ := h3 pos cv hc
  exact ⟨c, e1, at_upd (ne_of e2 hd (by intro z; unfold CodeO at z; cases z)) e2⟩
theorem sig_lft {ns : List Str} {es : List (Str × Str)} {f g : Str → Int} {pn : List Str} (gok : GrOk ns es) (l : ns.length ≤ 1000) (okf : EsOk ns es f) (okg : EsOk ns es g) (pin : ∀ x ∈ pn, x ∈ ns) : sigF ns es f pn = sigF ns es g pn ↔ ∃ h, Lft ns es f g pn h :=
  ⟨fun e => lft_of_sg gok l okf okg pin (fun _ => ancF_mem) (fun _ => ancF_mem) e, fun ⟨_, h⟩ => sg_of_lft gok l okf okg (fun _ => ancF_mem) (fun _ => ancF_mem) h⟩
def qLam : Str := ("smallest_path" : Str) ++ ".<locals>." ++ "<lambda>"
end Law

/-! one datum alone may be sorted, an empty tuple too -/
namespace U
open PySem PySem.Spec PyProof.Rows L2 PySem.W
section
variable {prog : Program} {w : World} {A : Around} {s : Shared}
end
end U

/-! sorted(d) where d's one key is () -/
namespace U
open PySem PySem.Spec PyProof.Rows L2
section
variable {X : Cx}
end
end U

/-! sorted(d) where d's keys are tuples of numbers, all of one length: one reading for both cases -/
namespace U
open PySem PySem.Spec PyProof.Rows L2
end U

/-! k64: _law_random_walk -/
namespace Law
open PySem PySem.Spec PyProof.Rows L2 U LamX


/-- the states of a walk, and the node's number in each -/
def WlkOk (ns : List Str) (es : List (Str × Str)) (pn : List Str) (f : Str → Int) (x : Str) (ss : List (Addr × List Str × (Str → Int))) (ks : List Int) : Prop := ss.length = ks.length ∧ ∀ (i : Nat) (h1 : i < ss.length) (h2 : i < ks.length), ∃ ms, Plays ns es pn f ms ss[i].2.2 ∧ ks[i] = (countF f (fun _ => 0) ms).2 x
theorem WlkOk.more {ns : List Str} {es : List (Str × Str)} {pn : List Str} {f : Str → Int} {x : Str} {ss : List (Addr × List Str × (Str → Int))} {ks : List Int} (w : WlkOk ns es pn f x ss ks) {s : Addr × List Str × (Str → Int)} {k : Int} {ms : List (Str × Int)} (pl : Plays ns es pn f ms s.2.2) (e : k = (countF f (fun _ => 0) ms).2 x) : WlkOk ns es pn f x (ss ++ [s]) (ks ++ [k]) := by
  obtain ⟨l, w⟩ := w
  refine ⟨by rw [List.length_append, List.length_append, l]; rfl, fun i h1 h2 => ?_⟩
  rw [List.length_append, List.length_singleton] at h1
  by_cases z : i < ss.length
  · rw [List.getElem_append_left z, List.getElem_append_left (by omega)]
    exact w i z (by omega)
  · obtain rfl : i = ss.length := by omega
    refine ⟨ms, ?_, ?_⟩
    · rw [List.getElem_append_right (Nat.le_refl _)]
      simp only [Nat.sub_self, List.getElem_cons_zero]
      exact pl
    · rw [List.getElem_append_right (by omega)]
      simp only [l, Nat.sub_self, List.getElem_cons_zero]
      exact e
section
variable {P : Program} {w : World} {K : PySem.W.Frag} {mg : Str → Option Value} {base : Heap}
end
end Law

/-! plain: walks and their numbers; the path of six nodes and the ring -/
namespace U
open PySem PySem.Spec PyProof.Rows L2
section
variable {ns : List Str} {es : List (Str × Str)} {f g h : Str → Int} {pn : List Str}
/-- a pinned node keeps its value -/
theorem lft_pinned (okf : EsOk ns es f) (okg : EsOk ns es g) (l : Lft ns es f g pn h) {x : Str} (hx : x ∈ ns) (z : x ∈ pn) : f x = g x := by
  have a := l.2 x hx
  have b := l.1.pin x z
  have := okf.tri x hx
  have := okg.tri x hx
  omega
/-! ### heights -/
/-! ### the path of six nodes -/
def ht5 (k i : Nat) : Int := if k = 0 then i else if k = 1 then i % 2 else if k = 2 then -i else if k = 3 then 4 - i % 2 else 4 + i
def tb5 (ns : List Str) (k : Nat) (y : Str) : Int := ht5 k (ns.idxOf y) % 3
/-! ### the ring -/
end
/-! ### the path's edges -/
/-! ### the groups all together -/
section
variable {κ : Type} [DecidableEq κ]
end
end U

/-! which own error is caught by which handler -/
namespace U
open PySem PySem.Spec PyProof.Rows L2
theorem exm_subE {K : PySem.W.Frag} {S T : Addr} (h1 : PySem.W.subIn K (.ref S) (.type "BaseException") = some true) (b1 : PySem.W.subIn K (.ref T) (.type "BaseException") = some true) (h2 : PySem.W.isClsIn K T = true) (h3 : PySem.W.typeIn K (.ref T) = some (.type "type")) {b : Bool} (h4 : PySem.W.subIn K (.ref S) (.ref T) = some b) :
    PySem.W.exmOne K (.ref S) (.ref T) = some b := by
  have e1 : (PySem.W.subIn K (.ref T) (.type "BaseException") == some true) = true := by rw [b1] <;> rfl
  have e2 : ((PySem.W.clsIn K T).isSome && PySem.W.typeIn K (.ref T) == some (.type "type")) = true := by
    have h2' : (PySem.W.clsIn K T).isSome = true := h2
    rw [h2', h3] <;> rfl
  show (if (PySem.W.subIn K (.ref T) (.type "BaseException") == some true) = true then (if ((PySem.W.clsIn K T).isSome && PySem.W.typeIn K (.ref T) == some (.type "type")) = true then PySem.W.subIn K (.ref S) (.ref T) else none) else none) = _
  rw [if_pos e1, if_pos e2]
  exact h4
end U

/-! moves compared -/
namespace Law
open PySem PySem.Spec PyProof.Rows L2 U


section
variable {K : PySem.W.Frag} {H : Hp} {Q : VK} {p q : Addr} {σ : L2.St}
end
end Law

/-! k65's law -/
namespace Law
open PySem PySem.Spec PyProof.Rows L2 U LamX


theorem rd_rep65 {H : Hp} {Q : VK} {l : Addr} {xs : List V} {m : Nat} (hl : H l = some (.lst xs)) (h1 : m ≤ 1000) (h2 : xs.length * m ≤ 300000) (h : ∀ p, H p = none → Q (.ref p) (upd H p (.lst (List.replicate m xs).flatten))) : rMulU (.ref l) (.int m) H Q := by
  refine ⟨l, m, xs, rfl, rfl, hl, by omega, by omega, ?_, fun p fp => ?_⟩
  · rw [Int.toNat_natCast]
    exact Nat.le_trans h2 (by decide)
  · rw [Int.toNat_natCast]
    exact h p fp
theorem rd_eqNil65 {K : PySem.W.Frag} {H : Hp} {Q : VK} {a l : Addr} {qs : List (Addr × Str × Str)} (ha : SqL K H a (qs.map fun x => V.ref x.1)) (pr : ∀ x ∈ qs, SqT K H x.1 [.str x.2.1, .str x.2.2]) (hl : SqL K H l []) (ok : ∀ x ∈ qs.map (·.2), PyData.strOk x.1 = true ∧ PyData.strOk x.2 = true) (h : Q (.bl qs.isEmpty) H) : rEqU K (.ref a) (.ref l) H Q := by
  obtain ⟨c1, c2⟩ := can_edges ok
  refine ⟨_, _, .lst ha (dp_edges pr), .lst hl .nil, ?_, by decide, ?_⟩
  · unfold SeqAt.shaped
    rw [PyData.canLay0, c1, PyData.depth]
    simp only [Bool.true_and, Bool.and_true, decide_eq_true_eq]
    omega
  · have : PyData.eqv (.list ((qs.map (·.2)).map dE)) (.list []) = qs.isEmpty := by
      cases qs with
      | nil => simp [PyData.eqv, PyData.eqvAll]
      | cons _ _ => simp [PyData.eqv, PyData.eqvAll]
    rw [this]
    exact h
/-- a node without edges -/
def iso65 (es : List (Addr × Str × Str)) (y : Str) : Bool := (es.filter fun x => decide (y ∈ [x.2.1, x.2.2])).isEmpty
theorem iso65_of {es : List (Addr × Str × Str)} {y : Str} (h : iso65 es y = true) : ∀ x ∈ es, x.2.1 ≠ y ∧ x.2.2 ≠ y := fun x hx => by
  have e : (es.filter fun x => decide (y ∈ [x.2.1, x.2.2])) = [] := List.isEmpty_iff.mp h
  have := List.filter_eq_nil_iff.mp e x hx
  rw [decide_eq_true_eq] at this
  exact ⟨fun z => this (by rw [z]; exact List.mem_cons_self), fun z => this (by rw [z]; exact List.mem_cons_of_mem _ List.mem_cons_self)⟩
theorem dps_st {K : PySem.W.Frag} {H : Hp} {part : Str} {pos : V} {d : PyData} (h : PosD H pos d) : DpAll K H [.str "state", .str part, pos, .bl true, .bl false] [.str "state", .str part, d, .bool true, .bool false] := .cons (.str _) (.cons (.str _) (.cons h.dat.dp (.cons (.bl _) (.cons (.bl _) .nil))))
theorem lay_st {H : Hp} {part : Str} {pos : V} {d : PyData} (ok : PyData.strOk part = true) (h : PosD H pos d) : PyData.canLayAll0 [.str "state", .str part, d, .bool true, .bool false] = true ∧ PyData.depthAll [.str "state", .str part, d, .bool true, .bool false] ≤ 10 := by
  have l : d.canLay0 = true := by
    rcases h with ⟨at_, rfl⟩ | ⟨a, xs, rfl, h1, h2, h3, rfl⟩
    · exact (lay_atm at_).1
    · rw [PyData.canLay0]
      exact (lay_atms h2).1
  have dd : d.depth ≤ 2 := by
    rcases h with ⟨at_, rfl⟩ | ⟨a, xs, rfl, h1, h2, h3, rfl⟩
    · rw [(lay_atm at_).2]
      decide
    · rw [PyData.depth, (lay_atms h2).2]
      decide
  constructor
  · simp [PyData.canLayAll0, PyData.canLay0, ok, l]
    decide +kernel
  · simp [PyData.depthAll, PyData.depth]
    omega
theorem dps_at {K : PySem.W.Frag} {H : Hp} {s : Str} {v : V} {d : PyData} (h : VDat K H v d) : DpAll K H [.str s, v, .bl true, .bl false] [.str s, d, .bool true, .bool false] := .cons (.str _) (.cons h.dp (.cons (.bl _) (.cons (.bl _) .nil)))
theorem lay_at {K : PySem.W.Frag} {H : Hp} {s : Str} {v : V} {d : PyData} (ok : PyData.strOk s = true) (h : VDat K H v d) : PyData.canLayAll0 [.str s, d, .bool true, .bool false] = true ∧ PyData.depthAll [.str s, d, .bool true, .bool false] ≤ 10 := by
  have l := h.lay
  have dd := h.dep
  constructor
  · simp [PyData.canLayAll0, PyData.canLay0, ok, l]
  · simp [PyData.depthAll, PyData.depth]
    omega
/-- the two results side by side -/
def Cls65 (m : Nat) (part : Str) (dQ : PyData) (DC : Addr) (i : Nat) (H : Hp) : Prop :=
  (i = 0 ∧ H DC = some (.lst [])) ∨ (i = 1 ∧ ∃ t0 : Addr, H DC = some (.lst [.ref t0]) ∧ H t0 = some (.tup [.str "class", .int m, .bl true, .bl false])) ∨
  (i = 2 ∧ ∃ (t0 t1 : Addr) (pos : V), H DC = some (.lst [.ref t0, .ref t1]) ∧ H t0 = some (.tup [.str "class", .int m, .bl true, .bl false]) ∧ H t1 = some (.tup [.str "state", .str part, pos, .bl true, .bl false]) ∧ PosD H pos dQ)
theorem Cls65.acc {m : Nat} {part : Str} {dQ : PyData} {DC : Addr} {i : Nat} {H : Hp} (h : Cls65 m part dQ DC i H) : ∃ acc, H DC = some (.lst acc) ∧ acc.length ≤ 2 := by
  rcases h with ⟨_, h⟩ | ⟨_, _, h, _⟩ | ⟨_, _, _, _, h, _⟩
  · exact ⟨_, h, by decide⟩
  · exact ⟨_, h, (by show 1 ≤ 2; decide)⟩
  · exact ⟨_, h, (by show 2 ≤ 2; decide)⟩
theorem Cls65.zero {m : Nat} {part : Str} {dQ : PyData} {DC : Addr} {H : Hp} (h : Cls65 m part dQ DC 0 H) : H DC = some (.lst []) := by
  rcases h with ⟨_, h⟩ | ⟨z, _⟩ | ⟨z, _⟩
  · exact h
  · cases z
  · cases z
theorem Cls65.one {m : Nat} {part : Str} {dQ : PyData} {DC : Addr} {H : Hp} (h : Cls65 m part dQ DC 1 H) : ∃ t0 : Addr, H DC = some (.lst [.ref t0]) ∧ H t0 = some (.tup [.str "class", .int m, .bl true, .bl false]) := by
  rcases h with ⟨z, _⟩ | ⟨_, h⟩ | ⟨z, _⟩
  · cases z
  · exact h
  · cases z
theorem Cls65.two {m : Nat} {part : Str} {dQ : PyData} {DC : Addr} {H : Hp} (h : Cls65 m part dQ DC 2 H) : ∃ (t0 t1 : Addr) (pos : V), H DC = some (.lst [.ref t0, .ref t1]) ∧ H t0 = some (.tup [.str "class", .int m, .bl true, .bl false]) ∧ H t1 = some (.tup [.str "state", .str part, pos, .bl true, .bl false]) ∧ PosD H pos dQ := by
  rcases h with ⟨z, _⟩ | ⟨z, _⟩ | ⟨_, h⟩
  · cases z
  · cases z
  · exact h
theorem keep_putL {H : Hp} {D : Addr} {xs ys : List V} (hD : H D = some (.lst xs)) : KeepDT H (upd H D (.lst ys)) := ⟨fun _ _ h => at_upd (ne_of h hD nofun) h, fun _ _ h => at_upd (ne_of h hD nofun) h⟩
theorem shaped_two {m : Nat} {part : Str} {d : PyData} (l : PyData.canLayAll0 [.str "state", .str part, d, .bool true, .bool false] = true) (dd : PyData.depthAll [.str "state", .str part, d, .bool true, .bool false] ≤ 10) : SeqAt.shaped (.list [.tuple [.str "class", .int m, .bool true, .bool false], .tuple [.str "state", .str part, d, .bool true, .bool false]]) = true := by
  unfold SeqAt.shaped
  rw [PyData.canLay0, PyData.canLayAll0, PyData.canLayAll0, PyData.canLayAll0, PyData.canLay0, PyData.canLay0, l, PyData.depth, PyData.depthAll, PyData.depthAll, PyData.depthAll, PyData.depth, PyData.depth]
  have e : PyData.canLayAll0 [.str "class", .int m, .bool true, .bool false] = true := by
    simp [PyData.canLayAll0, PyData.canLay0]
    decide +kernel
  have e2 : PyData.depthAll [.str "class", .int m, .bool true, .bool false] = 0 := by simp [PyData.depthAll, PyData.depth]
  rw [e, e2]
  simp only [Bool.true_and, decide_eq_true_eq]
  omega
def scA65 : Option Stmt → Option Scope
  | some (Stmt.Assign _ (.ListComp _ _ s _) _) => some s
  | _ => none
def scIn65 (st : Stmt) : Scope := (scA65 (defBody st)[14]?).getD (defScope st)
/-- the block's scope, its names bound as the def around it binds them -/
def relS65 (s o : Scope) : Scope := { s with names := s.names.map fun (n, k) => if (k == NameKind.free && o.kind == .function && o.names.lookup n == some .cell) = true then (n, NameKind.cell) else (n, k) }
def spLaw (K : PySem.W.Frag) (T : Addr) : Sp := fun vs H Q _ => ∃ (a : Addr) (nums : List Int), vs = [.ref a] ∧ SqL K H a (nums.map V.int) ∧ nums.length ≤ 63 ∧ Tabs [(T, qLam)] H ∧ ∀ H' : Hp, Q (.bl true) H'
section
variable {P : Program} {w : World} {K : PySem.W.Frag} {mg : Str → Option Value} {base : Heap}
structure N65c (P : Program) (w : World) (K : PySem.W.Frag) (mg : Str → Option Value) (base : Heap) (T : List (Addr × Str)) (CT CS CN CP CX : Addr) : Prop where
  _law_box : Cal P w K mg base CX0 1 "_law_box" (spBox K)
  _law_draw : Cal P w K mg base CX0 1 "_law_draw" spDraw
  _law_random_problem : Cal P w K mg base CX0 4 "_law_random_problem" spProblem
  _law_changed : Cal P w K mg base CX0 2 "_law_changed" spChg
  _law_call : Cal P w K mg base CX0 10 "_law_call" (spCall65 K T CT CS CN CP CX)
theorem ok_law {f : Addr} {fd : FuncData} {T CT CS CN CP CX : Addr} (F : Fun K "law" "law" s_law f fd) (B : Bt mg) (C : N65c P w K mg base [(T, qLam)] CT CS CN CP CX) : FnG P w K mg base CX0 11 f fd ["_law_script"] (spLaw K T) := by
  refine fnG0 F sc_law (fun vs H Q E h => ?_) (fun cdv A outer s H vs Q E hr h => ?_)
  · obtain ⟨a, nums, rfl, _⟩ := h
    rfl
  · obtain ⟨a, nums, rfl, hs, hl, tabs, q⟩ := h
    have nd := sc_law.nd
    have hu := hr.u1
    refine ⟨_, (pss_cons (ps_set (i := 1) nd rfl (by first | exact Or.inl rfl | exact Or.inr rfl) (pe_c C._law_box hr (by decide) rfl (pa_cons (pv 0) pa_nil)))
  (pss_cons (ps_asg (pe_c C._law_random_problem hr (by decide) rfl (pa_cons (pv 1) (pa_cons pe_int pa_nil))) (kg_tup (n := 3) K rfl rfl (pgs_cons (pg_name (i := 2) nd rfl (by first | exact Or.inl rfl | exact Or.inr rfl)) (pgs_cons (pg_name (i := 3) nd rfl (by first | exact Or.inl rfl | exact Or.inr rfl)) (pgs_cons (pg_name (i := 4) nd rfl (by first | exact Or.inl rfl | exact Or.inr rfl)) pgs_nil)))))
  (pss_cons (ps_if (pt_cmpR (kEq K rfl hr.u64) (pe_ix (kIx K rfl) (pv 2) pe_int (fun _ _ => rfl)) (pe_tup pa_nil) (nomark _)) (pss_one (ps_ret (pe_cmpR (kEq K rfl hr.u64) (pe_c C._law_call hr (by decide) rfl (pa_cons (pv 2) (pa_cons (pe_lst pa_nil) (pa_cons (pe_tup pa_nil) (pa_cons pe_non (pa_cons pe_non pa_nil)))))) (pe_tup (pa_cons pe_str (pa_cons pe_int (pa_cons pe_bl pa_nil)))) (nomark _)))) pss_nil)
  (pss_cons (ps_set (i := 5) nd rfl (by first | exact Or.inl rfl | exact Or.inr rfl) (pe_ix (kIx K rfl) (pe_ix (kIx K rfl) (pv 2) pe_int (fun _ _ => rfl)) (pe_c C._law_draw hr (by decide) rfl (pa_cons (pv 1) (pa_cons (pe_callB (kLen K rfl) (by rfl) B.len bb_len (pa_cons (pe_ix (kIx K rfl) (pv 2) pe_int (fun _ _ => rfl)) pa_nil)) pa_nil))) (fun _ _ => rfl)))
  (pss_cons (ps_set (i := 6) nd rfl (by first | exact Or.inl rfl | exact Or.inr rfl) (pe_lst (pa_cons pe_int (pa_cons pe_str (pa_cons (pe_tup (pa_cons (pv 5) (pa_cons (pv 5) pa_nil))) (pa_cons (pe_tup (pa_cons pe_str (pa_cons pe_str (pa_cons pe_str pa_nil)))) (pa_cons (pe_lst (pa_cons (pv 5) (pa_cons (pv 5) pa_nil))) (pa_cons (pe_tup (pa_cons (pv 5) (pa_cons pe_non pa_nil))) (pa_cons (pe_tup (pa_cons (pv 5) (pa_cons (pe_op (kAdd K rfl) (pv 5) pe_str) pa_nil))) pa_nil)))))))))
  (C8.pss_cut (ps_set (i := 6) nd rfl (by first | exact Or.inl rfl | exact Or.inr rfl) (pe_ifExp (pt_cmpR (kNe K rfl hr.u64) (pe_ix (kIx K rfl) (pv 2) pe_int (fun _ _ => rfl)) (pe_tup pa_nil) (nomark _)) (pe_op (kAdd K rfl) (pv 6) (pe_lst (pa_cons (pe_ix (kIx K rfl) (pe_ix (kIx K rfl) (pv 2) pe_int (fun _ _ => rfl)) pe_int (fun _ _ => rfl)) (pa_cons (pe_tup (pa_cons (pe_ix (kIx K rfl) (pe_ix (kIx K rfl) (pe_ix (kIx K rfl) (pv 2) pe_int (fun _ _ => rfl)) pe_int (fun _ _ => rfl)) pe_int (fun _ _ => rfl)) (pa_cons (pe_ix (kIx K rfl) (pe_ix (kIx K rfl) (pe_ix (kIx K rfl) (pv 2) pe_int (fun _ _ => rfl)) pe_int (fun _ _ => rfl)) pe_int (fun _ _ => rfl)) pa_nil))) pa_nil)))) (pv 6)))
  (pss_cons (ps_set (i := 7) nd rfl (by first | exact Or.inl rfl | exact Or.inr rfl) (pe_ix (kIx K rfl) (pv 6) (pe_c C._law_draw hr (by decide) rfl (pa_cons (pv 1) (pa_cons (pe_callB (kLen K rfl) (by rfl) B.len bb_len (pa_cons (pv 6) pa_nil)) pa_nil))) (fun _ _ => rfl)))
  (pss_cons (ps_set (i := 8) nd rfl (by first | exact Or.inl rfl | exact Or.inr rfl) (pe_ix (kIx K rfl) (pe_lst (pa_cons pe_int (pa_cons pe_str (pa_cons (pe_op uMul pe_str pe_int) (pa_cons (pe_tup (pa_cons (pv 5) pa_nil)) (pa_cons pe_bl pa_nil)))))) (pe_c C._law_draw hr (by decide) rfl (pa_cons (pv 1) (pa_cons pe_int pa_nil))) (fun _ _ => rfl)))
  (C8.pss_cut (ps_set (i := 8) nd rfl (by first | exact Or.inl rfl | exact Or.inr rfl) (pe_ifExp (PW.pt (pw_and (pt_cmpR (kNe K rfl hr.u64) (pv 4) (pe_tup pa_nil) (nomark _)) (pw_and1 (pt_cmpR (kEq K rfl hr.u64) (pe_c C._law_draw hr (by decide) rfl (pa_cons (pv 1) (pa_cons pe_int pa_nil))) pe_int (nomark _))))) (pe_ix (kIx K rfl) (pv 4) (pe_c C._law_draw hr (by decide) rfl (pa_cons (pv 1) (pa_cons (pe_callB (kLen K rfl) (by rfl) B.len bb_len (pa_cons (pv 4) pa_nil)) pa_nil))) (fun _ _ => rfl)) (pv 8)))
  (pss_cons (ps_asg (pe_c C._law_changed hr (by decide) rfl (pa_cons (pv 1) (pa_cons (pv 2) (pa_cons (pv 3) (pa_cons (pv 5) pa_nil))))) (kg_tup (n := 2) K rfl rfl (pgs_cons (pg_name (i := 9) nd rfl (by first | exact Or.inl rfl | exact Or.inr rfl)) (pgs_cons (pg_name (i := 10) nd rfl (by first | exact Or.inl rfl | exact Or.inr rfl)) pgs_nil))))
  (pss_cons (ps_set (i := 11) nd rfl (by first | exact Or.inl rfl | exact Or.inr rfl) (pe_lc (own := [("_law_k", 12)]) rfl nd (pi_range1 rfl B.range (pa_cons (pe_op (kAdd K rfl) pe_int (pe_c C._law_draw hr (by decide) rfl (pa_cons (pv 1) (pa_cons pe_int pa_nil)))) pa_nil)) (blkOk_by (own := [("_law_k", 12)]) (N := nN_law) (sc := defScope s_law) (by decide +kernel)) (fun _ _ _ _ _ => (pg_name (i := 12) nd rfl (by first | exact Or.inl rfl | exact Or.inr rfl))) (fun _ _ _ _ _ => pts_nil) (fun _ _ _ _ _ => (pv 3))))
  (pss_cons (ps_set (i := 13) nd rfl (by first | exact Or.inl rfl | exact Or.inr rfl) (pe_callB (kReprG hr.g hr.u64) (by rfl) B.repr bb_repr (pa_cons (pe_tup (pa_cons (pv 11) (pa_cons (pv 9) (pa_cons (pv 7) (pa_cons (pv 8) pa_nil))))) pa_nil)))
  (pss_cons (ps_for PassesOwn.never rfl (ki_list K rfl (pe_lst (pa_cons pe_int (pa_cons (pe_op (kAdd K rfl) pe_int (pe_c C._law_draw hr (by decide) rfl (pa_cons (pv 1) (pa_cons pe_int pa_nil)))) pa_nil)))) (pg_name (i := 14) nd rfl (by first | exact Or.inl rfl | exact Or.inr rfl)) (pss_one (ps_if (pt_cmpR (kNe K rfl hr.u64) (pe_c C._law_call hr (by decide) rfl (pa_cons (pv 2) (pa_cons (pe_op uMul (pe_lst (pa_cons (pv 9) pa_nil)) (pv 14)) (pa_cons (pv 4) (pa_cons (pv 8) (pa_cons (pv 7) pa_nil)))))) (pe_tup (pa_cons pe_str (pa_cons (pv 14) (pa_cons pe_bl pa_nil)))) (nomark _)) (pss_one (ps_ret pe_bl)) pss_nil)))
  (pss_cons (ps_if (pt_cmpR (kNe K rfl hr.u64) (pe_c C._law_call hr (by decide) rfl (pa_cons (pv 2) (pa_cons (pe_op (kAdd K rfl) (pv 11) (pe_lst (pa_cons (pv 9) (pa_cons (pv 3) pa_nil)))) (pa_cons (pv 4) (pa_cons (pv 8) (pa_cons (pv 7) pa_nil)))))) (pv 10) (nomark _)) (pss_one (ps_ret pe_bl)) pss_nil)
  (pss_cons (ps_set (i := 15) nd rfl (by first | exact Or.inl rfl | exact Or.inr rfl) (pe_lc (own := [("_law_one", 16)]) rfl nd (ki_tup K rfl (pe_ix (kIx K rfl) (pv 2) pe_int (fun _ _ => rfl))) (blkOk_by (own := [("_law_one", 16)]) (N := nN_law) (sc := defScope s_law) (by decide +kernel)) (fun _ _ _ _ _ => (pg_name (i := 16) nd rfl (by first | exact Or.inl rfl | exact Or.inr rfl))) (fun _ _ _ _ _ => (pts_one (pt_cmpR (kEq K rfl hr.u64) (pe_lc (own := [("_law_pair", 17)]) rfl nd (ki_tup K rfl (pe_ix (kIx K rfl) (pv 2) pe_int (fun _ _ => rfl))) (blkOk_by (own := [("_law_pair", 17)]) (N := nN_law) (sc := (relS65 (scIn65 s_law) (defScope s_law))) (by decide +kernel)) (fun _ _ _ _ _ => (pg_name (i := 17) nd rfl (by first | exact Or.inl rfl | exact Or.inr rfl))) (fun _ _ _ _ _ => (pts_one (pt_cmpR (kIn K rfl) (pv 16) (pv 17) rfl))) (fun _ _ _ _ _ => (pv 17))) (pe_lst pa_nil) (nomark _)))) (fun _ _ _ _ _ => (pv 16))))
  (C8.pss_cut (ps_if (pt_cmpR (kNe K rfl hr.u64) (pv 15) (pe_lst pa_nil) (nomark _)) (pss_cons (ps_set (i := 18) nd rfl (by first | exact Or.inl rfl | exact Or.inr rfl) (pe_callTy cDict (by rfl) B.dict bb_dict (pa_cons (pv 3) pa_nil)))
  (pss_cons (ps_dput hu (pv 18) (pe_ix (kIx K rfl) (pv 15) pe_int (fun _ _ => rfl)) (pe_op uMod (pe_op (kAdd K rfl) (pe_dget hu (pv 18) (pe_ix (kIx K rfl) (pv 15) pe_int (fun _ _ => rfl)) (fun _ _ => rfl)) pe_int) pe_int) rfl)
  (pss_cons (ps_set (i := 19) nd rfl (by first | exact Or.inl rfl | exact Or.inr rfl) (pe_callTy (kTuple K rfl) (by rfl) B.tuple bb_tuple (pa_cons (pe_callB (kSorted K rfl hr.u64) (by rfl) B.sorted bb_sorted (pa_cons (pe_lc (own := [("_law_one", 16)]) rfl nd (ki_tup K rfl (pe_ix (kIx K rfl) (pv 2) pe_int (fun _ _ => rfl))) (blkOk_by (own := [("_law_one", 16)]) (N := nN_law) (sc := defScope s_law) (by decide +kernel)) (fun _ _ _ _ _ => (pg_name (i := 16) nd rfl (by first | exact Or.inl rfl | exact Or.inr rfl))) (fun _ _ _ _ _ => (pts_one (PW.pt (pw_or (pt_cmpR (kIn K rfl) (pv 16) (pv 4) rfl) (pw_or1 (pt_cmpR (kEq K rfl hr.u64) (pv 16) (pe_ix (kIx K rfl) (pv 15) pe_int (fun _ _ => rfl)) (nomark _))))))) (fun _ _ _ _ _ => (pv 16))) pa_nil)) pa_nil)))
  (pss_cons (ps_setLc (i := 20) (own := [("_law_last", 21)]) rfl nd rfl rfl (sw_true rfl rfl rfl (by decide +kernel)) (ki_list K rfl (pe_lst (pa_cons (pv 3) (pa_cons (pv 9) pa_nil)))) (blkOk_by (own := [("_law_last", 21)]) (N := nN_law) (sc := defScope s_law) (by decide +kernel)) (fun _ _ _ _ _ => (pg_name (i := 21) nd rfl (by first | exact Or.inl rfl | exact Or.inr rfl))) (fun _ _ _ _ _ => pts_nil) (fun _ _ _ _ _ => (pe_c C._law_call hr (by decide) rfl (pa_cons (pv 2) (pa_cons (pe_op (kAdd K rfl) (pv 11) (pe_lst (pa_cons (pv 18) (pa_cons (pv 21) pa_nil)))) (pa_cons (pv 19) (pa_cons (pv 8) (pa_cons (pv 7) pa_nil))))))))
  (pss_one (ps_if (pt_cmpR (kNe K rfl hr.u64) (pv 20) (pe_lst (pa_cons (pe_tup (pa_cons pe_str (pa_cons (pe_callB (kLen K rfl) (by rfl) B.len bb_len (pa_cons (pv 11) pa_nil)) (pa_cons pe_bl (pa_cons pe_bl pa_nil))))) (pa_cons (pv 10) pa_nil))) (nomark _)) (pss_one (ps_ret pe_bl)) pss_nil)))))) pss_nil)
  (pss_cons (ps_if (pt_cmpR (kNe K rfl hr.u64) (pe_c C._law_call hr (by decide) rfl (pa_cons (pv 2) (pa_cons (pv 11) (pa_cons (pv 4) (pa_cons (pv 8) (pa_cons (pv 7) pa_nil)))))) (pe_tup (pa_cons pe_str (pa_cons (pv 8) (pa_cons pe_bl (pa_cons pe_bl pa_nil))))) (nomark _)) (pss_one (ps_ret pe_bl)) pss_nil)
  (pss_cons (ps_set (i := 22) nd rfl (by first | exact Or.inl rfl | exact Or.inr rfl) (pe_c C._law_call hr (by decide) rfl (pa_cons (pv 2) (pa_cons (pv 11) (pa_cons (pv 4) (pa_cons pe_non (pa_cons (pv 7) pa_nil)))))))
  (pss_one (ps_ret (pe_and (pe_cmpR (kEq K rfl hr.u64) (pv 22) (pe_tup (pa_cons pe_str (pa_cons (pv 7) (pa_cons pe_bl (pa_cons pe_bl pa_nil))))) (nomark _)) (pe_one (pe_cmpR (kEq K rfl hr.u64) (pe_callB (kReprG hr.g hr.u64) (by rfl) B.repr bb_repr (pa_cons (pe_tup (pa_cons (pv 11) (pa_cons (pv 9) (pa_cons (pv 7) (pa_cons (pv 8) pa_nil))))) pa_nil)) (pv 13) (nomark _)))))))))))))))))))))))), ?_⟩
    generalize [(T, qLam)] = TT at *
    wtm_at "rd"
    refine ⟨a, nums, rfl, hs, hl, fun p H1 s1 fp hp => ?_⟩
    have tb1 := tabs.ext fun b o h => s1 b o h
    wtm_at "rd"
    refine use_problem hp (by decide) (by decide) fun t g n e st ps ns ord pn es f H2 g2 _ _ _ _ ht gs hps pin pl asc n6 => ?_
    refine rd_unp (SqT.of ht) rfl ?_
    have n6 : ns.length ≤ 6 := by omega
    have x2 := GoN.of_go tb1 hp g2
    have hp2 := g2.pool
    have tb2 := x2.tabs
    clear ht g2 tb1 s1 tabs hs x2 hp
    have l1 : ns.length ≤ 1000 := by omega
    have l2 := gs.l2
    wtm_at "rd"
    refine rd_ixT (SqT.of gs.gr.top) (v := .ref n) rfl ?_
    wtm_at "rd"
    intro z fz
    have kz := Same.new (o := .tup []) fz
    refine rd_eqNoT (SqT.of (kz _ _ gs.gr.nodes)) (SqT.of upd_same) gs.sok ?_
    have g3 := (Go.refl hp2).same kz
    have gs3 := gs.same kz
    have hps3 := kz _ _ hps
    generalize upd H2 z (.tup []) = H3 at *
    clear kz fz gs hps
    wtm_at "rd"
    refine rd_b (fun c => ?_) (fun c => ?_)
    · wtm_at "rd"
      intro lz flz
      have k1 := Same.new (o := .lst []) flz
      have hlz := @upd_same H3 lz (.lst [])
      have g4 := g3.same k1
      generalize upd H3 lz (.lst []) = H4 at *
      wtm_at "rd"
      intro tz ftz
      have k2 := Same.new (o := .tup []) ftz
      have htz := @upd_same H4 tz (.tup [])
      have hlz := k2 _ _ hlz
      have g5 := g4.same k2
      have tb5 := (GoN.of_go tb2 hp2 g5).tabs
      generalize upd H4 tz (.tup []) = H5 at *
      wtm_at "rd"
      refine ⟨g, n, e, lz, tz, .non, .non, ns, [], es, rfl, SqT.of htz, tb5, by omega, .inl ⟨[], hlz, by decide, fun d H' x tb hd => ⟨d, rfl, .inl ⟨rfl, _, hd, fun t H6 s6 ht => ?_⟩⟩⟩⟩
      wtm_at "rd"
      intro t2 ft2
      have kt := Same.new (o := .tup [.str "total", .int 0, .bl false]) ft2
      have dps : ∀ Hx : Hp, DpAll K Hx [.str "total", .int (([] : List V).length : Nat), .bl false] [.str "total", .int 0, .bool false] := fun _ => .cons (.str _) (.cons (.int _) (.cons (.bl _) .nil))
      refine rd_eqRes (kt _ _ ht) upd_same (dps _) (dps _) (by simp [PyData.canLayAll0, PyData.canLay0]; decide +kernel) (by simp [PyData.depthAll, PyData.depth]) ?_
      exact q _
    have n0 : 0 < ns.length := by
      cases ns with
      | nil => cases c
      | cons _ _ => simp
    clear c
    have x3 := GoN.of_go tb2 hp2 g3
    have hp3 := g3.pool
    have tb3 := x3.tabs
    clear g3 x3 hp2 tb2
    wtm_at "rd"
    refine rd_ixT (SqT.of gs3.gr.top) (v := .ref n) rfl ?_
    wtm_at "rd"
    refine rd_ixT (SqT.of gs3.gr.top) (v := .ref n) rfl ?_
    wtm_at "rd"
    refine rd_lenT (SqT.of gs3.gr.nodes) ?_
    rw [List.length_map]
    wtm_at "rd"
    refine use_draw hp3 (by omega) (by omega) fun r H4 r0 r1 g4 => ?_
    obtain ⟨k, rfl⟩ : ∃ k : Nat, r = (k : Int) := ⟨r.toNat, by omega⟩
    have hk : k < ns.length := by omega
    have gs := gs3.go hp3 g4
    have hps := g4.tup hp3 hps3
    refine rd_ixT (SqT.of gs.gr.nodes) (v := .str ns[k]) (atI_nat (by rw [List.getElem?_map, List.getElem?_eq_getElem hk]; rfl)) ?_
    have xin := List.getElem_mem hk
    generalize ns[k] = x at *
    have hp4 := g4.pool
    have tb4 := (GoN.of_go tb3 hp3 g4).tabs
    clear gs3 hps3 hp3 tb3 g4 r0 r1 hk
    have nmx := gs.ok.names.ok x xin
    wtm_at "rd"
    intro a1 fa1
    have ka1 := Same.new (o := .tup [.str x, .str x]) fa1
    have ha1 := @upd_same H4 a1 (.tup [.str x, .str x])
    have sa1 := ka1
    generalize upd H4 a1 (.tup [.str x, .str x]) = HA1 at *
    wtm_at "rd"
    intro a2 fa2
    have ka2 := Same.new (o := .tup [.str "a", .str "b", .str "c"]) fa2
    have ha2 := @upd_same HA1 a2 (.tup [.str "a", .str "b", .str "c"])
    have sa2 := sa1.trans ka2
    have ha1 := ka2 _ _ ha1
    generalize upd HA1 a2 (.tup [.str "a", .str "b", .str "c"]) = HA2 at *
    wtm_at "rd"
    intro a3 fa3
    have ka3 := Same.new (o := .lst [.str x, .str x]) fa3
    have ha3 := @upd_same HA2 a3 (.lst [.str x, .str x])
    have sa3 := sa2.trans ka3
    have ha1 := ka3 _ _ ha1
    have ha2 := ka3 _ _ ha2
    generalize upd HA2 a3 (.lst [.str x, .str x]) = HA3 at *
    wtm_at "rd"
    intro a4 fa4
    have ka4 := Same.new (o := .tup [.str x, .non]) fa4
    have ha4 := @upd_same HA3 a4 (.tup [.str x, .non])
    have sa4 := sa3.trans ka4
    have ha1 := ka4 _ _ ha1
    have ha2 := ka4 _ _ ha2
    have ha3 := ka4 _ _ ha3
    generalize upd HA3 a4 (.tup [.str x, .non]) = HA4 at *
    wtm_at "rd"
    refine rd_addS (Nat.le_trans (Nat.add_le_add_right nmx.hi _) (by decide)) ?_
    wtm_at "rd"
    intro a5 fa5
    have ka5 := Same.new (o := .tup [.str x, .str (x ++ Str.ofString "aaaaaaaa")]) fa5
    have ha5 := @upd_same HA4 a5 (.tup [.str x, .str (x ++ Str.ofString "aaaaaaaa")])
    have sa5 := sa4.trans ka5
    have ha1 := ka5 _ _ ha1
    have ha2 := ka5 _ _ ha2
    have ha3 := ka5 _ _ ha3
    have ha4 := ka5 _ _ ha4
    generalize upd HA4 a5 (.tup [.str x, .str (x ++ Str.ofString "aaaaaaaa")]) = HA5 at *
    wtm_at "rd"
    intro lv flv
    have kl := Same.new (o := .lst [.int 0, .str "", .ref a1, .ref a2, .ref a3, .ref a4, .ref a5]) flv
    have hlv := @upd_same HA5 lv (.lst [.int 0, .str "", .ref a1, .ref a2, .ref a3, .ref a4, .ref a5])
    have s6 := sa5.trans kl
    have ha1 := kl _ _ ha1
    have ha2 := kl _ _ ha2
    have ha3 := kl _ _ ha3
    have ha4 := kl _ _ ha4
    have ha5 := kl _ _ ha5
    generalize upd HA5 lv (.lst [.int 0, .str "", .ref a1, .ref a2, .ref a3, .ref a4, .ref a5]) = H6 at *
    have g6 := (Go.refl hp4).same s6
    have hp6 := g6.pool
    have tb6 := (GoN.of_go tb4 hp4 g6).tabs
    have gs6 := gs.same s6
    have hps6 := s6 _ _ hps
    have nlv : lv ≠ p := Ne.symm (hp4.ne (new_of_same sa5 flv))
    obtain ⟨at8, nn8⟩ := name_a8 nmx
    have atx := atmS_name nmx
    have two : ∀ {y : V}, AtmS y → ∀ z ∈ [V.str x, y], AtmS z := fun hy z hz => by
      rcases List.mem_cons.mp hz with rfl | hz
      · exact atx
      · rw [List.mem_singleton.mp hz]
        exact hy
    have evs : ∀ v ∈ [V.int 0, .str "", .ref a1, .ref a2, .ref a3, .ref a4, .ref a5], ∃ d, EvS H6 p ns (es.map (·.2)) v d := fun v hv => by
      simp only [List.mem_cons, List.not_mem_nil, or_false] at hv
      rcases hv with rfl | rfl | rfl | rfl | rfl | rfl | rfl
      · exact ⟨_, .inl ⟨.inl rfl, rfl⟩⟩
      · exact ⟨_, .inl ⟨.inr rfl, rfl⟩⟩
      · exact ⟨_, .inr (.inl ⟨a1, _, rfl, ha1, two atx, (by show 2 ≤ 4; decide), .inr ⟨x, _, rfl, xin, .inr ⟨x, rfl, .inr ⟨xin, .inl rfl⟩⟩⟩, rfl⟩)⟩
      · refine ⟨_, .inr (.inl ⟨a2, _, rfl, ha2, fun z hz => ?_, (by show 3 ≤ 4; decide), .inl (by show 3 ≠ 2; decide), rfl⟩)⟩
        simp only [List.mem_cons, List.not_mem_nil, or_false] at hz
        rcases hz with rfl | rfl | rfl <;> exact .inr (.inr (.inr ⟨_, rfl, by decide +kernel, by decide +kernel, by decide +kernel⟩))
      · exact ⟨_, .inr (.inr ⟨a3, _, rfl, hp6.off (xs := [x, x]) ha3, ha3, two atx, (by show 2 ≤ 4; decide), rfl⟩)⟩
      · exact ⟨_, .inr (.inl ⟨a4, _, rfl, ha4, two (.inl rfl), (by show 2 ≤ 4; decide), .inr ⟨x, _, rfl, xin, .inl rfl⟩, rfl⟩)⟩
      · exact ⟨_, .inr (.inl ⟨a5, _, rfl, ha5, two at8, (by show 2 ≤ 4; decide), .inr ⟨x, _, rfl, xin, .inr ⟨_, rfl, .inl fun z => nn8 (gs.ok.names.ok _ z)⟩⟩, rfl⟩)⟩
    have lvl : [V.int 0, .str "", .ref a1, .ref a2, .ref a3, .ref a4, .ref a5].length = 7 := rfl
    generalize [V.int 0, .str "", .ref a1, .ref a2, .ref a3, .ref a4, .ref a5] = lvs at *
    clear kl ha1 ha2 ha3 ha4 ha5 sa1 sa2 sa3 sa4 sa5 ka1 ka2 ka3 ka4 ka5 two at8 nn8 fa1 fa2 fa3 fa4 fa5 flv gs hps
    wtm_at "rd"
    have sokE : ∀ x ∈ es.map (·.2), PyData.strOk x.1 = true ∧ PyData.strOk x.2 = true := fun y hy => ⟨gs6.sok _ (gs6.ok.mem _ hy).1, gs6.sok _ (gs6.ok.mem _ hy).2⟩
    refine ⟨fun σ' H' => ∃ (lv2 : Addr) (xs : List V), σ' = [some (.ref a), some (.ref p), some (.ref g), some (.ref st), some (.ref ps), some (.str x), some (.ref lv2), none, none, none, none, none, none, none, none, none, none, none, none, none, none, none, none] ∧ Same H6 H' ∧ H' lv2 = some (.lst xs) ∧ lv2 ≠ p ∧ 1 ≤ xs.length ∧ xs.length ≤ 9 ∧ ∀ v ∈ xs, ∃ d, EvS H' p ns (es.map (·.2)) v d, ?_, ?_⟩
    · wtm_at "rd"
      refine rd_ixT (SqT.of gs6.gr.top) (v := .ref e) rfl ?_
      wtm_at "rd"
      intro z fz
      have kz := Same.new (o := .tup []) fz
      have gs7 := gs6.same kz
      refine rd_neNoE (SqT.of gs7.gr.edges) (fun y hy => SqT.of (gs7.gr.pairs y hy)) (SqT.of upd_same) sokE ?_
      have hlv7 := kz _ _ hlv
      generalize upd H6 z (.tup []) = H7 at *
      have evs7 : ∀ v ∈ lvs, ∃ d, EvS H7 p ns (es.map (·.2)) v d := fun v hv => by
        obtain ⟨d, h⟩ := evs v hv
        exact ⟨d, h.keep (keep_same kz) fun b xs _ hb => kz _ _ hb⟩
      wtm_at "rd"
      refine rd_b (fun c => ?_) (fun c => ?_)
      rotate_left
      · wtm_at "rd"
        exact ⟨lv, lvs, rfl, kz, hlv7, nlv, by omega, by omega, evs7⟩
      have e0 : 0 < es.length := by
        cases es with
        | nil => cases c
        | cons _ _ => simp
      have em := List.getElem_mem e0
      have hed := gs7.gr.pairs _ em
      obtain ⟨m1, m2⟩ := gs7.inE _ em
      have at0 : atI (es.map fun x => V.ref x.1) 0 = some (.ref es[0].1) := atI_nat (j := 0) (by rw [List.getElem?_map, List.getElem?_eq_getElem e0]; rfl)
      wtm_at "rd"
      refine rd_ixT (SqT.of gs7.gr.top) (v := .ref e) rfl ?_
      wtm_at "rd"
      refine rd_ixT (SqT.of gs7.gr.edges) at0 ?_
      wtm_at "rd"
      refine rd_ixT (SqT.of gs7.gr.top) (v := .ref e) rfl ?_
      wtm_at "rd"
      refine rd_ixT (SqT.of gs7.gr.edges) at0 ?_
      wtm_at "rd"
      refine rd_ixT (SqT.of hed) (v := .str es[0].2.2) rfl ?_
      wtm_at "rd"
      refine rd_ixT (SqT.of gs7.gr.top) (v := .ref e) rfl ?_
      wtm_at "rd"
      refine rd_ixT (SqT.of gs7.gr.edges) at0 ?_
      wtm_at "rd"
      refine rd_ixT (SqT.of hed) (v := .str es[0].2.1) rfl ?_
      wtm_at "rd"
      intro b1 fb1
      have kb1 := Same.new (o := .tup [.str es[0].2.2, .str es[0].2.1]) fb1
      have hb1 := @upd_same H7 b1 (.tup [.str es[0].2.2, .str es[0].2.1])
      have hlv8 := kb1 _ _ hlv7
      have s78 := kb1
      generalize upd H7 b1 (.tup [.str es[0].2.2, .str es[0].2.1]) = H8 at *
      wtm_at "rd"
      intro b2 fb2
      have kb2 := Same.new (o := .lst [.ref es[0].1, .ref b1]) fb2
      have hb2 := @upd_same H8 b2 (.lst [.ref es[0].1, .ref b1])
      have hlv9 := kb2 _ _ hlv8
      have hb1 := kb2 _ _ hb1
      have s79 := s78.trans kb2
      generalize upd H8 b2 (.lst [.ref es[0].1, .ref b1]) = H9 at *
      refine rd_catL hlv9 hb2 (by rw [lvl]; show 7 + 2 ≤ 100000; decide) ?_
      intro lv2 fl2
      have k2 := Same.new (o := .lst (lvs ++ [.ref es[0].1, .ref b1])) fl2
      have h2 := @upd_same H9 lv2 (.lst (lvs ++ [.ref es[0].1, .ref b1]))
      have s7A := s79.trans k2
      have hb1 := k2 _ _ hb1
      generalize upd H9 lv2 (.lst (lvs ++ [.ref es[0].1, .ref b1])) = HA at *
      have nl2 : lv2 ≠ p := Ne.symm (hp6.ne (new_of_same (kz.trans s79) fl2))
      have nm := gs6.ok.names.ok
      have pr2 : ∀ {y z : Str}, y ∈ ns → z ∈ ns → ∀ w ∈ [V.str y, .str z], AtmS w := fun hy hz w hw => by
        rcases List.mem_cons.mp hw with rfl | hw
        · exact atmS_name (nm _ hy)
        · rw [List.mem_singleton.mp hw]
          exact atmS_name (nm _ hz)
      have emm : es[0].2 ∈ es.map (·.2) := List.mem_map_of_mem em
      have lt0 := gs6.ok.lt _ emm
      have eo1 : eO es[0].2.1 es[0].2.2 = es[0].2 := by
        unfold eO
        rw [if_pos lt0]
      have eo2 : eO es[0].2.2 es[0].2.1 = es[0].2 := by
        unfold eO
        rw [if_neg fun z => sLt_irrefl _ (sLt_trans lt0 z)]
      wtm_at "rd"
      refine ⟨lv2, lvs ++ [.ref es[0].1, .ref b1], rfl, kz.trans s7A, h2, nl2, by rw [List.length_append, lvl]; exact Nat.le_add_left 1 _, by rw [List.length_append, lvl]; exact Nat.le_refl 9, fun v hv => ?_⟩
      rcases List.mem_append.mp hv with hv | hv
      · obtain ⟨d, h⟩ := evs7 v hv
        exact ⟨d, h.keep (keep_same s7A) fun b xs _ hb => s7A _ _ hb⟩
      · simp only [List.mem_cons, List.not_mem_nil, or_false] at hv
        rcases hv with rfl | rfl
        · exact ⟨_, .inr (.inl ⟨_, _, rfl, s7A _ _ hed, pr2 m1 m2, (by show 2 ≤ 4; decide), .inr ⟨_, _, rfl, m1, .inr ⟨_, rfl, .inr ⟨m2, .inr (by rw [eo1]; exact emm)⟩⟩⟩, rfl⟩)⟩
        · exact ⟨_, .inr (.inl ⟨b1, _, rfl, hb1, pr2 m2 m1, (by show 2 ≤ 4; decide), .inr ⟨_, _, rfl, m2, .inr ⟨_, rfl, .inr ⟨m1, .inr (by rw [eo2]; exact emm)⟩⟩⟩, rfl⟩)⟩
    rintro σ' H7 ⟨lv2, xs, rfl, s67, hlv2, nlv2, x1, x9, evs2⟩
    have hp7 := ((Go.refl hp6).same s67).pool
    have gs7 := gs6.same s67
    have hps7 := s67 _ _ hps6
    have tb7 := tb6.ext fun b o h => s67 b o h
    clear gs6 hps6 tb6 hp6 evs hlv lvl nlv g6 s6 sokE s67
    wtm_at "rd"
    refine rd_lenL (SqL.of hlv2) ?_
    wtm_at "rd"
    refine use_draw hp7 (by omega) (by omega) fun r H8 r0 r1 g8 => ?_
    obtain ⟨k, rfl⟩ : ∃ k : Nat, r = (k : Int) := ⟨r.toNat, by omega⟩
    have hk : k < xs.length := by omega
    refine rd_ixL (SqL.of (g8.at hlv2 nlv2)) (v := xs[k]) (atI_nat (List.getElem?_eq_getElem hk)) ?_
    obtain ⟨dE, ev0⟩ := evs2 _ (List.getElem_mem hk)
    have evS := ev0.keep (keep_go hp7 g8) fun b ys nb hb => g8.at hb nb
    generalize xs[k] = ev at *
    have gs8 := gs7.go hp7 g8
    have hps8 := g8.tup hp7 hps7
    have hp8 := g8.pool
    have tb8 := (GoN.of_go tb7 hp7 g8).tabs
    clear gs7 hps7 tb7 ev0 evs2 hlv2 g8 hp7 hk
    wtm_at "rd"
    refine ⟨⟨by decide, by decide, by decide⟩, ?_⟩
    rw [show timesS (Str.ofString "z") 9 = Str.ofString "zzzzzzzzz" from by decide +kernel]
    wtm_at "rd"
    intro b1 fb1
    have kb1 := Same.new (o := .tup [.str x]) fb1
    have hb1 := @upd_same H8 b1 (.tup [.str x])
    generalize upd H8 b1 (.tup [.str x]) = H9 at *
    wtm_at "rd"
    intro pv fpv
    have k2 := Same.new (o := .lst [.int 0, .str "", .str "zzzzzzzzz", .ref b1, .bl false]) fpv
    have hpv := @upd_same H9 pv (.lst [.int 0, .str "", .str "zzzzzzzzz", .ref b1, .bl false])
    have s8A := kb1.trans k2
    have hb1 := k2 _ _ hb1
    have npv : pv ≠ p := Ne.symm (hp8.ne (new_of_same kb1 fpv))
    generalize upd H9 pv (.lst [.int 0, .str "", .str "zzzzzzzzz", .ref b1, .bl false]) = HA at *
    have gA := (Go.refl hp8).same s8A
    have nmA := gs8.ok.names.ok
    have longA : ∀ s : Str, s.length = 0 ∨ 9 ≤ s.length → s ∉ ns := fun s hs hin => by
      have := (nmA _ hin).lo
      have := (nmA _ hin).hi
      omega
    have pvs : ∀ v ∈ [V.int 0, .str "", .str "zzzzzzzzz", .ref b1, .bl false], ∃ d, PvS HA ns pn v d := fun v hv => by
      simp only [List.mem_cons, List.not_mem_nil, or_false] at hv
      rcases hv with rfl | rfl | rfl | rfl | rfl
      · exact ⟨_, .inl ⟨atmS_zero, nofun, nofun, rfl⟩⟩
      · exact ⟨_, .inl ⟨atmS_emp, nofun, fun s hs => .inl (longA s (.inl (by rw [← (V.str.inj hs)]; decide +kernel))), rfl⟩⟩
      · exact ⟨_, .inl ⟨.inr (.inr (.inr ⟨_, rfl, by decide +kernel, by decide +kernel, by decide +kernel⟩)), nofun, fun s hs => .inl (longA s (.inr (by rw [← (V.str.inj hs)]; decide +kernel))), rfl⟩⟩
      · exact ⟨_, .inr ⟨b1, _, rfl, hb1, (fun z hz => by rw [List.mem_singleton.mp hz]; exact atx), (by show 1 ≤ 4; decide), rfl⟩⟩
      · exact ⟨_, .inl ⟨.inr (.inl ⟨false, rfl⟩), nofun, nofun, rfl⟩⟩
    wtm_at "rd"
    refine use_draw gA.pool (by decide) (by decide) fun r HB r0 r1 gB => ?_
    obtain ⟨k, rfl⟩ : ∃ k : Nat, r = (k : Int) := ⟨r.toNat, by omega⟩
    have hk : k < 5 := by omega
    obtain ⟨np0, dP0, hnp, pv0⟩ : ∃ np0 dP0, atI [V.int 0, .str "", .str "zzzzzzzzz", .ref b1, .bl false] (k : Int) = some np0 ∧ PvS HA ns pn np0 dP0 := by
      have hm := List.getElem_mem (l := [V.int 0, .str "", .str "zzzzzzzzz", .ref b1, .bl false]) (n := k) hk
      obtain ⟨d, h⟩ := pvs _ hm
      exact ⟨_, d, atI_nat (List.getElem?_eq_getElem hk), h⟩
    refine rd_ixL (SqL.of (gB.at hpv npv)) hnp ?_
    have pv0 := pv0.keep (keep_go gA.pool gB)
    have gB := gA.trans gB
    have gsB := gs8.go hp8 gB
    have hpsB := gB.tup hp8 hps8
    have evS := evS.keep (keep_go hp8 gB) fun b ys nb hb => gB.at hb nb
    have tbB := (GoN.of_go tb8 hp8 gB).tabs
    have hpB := gB.pool
    clear gs8 hps8 tb8 gA gB hp8 hpv pvs hb1 longA s8A kb1 k2 fb1 fpv hnp hk
    wtm_at "rd"
    refine ⟨fun σ' H' => ∃ (np : V) (dP : PyData), σ' = [some (.ref a), some (.ref p), some (.ref g), some (.ref st), some (.ref ps), some (.str x), some (.ref lv2), some ev, some np, none, none, none, none, none, none, none, none, none, none, none, none, none, none] ∧ Go p HB H' ∧ PvS H' ns pn np dP, ?_, ?_⟩
    · wtm_at "rd"
      intro z fz
      have kz := Same.new (o := .tup []) fz
      refine rd_neNoT (SqT.of (kz _ _ hpsB)) (SqT.of upd_same) (fun y hy => gsB.sok y (pin y hy)) ?_
      have hpsC := kz _ _ hpsB
      have pvC := pv0.keep (keep_same kz)
      have gC := (Go.refl hpB).same kz
      generalize upd HB z (.tup []) = HC at *
      wtm_at "rd"
      refine rd_b (fun c => ?_) (fun c => ?_)
      rotate_left
      · wtm_at "rd"
        exact ⟨np0, dP0, rfl, gC, pvC⟩
      have p0 : 0 < pn.length := by
        cases pn with
        | nil => cases c
        | cons _ _ => simp
      wtm_at "rd"
      refine use_draw gC.pool (by decide) (by decide) fun r HD _ _ gD => ?_
      wtm_at "rd"
      refine rd_split (fun c2 => ?_) (fun c2 => ?_)
      rotate_left
      · wtm_at "rd"
        exact ⟨np0, dP0, rfl, gC.trans gD, pvC.keep (keep_go gC.pool gD)⟩
      have hpsD := gD.tup gC.pool hpsC
      wtm_at "rd"
      refine rd_lenT (SqT.of hpsD) ?_
      rw [List.length_map]
      wtm_at "rd"
      refine use_draw gD.pool (by omega) (by omega) fun r2 HE w0 w1 gE => ?_
      obtain ⟨j, rfl⟩ : ∃ j : Nat, r2 = (j : Int) := ⟨r2.toNat, by omega⟩
      have hj : j < pn.length := by omega
      refine rd_ixT (SqT.of (gE.tup gD.pool hpsD)) (v := .str pn[j]) (atI_nat (by rw [List.getElem?_map, List.getElem?_eq_getElem hj]; rfl)) ?_
      wtm_at "rd"
      have hm := List.getElem_mem hj
      exact ⟨.str pn[j], _, rfl, (gC.trans gD).trans gE, .inl ⟨atmS_name (gsB.ok.names.ok _ (pin _ hm)), nofun, fun s hs => .inr (by rw [← V.str.inj hs]; exact hm), rfl⟩⟩
    rintro σ' HC ⟨np, dP, rfl, gC, pvS⟩
    have gsC := gsB.go hpB gC
    have hpsC := gC.tup hpB hpsB
    have evS := evS.keep (keep_go hpB gC) fun b ys nb hb => gC.at hb nb
    have tbC := (GoN.of_go tbB hpB gC).tabs
    have hpC := gC.pool
    clear gsB hpsB tbB hpB gC pv0
    wtm_at "rd"
    refine ⟨p, g, n, e, st, x, ns, _, es, f, rfl, hpC, gsC, xin, fun t et cv pos part HD gD ht het chg => ?_⟩
    have gsD := gsC.go hpC gD
    have hpsD := gD.tup hpC hpsC
    have evS := evS.keep (keep_go hpC gD) fun b ys nb hb => gD.at hb nb
    have pvS := pvS.keep (keep_go hpC gD)
    have tbD := (GoN.of_go tbC hpC gD).tabs
    have hpD := gD.pool
    have pok : PyData.strOk part = true := by
      rcases chg with ⟨_, rfl, _⟩ | ⟨_, _, _, _, _, _, _, rfl, _⟩ | ⟨_, _, _, _, _, _, _, _, _, _, _, rfl, _⟩ | ⟨_, _, _, _, _, _, _, _, _, _, _, rfl, _⟩ <;> decide +kernel
    obtain ⟨dC, dQ, cvD, posD, ckb⟩ := chg_bad (C := CS) gsD.grs chg
    clear gsC hpsC tbC hpC gD chg
    refine rd_unp (SqT.of ht) rfl ?_
    wtm_at "rd"
    refine use_draw hpD (by decide) (by decide) fun r HE r0 r1 gE => ?_
    have gsE := gsD.go hpD gE
    have hpsE := gE.tup hpD hpsD
    have evS := evS.keep (keep_go hpD gE) fun b ys nb hb => gE.at hb nb
    have pvS := pvS.keep (keep_go hpD gE)
    have cvD := cvD.keep (keep_go hpD gE)
    have posD := posD.keep (keep_go hpD gE)
    have ckb := ckb.keep (keep_go hpD gE)
    have het := gE.tup hpD het
    have tbE := (GoN.of_go tbD hpD gE).tabs
    have hpE := gE.pool
    clear gsD hpsD tbD hpD gE ht
    obtain ⟨m, em, m1, m4⟩ : ∃ m : Nat, (1 + r) = (m : Int) ∧ 1 ≤ m ∧ m ≤ 4 := ⟨(1 + r).toNat, by omega, by omega, by omega⟩
    have em2 : (1 + r).toNat = m := by omega
    wtm_at "rd"
    intro D fD
    rw [em2]
    clear em em2 r0 r1
    refine lcR (fun i H' => Same HE H' ∧ H' D = some (.lst (List.replicate i (V.ref st)))) ⟨Same.new fD, upd_same⟩ ?_ ?_
    · rintro i H' hi ⟨s, hD⟩
      wtm_at "rd"
      refine rd_acc hD (by rw [List.length_replicate]; omega) ?_
      refine ⟨same_put s fD, ?_⟩
      rw [upd_same, List.replicate_succ']
    rintro HF ⟨sF, hD⟩
    have nDp : D ≠ p := Ne.symm (hpE.ne fD)
    have gF := (Go.refl hpE).same sF
    have gsF := gsE.same sF
    have hpsF := sF _ _ hpsE
    have evS := evS.keep (keep_same sF) fun b ys nb hb => sF _ _ hb
    have pvS := pvS.keep (keep_same sF)
    have cvD := cvD.keep (keep_same sF)
    have posD := posD.keep (keep_same sF)
    have ckb := ckb.keep (keep_same sF)
    have het := sF _ _ het
    have tbF := tbE.ext fun b o h => sF b o h
    have hpF := gF.pool
    clear gsE hpsE tbE hpE sF gF fD
    wtm_at "rd"
    intro t4 ft4
    have k4 := Same.new (o := .tup [.ref D, cv, ev, np]) ft4
    have ht4 := @upd_same HF t4 (.tup [.ref D, cv, ev, np])
    have gsG := gsF.same k4
    have hpsG := k4 _ _ hpsF
    have evS := evS.keep (keep_same k4) fun b ys nb hb => k4 _ _ hb
    have pvS := pvS.keep (keep_same k4)
    have cvD := cvD.keep (keep_same k4)
    have posD := posD.keep (keep_same k4)
    have ckb := ckb.keep (keep_same k4)
    have het := k4 _ _ het
    have hD := k4 _ _ hD
    have tbG := tbF.ext fun b o h => k4 b o h
    have hpG := ((Go.refl hpF).same k4).pool
    generalize upd HF t4 (.tup [.ref D, cv, ev, np]) = HG at *
    clear gsF hpsF tbF hpF k4 ft4
    wtm_at "rd"
    have nmo : ∀ y ∈ ord, IsName y ∧ 0 ≤ f y ∧ f y < 3 := fun y hy => ⟨gsG.ok.names.ok _ (gsG.pm.mem_iff.mp hy), gsG.tri _ (gsG.pm.mem_iff.mp hy)⟩
    have lor : ord.length ≤ 100 := by
      have := gsG.pm.length_eq
      omega
    refine repr_four (K := K) ht4 hD gsG.st nmo lor m4 cvD evS.dat pvS.dat ?_
    generalize hSS : (dFour m ord f dC dE dP).shown = SS
    clear ht4
    wtm_at "rd"
    refine use_draw hpG (by decide) (by decide) fun r HH r0 r1 gH => ?_
    have gsH := gsG.go hpG gH
    have hpsH := gH.tup hpG hpsG
    have evS := evS.keep (keep_go hpG gH) fun b ys nb hb => gH.at hb nb
    have pvS := pvS.keep (keep_go hpG gH)
    have cvD := cvD.keep (keep_go hpG gH)
    have posD := posD.keep (keep_go hpG gH)
    have ckb := ckb.keep (keep_go hpG gH)
    have het := gH.tup hpG het
    have hD := gH.at hD nDp
    have tbH := (GoN.of_go tbG hpG gH).tabs
    clear gsG hpsG tbG hpG gH nDp
    wtm_at "rd"
    intro lc flc
    have kc := Same.new (o := .lst [.int 0, .int (13 + r)]) flc
    have hlc := @upd_same HH lc (.lst [.int 0, .int (13 + r)])
    have gsI := gsH.same kc
    have hpsI := kc _ _ hpsH
    have evS := evS.keep (keep_same kc) fun b ys nb hb => kc _ _ hb
    have pvS := pvS.keep (keep_same kc)
    have cvD := cvD.keep (keep_same kc)
    have posD := posD.keep (keep_same kc)
    have ckb := ckb.keep (keep_same kc)
    have het := kc _ _ het
    have hD := kc _ _ hD
    have tbI := tbH.ext fun b o h => kc b o h
    generalize upd HH lc (.lst [.int 0, .int (13 + r)]) = HI at *
    clear gsH hpsH tbH kc flc
    wtm_at "rd"
    refine rd_forL (SqL.of hlc) ?_
    refine turnsL (K := K) (xs := [V.int 0, .int (13 + r)]) (fun i σ H' => ∃ u14 : Option V, σ = [some (.ref a), some (.ref p), some (.ref g), some (.ref st), some (.ref ps), some (.str x), some (.ref lv2), some ev, some np, some cv, some (.ref et), some (.ref D), none, some (.str SS), u14, none, none, none, none, none, none, none, none] ∧ ExtN HI H' ∧ Tabs TT H') ⟨_, rfl, ExtN.of fun _ _ h => h, tbI⟩ ?_ ?_ ?_
    · rintro i σ H' hi ⟨_, rfl, x, _⟩
      exact SqL.of (ExtN.li x hlc)
    · rintro i y σ H1 hy ⟨u14, rfl, x1', tb1⟩
      obtain ⟨cn, ecn, ccn⟩ : ∃ cn : Nat, y = .int cn ∧ (cn = 0 ∨ (13 ≤ cn ∧ cn ≤ 15)) := by
        match i, hy with
        | 0, hy => exact ⟨0, (Option.some.inj hy).symm, .inl rfl⟩
        | 1, hy => exact ⟨(13 + r).toNat, by rw [← Option.some.inj hy]; congr 1; omega, .inr (by omega)⟩
        | i + 2, hy => cases hy
      subst ecn
      wtm_at "rd"
      intro l1' fl1
      have k1 := Same.new (o := .lst [cv]) fl1
      have hl1 := @upd_same H1 l1' (.lst [cv])
      generalize upd H1 l1' (.lst [cv]) = H2 at *
      wtm_at "rd"
      refine rd_rep65 hl1 (by omega) (by rw [List.length_singleton]; omega) fun l2' fl2 => ?_
      have k2 := Same.new (o := .lst (List.replicate cn [cv]).flatten) fl2
      have hl2 := @upd_same H2 l2' (.lst (List.replicate cn [cv]).flatten)
      have s12 := k1.trans k2
      generalize upd H2 l2' (.lst (List.replicate cn [cv]).flatten) = H3 at *
      have x3 := x1'.trans (ExtN.of fun b o h => s12 b o h)
      have tb3 := tb1.ext fun b o h => s12 b o h
      have len : (List.replicate cn [cv]).flatten.length = cn := by simp
      wtm_at "rd"
      refine ⟨g, n, e, l2', ps, np, ev, ns, pn, es, rfl, SqT.of (ExtN.tu x3 hpsI), tb3, by omega, .inl ⟨_, hl2, by rw [len]; omega, fun d H' xx tbx hd => ⟨d, rfl, .inl ⟨rfl, _, hd, fun t H6 s6 ht => ?_⟩⟩⟩⟩
      rw [len] at ht
      wtm_at "rd"
      intro t2 ft2
      have kt := Same.new (o := .tup [.str "total", .int cn, .bl false]) ft2
      have dps : ∀ Hx : Hp, DpAll K Hx [.str "total", .int cn, .bl false] [.str "total", .int cn, .bool false] := fun _ => .cons (.str _) (.cons (.int _) (.cons (.bl _) .nil))
      refine rd_neRes (kt _ _ ht) upd_same (dps _) (dps _) (by simp [PyData.canLayAll0, PyData.canLay0]; decide +kernel) (by simp [PyData.depthAll, PyData.depth]) ?_
      wtm_at "rd"
      exact ⟨_, rfl, (x3.trans xx).trans (ExtN.of fun b o h => kt b o (s6 b o h)), tbx.ext fun b o h => kt b o (s6 b o h)⟩
    rintro σ H1 ⟨u14, rfl, x1', tb1⟩
    wtm_at "rd"
    have gsJ := gsI.ext x1'
    have hpsJ := ExtN.tu x1' hpsI
    have evS := evS.keep (keep_ext x1') fun b xs _ hb => ExtN.li x1' hb
    have pvS := pvS.keep (keep_ext x1')
    have cvD := cvD.keep (keep_ext x1')
    have posD := posD.keep (keep_ext x1')
    have ckb := ckb.keep (keep_ext x1')
    have het := ExtN.tu x1' het
    have hD := ExtN.li x1' hD
    clear gsI hpsI hlc x1' tbI
    intro l1' fl1
    have k1 := Same.new (o := .lst [cv, .ref st]) fl1
    have hl1 := @upd_same H1 l1' (.lst [cv, .ref st])
    have s2 := k1
    generalize upd H1 l1' (.lst [cv, .ref st]) = H2 at *
    refine rd_catL (k1 _ _ hD) hl1 (by rw [List.length_replicate]; show m + 2 ≤ 100000; omega) ?_
    intro l2' fl2
    have k2 := Same.new (o := .lst (List.replicate m (V.ref st) ++ [cv, .ref st])) fl2
    have hl2 := @upd_same H2 l2' (.lst (List.replicate m (V.ref st) ++ [cv, .ref st]))
    have s2 := s2.trans k2
    generalize upd H2 l2' (.lst (List.replicate m (V.ref st) ++ [cv, .ref st])) = H3 at *
    have gs := gsJ.same s2
    have tb := tb1.ext fun b o h => s2 b o h
    have sts : ∀ {Hx : Hp}, GSt Hx g n e st ns ord es f → StsAt Hx g n e ns es (List.replicate m (st, ord, f)) := fun h s hs => by
      rw [List.eq_of_mem_replicate hs]
      exact h
    have mapst : (List.replicate m (st, ord, f)).map (fun s => V.ref s.1) = List.replicate m (V.ref st) := by rw [List.map_replicate]
    wtm_at "rd"
    refine ⟨g, n, e, l2', ps, np, ev, ns, pn, es, rfl, SqT.of (s2 _ _ hpsJ), tb, by omega, .inr (.inl ⟨List.replicate m (st, ord, f), cv, [.ref st], by rw [mapst]; exact hl2, by rw [List.length_replicate]; show m + 1 ≤ 11; omega, sts gs, fun H' s => ckb H' _ ((keep_same s2).trans (keep_same s)) (gs.grs.same s) fun dd H5 pos2 s5 hdd pd => ⟨dd, rfl, .inr (.inl ⟨rfl, _, _, hdd, fun t H6 s6 ht => ?_⟩)⟩⟩)⟩
    have s36 := (s.trans s5).trans s6
    have s16 := s2.trans s36
    have posD6 := posD.keep (keep_same s16)
    have pd6 := pd.keep (keep_same s6)
    have gs6 := gs.same s36
    have hps6 := s16 _ _ hpsJ
    have evS6 := evS.keep (keep_same s16) fun b xs _ hb => s16 _ _ hb
    have pvS6 := pvS.keep (keep_same s16)
    have cvD6 := cvD.keep (keep_same s16)
    have ckb6 := ckb.keep (keep_same s16)
    have het6 := s16 _ _ het
    have hD6 := s16 _ _ hD
    have tb6 := tb1.ext fun b o h => s16 b o h
    clear gsJ hpsJ evS pvS cvD ckb het hD tb1 posD k1 hl1 k2 hl2 s2 gs tb s5 hdd pd s6 s36 s16 s fl1 fl2
    wtm_at "rd"
    refine rd_neRes ht het6 (dps_st pd6) (dps_st posD6) (lay_st pok posD6).1 (lay_st pok posD6).2 ?_
    clear ht pd6
    wtm_at "rd"
    refine rd_ixT (SqT.of gs6.gr.top) (v := .ref n) rfl ?_
    refine rd_forT (SqT.of gs6.gr.nodes) ?_
    intro DA fDA
    refine lcT (K := K) (xs := ns.map V.str) (fun j H' => Same H6 H' ∧ H' DA = some (.lst (((ns.take j).filter (iso65 es)).map V.str))) ⟨Same.new fDA, upd_same⟩ ?_ ?_ ?_
    · rintro j H' hj ⟨s, _⟩
      exact SqT.of (s _ _ gs6.gr.nodes)
    · rintro j y H' hy ⟨s, hA⟩
      obtain ⟨hj, rfl⟩ := map_at hy
      have yin := List.getElem_mem hj
      have lt : ((ns.take j).filter (iso65 es)).length ≤ 100 := Nat.le_trans (List.length_filter_le _ _) (by rw [List.length_take]; omega)
      rw [take_snoc hj, List.filter_append, List.map_append]
      generalize ns[j] = y at *
      have gs7 := gs6.same s
      wtm_at "rd"
      refine rd_ixT (SqT.of gs7.gr.top) (v := .ref e) rfl ?_
      refine rd_forT (SqT.of gs7.gr.edges) ?_
      intro DB fDB
      refine lcT (K := K) (xs := es.map fun x => V.ref x.1) (fun i H2 => Same H' H2 ∧ H2 DB = some (.lst (((es.take i).filter fun x => decide (y ∈ [x.2.1, x.2.2])).map fun x => V.ref x.1))) ⟨Same.new fDB, upd_same⟩ ?_ ?_ ?_
      · rintro i H2 hi ⟨s2, _⟩
        exact SqT.of (s2 _ _ gs7.gr.edges)
      · rintro i w H2 hw ⟨s2, hB⟩
        obtain ⟨hi, rfl⟩ := map_at hw
        have hm := List.getElem_mem hi
        have l3 := gs6.l3
        have lt2 : ((es.take i).filter fun x => decide (y ∈ [x.2.1, x.2.2])).length ≤ 10000 := Nat.le_trans (List.length_filter_le _ _) (by rw [List.length_take]; omega)
        rw [take_snoc hi, List.filter_append, List.map_append]
        generalize es[i] = w at *
        have hw := s2 _ _ (gs7.gr.pairs _ hm)
        wtm_at "rd"
        refine rd_inST (xs := [w.2.1, w.2.2]) (SqT.of hw) ?_
        wtm_at "rd"
        refine rd_split (fun c => ?_) (fun c => ?_)
        · rw [List.filter_cons, if_pos (decide_eq_true c)]
          wtm_at "rd"
          refine rd_acc hB (by rw [List.length_map]; exact Nat.lt_of_le_of_lt lt2 (by decide)) ?_
          exact ⟨same_put s2 fDB, upd_same⟩
        · rw [List.filter_cons, if_neg (by rw [decide_eq_false c]; exact Bool.false_ne_true)]
          exact ⟨s2, by rw [hB]; simp⟩
      rintro H2 ⟨s2, hB⟩
      rw [List.length_map, List.take_length] at hB
      wtm_at "rd"
      intro z fz
      have kz := Same.new (o := .lst []) fz
      have sz := (s.trans s2).trans kz
      refine rd_eqNil65 (SqL.of (kz _ _ hB)) (fun x hx => SqT.of (sz _ _ (gs6.gr.pairs x (List.mem_filter.mp hx).1))) (SqL.of upd_same) (fun x hx => ?_) ?_
      · obtain ⟨x', hx', rfl⟩ := List.mem_map.mp hx
        have m2 := gs6.inE _ (List.mem_filter.mp hx').1
        exact ⟨gs6.sok _ m2.1, gs6.sok _ m2.2⟩
      have hA2 := kz _ _ (s2 _ _ hA)
      generalize upd H2 z (.lst []) = H3 at *
      rw [show (es.filter fun x => decide (y ∈ [x.2.1, x.2.2])).isEmpty = iso65 es y from rfl]
      wtm_at "rd"
      refine rd_b (fun c => ?_) (fun c => ?_)
      · rw [List.filter_cons, if_pos c]
        wtm_at "rd"
        refine rd_acc hA2 (by rw [List.length_map]; exact Nat.lt_of_le_of_lt lt (by decide)) ?_
        exact ⟨same_put sz fDA, upd_same⟩
      · rw [List.filter_cons, if_neg (by rw [c]; exact Bool.false_ne_true)]
        exact ⟨sz, by rw [hA2]; simp⟩
    rintro H7 ⟨s7, hA⟩
    rw [List.length_map, List.take_length] at hA
    wtm_at "rd"
    have n23 : ∀ {z : Addr} {Hz : Hp}, True := fun {_ _} => trivial
    refine ⟨fun σ' H' => ∃ u18 u19 u20 : Option V, σ' = [some (.ref a), some (.ref p), some (.ref g), some (.ref st), some (.ref ps), some (.str x), some (.ref lv2), some ev, some np, some cv, some (.ref et), some (.ref D), none, some (.str SS), u14, some (.ref DA), none, none, u18, u19, u20, none, none] ∧ ExtN H7 H' ∧ Tabs TT H', ?_, ?_⟩
    · have tb7 := tb6.ext fun b o h => s7 b o h
      wtm_at "rd"
      intro z fz
      have kz := Same.new (o := .lst []) fz
      refine rd_neNil (SqL.of (kz _ _ hA)) (SqL.of upd_same) (fun y hy => gs6.sok y (List.mem_filter.mp hy).1) ?_
      have s8 := s7.trans kz
      have hA8 := kz _ _ hA
      have tb8 := tb7.ext fun b o h => kz b o h
      have x78 := ExtN.of fun b o h => kz b o h
      generalize upd H7 z (.lst []) = H8 at *
      have gs8 := gs6.same s8
      have hps8 := s8 _ _ hps6
      have evS8 := evS6.keep (keep_same s8) fun b xs _ hb => s8 _ _ hb
      have pvS8 := pvS6.keep (keep_same s8)
      have posD8 := posD6.keep (keep_same s8)
      have ckb8 := ckb6.keep (keep_same s8)
      have het8 := s8 _ _ het6
      have hD8 := s8 _ _ hD6
      clear kz fz hA s8 tb7 ckb6 posD6
      wtm_at "rd"
      refine rd_b (fun c => ?_) (fun c => ?_)
      rotate_left
      · wtm_at "rd"
        exact ⟨_, _, _, rfl, x78, tb8⟩
      obtain ⟨x0, al, eal⟩ : ∃ x0 al, ns.filter (iso65 es) = x0 :: al := by
        cases e0 : ns.filter (iso65 es) with
        | nil => rw [e0] at c; cases c
        | cons y r => exact ⟨y, r, rfl⟩
      obtain ⟨x0in, x0iso⟩ := List.mem_filter.mp (show x0 ∈ ns.filter (iso65 es) by rw [eal]; exact List.mem_cons_self)
      have x0no := iso65_of x0iso
      rw [eal] at hA8
      clear eal c x0iso
      have lo2 : (kvF ord f).length < 100000 := by rw [List.length_map]; omega
      wtm_at "rd"
      refine ⟨_, .inl gs8.st, fun c0 fc0 => ?_⟩
      have k0 := Same.new (o := .dK (kvF ord f)) fc0
      have hc0 := @upd_same H8 c0 (.dK (kvF ord f))
      generalize upd H8 c0 (.dK (kvF ord f)) = H9 at *
      wtm_at "rd"
      refine rd_ixL (SqL.of (k0 _ _ hA8)) (v := .str x0) (atI_nat (j := 0) rfl) ?_
      refine rd_dat (.inl hc0) (kvF_val (gs8.inO _ x0in)) rfl ?_
      wtm_at "rd"
      refine rd_ixL (SqL.of (k0 _ _ hA8)) (v := .str x0) (atI_nat (j := 0) rfl) ?_
      refine rd_dset hc0 (k := .inr x0) rfl lo2 ?_
      rw [kvF_put (gs8.inO _ x0in)]
      have tri0 := gs8.tri x0 x0in
      have fx : updf f x0 ((f x0 + 1) % 3) x0 ≠ f x0 := by
        unfold updf
        rw [if_pos rfl]
        omega
      have eokN : EsOk ns (es.map (·.2)) (updf f x0 ((f x0 + 1) % 3)) := by
        have eok := gs8.eok
        refine ⟨eok.ne, eok.mem, fun y hy => ?_, fun w hw => ?_⟩
        · unfold updf
          split
          · omega
          · exact eok.tri y hy
        · obtain ⟨w', hw', rfl⟩ := List.mem_map.mp hw
          obtain ⟨n1, n2⟩ := x0no _ hw'
          unfold updf
          rw [if_neg n1, if_neg n2]
          exact eok.pro _ hw
      have x9 : ExtN H8 (upd H9 c0 (.dK (kvF ord (updf f x0 ((f x0 + 1) % 3))))) := (NewL.of fc0).put (ExtN.of fun b o h => k0 b o h)
      have hcN := @upd_same H9 c0 (.dK (kvF ord (updf f x0 ((f x0 + 1) % 3))))
      have tb9 := tabs_dict (kvs2 := kvF ord (updf f x0 ((f x0 + 1) % 3))) (tb8.ext fun b o h => k0 b o h) hc0
      generalize upd H9 c0 (.dK (kvF ord (updf f x0 ((f x0 + 1) % 3)))) = HA at *
      generalize updf f x0 ((f x0 + 1) % 3) = fN at *
      have gsA := gs8.ext x9
      have gsN := gsA.cur hcN eokN
      have hpsA := ExtN.tu x9 hps8
      have evSA := evS8.keep (keep_ext x9) fun b xs _ hb => ExtN.li x9 hb
      have pvSA := pvS8.keep (keep_ext x9)
      have posDA := posD8.keep (keep_ext x9)
      have ckbA := ckb8.keep (keep_ext x9)
      have hetA := ExtN.tu x9 het8
      have hDA := ExtN.li x9 hD8
      have hAA := ExtN.li x9 hA8
      have x7A := x78.trans x9
      clear gs8 hps8 evS8 pvS8 posD8 ckb8 het8 hD8 hA8 k0 hc0 fc0 x9 x78 tb8
      wtm_at "rd"
      refine rd_ixT (SqT.of gsA.gr.top) (v := .ref n) rfl ?_
      refine rd_forT (SqT.of gsA.gr.nodes) ?_
      intro DF fDF
      refine lcT (K := K) (xs := ns.map V.str) (fun j H' => Same HA H' ∧ H' DF = some (.lst (((ns.take j).filter fun y => decide (y ∈ pn ∨ y = x0)).map V.str))) ⟨Same.new fDF, upd_same⟩ ?_ ?_ ?_
      · rintro j H' hj ⟨s, _⟩
        exact SqT.of (s _ _ gsA.gr.nodes)
      · rintro j y H' hy ⟨s, hF⟩
        obtain ⟨hj, rfl⟩ := map_at hy
        have lt : ((ns.take j).filter fun y => decide (y ∈ pn ∨ y = x0)).length ≤ 100 := Nat.le_trans (List.length_filter_le _ _) (by rw [List.length_take]; omega)
        rw [take_snoc hj, List.filter_append, List.map_append]
        generalize ns[j] = y at *
        have yes : (y ∈ pn ∨ y = x0) → ∀ {R : List V → Prop}, R (List.map V.str ((ns.take j).filter fun y => decide (y ∈ pn ∨ y = x0)) ++ [V.str y]) → R (List.map V.str ((ns.take j).filter fun y => decide (y ∈ pn ∨ y = x0)) ++ List.map V.str ([y].filter fun y => decide (y ∈ pn ∨ y = x0))) := fun h R r => by
          rw [List.filter_cons, if_pos (decide_eq_true h)]
          exact r
        wtm_at "rd"
        refine rd_inST (SqT.of (s _ _ hpsA)) ?_
        wtm_at "rd"
        refine rd_split (fun c1 => ?_) (fun c1 => ?_)
        · wtm_at "rd"
          refine rd_acc hF (by rw [List.length_map]; exact Nat.lt_of_le_of_lt lt (by decide)) ?_
          exact ⟨same_put s fDF, yes (.inl c1) (R := fun l => upd H' DF (.lst _) DF = some (.lst l)) upd_same⟩
        · wtm_at "rd"
          refine rd_ixL (SqL.of (s _ _ hAA)) (v := .str x0) (atI_nat (j := 0) rfl) ?_
          wtm_at "rd"
          refine rd_split (fun c2 => ?_) (fun c2 => ?_)
          · wtm_at "rd"
            refine rd_acc hF (by rw [List.length_map]; exact Nat.lt_of_le_of_lt lt (by decide)) ?_
            exact ⟨same_put s fDF, yes (.inr c2) (R := fun l => upd H' DF (.lst _) DF = some (.lst l)) upd_same⟩
          · rw [List.filter_cons, if_neg (by rw [decide_eq_false (fun z => z.elim c1 c2)]; exact Bool.false_ne_true)]
            wtm_at "rd"
            exact ⟨s, by rw [hF]; simp⟩
      rintro HB ⟨sB, hF⟩
      rw [List.length_map, List.take_length] at hF
      wtm_at "rd"
      refine rd_sortS (SqL.of hF) (Nat.le_trans (List.length_filter_le _ _) (by omega)) fun fx2 pmx asx => ?_
      intro lf flf
      have kf := Same.new (o := .lst (fx2.map V.str)) flf
      have hlf := @upd_same HB lf (.lst (fx2.map V.str))
      have sB := sB.trans kf
      generalize upd HB lf (.lst (fx2.map V.str)) = HC at *
      refine rd_tupleL (SqL.of hlf) ?_
      intro tf ftf
      have kt := Same.new (o := .tup (fx2.map V.str)) ftf
      have htf := @upd_same HC tf (.tup (fx2.map V.str))
      have sB := sB.trans kt
      generalize upd HC tf (.tup (fx2.map V.str)) = HD at *
      have fxin : ∀ y ∈ fx2, y ∈ ns := fun y hy => (List.mem_filter.mp (pmx.mem_iff.mp hy)).1
      have x0fx : x0 ∈ fx2 := pmx.mem_iff.mpr (List.mem_filter.mpr ⟨x0in, decide_eq_true (.inr rfl)⟩)
      clear hF hlf kf kt flf ftf fDF pmx asx
      wtm_at "rd"
      intro lq flq
      have kq := Same.new (o := .lst [.ref st, cv]) flq
      have hlq := @upd_same HD lq (.lst [.ref st, cv])
      have htf := kq _ _ htf
      have sB := sB.trans kq
      generalize upd HD lq (.lst [.ref st, cv]) = HE at *
      have gsE := gsA.same sB
      have gsN := gsN.same sB
      have hpsE := sB _ _ hpsA
      have evSE := evSA.keep (keep_same sB) fun b xs _ hb => sB _ _ hb
      have pvSE := pvSA.keep (keep_same sB)
      have posDE := posDA.keep (keep_same sB)
      have ckbE := ckbA.keep (keep_same sB)
      have hetE := sB _ _ hetA
      have hDE := sB _ _ hDA
      have x7E := x7A.trans (ExtN.of fun b o h => sB b o h)
      have tbE := tb9.ext fun b o h => sB b o h
      clear gsA hpsA evSA pvSA posDA ckbA hetA hDA x7A tb9 hAA hcN kq flq sB
      wtm_at "rd"
      refine rd_forL (SqL.of hlq) ?_
      intro DC fDC
      refine lcL (K := K) (xs := [V.ref st, cv]) (fun i H' => ExtN HE H' ∧ Tabs TT H' ∧ Cls65 m part dQ DC i H') ⟨ExtN.of fun b o h => Same.new fDC b o h, tbE.ext fun b o h => Same.new fDC b o h, .inl ⟨rfl, upd_same⟩⟩ ?_ ?_ ?_
      · rintro i H' hi ⟨xe, _⟩
        exact SqL.of (ExtN.li xe hlq)
      · rintro i y H' hy ⟨xe, tbi, cl⟩
        wtm_at "rd"
        intro l3 fl3
        have k3 := Same.new (o := .lst [.ref c0, y]) fl3
        have hl3 := @upd_same H' l3 (.lst [.ref c0, y])
        have s3 := k3
        generalize upd H' l3 (.lst [.ref c0, y]) = HF at *
        refine rd_catL (k3 _ _ (ExtN.li xe hDE)) hl3 (by rw [List.length_replicate]; show m + 2 ≤ 100000; omega) ?_
        intro l4 fl4
        have k4 := Same.new (o := .lst (List.replicate m (V.ref st) ++ [.ref c0, y])) fl4
        have hl4 := @upd_same HF l4 (.lst (List.replicate m (V.ref st) ++ [.ref c0, y]))
        have s3 := s3.trans k4
        generalize upd HF l4 (.lst (List.replicate m (V.ref st) ++ [.ref c0, y])) = HG at *
        have xG := xe.trans (ExtN.of fun b o h => s3 b o h)
        have gsG := gsE.ext xG
        have gsNG := gsN.ext xG
        have tbG := tbi.ext fun b o h => s3 b o h
        have hDC : ∃ acc, H' DC = some (.lst acc) ∧ acc.length ≤ 2 := cl.acc
        obtain ⟨acc, hacc, lacc⟩ := hDC
        match i, hy with
        | 0, hy =>
          have ey : y = .ref st := (Option.some.inj hy).symm
          subst ey
          obtain hC0 := cl.zero
          have stsA : StsAt HG g n e ns es (List.replicate m (st, ord, f) ++ [(c0, ord, fN), (st, ord, f)]) := fun s hs => by
            rcases List.mem_append.mp hs with hs | hs
            · exact sts gsG s hs
            · simp only [List.mem_cons, List.not_mem_nil, or_false] at hs
              rcases hs with rfl | rfl
              · exact gsNG
              · exact gsG
          have lss : (List.replicate m (st, ord, f) ++ [(c0, ord, fN), (st, ord, f)]).length = m + 2 := by rw [List.length_append, List.length_replicate]; rfl
          have sg : ∀ j, j < m → sgOf ns (es.map (·.2)) fx2 (List.replicate m (st, ord, f) ++ [(c0, ord, fN), (st, ord, f)]) j = sigF ns (es.map (·.2)) f fx2 := fun j hj => by
            unfold sgOf
            rw [List.getElem?_append_left (by rw [List.length_replicate]; exact hj), List.getElem?_replicate, if_pos hj]
          have sgm : sgOf ns (es.map (·.2)) fx2 (List.replicate m (st, ord, f) ++ [(c0, ord, fN), (st, ord, f)]) m = sigF ns (es.map (·.2)) fN fx2 := by
            unfold sgOf
            rw [List.getElem?_append_right (by rw [List.length_replicate]; exact Nat.le_refl _), List.length_replicate, Nat.sub_self]
            rfl
          wtm_at "rd"
          refine ⟨g, n, e, l4, tf, np, ev, ns, fx2, es, rfl, SqT.of (ExtN.tu xG htf), tbG, by omega, .inr (.inr (.inl ⟨_, m, by rw [lss]; omega, by rw [List.map_append, mapst]; exact hl4, by rw [lss]; omega, stsA, fun j hj => by rw [sg j hj, sg 0 (by omega)], ?_, fun d H5 x5 tb5 hd => ⟨d, rfl, .inr (.inr (.inl ⟨rfl, _, hd, fun t H6' s6' ht => ?_⟩))⟩⟩))⟩
          · rw [sgm, sg 0 (by omega)]
            intro z
            obtain ⟨h, hh⟩ := (sig_lft gsG.ok (by omega) gsNG.eok gsG.eok fxin).mp z
            exact fx (lft_pinned gsNG.eok gsG.eok hh x0in x0fx)
          have xt := x5.trans (ExtN.of fun b o h => s6' b o h)
          have hC5 := ExtN.li xt (s3 _ _ hC0)
          wtm_at "rd"
          refine rd_acc hC5 (by show 0 < 100000; decide) ?_
          exact ⟨(NewL.of fDC).put (xG.trans xt), tabs_put (tb5.ext fun b o h => s6' b o h) hC5, .inr (.inl ⟨rfl, t, upd_same, at_upd (ne_of ht hC5 nofun) ht⟩)⟩
        | 1, hy =>
          have ey : y = cv := (Option.some.inj hy).symm
          subst ey
          obtain ⟨t0, hC1, ht0⟩ := cl.one
          have stsA : StsAt HG g n e ns es (List.replicate m (st, ord, f) ++ [(c0, ord, fN)]) := fun s hs => by
            rcases List.mem_append.mp hs with hs | hs
            · exact sts gsG s hs
            · rw [List.mem_singleton.mp hs]
              exact gsNG
          wtm_at "rd"
          refine ⟨g, n, e, l4, tf, np, ev, ns, fx2, es, rfl, SqT.of (ExtN.tu xG htf), tbG, by omega, .inr (.inl ⟨List.replicate m (st, ord, f) ++ [(c0, ord, fN)], y, [], by rw [List.map_append, mapst, List.append_assoc]; exact hl4, by rw [List.length_append, List.length_replicate]; show m + 1 + 0 ≤ 11; omega, stsA, fun H5 s5 => ckbE H5 _ ((keep_ext xG).trans (keep_same s5)) (gsG.grs.same s5) fun dd H5' pos2 s5' hdd pd => ⟨dd, rfl, .inr (.inl ⟨rfl, _, _, hdd, fun t H6' s6' ht => ?_⟩)⟩⟩)⟩
          have st := (s5.trans s5').trans s6'
          have xt : ExtN HG H6' := ExtN.of fun b o h => st b o h
          have hC5 := ExtN.li xt (s3 _ _ hC1)
          wtm_at "rd"
          refine rd_acc hC5 (by show 1 < 100000; decide) ?_
          have ht0' := st _ _ (s3 _ _ ht0)
          exact ⟨(NewL.of fDC).put (xG.trans xt), tabs_put (tbG.ext fun b o h => st b o h) hC5, .inr (.inr ⟨rfl, t0, t, pos2, upd_same, at_upd (ne_of ht0' hC5 nofun) ht0', at_upd (ne_of ht hC5 nofun) ht, (pd.keep (keep_same s6')).keep (keep_putL hC5)⟩)⟩
        | i + 2, hy => cases hy
      rintro HH ⟨xH, tbH, clH⟩
      obtain ⟨t0, t1, pos2, hC2, ht0, ht1, pd2⟩ := clH.two
      have hetH := ExtN.tu xH hetE
      have hDH := ExtN.li xH hDE
      have posDH := posDE.keep (keep_ext xH)
      have x7H := x7E.trans xH
      wtm_at "rd"
      refine rd_lenL (SqL.of hDH) ?_
      rw [List.length_replicate]
      wtm_at "rd"
      intro tw ftw
      have kw := Same.new (o := .tup [.str "class", .int m, .bl true, .bl false]) ftw
      have htw := @upd_same HH tw (.tup [.str "class", .int m, .bl true, .bl false])
      have sw := kw
      generalize upd HH tw (.tup [.str "class", .int m, .bl true, .bl false]) = HI2 at *
      wtm_at "rd"
      intro lw flw
      have kl := Same.new (o := .lst [.ref tw, .ref et]) flw
      have hlw := @upd_same HI2 lw (.lst [.ref tw, .ref et])
      have htw := kl _ _ htw
      have sw := sw.trans kl
      generalize upd HI2 lw (.lst [.ref tw, .ref et]) = HJ2 at *
      have dpC : ∀ Hx : Hp, DpAll K Hx [.str "class", .int m, .bl true, .bl false] [.str "class", .int m, .bool true, .bool false] := fun _ => .cons (.str _) (.cons (.int _) (.cons (.bl _) (.cons (.bl _) .nil)))
      have l1 := lay_st pok posDH
      refine rd_neSame (d := .list [.tuple [.str "class", .int m, .bool true, .bool false], .tuple [.str "state", .str part, dQ, .bool true, .bool false]]) (.lst (SqL.of (sw _ _ hC2)) (.cons (.tup (SqT.of (sw _ _ ht0)) (dpC _)) (.cons (.tup (SqT.of (sw _ _ ht1)) (dps_st (pd2.keep (keep_same sw)))) .nil))) (.lst (SqL.of hlw) (.cons (.tup (SqT.of htw) (dpC _)) (.cons (.tup (SqT.of (sw _ _ hetH)) (dps_st (posDH.keep (keep_same sw)))) .nil))) (shaped_two l1.1 l1.2) ?_
      wtm_at "rd"
      exact ⟨_, _, _, rfl, x7H.trans (ExtN.of fun b o h => sw b o h), tbH.ext fun b o h => sw b o h⟩
    rintro σ' H8 ⟨u18, u19, u20, rfl, x8, tb8⟩
    have x68 : ExtN H6 H8 := (ExtN.of fun b o h => s7 b o h).trans x8
    have gs8 := gs6.ext x68
    have hps8 := ExtN.tu x68 hps6
    have evS8 := evS6.keep (keep_ext x68) fun b xs _ hb => ExtN.li x68 hb
    have pvS8 := pvS6.keep (keep_ext x68)
    have cvD8 := cvD6.keep (keep_ext x68)
    have hD8 := ExtN.li x68 hD6
    clear gs6 hps6 evS6 pvS6 posD6 cvD6 ckb6 het6 hD6 tb6 s7 hA x8 x68
    have lsm : (List.replicate m (st, ord, f)).length = m := List.length_replicate
    have sgm : ∀ {pn : List Str} (j : Nat), j < m → sgOf ns (es.map (·.2)) pn (List.replicate m (st, ord, f)) j = sigF ns (es.map (·.2)) f pn := fun j hj => by
      unfold sgOf
      rw [List.getElem?_replicate, if_pos hj]
    wtm_at "rd"
    refine ⟨g, n, e, D, ps, np, ev, ns, pn, es, rfl, SqT.of hps8, tb8, by omega, .inr (.inr (.inr ⟨List.replicate m (st, ord, f), by rw [mapst]; exact hD8, by rw [lsm]; exact m1, by rw [lsm]; omega, sts gs8, fun j hj => by rw [lsm] at hj; rw [sgm j hj, sgm 0 (by omega)], fun H9 x9 tb9 => ⟨g, n, e, ps, np, ev, ns, pn, es, rfl, (gs8.ext x9).grs, SqT.of (ExtN.tu x9 hps8), .inl ⟨(pvS8.keep (keep_ext x9)).bad, fun d HA sA hd => ⟨d, rfl, .inr (.inr (.inr (.inl ⟨rfl, np, hd, fun t HB sB ht => ?_⟩)))⟩⟩⟩⟩))⟩
    have s9B := sA.trans sB
    have x8B := x9.trans (ExtN.of fun b o h => s9B b o h)
    have tbB := tb9.ext fun b o h => s9B b o h
    have gsB := gs8.ext x8B
    have hpsB := ExtN.tu x8B hps8
    have evSB := evS8.keep (keep_ext x8B) fun b xs _ hb => ExtN.li x8B hb
    have pvSB := pvS8.keep (keep_ext x8B)
    have cvDB := cvD8.keep (keep_ext x8B)
    have hDB := ExtN.li x8B hD8
    clear gs8 hps8 evS8 pvS8 cvD8 hD8 x9 s9B sB sA hd x8B tb8 tb9
    wtm_at "rd"
    intro t2 ft2
    have k2 := Same.new (o := .tup [.str "pin", np, .bl true, .bl false]) ft2
    have ht2 := @upd_same HB t2 (.tup [.str "pin", np, .bl true, .bl false])
    have ht := k2 _ _ ht
    have gsC := gsB.same k2
    have hpsC := k2 _ _ hpsB
    have evSC := evSB.keep (keep_same k2) fun b xs _ hb => k2 _ _ hb
    have pvSC := pvSB.keep (keep_same k2)
    have cvDC := cvDB.keep (keep_same k2)
    have hDC := k2 _ _ hDB
    have tbC := tbB.ext fun b o h => k2 b o h
    generalize upd HB t2 (.tup [.str "pin", np, .bl true, .bl false]) = HC at *
    have ly := lay_at (s := "pin") (by decide +kernel) (pvSC.dat (K := K))
    refine rd_neRes ht ht2 (dps_at pvSC.dat) (dps_at pvSC.dat) ly.1 ly.2 ?_
    clear gsB hpsB evSB pvSB cvDB hDB tbB k2 ft2 ht ht2 ly
    wtm_at "rd"
    refine ⟨g, n, e, D, ps, .non, ev, ns, pn, es, rfl, SqT.of hpsC, tbC, by omega, .inr (.inr (.inr ⟨List.replicate m (st, ord, f), by rw [mapst]; exact hDC, by rw [lsm]; exact m1, by rw [lsm]; omega, sts gsC, fun j hj => by rw [lsm] at hj; rw [sgm j hj, sgm 0 (by omega)], fun H9 x9 tb9 => ⟨g, n, e, ps, .non, ev, ns, pn, es, rfl, (gsC.ext x9).grs, SqT.of (ExtN.tu x9 hpsC), .inr ⟨rfl, (evSC.keep (keep_ext x9) fun b xs _ hb => ExtN.li x9 hb).bad, fun d HA sA hd => ⟨d, rfl, .inr (.inr (.inr (.inr ⟨rfl, ev, hd, fun t HB sB ht => ?_⟩)))⟩⟩⟩⟩))⟩
    have s9B := sA.trans sB
    have x8B := x9.trans (ExtN.of fun b o h => s9B b o h)
    have gsB := gsC.ext x8B
    have evSB := evSC.keep (keep_ext x8B) fun b xs _ hb => ExtN.li x8B hb
    have pvSB := pvSC.keep (keep_ext x8B)
    have cvDB := cvDC.keep (keep_ext x8B)
    have hDB := ExtN.li x8B hDC
    clear gsC hpsC evSC pvSC cvDC hDC x9 s9B sB sA hd x8B tbC tb9
    wtm_at "rd"
    intro t2 ft2
    have k2 := Same.new (o := .tup [.str "edge", ev, .bl true, .bl false]) ft2
    have ht2 := @upd_same HB t2 (.tup [.str "edge", ev, .bl true, .bl false])
    have ht := k2 _ _ ht
    have gsC := gsB.same k2
    have evSC := evSB.keep (keep_same k2) fun b xs _ hb => k2 _ _ hb
    have pvSC := pvSB.keep (keep_same k2)
    have cvDC := cvDB.keep (keep_same k2)
    have hDC := k2 _ _ hDB
    generalize upd HB t2 (.tup [.str "edge", ev, .bl true, .bl false]) = HC at *
    have ly := lay_at (s := "edge") (by decide +kernel) (evSC.dat (K := K))
    refine rd_eqRes ht ht2 (dps_at evSC.dat) (dps_at evSC.dat) ly.1 ly.2 ?_
    clear gsB evSB pvSB cvDB hDB k2 ft2 ht ht2 ly
    wtm_at "rd"
    intro t4 ft4
    have k4 := Same.new (o := .tup [.ref D, cv, ev, np]) ft4
    have ht4 := @upd_same HC t4 (.tup [.ref D, cv, ev, np])
    have gsD := gsC.same k4
    have evSD := evSC.keep (keep_same k4) fun b xs _ hb => k4 _ _ hb
    have pvSD := pvSC.keep (keep_same k4)
    have cvDD := cvDC.keep (keep_same k4)
    have hDD := k4 _ _ hDC
    generalize upd HC t4 (.tup [.ref D, cv, ev, np]) = HD at *
    wtm_at "rd"
    refine repr_four (K := K) ht4 hDD gsD.st nmo lor m4 cvDD evSD.dat pvSD.dat ?_
    rw [hSS]
    wtm_at "rd"
    rw [decide_eq_true rfl]
    exact q _
end
end Law

/-! the law's own head, one table of code objects tracked -/
namespace U
open PySem PySem.Spec PyProof.Rows L2 LamX
theorem law_GT {P : Program} {w : World} {K : PySem.W.Frag} {mg mb : Str → Option Value} {k : Nat} {fa a c T : Addr} {fd : FuncData} {x : Str} {sp : Sp} {s₁ : Shared} {vs : List Value} {ns : List Int}
    (KX : K.In s₁.heap) (hns : s₁.heap.Ns mainGlobals mg) (hb : s₁.heap.Ns builtinsNs mb) (hbb : ∀ x : Str, x ≠ "__name__" → mb x = bootBuiltins x) (hlim : s₁.heap.NoLimit) (hg : s₁.gens = #[])
    (hT : s₁.heap.get? T = some { cls := .none, data := .fields #[] }) (nT : K.lookup T = none) (CH : PySem.W.CodeHd s₁.heap c T)
    (hbm : ∃ (bm : Addr) (ob : Obj), mg "__builtins__" = some (.ref bm) ∧ bm ≠ builtinsNs ∧ s₁.heap.get? bm = some ob ∧ ob.cls = .type "module" ∧ ob.dict = some builtinsNs ∧ ob.data = .plain)
    (ha : s₁.heap.get? a = some { cls := .type "list", data := .seq vs.toArray }) (hi : IntsAre vs ns) (hl : ns.length ≤ sizeLine) (hr : Room k callerA)
    (F : ∀ base : Heap, K.In base → base.Ns mainGlobals mg → TabB base mg c T → FnG P w K mg base CX0 k fa fd [x] sp) (hbind : ∀ (s : Shared) (u : Value), BindsTo s fd ⟨[u], []⟩ [(x, u)])
    (hsp : ∀ H : Hp, H T = some (.tbl #[]) → SqL K H a (ns.map V.int) → sp [.ref a] H (fun v _ => v = .bl true) fun _ _ _ => False) :
    codeAny (model P w) callerA (.call (.ref fa) ⟨[.ref a], []⟩) (fun r s' => r = .ok (.ret (.bool true)) ∧ OldK s₁.heap s'.heap ∧ s'.os = s₁.os ∧ AllBare s'.gens) s₁ := by
  have rv := vals_ints hi
  have lenV := hi.length
  have aT : a ≠ T := fun z => by
    rw [z, hT] at ha
    have := congrArg Obj.data (Option.some.inj ha)
    cases this
  have main : ∀ H : Hp, H T = some (.tbl #[]) → (∀ b, H b = none ∨ b = T ∨ ∃ o xs, H b = some (.frz o (.lst xs))) → SqL K H a (ns.map V.int) → HOk P w H s₁.heap → (∀ b, H b ≠ none → b = a ∨ b = T) → (H a ≠ none → K.lookup a = none) →
      codeAny (model P w) callerA (.call (.ref fa) ⟨[.ref a], []⟩) (fun r s' => r = .ok (.ret (.bool true)) ∧ OldK s₁.heap s'.heap ∧ s'.os = s₁.os ∧ AllBare s'.gens) s₁ := by
    intro H hH only seq ok two own
    have unseen : ∀ {b : Addr} {o : Obj}, s₁.heap.get? b = some o → (∀ vs n, o.data ≠ .seq vs n) → o.data ≠ .fields #[] → H b = none := by
      intro b o e d1 d2
      cases q : H b with
      | none => rfl
      | some u =>
        rcases two b (by rw [q]; simp) with rfl | rfl
        · obtain rfl := Option.some.inj (ha.symm.trans e)
          exact (d1 _ _ rfl).elim
        · obtain rfl := Option.some.inj (hT.symm.trans e)
          exact (d2 rfl).elim
    have stays : ∀ {b : Addr} {m : Str → Option Value}, s₁.heap.Ns b m → (hidT s₁.heap H).Ns b m := by
      rintro b m ⟨o, es, ep, e, d, r⟩
      exact ⟨o, es, ep, hidT_get e (unseen e (fun _ _ z => by rw [d] at z; cases z) fun z => by rw [d] at z; cases z), d, r⟩
    have kin : K.In (hidT s₁.heap H) := by
      intro b o e
      refine hidT_get (KX b o e) ?_
      cases q : H b with
      | none => rfl
      | some u =>
        rcases two b (by rw [q]; simp) with rfl | rfl
        · rw [own (by rw [q]; simp)] at e
          cases e
        · rw [nT] at e
          cases e
    have md : Mod K mg (hidT s₁.heap H) := ⟨kin, stays hns, ⟨mb, stays hb, hbb⟩, by
      obtain ⟨mc, h1, h2⟩ := hlim
      exact ⟨mc, stays h1, h2⟩⟩
    have tab : TabB (hidT s₁.heap H) mg c T := by
      refine ⟨?_, ?_, fun z => ?_⟩
      · obtain ⟨o, us, file, tf, flags, tg, inF, text, tt, e1, r1, r2, r3, r4, r5, r6, r7, r8, r9⟩ := CH
        refine ⟨o, us, file, tf, flags, tg, inF, text, tt, hidT_get e1 (unseen e1 (fun _ _ z => by rw [r2] at z; cases z) fun z => ?_), r1, r2, r3, r4, r5, r6, r7, r8, r9⟩
        rw [r2] at z
        obtain rfl := Data.fields.inj z
        simp at r3
      · obtain ⟨bm, ob, b1, b2, b3, b4, b5, b6⟩ := hbm
        refine ⟨bm, ob, b1, b2, fun z => ?_, fun z => ?_, hidT_get b3 (unseen b3 (fun _ _ z => by rw [b6] at z; cases z) fun z => by rw [b6] at z; cases z), b4, b5, b6⟩
        · obtain ⟨o, es, ep, e, hd, _⟩ := hns
          rw [z, e] at b3
          obtain rfl := Option.some.inj b3
          rw [hd] at b6
          cases b6
        · rw [z, hT] at b3
          obtain rfl := Option.some.inj b3
          cases b6
      · obtain ⟨o, es, ep, e, hd, _⟩ := hns
        rw [z, hT] at e
        obtain rfl := Option.some.inj e
        cases hd
    have e0 : Env0 P w K mg (hidT s₁.heap H) callerA [] s₁ H := ⟨rfl, md, fun b o e => of_hidT e, Nat.le_of_eq (hidT_size _ _), trivial, fun b z => (List.not_mem_nil z).elim, ok, .of_eq hg⟩
    refine codeAny_mono ((F _ kin (stays hns) tab).go callerA [] s₁ H ⟨[.ref a], []⟩ [.ref a] [.ref a] _ _ ⟨hr, rfl⟩ e0 (hbind s₁ (.ref a)) (.cons rfl .nil) (hsp H hH seq)) ?_
    intro r s' h
    cases r with
    | error e => exact h.elim
    | ok fl =>
      cases fl with
      | next => exact h.elim
      | brk => exact h.elim
      | cont => exact h.elim
      | ret u =>
        obtain ⟨v, H', os, bare, un, ok', r', q⟩ := h
        have q' : v = .bl true := q
        subst q'
        obtain rfl : u = Value.bool true := r'
        have key : ∀ b o, b ≠ T → s₁.heap.get? b = some o → s'.heap.get? b = some o := by
          intro b o nb e
          cases q : H b with
          | none => exact un.keep b o e q (fun z => (List.not_mem_nil z).elim) (fun z => (List.not_mem_nil z).elim)
          | some u =>
            rcases only b with z | z | ⟨ob, xs, z⟩
            · rw [q] at z; cases z
            · exact (nb z).elim
            · obtain ⟨e1, _⟩ := ok b _ z
              obtain ⟨e2, _⟩ := ok' b _ (un.frzs b ob _ z)
              exact (Option.some.inj (e1.symm.trans e)) ▸ e2
        obtain ⟨more, z⟩ := un.tbls T #[] hH
        have grown := ok' T _ z
        refine ⟨rfl, ⟨fun b o e => ?_, fun b o e => ?_⟩, os, bare⟩
        · by_cases hb : b = T
          · subst hb
            obtain rfl := Option.some.inj (hT.symm.trans e)
            exact .inr (.inl ⟨(CH.tab hT).isCodeTable, rfl, #[], _, rfl, grown⟩)
          · exact .inl (key b o hb e)
        · by_cases hb : b = T
          · subst hb
            exact ⟨_, grown⟩
          · exact ⟨o, key b o hb e⟩
  cases hk : K.lookup a with
  | some o =>
    obtain rfl := Option.some.inj (ha.symm.trans (KX a o hk))
    refine main (fun b => if b = T then some (.tbl #[]) else none) (if_pos rfl) (fun b => ?_) (.inr ⟨_, vs.toArray, _, hk, rfl, rfl, rfl, ?_, by simpa using rv⟩) (fun b u z => ?_) (fun b z => ?_) fun z => (z (if_neg aT)).elim
    · by_cases e : b = T
      · exact .inr (.inl e)
      · exact .inl (if_neg e)
    · rw [List.size_toArray, lenV]
      exact hl
    · by_cases e : b = T
      · subst e
        obtain rfl := Option.some.inj ((if_pos rfl).symm.trans z)
        exact hT
      · exact nomatch (if_neg e).symm.trans z
    · by_cases e : b = T
      · exact .inr e
      · exact absurd (if_neg e) z
  | none =>
    refine main (fun b => if b = a then some (.frz { cls := .type "list", data := .seq vs.toArray } (.lst (ns.map V.int))) else if b = T then some (.tbl #[]) else none) ((if_neg aT.symm).trans (if_pos rfl)) (fun b => ?_) (.inl (.inr ⟨_, if_pos rfl⟩)) (fun b u z => ?_) (fun b z => ?_) fun _ => hk
    · by_cases hb : b = a
      · exact .inr (.inr ⟨_, _, if_pos hb⟩)
      · by_cases e : b = T
        · exact .inr (.inl e)
        · exact .inl ((if_neg hb).trans (if_neg e))
    · by_cases hb : b = a
      · subst hb
        obtain rfl := Option.some.inj ((if_pos rfl).symm.trans z)
        exact ⟨ha, by rw [List.length_map]; exact hl, vs, _, rv, ha⟩
      · by_cases e : b = T
        · subst e
          obtain rfl := Option.some.inj (((if_neg hb).trans (if_pos rfl)).symm.trans z)
          exact hT
        · exact nomatch ((if_neg hb).trans (if_neg e)).symm.trans z
    · by_cases hb : b = a
      · exact .inl hb
      · by_cases e : b = T
        · exact .inr e
        · exact absurd ((if_neg hb).trans (if_neg e)) z
/-- the same, the table told by the fragment -/
theorem walk_GY {l : PySem.W.OpenLaw} {n k : Nat} {q : Program} {loose : List Str} {XP : (Str → Option Value) → Heap → Prop} {YP : World → Heap → Prop} {d dy : DefRec} {K : Params → PySem.W.Frag} {sp : PySem.W.Frag → Addr → Sp} {x y : Str}
    (hn : l.most = some n) (hn2 : n ≤ sizeLine) (hdf : d.params.defaults = []) (hr : Room k callerA) (hrec : (recsOf q).find? (fun e => e.name == y) = some dy)
    (hY : ∀ (w : World) (h : Heap), YP w h → (K w.params).In h)
    (F : ∀ (w : World) (mg : Str → Option Value) (fa : Addr) (h : Heap), (K w.params).In h → h.Ns mainGlobals mg → mg d.name = some (.ref fa) →
      ∃ (fd : FuncData) (c T : Addr), PySem.W.tabIn (K w.params) y = some (c, T) ∧ (K w.params).lookup T = none ∧ (∀ (s : Shared) (u : Value), BindsTo s fd ⟨[u], []⟩ [(x, u)]) ∧
        ∀ base : Heap, (K w.params).In base → base.Ns mainGlobals mg → TabB base mg c T → FnG l.prog w (K w.params) mg base CX0 k fa fd [x] (sp (K w.params) T))
    (hsp : ∀ (K : PySem.W.Frag) (T : Addr) (H : Hp) (a : Addr) (ns : List Int), ns.length ≤ n → H T = some (.tbl #[]) → SqL K H a (ns.map V.int) → sp K T [.ref a] H (fun v _ => v = .bl true) fun _ _ _ => False) :
    PySem.W.WalkO q loose XP YP l.row.toRowW d [] (fun f vs => PySem.call f vs) := by
  refine Att.attach_callB hn hdf ?_
  intro w s₀ s₁ mg mb fa o pm cd doc a vs ns G Y ho hd hcd hmg hobj hints hlen bits hg
  obtain ⟨fd, c, T, hin, nT, hb, hF⟩ := F w mg fa _ (hY w _ Y) G.T.g hmg
  obtain ⟨CH, hT⟩ := PySem.W.tab_of G.T (hY w _ Y) hrec hin
  exact law_GT (hY w _ Y) G.T.g G.T.b G.T.builtins G.T.nolimit hg hT nT CH G.T.bmain hobj hints (Nat.le_trans hlen hn2) hr hF hb fun H h1 seq => hsp _ T H a ns hlen h1 seq
end U
namespace U
open PySem PySem.Spec PyProof.Rows L2
theorem tab_mk {K : PySem.W.Frag} {x : Str} {f c T : Addr} {oc oc2 : Value} {od od2 : Option Addr} {fd : FuncData} {sl sl2 : Array (Option Value)} {vs : Array Value} (h1 : PySem.W.nsIn K mainGlobals x = some (some (.ref f))) (h2 : K.lookup f = some ⟨oc, od, .func fd, sl⟩) (h3 : fd.code = .ref c)
    (h4 : K.lookup c = some ⟨oc2, od2, .fields vs, sl2⟩) (h5 : (vs[11]? : Option Value) = some (.ref T)) : PySem.W.tabIn K x = some (c, T) := by
  unfold PySem.W.tabIn
  rw [h1]
  simp only
  rw [h2]
  simp only
  rw [h3]
  simp only
  rw [h4]
  simp only
  rw [h5]
end U

end
namespace Law
open PySem PySem.Spec PyProof.Rows L2 U LamX
theorem all_mk {l : PySem.W.OpenLaw} {w : World} {K : PySem.W.Frag} {h : Heap} {mg : Str → Option Value} {fa : Addr} (X : K.In h) (G : h.Ns mainGlobals mg) (hfa : mg "law" = some (.ref fa))
    {od0 an0 : Option Addr} {sl0 : Array (Option Value)} {f0 : Addr} {oc0 kV0 dc0 pm0 cd0 ct0 : Value}
    {od1 an1 : Option Addr} {sl1 : Array (Option Value)} {f1 : Addr} {oc1 kV1 dc1 pm1 cd1 ct1 : Value}
    {od2 an2 : Option Addr} {sl2 : Array (Option Value)} {f2 : Addr} {oc2 kV2 dc2 pm2 cd2 ct2 : Value}
    {od3 an3 : Option Addr} {sl3 : Array (Option Value)} {f3 : Addr} {oc3 kV3 dc3 pm3 cd3 ct3 : Value}
    {od4 an4 : Option Addr} {sl4 : Array (Option Value)} {f4 : Addr} {oc4 kV4 dc4 pm4 cd4 ct4 : Value}
    {od5 an5 : Option Addr} {sl5 : Array (Option Value)} {f5 : Addr} {oc5 kV5 dc5 pm5 cd5 ct5 : Value}
    {od6 an6 : Option Addr} {sl6 : Array (Option Value)} {f6 : Addr} {oc6 kV6 dc6 pm6 cd6 ct6 : Value}
    {od7 an7 : Option Addr} {sl7 : Array (Option Value)} {f7 : Addr} {oc7 kV7 dc7 pm7 cd7 ct7 : Value}
    {od8 an8 : Option Addr} {sl8 : Array (Option Value)} {f8 : Addr} {oc8 kV8 dc8 pm8 cd8 ct8 : Value}
    {od9 an9 : Option Addr} {sl9 : Array (Option Value)} {f9 : Addr} {oc9 kV9 dc9 pm9 cd9 ct9 : Value}
    {od10 an10 : Option Addr} {sl10 : Array (Option Value)} {f10 : Addr} {oc10 kV10 dc10 pm10 cd10 ct10 : Value}
    {od11 an11 : Option Addr} {sl11 : Array (Option Value)} {f11 : Addr} {oc11 kV11 dc11 pm11 cd11 ct11 : Value}
    {od12 an12 : Option Addr} {sl12 : Array (Option Value)} {f12 : Addr} {oc12 kV12 dc12 pm12 cd12 ct12 : Value}
    {od13 an13 : Option Addr} {sl13 : Array (Option Value)} {f13 : Addr} {oc13 kV13 dc13 pm13 ct13 : Value} {C0 T0 : Addr} {ocC : Value} {odC : Option Addr} {vsC : Array Value} {slC : Array (Option Value)}
    {od14 an14 : Option Addr} {sl14 : Array (Option Value)} {f14 : Addr} {oc14 kV14 dc14 pm14 cd14 ct14 : Value}
    {od15 an15 : Option Addr} {sl15 : Array (Option Value)} {f15 : Addr} {oc15 kV15 dc15 pm15 cd15 ct15 : Value}
    {od16 an16 : Option Addr} {sl16 : Array (Option Value)} {f16 : Addr} {oc16 kV16 dc16 pm16 cd16 ct16 : Value}
    {od17 an17 : Option Addr} {sl17 : Array (Option Value)} {f17 : Addr} {oc17 kV17 dc17 pm17 cd17 ct17 : Value}
    {od18 an18 : Option Addr} {sl18 : Array (Option Value)} {f18 : Addr} {oc18 kV18 dc18 pm18 cd18 ct18 : Value}
    {od19 an19 : Option Addr} {sl19 : Array (Option Value)} {f19 : Addr} {oc19 kV19 dc19 pm19 cd19 ct19 : Value}
    {D20 T20 : Addr} {odT20 : Option Addr} {nT20 : Nat} {slT20 : Array (Option Value)}
    {od20 an20 : Option Addr} {sl20 : Array (Option Value)} {f20 : Addr} {oc20 dc20 pm20 cd20 ct20 : Value}
    {od21 an21 : Option Addr} {sl21 : Array (Option Value)} {f21 : Addr} {oc21 kV21 dc21 pm21 cd21 ct21 : Value}
    {od22 an22 : Option Addr} {sl22 : Array (Option Value)} {f22 : Addr} {oc22 kV22 dc22 pm22 cd22 ct22 : Value}
    {od23 an23 : Option Addr} {sl23 : Array (Option Value)} {f23 : Addr} {oc23 kV23 dc23 pm23 cd23 ct23 : Value}
    {od24 an24 : Option Addr} {sl24 : Array (Option Value)} {f24 : Addr} {oc24 kV24 dc24 pm24 cd24 ct24 : Value}
    {od25 an25 : Option Addr} {sl25 : Array (Option Value)} {f25 : Addr} {oc25 kV25 dc25 pm25 cd25 ct25 : Value}
    {od26 an26 : Option Addr} {sl26 : Array (Option Value)} {f26 : Addr} {oc26 kV26 dc26 pm26 cd26 ct26 : Value}
    {od27 an27 : Option Addr} {sl27 : Array (Option Value)} {f27 : Addr} {oc27 kV27 dc27 pm27 cd27 ct27 : Value}
    {od28 an28 : Option Addr} {sl28 : Array (Option Value)} {f28 : Addr} {oc28 kV28 dc28 pm28 cd28 ct28 : Value}
    {od29 an29 : Option Addr} {sl29 : Array (Option Value)} {f29 : Addr} {oc29 kV29 dc29 pm29 cd29 ct29 : Value}
    {od30 an30 : Option Addr} {sl30 : Array (Option Value)} {f30 : Addr} {oc30 kV30 dc30 pm30 cd30 ct30 : Value}
    {od31 an31 : Option Addr} {sl31 : Array (Option Value)} {f31 : Addr} {oc31 kV31 dc31 pm31 cd31 ct31 : Value}
    {tk0 : Tok}
    {tk1 : Tok}
    {tk2 : Tok}
    {CB : Addr}
    {CE0 fE0 : Addr} {nmE0 qE0 : Str} {NE0 : Addr} {bsE0 : List Value} {snE0 : List Str} {subE0 : List Value} {abE0 : Bool} {colE0 : Option Bool} {ddE0 : Option Addr} {mA0 mB0 mC0 mD0 mE0 : Option Value} {odE0 anE0 : Option Addr} {slE0 : Array (Option Value)} {ocE0 kVE0 dcE0 pmE0 cdE0 ctE0 : Value}
    {CE1 fE1 : Addr} {nmE1 qE1 : Str} {NE1 : Addr} {bsE1 : List Value} {snE1 : List Str} {subE1 : List Value} {abE1 : Bool} {colE1 : Option Bool} {ddE1 : Option Addr} {mA1 mB1 mC1 mD1 mE1 : Option Value} {odE1 anE1 : Option Addr} {slE1 : Array (Option Value)} {ocE1 kVE1 dcE1 pmE1 cdE1 ctE1 : Value}
    {CE2 fE2 : Addr} {nmE2 qE2 : Str} {NE2 : Addr} {bsE2 : List Value} {snE2 : List Str} {subE2 : List Value} {abE2 : Bool} {colE2 : Option Bool} {ddE2 : Option Addr} {mA2 mB2 mC2 mD2 mE2 : Option Value} {odE2 anE2 : Option Addr} {slE2 : Array (Option Value)} {ocE2 kVE2 dcE2 pmE2 cdE2 ctE2 : Value}
    {CE3 fE3 : Addr} {nmE3 qE3 : Str} {NE3 : Addr} {bsE3 : List Value} {snE3 : List Str} {subE3 : List Value} {abE3 : Bool} {colE3 : Option Bool} {ddE3 : Option Addr} {mA3 mB3 mC3 mD3 mE3 : Option Value} {odE3 anE3 : Option Addr} {slE3 : Array (Option Value)} {ocE3 kVE3 dcE3 pmE3 cdE3 ctE3 : Value}
    {CQ0 fQ0 : Addr} {nmQ0 qQ0 : Str} {NQ0 : Addr} {bsQ0 : List Value} {snQ0 : List Str} {subQ0 : List Value} {abQ0 : Bool} {colQ0 : Option Bool} {ddQ0 : Option Addr} {maQ0 mbQ0 mcQ0 mdQ0 meQ0 : Option Value} {odQ0 anQ0 : Option Addr} {slQ0 : Array (Option Value)} {ocQ0 kVQ0 dcQ0 pmQ0 cdQ0 ctQ0 : Value}
    (a0 : PySem.W.nsIn K mainGlobals "has_node" = some (some (.ref f0))) (l0 : K.lookup f0 = some ⟨oc0, od0, .func (PySem.W.fnOf "has_node" "has_node" (defArgs s_has_node) (defBody s_has_node) (defScope s_has_node) .none kV0 dc0 pm0 an0 cd0 ct0), sl0⟩) (c0 : PySem.W.codeIn K cd0 "has_node" = true) (k0 : PySem.W.keepIn K (.ref f0) = true)
    (a1 : PySem.W.nsIn K mainGlobals "check_node" = some (some (.ref f1))) (l1 : K.lookup f1 = some ⟨oc1, od1, .func (PySem.W.fnOf "check_node" "check_node" (defArgs s_check_node) (defBody s_check_node) (defScope s_check_node) .none kV1 dc1 pm1 an1 cd1 ct1), sl1⟩) (c1 : PySem.W.codeIn K cd1 "check_node" = true) (k1 : PySem.W.keepIn K (.ref f1) = true)
    (a2 : PySem.W.nsIn K mainGlobals "edge_of" = some (some (.ref f2))) (l2 : K.lookup f2 = some ⟨oc2, od2, .func (PySem.W.fnOf "edge_of" "edge_of" (defArgs s_edge_of) (defBody s_edge_of) (defScope s_edge_of) .none kV2 dc2 pm2 an2 cd2 ct2), sl2⟩) (c2 : PySem.W.codeIn K cd2 "edge_of" = true) (k2 : PySem.W.keepIn K (.ref f2) = true)
    (a3 : PySem.W.nsIn K mainGlobals "adjacency" = some (some (.ref f3))) (l3 : K.lookup f3 = some ⟨oc3, od3, .func (PySem.W.fnOf "adjacency" "adjacency" (defArgs s_adjacency) (defBody s_adjacency) (defScope s_adjacency) .none kV3 dc3 pm3 an3 cd3 ct3), sl3⟩) (c3 : PySem.W.codeIn K cd3 "adjacency" = true) (k3 : PySem.W.keepIn K (.ref f3) = true)
    (a4 : PySem.W.nsIn K mainGlobals "paths_from" = some (some (.ref f4))) (l4 : K.lookup f4 = some ⟨oc4, od4, .func (PySem.W.fnOf "paths_from" "paths_from" (defArgs s_paths_from) (defBody s_paths_from) (defScope s_paths_from) .none kV4 dc4 pm4 an4 cd4 ct4), sl4⟩) (c4 : PySem.W.codeIn K cd4 "paths_from" = true) (k4 : PySem.W.keepIn K (.ref f4) = true)
    (a5 : PySem.W.nsIn K mainGlobals "components" = some (some (.ref f5))) (l5 : K.lookup f5 = some ⟨oc5, od5, .func (PySem.W.fnOf "components" "components" (defArgs s_components) (defBody s_components) (defScope s_components) .none kV5 dc5 pm5 an5 cd5 ct5), sl5⟩) (c5 : PySem.W.codeIn K cd5 "components" = true) (k5 : PySem.W.keepIn K (.ref f5) = true)
    (a6 : PySem.W.nsIn K mainGlobals "shortest_path" = some (some (.ref f6))) (l6 : K.lookup f6 = some ⟨oc6, od6, .func (PySem.W.fnOf "shortest_path" "shortest_path" (defArgs s_shortest_path) (defBody s_shortest_path) (defScope s_shortest_path) .none kV6 dc6 pm6 an6 cd6 ct6), sl6⟩) (c6 : PySem.W.codeIn K cd6 "shortest_path" = true) (k6 : PySem.W.keepIn K (.ref f6) = true)
    (a7 : PySem.W.nsIn K mainGlobals "root_paths" = some (some (.ref f7))) (l7 : K.lookup f7 = some ⟨oc7, od7, .func (PySem.W.fnOf "root_paths" "root_paths" (defArgs s_root_paths) (defBody s_root_paths) (defScope s_root_paths) .none kV7 dc7 pm7 an7 cd7 ct7), sl7⟩) (c7 : PySem.W.codeIn K cd7 "root_paths" = true) (k7 : PySem.W.keepIn K (.ref f7) = true)
    (a8 : PySem.W.nsIn K mainGlobals "basis_cycles" = some (some (.ref f8))) (l8 : K.lookup f8 = some ⟨oc8, od8, .func (PySem.W.fnOf "basis_cycles" "basis_cycles" (defArgs s_basis_cycles) (defBody s_basis_cycles) (defScope s_basis_cycles) .none kV8 dc8 pm8 an8 cd8 ct8), sl8⟩) (c8 : PySem.W.codeIn K cd8 "basis_cycles" = true) (k8 : PySem.W.keepIn K (.ref f8) = true)
    (a9 : PySem.W.nsIn K mainGlobals "slope" = some (some (.ref f9))) (l9 : K.lookup f9 = some ⟨oc9, od9, .func (PySem.W.fnOf "slope" "slope" (defArgs s_slope) (defBody s_slope) (defScope s_slope) .none kV9 dc9 pm9 an9 cd9 ct9), sl9⟩) (c9 : PySem.W.codeIn K cd9 "slope" = true) (k9 : PySem.W.keepIn K (.ref f9) = true)
    (a10 : PySem.W.nsIn K mainGlobals "path_sum" = some (some (.ref f10))) (l10 : K.lookup f10 = some ⟨oc10, od10, .func (PySem.W.fnOf "path_sum" "path_sum" (defArgs s_path_sum) (defBody s_path_sum) (defScope s_path_sum) .none kV10 dc10 pm10 an10 cd10 ct10), sl10⟩) (c10 : PySem.W.codeIn K cd10 "path_sum" = true) (k10 : PySem.W.keepIn K (.ref f10) = true)
    (a11 : PySem.W.nsIn K mainGlobals "windings" = some (some (.ref f11))) (l11 : K.lookup f11 = some ⟨oc11, od11, .func (PySem.W.fnOf "windings" "windings" (defArgs s_windings) (defBody s_windings) (defScope s_windings) .none kV11 dc11 pm11 an11 cd11 ct11), sl11⟩) (c11 : PySem.W.codeIn K cd11 "windings" = true) (k11 : PySem.W.keepIn K (.ref f11) = true)
    (a12 : PySem.W.nsIn K mainGlobals "sloped_paths" = some (some (.ref f12))) (l12 : K.lookup f12 = some ⟨oc12, od12, .func (PySem.W.fnOf "sloped_paths" "sloped_paths" (defArgs s_sloped_paths) (defBody s_sloped_paths) (defScope s_sloped_paths) .none kV12 dc12 pm12 an12 cd12 ct12), sl12⟩) (c12 : PySem.W.codeIn K cd12 "sloped_paths" = true) (k12 : PySem.W.keepIn K (.ref f12) = true)
    (a13 : PySem.W.nsIn K mainGlobals "smallest_path" = some (some (.ref f13))) (l13 : K.lookup f13 = some ⟨oc13, od13, .func (PySem.W.fnOf "smallest_path" "smallest_path" (defArgs s_smallest_path) (defBody s_smallest_path) (defScope s_smallest_path) .none kV13 dc13 pm13 an13 (.ref C0) ct13), sl13⟩) (c13 : PySem.W.codeIn K (.ref C0) "smallest_path" = true) (k13 : PySem.W.keepIn K (.ref f13) = true) (tl0 : K.lookup C0 = some ⟨ocC, odC, .fields vsC, slC⟩) (tl1 : (vsC[11]? : Option Value) = some (.ref T0)) (ty1 : K.lookup T0 = none)
    (a14 : PySem.W.nsIn K mainGlobals "cycle_at" = some (some (.ref f14))) (l14 : K.lookup f14 = some ⟨oc14, od14, .func (PySem.W.fnOf "cycle_at" "cycle_at" (defArgs s_cycle_at) (defBody s_cycle_at) (defScope s_cycle_at) .none kV14 dc14 pm14 an14 cd14 ct14), sl14⟩) (c14 : PySem.W.codeIn K cd14 "cycle_at" = true) (k14 : PySem.W.keepIn K (.ref f14) = true)
    (a15 : PySem.W.nsIn K mainGlobals "cycle_nodes" = some (some (.ref f15))) (l15 : K.lookup f15 = some ⟨oc15, od15, .func (PySem.W.fnOf "cycle_nodes" "cycle_nodes" (defArgs s_cycle_nodes) (defBody s_cycle_nodes) (defScope s_cycle_nodes) .none kV15 dc15 pm15 an15 cd15 ct15), sl15⟩) (c15 : PySem.W.codeIn K cd15 "cycle_nodes" = true) (k15 : PySem.W.keepIn K (.ref f15) = true)
    (a16 : PySem.W.nsIn K mainGlobals "find_anchors" = some (some (.ref f16))) (l16 : K.lookup f16 = some ⟨oc16, od16, .func (PySem.W.fnOf "find_anchors" "find_anchors" (defArgs s_find_anchors) (defBody s_find_anchors) (defScope s_find_anchors) .none kV16 dc16 pm16 an16 cd16 ct16), sl16⟩) (c16 : PySem.W.codeIn K cd16 "find_anchors" = true) (k16 : PySem.W.keepIn K (.ref f16) = true)
    (a17 : PySem.W.nsIn K mainGlobals "is_integer" = some (some (.ref f17))) (l17 : K.lookup f17 = some ⟨oc17, od17, .func (PySem.W.fnOf "is_integer" "is_integer" (defArgs s_is_integer) (defBody s_is_integer) (defScope s_is_integer) .none kV17 dc17 pm17 an17 cd17 ct17), sl17⟩) (c17 : PySem.W.codeIn K cd17 "is_integer" = true) (k17 : PySem.W.keepIn K (.ref f17) = true)
    (a18 : PySem.W.nsIn K mainGlobals "is_value" = some (some (.ref f18))) (l18 : K.lookup f18 = some ⟨oc18, od18, .func (PySem.W.fnOf "is_value" "is_value" (defArgs s_is_value) (defBody s_is_value) (defScope s_is_value) .none kV18 dc18 pm18 an18 cd18 ct18), sl18⟩) (c18 : PySem.W.codeIn K cd18 "is_value" = true) (k18 : PySem.W.keepIn K (.ref f18) = true)
    (a19 : PySem.W.nsIn K mainGlobals "check_state" = some (some (.ref f19))) (l19 : K.lookup f19 = some ⟨oc19, od19, .func (PySem.W.fnOf "check_state" "check_state" (defArgs s_check_state) (defBody s_check_state) (defScope s_check_state) .none kV19 dc19 pm19 an19 cd19 ct19), sl19⟩) (c19 : PySem.W.codeIn K cd19 "check_state" = true) (k19 : PySem.W.keepIn K (.ref f19) = true)
    (a20 : PySem.W.nsIn K mainGlobals "signature" = some (some (.ref f20))) (l20 : K.lookup f20 = some ⟨oc20, od20, .func (PySem.W.fnOf "signature" "signature" (defArgs s_signature) (defBody s_signature) (defScope s_signature) .none (.ref D20) dc20 pm20 an20 cd20 ct20), sl20⟩) (c20 : PySem.W.codeIn K cd20 "signature" = true) (k20 : PySem.W.keepIn K (.ref f20) = true)
    (d20 : PySem.W.nsIn K D20 "pinned" = some (some (.ref T20))) (t20 : K.lookup T20 = some ⟨.type "tuple", odT20, .seq #[] nT20, slT20⟩)
    (a21 : PySem.W.nsIn K mainGlobals "check_class" = some (some (.ref f21))) (l21 : K.lookup f21 = some ⟨oc21, od21, .func (PySem.W.fnOf "check_class" "check_class" (defArgs s_check_class) (defBody s_check_class) (defScope s_check_class) .none kV21 dc21 pm21 an21 cd21 ct21), sl21⟩) (c21 : PySem.W.codeIn K cd21 "check_class" = true) (k21 : PySem.W.keepIn K (.ref f21) = true)
    (a22 : PySem.W.nsIn K mainGlobals "check_extras" = some (some (.ref f22))) (l22 : K.lookup f22 = some ⟨oc22, od22, .func (PySem.W.fnOf "check_extras" "check_extras" (defArgs s_check_extras) (defBody s_check_extras) (defScope s_check_extras) .none kV22 dc22 pm22 an22 cd22 ct22), sl22⟩) (c22 : PySem.W.codeIn K cd22 "check_extras" = true) (k22 : PySem.W.keepIn K (.ref f22) = true)
    (a23 : PySem.W.nsIn K mainGlobals "split_classes" = some (some (.ref f23))) (l23 : K.lookup f23 = some ⟨oc23, od23, .func (PySem.W.fnOf "split_classes" "split_classes" (defArgs s_split_classes) (defBody s_split_classes) (defScope s_split_classes) .none kV23 dc23 pm23 an23 cd23 ct23), sl23⟩) (c23 : PySem.W.codeIn K cd23 "split_classes" = true) (k23 : PySem.W.keepIn K (.ref f23) = true)
    (a24 : PySem.W.nsIn K mainGlobals "_law_box" = some (some (.ref f24))) (l24 : K.lookup f24 = some ⟨oc24, od24, .func (PySem.W.fnOf "_law_box" "_law_box" (defArgs s__law_box) (defBody s__law_box) (defScope s__law_box) .none kV24 dc24 pm24 an24 cd24 ct24), sl24⟩) (c24 : PySem.W.codeIn K cd24 "_law_box" = true) (k24 : PySem.W.keepIn K (.ref f24) = true)
    (a25 : PySem.W.nsIn K mainGlobals "_law_draw" = some (some (.ref f25))) (l25 : K.lookup f25 = some ⟨oc25, od25, .func (PySem.W.fnOf "_law_draw" "_law_draw" (defArgs s__law_draw) (defBody s__law_draw) (defScope s__law_draw) .none kV25 dc25 pm25 an25 cd25 ct25), sl25⟩) (c25 : PySem.W.codeIn K cd25 "_law_draw" = true) (k25 : PySem.W.keepIn K (.ref f25) = true)
    (a26 : PySem.W.nsIn K mainGlobals "_law_stem" = some (some (.ref f26))) (l26 : K.lookup f26 = some ⟨oc26, od26, .func (PySem.W.fnOf "_law_stem" "_law_stem" (defArgs s__law_stem) (defBody s__law_stem) (defScope s__law_stem) .none kV26 dc26 pm26 an26 cd26 ct26), sl26⟩) (c26 : PySem.W.codeIn K cd26 "_law_stem" = true) (k26 : PySem.W.keepIn K (.ref f26) = true)
    (a27 : PySem.W.nsIn K mainGlobals "_law_random_names" = some (some (.ref f27))) (l27 : K.lookup f27 = some ⟨oc27, od27, .func (PySem.W.fnOf "_law_random_names" "_law_random_names" (defArgs s__law_random_names) (defBody s__law_random_names) (defScope s__law_random_names) .none kV27 dc27 pm27 an27 cd27 ct27), sl27⟩) (c27 : PySem.W.codeIn K cd27 "_law_random_names" = true) (k27 : PySem.W.keepIn K (.ref f27) = true)
    (a28 : PySem.W.nsIn K mainGlobals "_law_random_problem" = some (some (.ref f28))) (l28 : K.lookup f28 = some ⟨oc28, od28, .func (PySem.W.fnOf "_law_random_problem" "_law_random_problem" (defArgs s__law_random_problem) (defBody s__law_random_problem) (defScope s__law_random_problem) .none kV28 dc28 pm28 an28 cd28 ct28), sl28⟩) (c28 : PySem.W.codeIn K cd28 "_law_random_problem" = true) (k28 : PySem.W.keepIn K (.ref f28) = true)
    (a29 : PySem.W.nsIn K mainGlobals "_law_call" = some (some (.ref f29))) (l29 : K.lookup f29 = some ⟨oc29, od29, .func (PySem.W.fnOf "_law_call" "_law_call" (defArgs s__law_call) (defBody s__law_call) (defScope s__law_call) .none kV29 dc29 pm29 an29 cd29 ct29), sl29⟩) (c29 : PySem.W.codeIn K cd29 "_law_call" = true) (k29 : PySem.W.keepIn K (.ref f29) = true)
    (a30 : PySem.W.nsIn K mainGlobals "_law_changed" = some (some (.ref f30))) (l30 : K.lookup f30 = some ⟨oc30, od30, .func (PySem.W.fnOf "_law_changed" "_law_changed" (defArgs s__law_changed) (defBody s__law_changed) (defScope s__law_changed) .none kV30 dc30 pm30 an30 cd30 ct30), sl30⟩) (c30 : PySem.W.codeIn K cd30 "_law_changed" = true) (k30 : PySem.W.keepIn K (.ref f30) = true)
    (a31 : PySem.W.nsIn K mainGlobals "law" = some (some (.ref f31))) (l31 : K.lookup f31 = some ⟨oc31, od31, .func (PySem.W.fnOf "law" "law" (defArgs s_law) (defBody s_law) (defScope s_law) .none kV31 dc31 pm31 an31 cd31 ct31), sl31⟩) (c31 : PySem.W.codeIn K cd31 "law" = true) (k31 : PySem.W.keepIn K (.ref f31) = true)
    (z0 : PySem.W.nsIn K mainGlobals "len" = some none)
    (z1 : PySem.W.nsIn K mainGlobals "abs" = some none)
    (z2 : PySem.W.nsIn K mainGlobals "max" = some none)
    (z3 : PySem.W.nsIn K mainGlobals "min" = some none)
    (z4 : PySem.W.nsIn K mainGlobals "sorted" = some none)
    (z5 : PySem.W.nsIn K mainGlobals "isinstance" = some none)
    (z6 : PySem.W.nsIn K mainGlobals "int" = some none)
    (z7 : PySem.W.nsIn K mainGlobals "list" = some none)
    (z8 : PySem.W.nsIn K mainGlobals "tuple" = some none)
    (z9 : PySem.W.nsIn K mainGlobals "str" = some none)
    (z10 : PySem.W.nsIn K mainGlobals "range" = some none)
    (z11 : PySem.W.nsIn K mainGlobals "enumerate" = some none)
    (z12 : PySem.W.nsIn K mainGlobals "dict" = some none)
    (z13 : PySem.W.nsIn K mainGlobals "sum" = some none)
    (z14 : PySem.W.nsIn K mainGlobals "all" = some none)
    (z15 : PySem.W.nsIn K mainGlobals "any" = some none)
    (z16 : PySem.W.nsIn K mainGlobals "repr" = some none)
    (z17 : PySem.W.nsIn K mainGlobals "set" = some none)
    (z18 : PySem.W.nsIn K mainGlobals "zip" = some none)
    (z19 : PySem.W.nsIn K mainGlobals "reversed" = some none)
    (z20 : PySem.W.nsIn K mainGlobals "bool" = some none)
    (w0 : PySem.W.nsIn K mainGlobals "DOWN" = some (some (.int (-1) tk0)))
    (w1 : PySem.W.nsIn K mainGlobals "MAX_SPLIT" = some (some (.int 12 tk1)))
    (w2 : PySem.W.nsIn K mainGlobals "UP" = some (some (.int 1 tk2)))
    (y0 : PySem.W.nsIn K mainGlobals "InputError" = some (some (.ref CB))) (y1 : PySem.W.keepIn K (.ref CB) = true) (y2 : PySem.W.subIn K (.ref CB) (.type "BaseException") = some true) (y3 : PySem.W.typeIn K (.ref CB) = some (.type "type")) (y4 : PySem.W.isClsIn K CB = true)
    (y5 : PySem.W.specialIn K (.ref CB) "__getattribute__" = some (some (.builtin "type.__getattribute__"))) (y6 : PySem.W.readsIn K CB (.type "type") = true) (y7 : PySem.W.findCls K (.ref CB) (.type "type") "__init__" = some (.val (.builtin "ValueError.__init__")))
    (xa0 : PySem.W.nsIn K mainGlobals "InvalidState" = some (some (.ref CE0))) (xb0 : K.lookup CE0 = some (excClassObj nmE0 qE0 CE0 NE0 bsE0 [.ref CB, .type "ValueError", .type "Exception", .type "BaseException", .type "object"] true snE0 subE0 abE0 colE0 ddE0 mA0 mB0 mC0 mD0 mE0 "ValueError.__new__")) (xc0 : PySem.W.findIn K (.ref CE0) "__setattr__" = some (some (.builtin "object.__setattr__"))) (xd0 : PySem.W.findIn K (.ref CE0) "__getattribute__" = some (some (.builtin "BaseException.__getattribute__"))) (xe0 : PySem.W.findIn K (.ref CE0) "__getattr__" = some none) (xf0 : PySem.W.findIn K (.ref CE0) "part" = some none) (xg0 : PySem.W.findIn K (.ref CE0) "__init__" = some (some (.ref fE0))) (xh0 : PySem.W.typeIn K (.ref fE0) = some (.type "function")) (xi0 : K.lookup fE0 = some ⟨ocE0, odE0, .func (PySem.W.fnOf "__init__" "InvalidState.__init__" (defArgs s_InvalidState_init) (defBody s_InvalidState_init) (defScope s_InvalidState_init) .none kVE0 dcE0 pmE0 anE0 cdE0 ctE0), slE0⟩) (xj0 : PySem.W.codeIn K cdE0 "InvalidState.__init__" = true) (xk0 : PySem.W.keepIn K (.ref fE0) = true) (xl0 : PySem.W.keepIn K (.ref CE0) = true) (xm0 : PySem.W.subIn K (.ref CE0) (.type "BaseException") = some true) (xn0 : PySem.W.typeIn K (.ref CE0) = some (.type "type")) (xo0 : PySem.W.hasDictIn K CE0 = true) (xp0 : PySem.W.isClsIn K CE0 = true) (xq0 : PySem.W.subIn K (.ref CE0) (.ref CE0) = some true) (xr0 : PySem.W.subIn K (.ref CE0) (.ref CB) = some true)
    (xz0 : PySem.W.findIn K (.ref CE0) "position" = some none)
    (xu0 : PySem.W.findIn K (.ref CE0) "__class__" = some (some (.builtin "object.__class__"))) (xv0 : PySem.W.specialIn K (.builtin "object.__class__") "__get__" = some (some (.builtin "getset_descriptor.__get__"))) (xw0 : PySem.W.takesIn K (.builtin "object.__class__") = some true) (xx0 : PySem.W.mroIn K CE0 (.type "object") = some true)
    (xa1 : PySem.W.nsIn K mainGlobals "NotReachable" = some (some (.ref CE1))) (xb1 : K.lookup CE1 = some (excClassObj nmE1 qE1 CE1 NE1 bsE1 [.ref CB, .type "ValueError", .type "Exception", .type "BaseException", .type "object"] true snE1 subE1 abE1 colE1 ddE1 mA1 mB1 mC1 mD1 mE1 "ValueError.__new__")) (xc1 : PySem.W.findIn K (.ref CE1) "__setattr__" = some (some (.builtin "object.__setattr__"))) (xd1 : PySem.W.findIn K (.ref CE1) "__getattribute__" = some (some (.builtin "BaseException.__getattribute__"))) (xe1 : PySem.W.findIn K (.ref CE1) "__getattr__" = some none) (xf1 : PySem.W.findIn K (.ref CE1) "position" = some none) (xg1 : PySem.W.findIn K (.ref CE1) "__init__" = some (some (.ref fE1))) (xh1 : PySem.W.typeIn K (.ref fE1) = some (.type "function")) (xi1 : K.lookup fE1 = some ⟨ocE1, odE1, .func (PySem.W.fnOf "__init__" "NotReachable.__init__" (defArgs s_NotReachable_init) (defBody s_NotReachable_init) (defScope s_NotReachable_init) .none kVE1 dcE1 pmE1 anE1 cdE1 ctE1), slE1⟩) (xj1 : PySem.W.codeIn K cdE1 "NotReachable.__init__" = true) (xk1 : PySem.W.keepIn K (.ref fE1) = true) (xl1 : PySem.W.keepIn K (.ref CE1) = true) (xm1 : PySem.W.subIn K (.ref CE1) (.type "BaseException") = some true) (xn1 : PySem.W.typeIn K (.ref CE1) = some (.type "type")) (xo1 : PySem.W.hasDictIn K CE1 = true) (xp1 : PySem.W.isClsIn K CE1 = true) (xq1 : PySem.W.subIn K (.ref CE1) (.ref CE1) = some true) (xr1 : PySem.W.subIn K (.ref CE1) (.ref CB) = some true)
    (xu1 : PySem.W.findIn K (.ref CE1) "__class__" = some (some (.builtin "object.__class__"))) (xv1 : PySem.W.specialIn K (.builtin "object.__class__") "__get__" = some (some (.builtin "getset_descriptor.__get__"))) (xw1 : PySem.W.takesIn K (.builtin "object.__class__") = some true) (xx1 : PySem.W.mroIn K CE1 (.type "object") = some true)
    (xa2 : PySem.W.nsIn K mainGlobals "InvalidPin" = some (some (.ref CE2))) (xb2 : K.lookup CE2 = some (excClassObj nmE2 qE2 CE2 NE2 bsE2 [.ref CB, .type "ValueError", .type "Exception", .type "BaseException", .type "object"] true snE2 subE2 abE2 colE2 ddE2 mA2 mB2 mC2 mD2 mE2 "ValueError.__new__")) (xc2 : PySem.W.findIn K (.ref CE2) "__setattr__" = some (some (.builtin "object.__setattr__"))) (xd2 : PySem.W.findIn K (.ref CE2) "__getattribute__" = some (some (.builtin "BaseException.__getattribute__"))) (xe2 : PySem.W.findIn K (.ref CE2) "__getattr__" = some none) (xf2 : PySem.W.findIn K (.ref CE2) "node" = some none) (xg2 : PySem.W.findIn K (.ref CE2) "__init__" = some (some (.ref fE2))) (xh2 : PySem.W.typeIn K (.ref fE2) = some (.type "function")) (xi2 : K.lookup fE2 = some ⟨ocE2, odE2, .func (PySem.W.fnOf "__init__" "InvalidPin.__init__" (defArgs s_InvalidPin_init) (defBody s_InvalidPin_init) (defScope s_InvalidPin_init) .none kVE2 dcE2 pmE2 anE2 cdE2 ctE2), slE2⟩) (xj2 : PySem.W.codeIn K cdE2 "InvalidPin.__init__" = true) (xk2 : PySem.W.keepIn K (.ref fE2) = true) (xl2 : PySem.W.keepIn K (.ref CE2) = true) (xm2 : PySem.W.subIn K (.ref CE2) (.type "BaseException") = some true) (xn2 : PySem.W.typeIn K (.ref CE2) = some (.type "type")) (xo2 : PySem.W.hasDictIn K CE2 = true) (xp2 : PySem.W.isClsIn K CE2 = true) (xq2 : PySem.W.subIn K (.ref CE2) (.ref CE2) = some true) (xr2 : PySem.W.subIn K (.ref CE2) (.ref CB) = some true)
    (xu2 : PySem.W.findIn K (.ref CE2) "__class__" = some (some (.builtin "object.__class__"))) (xv2 : PySem.W.specialIn K (.builtin "object.__class__") "__get__" = some (some (.builtin "getset_descriptor.__get__"))) (xw2 : PySem.W.takesIn K (.builtin "object.__class__") = some true) (xx2 : PySem.W.mroIn K CE2 (.type "object") = some true)
    (xa3 : PySem.W.nsIn K mainGlobals "InvalidEdge" = some (some (.ref CE3))) (xb3 : K.lookup CE3 = some (excClassObj nmE3 qE3 CE3 NE3 bsE3 [.ref CB, .type "ValueError", .type "Exception", .type "BaseException", .type "object"] true snE3 subE3 abE3 colE3 ddE3 mA3 mB3 mC3 mD3 mE3 "ValueError.__new__")) (xc3 : PySem.W.findIn K (.ref CE3) "__setattr__" = some (some (.builtin "object.__setattr__"))) (xd3 : PySem.W.findIn K (.ref CE3) "__getattribute__" = some (some (.builtin "BaseException.__getattribute__"))) (xe3 : PySem.W.findIn K (.ref CE3) "__getattr__" = some none) (xf3 : PySem.W.findIn K (.ref CE3) "edge" = some none) (xg3 : PySem.W.findIn K (.ref CE3) "__init__" = some (some (.ref fE3))) (xh3 : PySem.W.typeIn K (.ref fE3) = some (.type "function")) (xi3 : K.lookup fE3 = some ⟨ocE3, odE3, .func (PySem.W.fnOf "__init__" "InvalidEdge.__init__" (defArgs s_InvalidEdge_init) (defBody s_InvalidEdge_init) (defScope s_InvalidEdge_init) .none kVE3 dcE3 pmE3 anE3 cdE3 ctE3), slE3⟩) (xj3 : PySem.W.codeIn K cdE3 "InvalidEdge.__init__" = true) (xk3 : PySem.W.keepIn K (.ref fE3) = true) (xl3 : PySem.W.keepIn K (.ref CE3) = true) (xm3 : PySem.W.subIn K (.ref CE3) (.type "BaseException") = some true) (xn3 : PySem.W.typeIn K (.ref CE3) = some (.type "type")) (xo3 : PySem.W.hasDictIn K CE3 = true) (xp3 : PySem.W.isClsIn K CE3 = true) (xq3 : PySem.W.subIn K (.ref CE3) (.ref CE3) = some true) (xr3 : PySem.W.subIn K (.ref CE3) (.ref CB) = some true)
    (xu3 : PySem.W.findIn K (.ref CE3) "__class__" = some (some (.builtin "object.__class__"))) (xv3 : PySem.W.specialIn K (.builtin "object.__class__") "__get__" = some (some (.builtin "getset_descriptor.__get__"))) (xw3 : PySem.W.takesIn K (.builtin "object.__class__") = some true) (xx3 : PySem.W.mroIn K CE3 (.type "object") = some true)
    (qa0 : PySem.W.nsIn K mainGlobals "TooLarge" = some (some (.ref CQ0))) (qb0 : K.lookup CQ0 = some (excClassObj nmQ0 qQ0 CQ0 NQ0 bsQ0 bmOE true snQ0 subQ0 abQ0 colQ0 ddQ0 maQ0 mbQ0 mcQ0 mdQ0 meQ0 "OverflowError.__new__")) (qc0 : PySem.W.findIn K (.ref CQ0) "__setattr__" = some (some (.builtin "object.__setattr__"))) (qd0 : PySem.W.findIn K (.ref CQ0) "__getattribute__" = some (some (.builtin "BaseException.__getattribute__"))) (qe0 : PySem.W.findIn K (.ref CQ0) "__getattr__" = some none) (qf0 : PySem.W.findIn K (.ref CQ0) "total" = some none) (qg0 : PySem.W.findIn K (.ref CQ0) "__init__" = some (some (.ref fQ0))) (qh0 : PySem.W.typeIn K (.ref fQ0) = some (.type "function")) (qi0 : K.lookup fQ0 = some ⟨ocQ0, odQ0, .func (PySem.W.fnOf "__init__" "TooLarge.__init__" (defArgs s_TooLarge_init) (defBody s_TooLarge_init) (defScope s_TooLarge_init) .none kVQ0 dcQ0 pmQ0 anQ0 cdQ0 ctQ0), slQ0⟩) (qj0 : PySem.W.codeIn K cdQ0 "TooLarge.__init__" = true) (qk0 : PySem.W.keepIn K (.ref fQ0) = true) (ql0 : PySem.W.keepIn K (.ref CQ0) = true) (qm0 : PySem.W.subIn K (.ref CQ0) (.type "BaseException") = some true) (qn0 : PySem.W.typeIn K (.ref CQ0) = some (.type "type")) (qo0 : PySem.W.hasDictIn K CQ0 = true) (qp0 : PySem.W.isClsIn K CQ0 = true) (qq0 : PySem.W.subIn K (.ref CQ0) (.ref CQ0) = some true) (qs0 : PySem.W.nsIn K mainGlobals "OverflowError" = some none) (qt0 : PySem.W.findCls K (.type "OverflowError") (.type "type") "__init__" = some (.val (.builtin "OverflowError.__init__")))
    (qu0 : PySem.W.findIn K (.ref CQ0) "__class__" = some (some (.builtin "object.__class__")))
    (qv0 : PySem.W.specialIn K (.builtin "object.__class__") "__get__" = some (some (.builtin "getset_descriptor.__get__")))
    (qw0 : PySem.W.takesIn K (.builtin "object.__class__") = some true)
    (qx0 : PySem.W.mroIn K CQ0 (.type "object") = some true)
    (zTB : PySem.W.subIn K (.ref CQ0) (.ref CB) = some false)
    (zST : PySem.W.subIn K (.ref CE0) (.ref CQ0) = some false)
    (zNT : PySem.W.subIn K (.ref CE1) (.ref CQ0) = some false)
    (zNS : PySem.W.subIn K (.ref CE1) (.ref CE0) = some false)
    (zPT : PySem.W.subIn K (.ref CE2) (.ref CQ0) = some false)
    (zPS : PySem.W.subIn K (.ref CE2) (.ref CE0) = some false)
    (zPN : PySem.W.subIn K (.ref CE2) (.ref CE1) = some false)
    (zXT : PySem.W.subIn K (.ref CE3) (.ref CQ0) = some false)
    (zXS : PySem.W.subIn K (.ref CE3) (.ref CE0) = some false)
    (zXN : PySem.W.subIn K (.ref CE3) (.ref CE1) = some false)
    (zXP : PySem.W.subIn K (.ref CE3) (.ref CE2) = some false)
    (zSN : PySem.W.subIn K (.ref CE0) (.ref CE1) = some false)
    (zPX : PySem.W.subIn K (.ref CE2) (.ref CE3) = some false) :
    ∃ (fd : FuncData) (c T : Addr), PySem.W.tabIn K "smallest_path" = some (c, T) ∧ K.lookup T = none ∧ (∀ (s : Shared) (u : Value), BindsTo s fd ⟨[u], []⟩ [("_law_script", u)]) ∧ ∀ base : Heap, K.In base → base.Ns mainGlobals mg → TabB base mg c T → FnG l.prog w K mg base CX0 11 fa fd ["_law_script"] (spLaw K T) := by
  have e := hfa.symm.trans (PySem.W.mg_of X G a31)
  cases e
  have n_len := PySem.W.mg_none_of X G z0
  have n_abs := PySem.W.mg_none_of X G z1
  have n_max := PySem.W.mg_none_of X G z2
  have n_min := PySem.W.mg_none_of X G z3
  have n_sorted := PySem.W.mg_none_of X G z4
  have n_isinstance := PySem.W.mg_none_of X G z5
  have n_int := PySem.W.mg_none_of X G z6
  have n_list := PySem.W.mg_none_of X G z7
  have n_tuple := PySem.W.mg_none_of X G z8
  have n_str := PySem.W.mg_none_of X G z9
  have n_range := PySem.W.mg_none_of X G z10
  have n_enumerate := PySem.W.mg_none_of X G z11
  have n_dict := PySem.W.mg_none_of X G z12
  have n_sum := PySem.W.mg_none_of X G z13
  have n_all := PySem.W.mg_none_of X G z14
  have n_any := PySem.W.mg_none_of X G z15
  have n_repr := PySem.W.mg_none_of X G z16
  have n_set := PySem.W.mg_none_of X G z17
  have n_zip := PySem.W.mg_none_of X G z18
  have n_reversed := PySem.W.mg_none_of X G z19
  have n_bool := PySem.W.mg_none_of X G z20
  have B : Bt mg := { len := n_len, abs := n_abs, max := n_max, min := n_min, sorted := n_sorted, isinstance := n_isinstance, int := n_int, list := n_list, tuple := n_tuple, str := n_str, range := n_range, enumerate := n_enumerate, dict := n_dict, sum := n_sum, all := n_all, any := n_any, repr := n_repr, set := n_set, zip := n_zip, reversed := n_reversed }
  have g_DOWN : ∃ u, mg "DOWN" = some u ∧ RelV (.int (-1)) u := ⟨_, PySem.W.mg_of X G w0, ⟨_, rfl⟩⟩
  have g_MAX_SPLIT : ∃ u, mg "MAX_SPLIT" = some u ∧ RelV (.int 12) u := ⟨_, PySem.W.mg_of X G w1, ⟨_, rfl⟩⟩
  have g_UP : ∃ u, mg "UP" = some u ∧ RelV (.int 1) u := ⟨_, PySem.W.mg_of X G w2, ⟨_, rfl⟩⟩
  have F0 := fun_mk (st := s_has_node) l0 c0 k0
  have b0 := F0.binds (ps := ["graph", "candidate"]) fun _ _ _ _ _ _ us hl => match us, hl with | [_, _], _ => rfl
  have F1 := fun_mk (st := s_check_node) l1 c1 k1
  have b1 := F1.binds (ps := ["graph", "candidate"]) fun _ _ _ _ _ _ us hl => match us, hl with | [_, _], _ => rfl
  have F2 := fun_mk (st := s_edge_of) l2 c2 k2
  have b2 := F2.binds (ps := ["first", "second"]) fun _ _ _ _ _ _ us hl => match us, hl with | [_, _], _ => rfl
  have F3 := fun_mk (st := s_adjacency) l3 c3 k3
  have b3 := F3.binds (ps := ["graph"]) fun _ _ _ _ _ _ us hl => match us, hl with | [_], _ => rfl
  have F4 := fun_mk (st := s_paths_from) l4 c4 k4
  have b4 := F4.binds (ps := ["graph", "node"]) fun _ _ _ _ _ _ us hl => match us, hl with | [_, _], _ => rfl
  have F5 := fun_mk (st := s_components) l5 c5 k5
  have b5 := F5.binds (ps := ["graph"]) fun _ _ _ _ _ _ us hl => match us, hl with | [_], _ => rfl
  have F6 := fun_mk (st := s_shortest_path) l6 c6 k6
  have b6 := F6.binds (ps := ["graph", "start", "end"]) fun _ _ _ _ _ _ us hl => match us, hl with | [_, _, _], _ => rfl
  have F7 := fun_mk (st := s_root_paths) l7 c7 k7
  have b7 := F7.binds (ps := ["graph"]) fun _ _ _ _ _ _ us hl => match us, hl with | [_], _ => rfl
  have F8 := fun_mk (st := s_basis_cycles) l8 c8 k8
  have b8 := F8.binds (ps := ["graph"]) fun _ _ _ _ _ _ us hl => match us, hl with | [_], _ => rfl
  have F9 := fun_mk (st := s_slope) l9 c9 k9
  have b9 := F9.binds (ps := ["state", "node", "neighbor"]) fun _ _ _ _ _ _ us hl => match us, hl with | [_, _, _], _ => rfl
  have F10 := fun_mk (st := s_path_sum) l10 c10 k10
  have b10 := F10.binds (ps := ["state", "path"]) fun _ _ _ _ _ _ us hl => match us, hl with | [_, _], _ => rfl
  have F11 := fun_mk (st := s_windings) l11 c11 k11
  have b11 := F11.binds (ps := ["graph", "state"]) fun _ _ _ _ _ _ us hl => match us, hl with | [_, _], _ => rfl
  have F12 := fun_mk (st := s_sloped_paths) l12 c12 k12
  have b12 := F12.binds (ps := ["graph", "state", "node", "direction"]) fun _ _ _ _ _ _ us hl => match us, hl with | [_, _, _, _], _ => rfl
  have F13 := fun_mk (st := s_smallest_path) l13 c13 k13
  have FC13 : FunC K "smallest_path" "smallest_path" s_smallest_path f13 _ C0 := ⟨⟨_, _, _, _, _, _, _, _, rfl, l13, c13⟩⟩
  have b13 := F13.binds (ps := ["paths"]) fun _ _ _ _ _ _ us hl => match us, hl with | [_], _ => rfl
  have F14 := fun_mk (st := s_cycle_at) l14 c14 k14
  have b14 := F14.binds (ps := ["graph", "state", "node"]) fun _ _ _ _ _ _ us hl => match us, hl with | [_, _, _], _ => rfl
  have F15 := fun_mk (st := s_cycle_nodes) l15 c15 k15
  have b15 := F15.binds (ps := ["graph", "state"]) fun _ _ _ _ _ _ us hl => match us, hl with | [_, _], _ => rfl
  have F16 := fun_mk (st := s_find_anchors) l16 c16 k16
  have b16 := F16.binds (ps := ["graph", "state", "pinned"]) fun _ _ _ _ _ _ us hl => match us, hl with | [_, _, _], _ => rfl
  have F17 := fun_mk (st := s_is_integer) l17 c17 k17
  have b17 := F17.binds (ps := ["candidate"]) fun _ _ _ _ _ _ us hl => match us, hl with | [_], _ => rfl
  have F18 := fun_mk (st := s_is_value) l18 c18 k18
  have b18 := F18.binds (ps := ["candidate"]) fun _ _ _ _ _ _ us hl => match us, hl with | [_], _ => rfl
  have F19 := fun_mk (st := s_check_state) l19 c19 k19
  have b19 := F19.binds (ps := ["graph", "candidate"]) fun _ _ _ _ _ _ us hl => match us, hl with | [_, _], _ => rfl
  have sT20 : ∀ H, SqT K H T20 [] := fun H => .inr ⟨_, _, _, t20, rfl, rfl, (by show 0 ≤ sizeLine; decide), .nil⟩
  have FD20 : FunD K "signature" "signature" (defArgs s_signature) (defBody s_signature) (defScope s_signature) [] [("pinned", .ref T20)] f20 _ := ⟨⟨_, _, _, _, _, _, _, _, _, _, rfl, l20, c20, .inl ⟨rfl, rfl⟩, .inr ⟨D20, rfl, fun q hq => by
    rw [List.mem_singleton] at hq
    subst hq
    exact ⟨_, d20, rfl⟩⟩⟩, k20⟩
  obtain ⟨ds20, vd20, bd20⟩ := FD20.binds0 (ps := ["graph", "state", "pinned"]) 2 (by simp) rfl fun D doc pm an cdv ct us ks hu hk => match us, ks, hu, hk with | [_, _], [_], _, _ => ⟨_, _, _, _, _, _, rfl, rfl, rfl⟩
  have F20 := fun_mk (st := s_signature) l20 c20 k20
  have F21 := fun_mk (st := s_check_class) l21 c21 k21
  have b21 := F21.binds (ps := ["graph", "states", "pinned"]) fun _ _ _ _ _ _ us hl => match us, hl with | [_, _, _], _ => rfl
  have F22 := fun_mk (st := s_check_extras) l22 c22 k22
  have b22 := F22.binds (ps := ["graph", "pinned", "extra_pin", "extra_edge"]) fun _ _ _ _ _ _ us hl => match us, hl with | [_, _, _, _], _ => rfl
  have F23 := fun_mk (st := s_split_classes) l23 c23 k23
  have F24 := fun_mk (st := s__law_box) l24 c24 k24
  have b24 := F24.binds (ps := ["_law_script"]) fun _ _ _ _ _ _ us hl => match us, hl with | [_], _ => rfl
  have F25 := fun_mk (st := s__law_draw) l25 c25 k25
  have b25 := F25.binds (ps := ["_law_source", "_law_count"]) fun _ _ _ _ _ _ us hl => match us, hl with | [_, _], _ => rfl
  have F26 := fun_mk (st := s__law_stem) l26 c26 k26
  have b26 := F26.binds (ps := ["_law_source"]) fun _ _ _ _ _ _ us hl => match us, hl with | [_], _ => rfl
  have F27 := fun_mk (st := s__law_random_names) l27 c27 k27
  have b27 := F27.binds (ps := ["_law_source", "_law_count"]) fun _ _ _ _ _ _ us hl => match us, hl with | [_, _], _ => rfl
  have F28 := fun_mk (st := s__law_random_problem) l28 c28 k28
  have b28 := F28.binds (ps := ["_law_source", "_law_most"]) fun _ _ _ _ _ _ us hl => match us, hl with | [_, _], _ => rfl
  have F29 := fun_mk (st := s__law_call) l29 c29 k29
  have b29 := F29.binds (ps := ["_law_graph", "_law_some", "_law_pins", "_law_new_pin", "_law_edge"]) fun _ _ _ _ _ _ us hl => match us, hl with | [_, _, _, _, _], _ => rfl
  have F30 := fun_mk (st := s__law_changed) l30 c30 k30
  have b30 := F30.binds (ps := ["_law_source", "_law_graph", "_law_state", "_law_node"]) fun _ _ _ _ _ _ us hl => match us, hl with | [_, _, _, _], _ => rfl
  have F31 := fun_mk (st := s_law) l31 c31 k31
  have b31 := F31.binds (ps := ["_law_script"]) fun _ _ _ _ _ _ us hl => match us, hl with | [_], _ => rfl
  have own0 := own_mk (x := "InvalidState") (f := "part") (PySem.W.mg_of X G xa0) (PySem.W.mg_of X G y0) xb0 xc0 xd0 xe0 xf0 xg0 xh0 xl0 xm0 xn0 xo0 xp0 xq0 y1 y2 y3 y4 xr0 y5 y6 y7
  have FE0 := fun_mk (st := s_InvalidState_init) xi0 xj0 xk0
  have bE0 := FE0.binds (ps := ["self", "part", "position"]) fun _ _ _ _ _ _ us hl => match us, hl with | [_, _, _], _ => rfl
  have own1 := own_mk (x := "NotReachable") (f := "position") (PySem.W.mg_of X G xa1) (PySem.W.mg_of X G y0) xb1 xc1 xd1 xe1 xf1 xg1 xh1 xl1 xm1 xn1 xo1 xp1 xq1 y1 y2 y3 y4 xr1 y5 y6 y7
  have FE1 := fun_mk (st := s_NotReachable_init) xi1 xj1 xk1
  have bE1 := FE1.binds (ps := ["self", "position"]) fun _ _ _ _ _ _ us hl => match us, hl with | [_, _], _ => rfl
  have own2 := own_mk (x := "InvalidPin") (f := "node") (PySem.W.mg_of X G xa2) (PySem.W.mg_of X G y0) xb2 xc2 xd2 xe2 xf2 xg2 xh2 xl2 xm2 xn2 xo2 xp2 xq2 y1 y2 y3 y4 xr2 y5 y6 y7
  have FE2 := fun_mk (st := s_InvalidPin_init) xi2 xj2 xk2
  have bE2 := FE2.binds (ps := ["self", "node"]) fun _ _ _ _ _ _ us hl => match us, hl with | [_, _], _ => rfl
  have own3 := own_mk (x := "InvalidEdge") (f := "edge") (PySem.W.mg_of X G xa3) (PySem.W.mg_of X G y0) xb3 xc3 xd3 xe3 xf3 xg3 xh3 xl3 xm3 xn3 xo3 xp3 xq3 y1 y2 y3 y4 xr3 y5 y6 y7
  have FE3 := fun_mk (st := s_InvalidEdge_init) xi3 xj3 xk3
  have bE3 := FE3.binds (ps := ["self", "edge"]) fun _ _ _ _ _ _ us hl => match us, hl with | [_, _], _ => rfl
  have ownB0 := ownB_mk (x := "TooLarge") (f := "total") (B := "OverflowError") (newId := "OverflowError.__new__") (initId := "OverflowError.__init__") (bmB := bmOE) (PySem.W.mg_of X G qa0) (PySem.W.mg_none_of X G qs0) qb0 (by decide +kernel) qc0 qd0 qe0 qf0 qg0 qh0 ql0 qm0 qn0 qo0 qp0 qq0 qt0
  have FQ0 := fun_mk (st := s_TooLarge_init) qi0 qj0 qk0
  have bQ0 := FQ0.binds (ps := ["self", "total"]) fun _ _ _ _ _ _ us hl => match us, hl with | [_, _], _ => rfl
  have is65 : Is65 K mg CQ0 CE0 CE1 CE2 CE3 CB := ⟨⟨qd0, qe0, qm0, qo0, qu0, qv0, qw0, qx0⟩, ⟨xd0, xe0, xm0, xo0, xu0, xv0, xw0, xx0⟩, ⟨xd1, xe1, xm1, xo1, xu1, xv1, xw1, xx1⟩, ⟨xd2, xe2, xm2, xo2, xu2, xv2, xw2, xx2⟩, ⟨xd3, xe3, xm3, xo3, xu3, xv3, xw3, xx3⟩, PySem.W.mg_of X G qa0, PySem.W.mg_of X G xa0, PySem.W.mg_of X G xa1, PySem.W.mg_of X G xa2, PySem.W.mg_of X G xa3, PySem.W.mg_of X G y0, exm_subE qm0 qm0 qp0 qn0 qq0, exm_subE xm0 qm0 qp0 qn0 zST, exm_subE xm0 xm0 xp0 xn0 xq0, exm_subE xm1 qm0 qp0 qn0 zNT, exm_subE xm1 xm0 xp0 xn0 zNS, exm_subE xm1 xm1 xp1 xn1 xq1, exm_subE xm2 qm0 qp0 qn0 zPT, exm_subE xm2 xm0 xp0 xn0 zPS, exm_subE xm2 xm1 xp1 xn1 zPN, exm_subE xm2 xm2 xp2 xn2 xq2, exm_subE xm3 qm0 qp0 qn0 zXT, exm_subE xm3 xm0 xp0 xn0 zXS, exm_subE xm3 xm1 xp1 xn1 zXN, exm_subE xm3 xm2 xp2 xn2 zXP, exm_subE xm3 xm3 xp3 xn3 xq3, kit_ref y4 y3 zTB qq0, kit_refT y4 y3 xr0, kit_ref xp1 xn1 zSN xq0, kit_refT y4 y3 xr1, kit_ref xp0 xn0 zNS xq1, kit_refT y4 y3 xr2, kit_ref xp3 xn3 zPX xq2, kit_refT y4 y3 xr3, kit_ref xp2 xn2 zXP xq3⟩
  refine ⟨PySem.W.fnOf "law" "law" (defArgs s_law) (defBody s_law) (defScope s_law) .none kV31 dc31 pm31 an31 cd31 ct31, C0, T0, tab_mk a13 l13 rfl tl0 tl1, ty1, fun s v => .of_eq rfl, fun base _ _ TB => ?_⟩
  have err0 : ErrX2 l.prog w K mg base "InvalidState" "part" "position" CE0 CB := ⟨⟨_, _, own0, ok_initIS FE0 own0 xz0, bE0⟩, xz0⟩
  have err1 : ErrX l.prog w K mg base "NotReachable" "position" CE1 CB := ⟨⟨_, _, own1, ok_initNR FE1 own1, bE1⟩⟩
  have err2 : ErrX l.prog w K mg base "InvalidPin" "node" CE2 CB := ⟨⟨_, _, own2, ok_initIPn FE2 own2, bE2⟩⟩
  have err3 : ErrX l.prog w K mg base "InvalidEdge" "edge" CE3 CB := ⟨⟨_, _, own3, ok_initIEd FE3 own3, bE3⟩⟩
  have errB0 : ErrB l.prog w K mg base "TooLarge" "total" "OverflowError" "OverflowError.__new__" "OverflowError.__init__" bmOE CQ0 := ⟨bas_OE, ⟨_, _, ownB0, ok_initTL FQ0 ownB0, bQ0⟩⟩
  have c_has_node : Cal l.prog w K mg base (CX0) 1 "has_node" (spHas) := ⟨⟨_, _, _, ok_has F0 B, PySem.W.mg_of X G a0, k0, b0⟩⟩
  have c_check_node : Cal l.prog w K mg base (CX0) 2 "check_node" (spCheckN) := ⟨⟨_, _, _, ok_check_node F1 B ⟨c_has_node⟩, PySem.W.mg_of X G a1, k1, b1⟩⟩
  have c_edge_of : Cal l.prog w K mg base (CX0) 1 "edge_of" (spEdgeOf) := ⟨⟨_, _, _, ok_edgeO F2 B, PySem.W.mg_of X G a2, k2, b2⟩⟩
  have c_adjacency : Cal l.prog w K mg base (CX0) 1 "adjacency" (spAdj) := ⟨⟨_, _, _, ok_adj F3 B, PySem.W.mg_of X G a3, k3, b3⟩⟩
  have c_paths_from : Cal l.prog w K mg base (CX0) 2 "paths_from" (spPathsFrom) := ⟨⟨_, _, _, ok_paths_from F4 B ⟨c_adjacency⟩, PySem.W.mg_of X G a4, k4, b4⟩⟩
  have c_components : Cal l.prog w K mg base (CX0) 3 "components" (spComps) := ⟨⟨_, _, _, ok_comps F5 B ⟨c_paths_from⟩, PySem.W.mg_of X G a5, k5, b5⟩⟩
  have c_shortest_path : Cal l.prog w K mg base (CX0) 3 "shortest_path" (spSP) := ⟨⟨_, _, _, ok_sp F6 B ⟨c_check_node, c_paths_from⟩, PySem.W.mg_of X G a6, k6, b6⟩⟩
  have c_root_paths : Cal l.prog w K mg base (CX0) 4 "root_paths" (spRoots) := ⟨⟨_, _, _, ok_roots F7 B ⟨c_paths_from, c_components⟩, PySem.W.mg_of X G a7, k7, b7⟩⟩
  have c_basis_cycles : Cal l.prog w K mg base (CX0) 5 "basis_cycles" (spBasis) := ⟨⟨_, _, _, ok_basis F8 B ⟨c_root_paths⟩, PySem.W.mg_of X G a8, k8, b8⟩⟩
  have c_slope : Cal l.prog w K mg base (CX0) 1 "slope" (spSlope) := ⟨⟨_, _, _, ok_slope F9 B ⟨g_UP, g_DOWN⟩, PySem.W.mg_of X G a9, k9, b9⟩⟩
  have c_path_sum : Cal l.prog w K mg base (CX0) 2 "path_sum" (spPsum K) := ⟨⟨_, _, _, ok_psum F10 B ⟨c_slope⟩, PySem.W.mg_of X G a10, k10, b10⟩⟩
  have c_windings : Cal l.prog w K mg base (CX0) 6 "windings" (spWind) := ⟨⟨_, _, _, ok_wind F11 B ⟨c_path_sum, c_basis_cycles⟩, PySem.W.mg_of X G a11, k11, b11⟩⟩
  have c_sloped_paths : Cal l.prog w K mg base (CX0) 2 "sloped_paths" (spSloped) := ⟨⟨_, _, _, ok_sloped F12 B ⟨c_adjacency, c_slope⟩, PySem.W.mg_of X G a12, k12, b12⟩⟩
  have c_smallest_path : Cal l.prog w K mg base (CX0) 3 "smallest_path" (spSmall [(T0, qLam)]) := ⟨⟨_, _, _, ok_small FC13 n_min n_len TB (List.mem_singleton.mpr rfl) (fun y hy _ => by rw [List.mem_singleton.mp hy]; rfl), PySem.W.mg_of X G a13, k13, b13⟩⟩
  have c_cycle_at : Cal l.prog w K mg base (CX0) 4 "cycle_at" (spCycAt [(T0, qLam)]) := ⟨⟨_, _, _, ok_cycle_at F14 B ⟨c_adjacency, c_slope, c_sloped_paths, c_smallest_path, g_UP⟩, PySem.W.mg_of X G a14, k14, b14⟩⟩
  have c_cycle_nodes : Cal l.prog w K mg base (CX0) 5 "cycle_nodes" (spCycNodes [(T0, qLam)]) := ⟨⟨_, _, _, ok_cycle_nodes F15 B ⟨c_cycle_at⟩, PySem.W.mg_of X G a15, k15, b15⟩⟩
  have c_find_anchors : Cal l.prog w K mg base (CX0) 6 "find_anchors" (spFindAnchO K [(T0, qLam)]) := ⟨⟨_, _, _, ok_find_anchorsO F16 B ⟨c_cycle_nodes⟩, PySem.W.mg_of X G a16, k16, b16⟩⟩
  have c_is_integer : Cal l.prog w K mg base (CX0) 1 "is_integer" (spIsInt K) := ⟨⟨_, _, _, ok_is_integer F17 B n_bool, PySem.W.mg_of X G a17, k17, b17⟩⟩
  have c_is_value : Cal l.prog w K mg base (CX0) 2 "is_value" (spIsValV K) := ⟨⟨_, _, _, ok_is_valueV F18 B ⟨c_is_integer⟩, PySem.W.mg_of X G a18, k18, b18⟩⟩
  have c_check_state : Cal l.prog w K mg base (L2.CX l.prog w) 3 "check_state" (spCkSt CE0) := ⟨⟨_, _, _, ok_ckSt F19 B ⟨c_is_value⟩ err0, PySem.W.mg_of X G a19, k19, b19⟩⟩
  have c_signature : CalK l.prog w K mg base (CX0) 7 "signature" 2 ["pinned"] (spSig K [(T0, qLam)]) := ⟨⟨_, _, ["graph", "state", "pinned"], ok_sig F20 B ⟨c_windings, c_find_anchors, c_components, c_path_sum, c_shortest_path⟩, PySem.W.mg_of X G a20, k20, fun us ws hu hw => match us, ws, hu, hw with | [_, _], [_], _, _ => rfl⟩⟩
  have e_signature : CalD l.prog w K mg base (CX0) 7 "signature" [.ref T20] (spSig K [(T0, qLam)]) := ⟨⟨_, _, _, ds20, ok_sig F20 B ⟨c_windings, c_find_anchors, c_components, c_path_sum, c_shortest_path⟩, PySem.W.mg_of X G a20, k20, vd20, bd20⟩⟩
  have c_check_class : Cal l.prog w K mg base (L2.CX l.prog w) 8 "check_class" (spCkClX K [(T0, qLam)] CQ0 CE0 CE1) := ⟨⟨_, _, _, ok_ckClX F21 B ⟨c_check_state, c_signature, g_MAX_SPLIT⟩ errB0 err1, PySem.W.mg_of X G a21, k21, b21⟩⟩
  have c_check_extras : Cal l.prog w K mg base (L2.CX l.prog w) 3 "check_extras" (spCkExX K CE2 CE3) := ⟨⟨_, _, _, ok_ckExX F22 B ⟨⟨⟨_, _, _, ok_hasV F0 B, PySem.W.mg_of X G a0, k0, b0⟩⟩, c_edge_of⟩ err2 err3, PySem.W.mg_of X G a22, k22, b22⟩⟩
  have c_split_classes : CalK l.prog w K mg base (L2.CX l.prog w) 9 "split_classes" 2 ["pinned", "extra_pin", "extra_edge"] (spSplitX K [(T0, qLam)] CQ0 CE0 CE1 CE2 CE3) := ⟨⟨_, _, ["graph", "states", "pinned", "extra_pin", "extra_edge"], ok_splitX F23 B ⟨c_check_class, c_check_extras⟩, PySem.W.mg_of X G a23, k23, fun us ws hu hw => match us, ws, hu, hw with | [_, _], [_, _, _], _, _ => rfl⟩⟩
  have c__law_box : Cal l.prog w K mg base (CX0) 1 "_law_box" (spBox K) := ⟨⟨_, _, _, ok_box F24 B, PySem.W.mg_of X G a24, k24, b24⟩⟩
  have c__law_draw : Cal l.prog w K mg base (CX0) 1 "_law_draw" (spDraw) := ⟨⟨_, _, _, ok_draw F25 B, PySem.W.mg_of X G a25, k25, b25⟩⟩
  have c__law_stem : Cal l.prog w K mg base (CX0) 2 "_law_stem" (spStem) := ⟨⟨_, _, _, ok_stem F26 B ⟨c__law_draw⟩, PySem.W.mg_of X G a26, k26, b26⟩⟩
  have c__law_random_names : Cal l.prog w K mg base (CX0) 3 "_law_random_names" (spNamesB) := ⟨⟨_, _, _, ok_namesB F27 B ⟨c__law_draw, c__law_stem⟩, PySem.W.mg_of X G a27, k27, b27⟩⟩
  have c__law_random_problem : Cal l.prog w K mg base (CX0) 4 "_law_random_problem" (spProblem) := ⟨⟨_, _, _, ok_problem F28 B ⟨c__law_draw, c__law_random_names⟩, PySem.W.mg_of X G a28, k28, b28⟩⟩
  have c__law_call : Cal l.prog w K mg base (CX0) 10 "_law_call" (spCall65 K [(T0, qLam)] CQ0 CE0 CE1 CE2 CE3) := ⟨⟨_, _, _, ok_call65 F29 B ⟨c_split_classes⟩ ownB0 own0 xz0 own1 own2 own3 is65, PySem.W.mg_of X G a29, k29, b29⟩⟩
  have c__law_changed : Cal l.prog w K mg base (CX0) 2 "_law_changed" (spChg) := ⟨⟨_, _, _, ok_changed F30 B ⟨c__law_draw⟩, PySem.W.mg_of X G a30, k30, b30⟩⟩
  exact ok_law F31 B ⟨c__law_box, c__law_draw, c__law_random_problem, c__law_changed, c__law_call⟩
theorem walk {l : PySem.W.OpenLaw} {q : Program} {loose : List Str} {XP : (Str → Option Value) → Heap → Prop} {YP : World → Heap → Prop} {d dy : DefRec} {K : Params → PySem.W.Frag} (hn : l.most = some 63) (hdf : d.params.defaults = []) (hrec : (recsOf q).find? (fun e => e.name == ("smallest_path" : Str)) = some dy)
    (hY : ∀ (w : World) (h : Heap), YP w h → (K w.params).In h)
    (F : ∀ (w : World) (mg : Str → Option Value) (fa : Addr) (h : Heap), (K w.params).In h → h.Ns mainGlobals mg → mg d.name = some (.ref fa) →
      ∃ (fd : FuncData) (c T : Addr), PySem.W.tabIn (K w.params) "smallest_path" = some (c, T) ∧ (K w.params).lookup T = none ∧ (∀ (s : Shared) (u : Value), BindsTo s fd ⟨[u], []⟩ [("_law_script", u)]) ∧ ∀ base : Heap, (K w.params).In base → base.Ns mainGlobals mg → TabB base mg c T → FnG l.prog w (K w.params) mg base CX0 11 fa fd ["_law_script"] (spLaw (K w.params) T)) :
    PySem.W.WalkO q loose XP YP l.row.toRowW d [] (fun f vs => PySem.call f vs) :=
  walk_GY (n := 63) (k := 11) (x := "_law_script") (y := "smallest_path") (sp := spLaw) hn (by decide) hdf ⟨rfl, by decide, by decide⟩ hrec hY F fun K T H a ns hl hT hS => ⟨a, ns, rfl, hS, hl, (fun p hp => by
    rw [List.mem_singleton] at hp
    rw [hp]
    exact TabS.nil hT), fun _ => rfl⟩
end Law
open PySem PySem.W PyProof.Rows
set_option maxRecDepth 100000 in
set_option maxHeartbeats 0 in
theorem PySem.Challenge.cw_threeturned_k65_split_errors_holds : PySem.Challenge.rw_threeturned_k65_split_errors.Holds := by
  w_on; o_law; k_head; (case hw => w_witness2)
  k_fill
  refine Law.walk (l := PySem.Challenge.rw_threeturned_k65_split_errors) rfl rfl rfl (fun w h Y => PySem.W.km_in_of Y) ?F
  case F =>
    intro w mg fa h KX G hmg
    refine' Law.all_mk KX G hmg ?a0 ?l0 ?c0 ?k0 ?a1 ?l1 ?c1 ?k1 ?a2 ?l2 ?c2 ?k2 ?a3 ?l3 ?c3 ?k3 ?a4 ?l4 ?c4 ?k4 ?a5 ?l5 ?c5 ?k5 ?a6 ?l6 ?c6 ?k6 ?a7 ?l7 ?c7 ?k7 ?a8 ?l8 ?c8 ?k8 ?a9 ?l9 ?c9 ?k9 ?a10 ?l10 ?c10 ?k10 ?a11 ?l11 ?c11 ?k11 ?a12 ?l12 ?c12 ?k12 ?a13 ?l13 ?c13 ?k13 ?tl0 ?tl1 ?ty1 ?a14 ?l14 ?c14 ?k14 ?a15 ?l15 ?c15 ?k15 ?a16 ?l16 ?c16 ?k16 ?a17 ?l17 ?c17 ?k17 ?a18 ?l18 ?c18 ?k18 ?a19 ?l19 ?c19 ?k19 ?a20 ?l20 ?c20 ?k20 ?d20 ?t20 ?a21 ?l21 ?c21 ?k21 ?a22 ?l22 ?c22 ?k22 ?a23 ?l23 ?c23 ?k23 ?a24 ?l24 ?c24 ?k24 ?a25 ?l25 ?c25 ?k25 ?a26 ?l26 ?c26 ?k26 ?a27 ?l27 ?c27 ?k27 ?a28 ?l28 ?c28 ?k28 ?a29 ?l29 ?c29 ?k29 ?a30 ?l30 ?c30 ?k30 ?a31 ?l31 ?c31 ?k31 ?z0 ?z1 ?z2 ?z3 ?z4 ?z5 ?z6 ?z7 ?z8 ?z9 ?z10 ?z11 ?z12 ?z13 ?z14 ?z15 ?z16 ?z17 ?z18 ?z19 ?z20 ?w0 ?w1 ?w2 ?y0 ?y1 ?y2 ?y3 ?y4 ?y5 ?y6 ?y7 ?xa0 ?xb0 ?xc0 ?xd0 ?xe0 ?xf0 ?xg0 ?xh0 ?xi0 ?xj0 ?xk0 ?xl0 ?xm0 ?xn0 ?xo0 ?xp0 ?xq0 ?xr0 ?xz0 ?xu0 ?xv0 ?xw0 ?xx0 ?xa1 ?xb1 ?xc1 ?xd1 ?xe1 ?xf1 ?xg1 ?xh1 ?xi1 ?xj1 ?xk1 ?xl1 ?xm1 ?xn1 ?xo1 ?xp1 ?xq1 ?xr1 ?xu1 ?xv1 ?xw1 ?xx1 ?xa2 ?xb2 ?xc2 ?xd2 ?xe2 ?xf2 ?xg2 ?xh2 ?xi2 ?xj2 ?xk2 ?xl2 ?xm2 ?xn2 ?xo2 ?xp2 ?xq2 ?xr2 ?xu2 ?xv2 ?xw2 ?xx2 ?xa3 ?xb3 ?xc3 ?xd3 ?xe3 ?xf3 ?xg3 ?xh3 ?xi3 ?xj3 ?xk3 ?xl3 ?xm3 ?xn3 ?xo3 ?xp3 ?xq3 ?xr3 ?xu3 ?xv3 ?xw3 ?xx3 ?qa0 ?qb0 ?qc0 ?qd0 ?qe0 ?qf0 ?qg0 ?qh0 ?qi0 ?qj0 ?qk0 ?ql0 ?qm0 ?qn0 ?qo0 ?qp0 ?qq0 ?qs0 ?qt0 ?qu0 ?qv0 ?qw0 ?qx0 ?zTB ?zST ?zNT ?zNS ?zPT ?zPS ?zPN ?zXT ?zXS ?zXN ?zXP ?zSN ?zPX
    (case a0 => k_is); (case l0 => k_is); (case c0 => k_is); (case k0 => k_is)
    (case a1 => k_is); (case l1 => k_is); (case c1 => k_is); (case k1 => k_is)
    (case a2 => k_is); (case l2 => k_is); (case c2 => k_is); (case k2 => k_is)
    (case a3 => k_is); (case l3 => k_is); (case c3 => k_is); (case k3 => k_is)
    (case a4 => k_is); (case l4 => k_is); (case c4 => k_is); (case k4 => k_is)
    (case a5 => k_is); (case l5 => k_is); (case c5 => k_is); (case k5 => k_is)
    (case a6 => k_is); (case l6 => k_is); (case c6 => k_is); (case k6 => k_is)
    (case a7 => k_is); (case l7 => k_is); (case c7 => k_is); (case k7 => k_is)
    (case a8 => k_is); (case l8 => k_is); (case c8 => k_is); (case k8 => k_is)
    (case a9 => k_is); (case l9 => k_is); (case c9 => k_is); (case k9 => k_is)
    (case a10 => k_is); (case l10 => k_is); (case c10 => k_is); (case k10 => k_is)
    (case a11 => k_is); (case l11 => k_is); (case c11 => k_is); (case k11 => k_is)
    (case a12 => k_is); (case l12 => k_is); (case c12 => k_is); (case k12 => k_is)
    (case a13 => k_is); (case l13 => k_is); (case c13 => k_is); (case k13 => k_is)
    (case tl0 => k_is); (case tl1 => exact rfl); (case ty1 => kernel_rfl); (case a14 => k_is)
    (case l14 => k_is); (case c14 => k_is); (case k14 => k_is); (case a15 => k_is)
    (case l15 => k_is); (case c15 => k_is); (case k15 => k_is); (case a16 => k_is)
    (case l16 => k_is); (case c16 => k_is); (case k16 => k_is); (case a17 => k_is)
    (case l17 => k_is); (case c17 => k_is); (case k17 => k_is); (case a18 => k_is)
    (case l18 => k_is); (case c18 => k_is); (case k18 => k_is); (case a19 => k_is)
    (case l19 => k_is); (case c19 => k_is); (case k19 => k_is); (case a20 => k_is)
    (case l20 => k_is); (case c20 => k_is); (case k20 => k_is); (case d20 => k_is)
    (case t20 => k_is); (case a21 => k_is); (case l21 => k_is); (case c21 => k_is)
    (case k21 => k_is); (case a22 => k_is); (case l22 => k_is); (case c22 => k_is)
    (case k22 => k_is); (case a23 => k_is); (case l23 => k_is); (case c23 => k_is)
    (case k23 => k_is); (case a24 => k_is); (case l24 => k_is); (case c24 => k_is)
    (case k24 => k_is); (case a25 => k_is); (case l25 => k_is); (case c25 => k_is)
    (case k25 => k_is); (case a26 => k_is); (case l26 => k_is); (case c26 => k_is)
    (case k26 => k_is); (case a27 => k_is); (case l27 => k_is); (case c27 => k_is)
    (case k27 => k_is); (case a28 => k_is); (case l28 => k_is); (case c28 => k_is)
    (case k28 => k_is); (case a29 => k_is); (case l29 => k_is); (case c29 => k_is)
    (case k29 => k_is); (case a30 => k_is); (case l30 => k_is); (case c30 => k_is)
    (case k30 => k_is); (case a31 => k_is); (case l31 => k_is); (case c31 => k_is)
    (case k31 => k_is); (case z0 => k_is); (case z1 => k_is); (case z2 => k_is)
    (case z3 => k_is); (case z4 => k_is); (case z5 => k_is); (case z6 => k_is)
    (case z7 => k_is); (case z8 => k_is); (case z9 => k_is); (case z10 => k_is)
    (case z11 => k_is); (case z12 => k_is); (case z13 => k_is); (case z14 => k_is)
    (case z15 => k_is); (case z16 => k_is); (case z17 => k_is); (case z18 => k_is)
    (case z19 => k_is); (case z20 => k_is); (case w0 => k_is); (case w1 => k_is)
    (case w2 => k_is); (case y0 => k_is); (case y1 => k_is); (case y2 => k_is)
    (case y3 => k_is); (case y4 => k_is); (case y5 => k_is); (case y6 => k_is)
    (case y7 => k_is); (case xa0 => k_is); (case xb0 => k_is); (case xc0 => k_is)
    (case xd0 => k_is); (case xe0 => k_is); (case xf0 => k_is); (case xg0 => k_is)
    (case xh0 => k_is); (case xi0 => k_is); (case xj0 => k_is); (case xk0 => k_is)
    (case xl0 => k_is); (case xm0 => k_is); (case xn0 => k_is); (case xo0 => k_is)
    (case xp0 => k_is); (case xq0 => k_is); (case xr0 => k_is); (case xz0 => k_is)
    (case xu0 => k_is); (case xv0 => k_is); (case xw0 => k_is); (case xx0 => k_is)
    (case xa1 => k_is); (case xb1 => k_is); (case xc1 => k_is); (case xd1 => k_is)
    (case xe1 => k_is); (case xf1 => k_is); (case xg1 => k_is); (case xh1 => k_is)
    (case xi1 => k_is); (case xj1 => k_is); (case xk1 => k_is); (case xl1 => k_is)
    (case xm1 => k_is); (case xn1 => k_is); (case xo1 => k_is); (case xp1 => k_is)
    (case xq1 => k_is); (case xr1 => k_is); (case xu1 => k_is); (case xv1 => k_is)
    (case xw1 => k_is); (case xx1 => k_is); (case xa2 => k_is); (case xb2 => k_is)
    (case xc2 => k_is); (case xd2 => k_is); (case xe2 => k_is); (case xf2 => k_is)
    (case xg2 => k_is); (case xh2 => k_is); (case xi2 => k_is); (case xj2 => k_is)
    (case xk2 => k_is); (case xl2 => k_is); (case xm2 => k_is); (case xn2 => k_is)
    (case xo2 => k_is); (case xp2 => k_is); (case xq2 => k_is); (case xr2 => k_is)
    (case xu2 => k_is); (case xv2 => k_is); (case xw2 => k_is); (case xx2 => k_is)
    (case xa3 => k_is); (case xb3 => k_is); (case xc3 => k_is); (case xd3 => k_is)
    (case xe3 => k_is); (case xf3 => k_is); (case xg3 => k_is); (case xh3 => k_is)
    (case xi3 => k_is); (case xj3 => k_is); (case xk3 => k_is); (case xl3 => k_is)
    (case xm3 => k_is); (case xn3 => k_is); (case xo3 => k_is); (case xp3 => k_is)
    (case xq3 => k_is); (case xr3 => k_is); (case xu3 => k_is); (case xv3 => k_is)
    (case xw3 => k_is); (case xx3 => k_is); (case qa0 => k_is); (case qb0 => k_is)
    (case qc0 => k_is); (case qd0 => k_is); (case qe0 => k_is); (case qf0 => k_is)
    (case qg0 => k_is); (case qh0 => k_is); (case qi0 => k_is); (case qj0 => k_is)
    (case qk0 => k_is); (case ql0 => k_is); (case qm0 => k_is); (case qn0 => k_is)
    (case qo0 => k_is); (case qp0 => k_is); (case qq0 => k_is); (case qs0 => k_is)
    (case qt0 => k_is); (case qu0 => k_is); (case qv0 => k_is); (case qw0 => k_is)
    (case qx0 => k_is); (case zTB => k_is); (case zST => k_is); (case zNT => k_is)
    (case zNS => k_is); (case zPT => k_is); (case zPS => k_is); (case zPN => k_is)
    (case zXT => k_is); (case zXS => k_is); (case zXN => k_is); (case zXP => k_is)
    (case zSN => k_is); (case zPX => k_is)

